import PyProof.Rows.All
import Wide.All
import OpenK.AllK
import Wide.FinOn
import Lean
import PySem.Challenge.RW_pq0698_01
set_option Elab.async false
set_option maxRecDepth 100000
set_option genSizeOf false
set_option tactic.hygienic false
set_option linter.unusedVariables false
namespace Mine
open PySem PySem.W PySem.Calls PyProof.Rows
noncomputable section
variable {s s' s1 s'' s₁:Shared}{w:World}{A:Around}{P prog:Program}{n i t np k j k2 dep ep:Nat}{hB h h':Heap}{E Q:Value→Shared→Prop}{env:Env}{α γ β:Type}{v v1 v2 v3:Value}{nm nm':List String}{mg mb m mh m':Str→Option Value}{vs vals rest us bs bm:List Value}{a C TC it RC HC TO ll T zo TI tA td fA L sl l1 l2 pA hA dA lA t0:Addr}{p u N rank:Int}{fs:List Int}{M:Expr→Prop}{o oe:Obj}{R:Result→Shared→Prop}{fd:FuncData}{x f:String}{G:Prop}{ee e' te tgt value itE elt' it':Expr}{pos q1 q2:Pos}{cap:List (Option Nat)}{dd:Option Addr}{W is:List Addr}{cd:ClassData}{K' Kc:Addr→Prop}{KF:Frag}{name q:Str}{xss:List (List Value)}{st:Stmt}{outer:List Env}{sc':Scope}{args:List (Bool×Sem Value)}{use:Option (Value→Sem Unit)}{body tt:List Stmt}{os:OsState}{hdct ab t1 t2 expr:Bool}{sn loose:List Str}{col:Option Bool}{k0 k1 k3 k5:Option Value}{items acc:Array Value}{elts ifs':List Expr}{o₁ o₂:CmpOp}{whole:Sem Value}{op:BoolOp}{names:List (Str×NameKind)}{gs:List Comprehension}{od:Option Obj}{mean:ExcName→Option Value}
set_option genInjectivity false
inductive BOp
 |add|sub|mul|fdiv|mod|pow
 deriving DecidableEq
inductive COp
 |eq|ne|lt|le|gt|ge
 deriving DecidableEq
inductive Bi
 |len|tuple|list|sorted|dict|isInt|listR
inductive At
 |sizes|fields
mutual
inductive CT
 |nm (i:Nat)
 |tup (ts:CTs)
inductive CTs
 |nil
 |cons (t:CT) (r:CTs)
end
variable {t₁ t₂:CT}{ts:CTs}
mutual
inductive CE
 |none
 |bool (b:Bool)
 |int (i:Int)
 |str (x:String)
 |var (i:Nat)
 |glob (x:String)
 |bin (o:BOp) (l r:CE)
 |cmp (o:COp) (l r:CE)
 |cmp2 (o₁ o₂:COp) (l m r:CE)
 |isN (neg:Bool) (e:CE)
 |inE (l r:CE)
 |not (e:CE)
 |bop (and:Bool) (a b:CE)
 |bop3 (and:Bool) (a b c:CE)
 |ite (t a b:CE)
 |tup (es:CEs)
 |lst (es:CEs)
 |idx (e i:CE)
 |upto (e:CE) (k:Nat)
 |fn (f:String) (es:CEs)
 |bi (b:Bi) (es:CEs)
 |attr (e:CE) (a:At)
 |obj (h a:CE)
 |comp (elt:CE) (t:CT) (it:CI) (ifs:CEs) (nm:List String) (cap:List (Option Nat))
 |comp2 (elt:CE) (t₁:CT) (it₁:CI) (t₂:CT) (it₂:CI) (nm:List String) (cap:List (Option Nat))
inductive CEs
 |nil
 |cons (e:CE) (r:CEs)
inductive CI
 |over (e:CE)
 |rng (a b:CE)
 |rng1 (b:CE)
 |zip (es:CEs)
 |enum (e:CE)
end
variable {e elt e1 e2 kx e3:CE}{ifs:CEs}{it₁ it₂:CI}
mutual
inductive CS
 |asg (t:CT) (e:CE)
 |ownL (i:Nat)
 |ownD (i:Nat)
 |ownE (i:Nat) (e:CE)
 |two (i j:Nat) (a b:Option CE)
 |app (i:Nat) (e:CE)
 |setL (i:Nat) (k v:CE)
 |setD (i:Nat) (k v:CE)
 |setH (b k v:CE)
 |frz (i:Nat)
 |ex (e:CE)
 |ifS (t:CE) (a b:CSs)
 |forS (t:CT) (it:CI) (b:CSs)
 |ret (e:CE)
 |bad
inductive CSs
 |nil
 |cons (s:CS) (r:CSs)
end
noncomputable def bOp:BOp→Operator
 |.add=>.Add
 |.sub=>.Sub
 |.mul=>.Mult
 |.fdiv=>.FloorDiv
 |.mod=>.Mod
 |.pow=>.Pow
noncomputable def cOp:COp→CmpOp
 |.eq=>.Eq
 |.ne=>.NotEq
 |.lt=>.Lt
 |.le=>.LtE
 |.gt=>.Gt
 |.ge=>.GtE
noncomputable def Qxu (o:BOp) (p:Operator):Bool:=decide (p=bOp o)
noncomputable def Qeh (o:COp) (p:CmpOp):Bool:=decide (p=cOp o)
noncomputable def mm {α:Type} (ix:α→Nat) (n:Nat) (f:(e:α)→ix e=n→Bool) (e:α):Bool:=if q:ix e=n then f e q else false
noncomputable def mUn (k:UnaryOp→Expr→Pos→Bool):Expr→Bool:=mm Expr.ctorIdx _ fun ee q=>Expr.UnaryOp.elim (motive_1:=fun Y=>Bool) ee q k
noncomputable def Yda (k:Expr→Operator→Expr→Pos→Bool):Expr→Bool:=mm Expr.ctorIdx _ fun ee q=>Expr.BinOp.elim (motive_1:=fun Y=>Bool) ee q k
noncomputable def mIf (k:Expr→Expr→Expr→Pos→Bool):Expr→Bool:=mm Expr.ctorIdx _ fun ee q=>Expr.IfExp.elim (motive_1:=fun Y=>Bool) ee q k
noncomputable def mBl (k:BoolOp→List Expr→Pos→Bool):Expr→Bool:=mm Expr.ctorIdx _ fun ee q=>Expr.BoolOp.elim (motive_1:=fun Y=>Bool) ee q k
noncomputable def mLC (k:Expr→List Comprehension→Scope→Pos→Bool):Expr→Bool:=mm Expr.ctorIdx _ fun ee q=>Expr.ListComp.elim (motive_1:=fun Y=>Bool) ee q k
noncomputable def Qu5 (k:Expr→List CmpOp→List Expr→Pos→Bool):Expr→Bool:=mm Expr.ctorIdx _ fun ee q=>Expr.Compare.elim (motive_1:=fun Y=>Bool) ee q k
noncomputable def mCl (k:Expr→List Expr→List Keyword→Pos→Bool):Expr→Bool:=mm Expr.ctorIdx _ fun ee q=>Expr.Call.elim (motive_1:=fun Y=>Bool) ee q k
noncomputable def mCn (k:Const→Nat→Pos→Bool):Expr→Bool:=mm Expr.ctorIdx _ fun ee q=>Expr.Constant.elim (motive_1:=fun Y=>Bool) ee q k
noncomputable def mAt (k:Expr→Str→Pos→Bool):Expr→Bool:=mm Expr.ctorIdx _ fun ee q=>Expr.Attribute.elim (motive_1:=fun Y=>Bool) ee q k
noncomputable def Qr9 (k:Expr→Expr→Pos→Bool):Expr→Bool:=mm Expr.ctorIdx _ fun ee q=>Expr.Subscript.elim (motive_1:=fun Y=>Bool) ee q k
noncomputable def mNm (k:Str→Pos→Bool):Expr→Bool:=mm Expr.ctorIdx _ fun ee q=>Expr.Name.elim (motive_1:=fun Y=>Bool) ee q k
noncomputable def mLs (k:List Expr→Pos→Bool):Expr→Bool:=mm Expr.ctorIdx _ fun ee q=>Expr.List.elim (motive_1:=fun Y=>Bool) ee q k
noncomputable def mTu (k:List Expr→Nat→Pos→Bool):Expr→Bool:=mm Expr.ctorIdx _ fun ee q=>Expr.Tuple.elim (motive_1:=fun Y=>Bool) ee q k
noncomputable def mSl (k:Option Expr→Option Expr→Option Expr→Pos→Bool):Expr→Bool:=mm Expr.ctorIdx _ fun ee q=>Expr.Slice.elim (motive_1:=fun Y=>Bool) ee q k
noncomputable def mDi (k:List (Option Expr)→List Expr→Pos→Bool):Expr→Bool:=mm Expr.ctorIdx _ fun ee q=>Expr.Dict.elim (motive_1:=fun Y=>Bool) ee q k
noncomputable def mAs (k:List Expr→Expr→Pos→Bool):Stmt→Bool:=mm Stmt.ctorIdx _ fun ee q=>Stmt.Assign.elim (motive_2:=fun Y=>Bool) ee q k
noncomputable def mEx (k:Expr→Pos→Bool):Stmt→Bool:=mm Stmt.ctorIdx _ fun ee q=>Stmt.Expr.elim (motive_2:=fun Y=>Bool) ee q k
noncomputable def mSI (k:Expr→List Stmt→List Stmt→Pos→Bool):Stmt→Bool:=mm Stmt.ctorIdx _ fun ee q=>Stmt.If.elim (motive_2:=fun Y=>Bool) ee q k
noncomputable def mFo (k:Expr→Expr→List Stmt→List Stmt→Pos→Bool):Stmt→Bool:=mm Stmt.ctorIdx _ fun ee q=>Stmt.For.elim (motive_2:=fun Y=>Bool) ee q k
noncomputable def mRe (k:Option Expr→Pos→Bool):Stmt→Bool:=mm Stmt.ctorIdx _ fun ee q=>Stmt.Return.elim (motive_2:=fun Y=>Bool) ee q k
noncomputable def mRa (k:Option Expr→Option Expr→Pos→Bool):Stmt→Bool:=mm Stmt.ctorIdx _ fun ee q=>Stmt.Raise.elim (motive_2:=fun Y=>Bool) ee q k
noncomputable def mTr (k:List Stmt→List ExceptHandler→List Stmt→List Stmt→Pos→Bool):Stmt→Bool:=mm Stmt.ctorIdx _ fun ee q=>Stmt.Try.elim (motive_2:=fun Y=>Bool) ee q k
noncomputable def mE {α:Type} (l:List α):Bool:=l.isEmpty
noncomputable def mC {α:Type} (f:α→List α→Bool):List α→Bool
 |[]=>false
 |a::r=>f a r
noncomputable def m1 {α:Type} (f:α→Bool):List α→Bool:=mC fun a r=>mE r&&f a
noncomputable def m2 {α:Type} (f:α→α→Bool):List α→Bool:=mC fun a=>m1 (f a)
noncomputable def m3 {α:Type} (f:α→α→α→Bool):List α→Bool:=mC fun a=>m2 (f a)
noncomputable def mS {α:Type} (f:α→Bool):Option α→Bool
 |none=>false
 |some a=>f a
noncomputable def mN {α:Type}:Option α→Bool
 |none=>true
 |some _=>false
noncomputable def mF (f:Str→List Expr→Bool):Expr→Bool:=mCl fun g as ks Y=>mE ks&&mNm (fun x Y=>f x as) g
noncomputable def Qi9 (nm:List String) (i:Nat) (x:Str):Bool:=match nm[i]? with
 |some y=>decide (Str.ofString y=x)&&!(x==("__debug__":Str))
 |none=>false
noncomputable def Q6 (sc:Scope) (f:String) (x:Str):Bool:=decide (Str.ofString f=x)&&decide (sc.names.lookup x=some .globalImplicit)&&!(x==("__debug__":Str))
noncomputable def Ydw:Bi→String
 |.len=>"len"
 |.tuple=>"tuple"
 |.list=>"list"
 |.sorted=>"sorted"
 |.dict=>"dict"
 |.isInt=>"isinstance"
 |.listR=>"list"
noncomputable def Qhx:At→String
 |.sizes=>"sizes"
 |.fields=>"fields"
noncomputable def nmS (a:String) (x:Str):Bool:=decide (Str.ofString a=x)&&!(x==("__debug__":Str))
noncomputable def mNS (a:String):Expr→Bool:=mNm fun x Y=>nmS a x
noncomputable def mR (f:Expr→Bool):List Stmt→Bool:=m1 (mRe fun v Y=>mS f v)
noncomputable def mM (n:String) (f:Expr→List Expr→Bool):Expr→Bool:=mCl fun g as ks p=>mE ks&&mAt (fun x m ap=>decide (m=Str.ofString n)&&(ap.endLine==p.line)&&f x as) g
noncomputable def mEH (f:Option Expr→Option Str→List Stmt→Bool):ExceptHandler→Bool
 |.ExceptHandler t n b _=>f t n b
mutual
noncomputable def isT (nm:List String):CT→Expr→Bool
 |.nm i=>mNm fun x Y=>Qi9 nm i x
 |.tup ts=>mTu fun es Y Y=>Qtz nm ts es
noncomputable def Qtz (nm:List String):CTs→List Expr→Bool
 |.nil=>mE
 |.cons t r=>mC fun e es=>isT nm t e&&Qtz nm r es
end
noncomputable def Jf (e:Expr):Bool:=!(e.ctorIdx==26)
noncomputable def Qvs (sc:Scope) (nm:List String) (sc':Scope) (x:String):Option Nat→Bool
 |none=>decide (sc'.names.lookup (Str.ofString x)=some .local)
 |some k=>decide (sc'.names.lookup (Str.ofString x)=some .free)&&decide (nm[k]?=some x)&&decide (sc.names.lookup (Str.ofString x)=some .cell)
noncomputable def Qgy (sc:Scope) (nm:List String) (sc':Scope):List String→List (Option Nat)→Bool
 |[]=>mE
 |x::r=>mC fun c cs=>Qvs sc nm sc' x c&&Qgy sc nm sc' r cs
noncomputable def Qcn (nm':List String) (cap:List (Option Nat)) (sc:Scope):Bool:=
 decide (sc.kind=.function)&&sc.names.all (fun y=>decide (y.2≠.cell))&&sc.names.all (fun y=>!decide (y.2=.local)||decide (sc.names.lookup y.1=some .local)) &&
 sc.names.all (fun y=>!decide (y.2=.free)||(nm'.zip cap).any (fun p=>decide (Str.ofString p.1=y.1)&&p.2.isSome))&&decide ((nm'.map Str.ofString).Nodup)
noncomputable def Yif (t:CT):Bool:=t.ctorIdx==1
noncomputable def Qtl (it:CI) (t:CT):Bool:=cond (it.ctorIdx==3||it.ctorIdx==4) (Yif t) true
noncomputable def isB (sc:Scope) (rec:List Expr→Bool):Bi→Str→List Expr→Bool
 |.isInt=>fun x=>m2 fun a b=>Q6 sc "isinstance" x&&mNm (fun y Y=>Q6 sc "int" y) b&&rec [a]
 |.listR=>fun x=>m1 fun a=>Q6 sc "list" x&&mF (fun y as=>m2 (fun a b=>Q6 sc "range" y&&rec [a,b]) as) a
 |k=>fun x=>m1 fun a=>Q6 sc (Ydw k) x&&rec [a]
noncomputable def kFn (k:String→CEs→Bool):CE→Bool:=mm CE.ctorIdx _ fun ee q=>CE.fn.elim (motive_1:=fun Y=>Bool) ee q k
noncomputable def kVa (k:Nat→Bool):CE→Bool:=mm CE.ctorIdx _ fun ee q=>CE.var.elim (motive_1:=fun Y=>Bool) ee q k
noncomputable def Ygd:CE→Bool:=kFn fun Y Y=>true
noncomputable def Qyi:Expr→Bool:=mF fun Y as=>mC (fun Y Y=>true) as
noncomputable def Yal (nm:List String) (x:Str):CE→Bool:=kVa fun i=>Qi9 nm i x
mutual
noncomputable def isE (sc:Scope) (nm:List String):CE→Expr→Bool
 |.none=>mCn fun c Y Y=>decide (c=.none)
 |.bool b=>mCn fun c Y Y=>decide (c=.bool b)
 |.int i=>fun e=>mCn (fun c Y Y=>decide (c=.int i)) e||mUn (fun op x Y=>decide (op=.USub)&&mCn (fun c Y Y=>decide (c=.int (-i))) x) e
 |.str x=>mCn fun c Y Y=>decide (c=.str (Str.ofString x))
 |.var i=>mNm fun x Y=>Qi9 nm i x
 |.glob f=>mNm fun x Y=>Q6 sc f x
 |.bin o l r=>Yda fun l' o' r' Y=>Qxu o o'&&isE sc nm l l'&&isE sc nm r r'
 |.cmp o l r=>Qu5 fun l' os rs Y=>m1 (fun o'=>Qeh o o'&&m1 (fun r'=>isE sc nm l l'&&isE sc nm r r'&&!behindInMarks o' r') rs) os
 |.cmp2 o₁ o₂ l m r=>Qu5 fun l' os rs Y=>m2 (fun o₁' o₂'=>Qeh o₁ o₁'&&Qeh o₂ o₂'&&m2 (fun m' r'=>isE sc nm l l'&&isE sc nm m m'&&isE sc nm r r'&&!behindInMarks o₂' r') rs) os
 |.isN b e=>Qu5 fun l' os rs Y=>decide (os=[cond b .IsNot .Is])&&m1 (mCn fun c Y Y=>decide (c=.none)) rs&&isE sc nm e l'
 |.inE l r=>Qu5 fun l' os rs Y=>decide (os=[.In])&&m1 (fun r'=>isE sc nm l l'&&isE sc nm r r'&&!behindInMarks .In r') rs
 |.not e=>mUn fun op x Y=>decide (op=.Not)&&isE sc nm e x
 |.bop b x y=>mBl fun o vs Y=>decide (o=cond b .And .Or)&&m2 (fun x' y'=>isE sc nm x x'&&isE sc nm y y') vs
 |.bop3 b x y u=>mBl fun o vs Y=>decide (o=cond b .And .Or)&&m3 (fun x' y' u'=>isE sc nm x x'&&isE sc nm y y'&&isE sc nm u u') vs
 |.ite t a b=>mIf fun t' a' b' Y=>isE sc nm t t'&&isE sc nm a a'&&isE sc nm b b'
 |.tup es=>mTu fun es' Y Y=>J0 sc nm es es'
 |.lst es=>mLs fun es' Y=>J0 sc nm es es'
 |.idx e i=>Qr9 fun e' i' Y=>isE sc nm e e'&&isE sc nm i i'&&Jf i'
 |.upto e k=>Qr9 fun e' i' Y=>isE sc nm e e'&&mSl (fun lo up st Y=>mN lo&&mN st&&mS (mCn fun c Y Y=>decide (c=.int (k:Int))) up) i'
 |.fn f es=>mF fun x es'=>Q6 sc f x&&J0 sc nm es es'
 |.bi k es=>mF fun x es'=>isB sc (J0 sc nm es) k x es'
 |.attr e a=>mAt fun x n Y=>isE sc nm e x&&Ygd e&&Qyi x&&decide (n=Str.ofString (Qhx a))
 |.obj v a=>mM "object" fun b as=>mNm (fun x Y=>Yal nm x v) b&&m1 (isE sc nm a) as
 |.comp elt t it ifs nm' cap=>mLC fun elt' gs sc' Y=>m1 (fun g=>decide (g.is_async=0)&&Qtl it t&&isE sc' nm' elt elt'&&isT nm' t g.target&&isI sc nm it g.iter&&J0 sc' nm' ifs g.ifs&&Qgy sc nm sc' nm' cap&&Qcn nm' cap sc') gs
 |.comp2 elt t₁ it₁ t₂ it₂ nm' cap=>mLC fun elt' gs sc' Y=>m2 (fun g₁ g₂=>decide (g₁.is_async=0)&&mE g₁.ifs&&decide (g₂.is_async=0)&&mE g₂.ifs &&
  Qtl it₁ t₁&&Qtl it₂ t₂&&isE sc' nm' elt elt'&&isT nm' t₁ g₁.target&&isI sc nm it₁ g₁.iter&&isT nm' t₂ g₂.target&&isI sc' nm' it₂ g₂.iter&&Qgy sc nm sc' nm' cap&&Qcn nm' cap sc') gs
noncomputable def J0 (sc:Scope) (nm:List String):CEs→List Expr→Bool
 |.nil=>mE
 |.cons e r=>mC fun e' r'=>isE sc nm e e'&&J0 sc nm r r'
noncomputable def isI (sc:Scope) (nm:List String):CI→Expr→Bool
 |.rng a b=>mF fun x as=>Q6 sc "range" x&&m2 (fun a' b'=>isE sc nm a a'&&isE sc nm b b') as
 |.rng1 b=>mF fun x as=>Q6 sc "range" x&&m1 (fun b'=>isE sc nm b b') as
 |.zip es=>mF fun x es'=>Q6 sc "zip" x&&J0 sc nm es es'
 |.enum e=>mF fun x as=>Q6 sc "enumerate" x&&m1 (fun e'=>isE sc nm e e') as
 |.over e=>fun e'=>isE sc nm e e'
end
noncomputable def Qf2 (e:Expr):Bool:=e.ctorIdx==25
noncomputable def Qs (e:CE):Bool:=decide (23≤e.ctorIdx)
noncomputable def kL (k:CEs→Bool):CE→Bool:=mm CE.ctorIdx _ fun ee q=>CE.lst.elim (motive_1:=fun Y=>Bool) ee q k
noncomputable def kC (k:CE→CEs→Bool):CEs→Bool:=mm CEs.ctorIdx _ fun ee q=>CEs.cons.elim (motive_2:=fun Y=>Bool) ee q k
noncomputable def kB (k:BOp→CE→CE→Bool):CE→Bool:=mm CE.ctorIdx _ fun ee q=>CE.bin.elim (motive_1:=fun Y=>Bool) ee q k
noncomputable def Qei:CE→Bool:=kB fun o l Y=>decide (o=.mul)&&kL (kC fun e r=>e.ctorIdx==0&&r.ctorIdx==0) l
noncomputable def isO (sc:Scope) (nm:List String):Option CE→Expr→Bool
 |none=>mLs fun es Y=>mE es
 |some e=>isE sc nm e
noncomputable def Qx9 (s:CS):Bool:=s.ctorIdx==9
mutual
noncomputable def isS (sc:Scope) (nm:List String):CS→Stmt→Bool
 |.asg t e=>mAs fun ts e' Y=>m1 (fun t'=>isT nm t t'&&isE sc nm e e'&&!(Qf2 t'&&(Qf2 e'||Qs e))) ts
 |.ownL i=>mAs fun ts v Y=>m1 (mNm fun x Y=>Qi9 nm i x) ts&&mLs (fun es Y=>mE es) v
 |.ownD i=>mAs fun ts v Y=>m1 (mNm fun x Y=>Qi9 nm i x) ts&&mDi (fun ks vs Y=>mE ks&&mE vs) v
 |.ownE i e=>mAs fun ts e' Y=>m1 (mNm fun x Y=>Qi9 nm i x) ts&&isE sc nm e e'&&(Qs e||Qei e)
 |.two i j a b=>mAs fun ts v Y=>m1 (mTu fun es Y Y=>m2 (fun n₁ n₂=>mNm (fun x Y=>mNm (fun y Y=>Qi9 nm i x&&Qi9 nm j y&&!decide (x=y)) n₂) n₁) es) ts &&
   mTu (fun vs Y Y=>m2 (fun a' b'=>isO sc nm a a'&&isO sc nm b b'&&!((constantsAlone 8 a'&&constantsAlone 8 b')||(foldedForSure 8 a'&&foldedForSure 8 b'))) vs) v
 |.app i e=>mEx fun v Y=>mM "append" (fun b as=>mNm (fun x Y=>Qi9 nm i x) b&&m1 (isE sc nm e) as) v
 |.setL i k v=>mAs fun ts v' Y=>m1 (Qr9 fun b k' Y=>mNm (fun x Y=>Qi9 nm i x) b&&isE sc nm k k'&&isE sc nm v v'&&Jf k'&&!Qs v) ts
 |.setD i k v=>mAs fun ts v' Y=>m1 (Qr9 fun b k' Y=>mNm (fun x Y=>Qi9 nm i x) b&&isE sc nm k k'&&isE sc nm v v'&&Jf k'&&!Qs v) ts
 |.setH b k v=>mAs fun ts v' Y=>m1 (Qr9 fun b' k' Y=>isE sc nm b b'&&isE sc nm k k'&&isE sc nm v v'&&Jf k'&&!Qs v) ts
 |.ex e=>mEx fun e' Y=>isE sc nm e e'&&!Qs e
 |.ifS t a b=>mSI fun t' a' b' Y=>isE sc nm t t'&&Qbj sc nm a a'&&Qbj sc nm b b'
 |.forS t it b=>mFo fun t' it' b' o Y=>mE o&&Qtl it t&&isT nm t t'&&isI sc nm it it'&&Qbj sc nm b b'
 |.ret e=>mRe fun v Y=>mS (isE sc nm e) v
 |.bad=>fun Y=>true
 |.frz _=>fun Y=>false
noncomputable def Qbj (sc:Scope) (nm:List String):CSs→List Stmt→Bool
 |.nil=>mE
 |.cons s r=>fun ss=>cond (Qx9 s) (Qbj sc nm r ss) (mC (fun s' r'=>isS sc nm s s'&&Qbj sc nm r r') ss)
end
noncomputable def Qnl:List String:=["sizes","many","size"]
noncomputable def Qqu:CSs:=(.cons (.asg (.nm 1) (.int 1)) (.cons (.forS (.nm 2) (.over (.var 0)) (.cons (.asg (.nm 1) (.bin .mul (.var 1) (.var 2))) .nil)) (.cons (.ret (.var 1)) .nil)))
noncomputable def Qgv:List String:=["sizes","found","far","size"]
noncomputable def Qh7:CSs:=(.cons (.two 1 2 none (some (.int 1))) (.cons (.forS (.nm 3) (.over (.var 0)) (.cons (.app 1 (.var 2)) (.cons (.asg (.nm 2) (.bin .mul (.var 2) (.var 3))) .nil))) (.cons (.frz 1) (.cons (.ret (.bi .tuple (.cons (.var 1) .nil))) .nil))))
noncomputable def Qih:List String:=["sizes","indices","place","index","size","far"]
noncomputable def Qj5:CSs:=(.cons (.ifS (.bop true (.cmp .eq (.bi .len (.cons (.var 1) .nil)) (.int 1)) (.cmp .ne (.bi .len (.cons (.var 0) .nil)) (.int 1))) (.cons (.ret (.ite (.cmp2 .le .le (.int 1) (.idx (.var 1) (.int 0)) (.fn "many_of" (.cons (.var 0) .nil))) (.bin .sub (.idx (.var 1) (.int 0)) (.int 1)) (.int (-1)))) .nil) .nil) (.cons (.ifS (.cmp .ne (.bi .len (.cons (.var 1) .nil)) (.bi .len (.cons (.var 0) .nil))) (.cons (.ret (.int (-1))) .nil) .nil) (.cons (.asg (.nm 2) (.int 0)) (.cons (.forS (.tup (.cons (.nm 3) (.cons (.nm 4) (.cons (.nm 5) .nil)))) (.zip (.cons (.var 1) (.cons (.var 0) (.cons (.fn "strides_of" (.cons (.var 0) .nil)) .nil)))) (.cons (.ifS (.not (.cmp2 .le .le (.int 1) (.var 3) (.var 4))) (.cons (.ret (.int (-1))) .nil) .nil) (.cons (.asg (.nm 2) (.bin .add (.var 2) (.bin .mul (.bin .sub (.var 3) (.int 1)) (.var 5)))) .nil))) (.cons (.ret (.var 2)) .nil)))))
noncomputable def Qkj:List String:=["sizes","offset","found","size"]
noncomputable def Qnn:CSs:=(.cons (.ownL 2) (.cons (.forS (.nm 3) (.over (.var 0)) (.cons (.app 2 (.bin .add (.bin .mod (.var 1) (.var 3)) (.int 1))) (.cons (.asg (.nm 1) (.bin .fdiv (.var 1) (.var 3))) .nil))) (.cons (.frz 2) (.cons (.ret (.bi .tuple (.cons (.var 2) .nil))) .nil))))
noncomputable def Qez:List String:=["sizes"]
noncomputable def Qhe:CSs:=(.cons (.ifS (.bop false (.cmp .ne (.comp (.var 0) (.nm 0) (.over (.var 0)) (.cons (.cmp .lt (.var 0) (.int 0)) .nil) ["size"] [none]) (.lst .nil)) (.cmp .gt (.fn "many_of" (.cons (.var 0) .nil)) (.glob "MOST_ITEMS"))) (.cons .bad .nil) .nil) .nil)
noncomputable def Qjo:List String:=["value"]
noncomputable def Qny:CSs:=(.cons (.ret (.inE (.idx (.var 0) (.int 0)) (.tup (.cons (.str "array") (.cons (.str "view") .nil))))) .nil)
noncomputable def Qhl:List String:=["heap","value"]
noncomputable def Qjm:CSs:=(.cons (.ifS (.not (.fn "is_array" (.cons (.var 1) .nil))) (.cons .bad .nil) .nil) (.cons (.ret (.obj (.var 0) (.idx (.var 1) (.int 1)))) .nil))
noncomputable def Qjy:List String:=["heap","value"]
noncomputable def Qnj:CSs:=(.cons (.ret (.ite (.cmp .eq (.idx (.var 1) (.int 0)) (.str "view")) (.idx (.var 1) (.int 3)) (.attr (.fn "parent_of" (.cons (.var 0) (.cons (.var 1) .nil))) .sizes))) .nil)
noncomputable def Qhp:List String:=["heap","value"]
noncomputable def Qjd:CSs:=(.cons (.ret (.ite (.cmp .eq (.idx (.var 1) (.int 0)) (.str "view")) (.tup (.cons (.idx (.var 1) (.int 2)) (.cons (.idx (.var 1) (.int 4)) .nil))) (.tup (.cons (.int 0) (.cons (.fn "strides_of" (.cons (.fn "sizes_of" (.cons (.var 0) (.cons (.var 1) .nil))) .nil)) .nil))))) .nil)
noncomputable def Qby:List String:=["heap","value","indices","sizes","offset","place","steps","index","far"]
noncomputable def Qcl:CSs:=(.cons (.asg (.nm 3) (.fn "sizes_of" (.cons (.var 0) (.cons (.var 1) .nil)))) (.cons (.asg (.nm 4) (.fn "offset_of" (.cons (.var 3) (.cons (.var 2) .nil)))) (.cons (.ifS (.cmp .lt (.var 4) (.int 0)) (.cons (.ret (.int (-1))) .nil) .nil) (.cons (.asg (.tup (.cons (.nm 5) (.cons (.nm 6) .nil))) (.fn "layout_of" (.cons (.var 0) (.cons (.var 1) .nil)))) (.cons (.forS (.tup (.cons (.nm 7) (.cons (.nm 8) .nil))) (.zip (.cons (.fn "index_of" (.cons (.var 3) (.cons (.var 4) .nil))) (.cons (.var 6) .nil))) (.cons (.asg (.nm 5) (.bin .add (.var 5) (.bin .mul (.bin .sub (.var 7) (.int 1)) (.var 8)))) .nil)) (.cons (.ret (.var 5)) .nil))))))
noncomputable def Qi8:List String:=["heap","value","first","steps","found","size","far"]
noncomputable def Qkh:CSs:=(.cons (.asg (.tup (.cons (.nm 2) (.cons (.nm 3) .nil))) (.fn "layout_of" (.cons (.var 0) (.cons (.var 1) .nil)))) (.cons (.asg (.nm 4) (.lst (.cons (.var 2) .nil))) (.cons (.forS (.tup (.cons (.nm 5) (.cons (.nm 6) .nil))) (.zip (.cons (.fn "sizes_of" (.cons (.var 0) (.cons (.var 1) .nil))) (.cons (.var 3) .nil))) (.cons (.asg (.nm 4) (.comp2 (.bin .add (.var 1) (.bin .mul (.var 2) (.var 0))) (.nm 0) (.rng1 (.var 5)) (.nm 1) (.over (.var 3)) ["at","place","far","found"] [none,none,some 6,some 4])) .nil)) (.cons (.ret (.var 4)) .nil))))
noncomputable def Qj9:List String:=["heap","value","fields"]
noncomputable def Qne:CSs:=(.cons (.asg (.nm 2) (.attr (.fn "parent_of" (.cons (.var 0) (.cons (.var 1) .nil))) .fields)) (.cons (.ret (.comp (.idx (.var 1) (.var 0)) (.nm 0) (.over (.fn "places_of" (.cons (.var 0) (.cons (.var 1) .nil)))) .nil ["place","fields"] [none,some 2])) .nil))
noncomputable def Qnz:List String:=["heap","value","indices","place","found"]
noncomputable def Qp4:CSs:=(.cons (.asg (.nm 3) (.fn "place_in_parent" (.cons (.var 0) (.cons (.var 1) (.cons (.var 2) .nil))))) (.cons (.ifS (.cmp .lt (.var 3) (.int 0)) (.cons .bad .nil) .nil) (.cons (.asg (.nm 4) (.idx (.attr (.fn "parent_of" (.cons (.var 0) (.cons (.var 1) .nil))) .fields) (.var 3))) (.cons (.ifS (.isN false (.var 4)) (.cons .bad .nil) .nil) (.cons (.ret (.var 4)) .nil)))))
noncomputable def Qki:List String:=["heap","value","indices","item","place"]
noncomputable def Qm7:CSs:=(.cons (.asg (.nm 4) (.fn "place_in_parent" (.cons (.var 0) (.cons (.var 1) (.cons (.var 2) .nil))))) (.cons (.ifS (.cmp .lt (.var 4) (.int 0)) (.cons .bad .nil) .nil) (.cons (.setH (.attr (.fn "parent_of" (.cons (.var 0) (.cons (.var 1) .nil))) .fields) (.var 4) (.var 3)) .nil)))
noncomputable def Qid:List String:=["part","size","first","step","many","last"]
noncomputable def Qj2:CSs:=(.cons (.ifS (.isN false (.var 0)) (.cons (.ret (.tup (.cons (.int 1) (.cons (.int 1) (.cons (.var 1) .nil))))) .nil) .nil) (.cons (.ifS (.bi .isInt (.cons (.var 0) .nil)) (.cons (.ret (.ite (.cmp2 .le .le (.int 1) (.var 0) (.var 1)) (.tup (.cons (.var 0) (.cons (.int 1) (.cons .none .nil)))) .none)) .nil) .nil) (.cons (.asg (.tup (.cons (.nm 2) (.cons (.nm 3) (.cons (.nm 4) .nil)))) (.var 0)) (.cons (.ifS (.cmp .le (.var 4) (.int 0)) (.cons (.ret (.tup (.cons (.int 1) (.cons (.var 3) (.cons (.int 0) .nil))))) .nil) .nil) (.cons (.asg (.nm 5) (.bin .add (.var 2) (.bin .mul (.var 3) (.bin .sub (.var 4) (.int 1))))) (.cons (.ret (.ite (.bop true (.cmp2 .le .le (.int 1) (.var 2) (.var 1)) (.cmp2 .le .le (.int 1) (.var 5) (.var 1))) (.tup (.cons (.var 2) (.cons (.var 3) (.cons (.var 4) .nil)))) .none)) .nil))))))
noncomputable def Qed:List String:=["parts","sizes","found","part","size"]
noncomputable def Qfb:CSs:=(.cons (.ownL 2) (.cons (.forS (.tup (.cons (.nm 3) (.cons (.nm 4) .nil))) (.zip (.cons (.var 0) (.cons (.var 1) .nil))) (.cons (.ifS (.isN false (.var 3)) (.cons (.app 2 (.int 1)) .nil) (.cons (.app 2 (.ite (.bi .isInt (.cons (.var 3) .nil)) (.var 3) (.fn "edge_of" (.cons (.var 3) (.cons (.var 4) .nil))))) .nil)) .nil)) (.cons (.frz 2) (.cons (.ret (.var 2)) .nil))))
noncomputable def Qnh:List String:=["part","size","first","step","many","last"]
noncomputable def Qrz:CSs:=(.cons (.asg (.tup (.cons (.nm 2) (.cons (.nm 3) (.cons (.nm 4) .nil)))) (.var 0)) (.cons (.asg (.nm 5) (.bin .add (.var 2) (.bin .mul (.var 3) (.bin .sub (.var 4) (.int 1))))) (.cons (.ret (.ite (.bop3 true (.cmp .gt (.var 4) (.int 0)) (.cmp2 .le .le (.int 1) (.var 2) (.var 1)) (.not (.cmp2 .le .le (.int 1) (.var 5) (.var 1)))) (.var 5) (.var 2))) .nil)))
noncomputable def Yq:List String:=["heap","value","parts","sizes","rows","place","far_ones","kept","steps","first","step","many","far"]
noncomputable def Qrp:CSs:=(.cons (.asg (.nm 3) (.fn "sizes_of" (.cons (.var 0) (.cons (.var 1) .nil)))) (.cons (.ifS (.cmp .ne (.bi .len (.cons (.var 2) .nil)) (.bi .len (.cons (.var 3) .nil))) (.cons .bad .nil) .nil) (.cons (.asg (.nm 4) (.comp (.fn "taken_row" (.cons (.var 0) (.cons (.var 1) .nil))) (.tup (.cons (.nm 0) (.cons (.nm 1) .nil))) (.zip (.cons (.var 2) (.cons (.var 3) .nil))) .nil ["part","size"] [none,none])) (.cons (.ifS (.inE .none (.var 4)) (.cons .bad .nil) .nil) (.cons (.asg (.tup (.cons (.nm 5) (.cons (.nm 6) .nil))) (.fn "layout_of" (.cons (.var 0) (.cons (.var 1) .nil)))) (.cons (.two 7 8 none none) (.cons (.forS (.tup (.cons (.tup (.cons (.nm 9) (.cons (.nm 10) (.cons (.nm 11) .nil)))) (.cons (.nm 12) .nil))) (.zip (.cons (.var 4) (.cons (.var 6) .nil))) (.cons (.asg (.nm 5) (.bin .add (.var 5) (.bin .mul (.bin .sub (.var 9) (.int 1)) (.var 12)))) (.cons (.ifS (.isN true (.var 11)) (.cons (.app 7 (.var 11)) (.cons (.app 8 (.bin .mul (.var 10) (.var 12))) .nil)) .nil) .nil))) (.cons (.frz 7) (.cons (.frz 8) (.cons (.ret (.tup (.cons (.str "view") (.cons (.idx (.var 1) (.int 1)) (.cons (.var 5) (.cons (.bi .tuple (.cons (.var 7) .nil)) (.cons (.bi .tuple (.cons (.var 8) .nil)) .nil))))))) .nil))))))))))
noncomputable def Qhb:List String:=["heap","value","rank","sizes","chosen","at","size","ways"]
noncomputable def Qhv:CSs:=(.cons (.asg (.nm 3) (.fn "sizes_of" (.cons (.var 0) (.cons (.var 1) .nil)))) (.cons (.asg (.nm 4) (.lst (.cons (.lst .nil) .nil))) (.cons (.forS (.tup (.cons (.nm 5) (.cons (.nm 6) .nil))) (.enum (.var 3)) (.cons (.asg (.nm 7) (.ite (.cmp .eq (.var 5) (.var 2)) (.lst (.cons .none .nil)) (.bi .listR (.cons (.int 1) (.cons (.bin .add (.var 6) (.int 1)) .nil))))) (.cons (.asg (.nm 4) (.comp2 (.bin .add (.var 1) (.lst (.cons (.var 0) .nil))) (.nm 0) (.over (.var 7)) (.nm 1) (.over (.var 2)) ["way","parts","chosen"] [none,none,some 4])) .nil))) (.cons (.ret (.comp (.fn "view_of" (.cons (.var 1) (.cons (.var 2) (.cons (.var 0) .nil)))) (.nm 0) (.over (.var 4)) .nil ["parts","heap","value"] [none,some 0,some 1])) .nil))))
noncomputable def Qke:List String:=["pen","many","stroke"]
noncomputable def Qm8:CSs:=(.cons (.ifS (.cmp .gt (.idx (.var 0) (.int 0)) (.int 0)) (.cons (.asg (.nm 2) (.bin .mod (.idx (.var 0) (.int 0)) (.var 1))) (.cons (.setH (.var 0) (.int 0) (.bin .fdiv (.idx (.var 0) (.int 0)) (.var 1))) (.cons (.ret (.var 2)) .nil))) .nil) (.cons (.setH (.var 0) (.int 1) (.bin .mod (.bin .add (.bin .mul (.idx (.var 0) (.int 1)) (.int 151)) (.int 7001)) (.int 65437))) (.cons (.ret (.bin .mod (.bin .fdiv (.idx (.var 0) (.int 1)) (.int 7)) (.var 1))) .nil)))
noncomputable def Qjw:List String:=["pen","size","way","first","step","most","many"]
noncomputable def Qmw:CSs:=(.cons (.asg (.nm 2) (.fn "_law_some" (.cons (.var 0) (.cons (.int 4) .nil)))) (.cons (.ifS (.bop false (.cmp .eq (.var 2) (.int 0)) (.cmp .eq (.var 1) (.int 0))) (.cons (.ret (.tup (.cons .none (.cons (.bi .listR (.cons (.int 1) (.cons (.bin .add (.var 1) (.int 1)) .nil))) .nil)))) .nil) .nil) (.cons (.asg (.nm 3) (.bin .add (.int 1) (.fn "_law_some" (.cons (.var 0) (.cons (.var 1) .nil))))) (.cons (.ifS (.cmp .eq (.var 2) (.int 1)) (.cons (.ret (.tup (.cons (.var 3) (.cons (.lst (.cons (.var 3) .nil)) .nil)))) .nil) .nil) (.cons (.asg (.nm 4) (.idx (.lst (.cons (.int 1) (.cons (.int 2) (.cons (.int (-1)) (.cons (.int (-2)) .nil))))) (.fn "_law_some" (.cons (.var 0) (.cons (.int 4) .nil))))) (.cons (.asg (.nm 5) (.ite (.cmp .gt (.var 4) (.int 0)) (.bin .add (.bin .fdiv (.bin .sub (.var 1) (.var 3)) (.var 4)) (.int 1)) (.bin .add (.bin .fdiv (.bin .sub (.var 3) (.int 1)) (.bin .sub (.int 0) (.var 4))) (.int 1)))) (.cons (.asg (.nm 6) (.fn "_law_some" (.cons (.var 0) (.cons (.bin .add (.var 5) (.int 1)) .nil)))) (.cons (.ret (.tup (.cons (.tup (.cons (.var 3) (.cons (.var 4) (.cons (.var 6) .nil)))) (.cons (.comp (.bin .add (.var 1) (.bin .mul (.var 2) (.var 0))) (.nm 0) (.rng1 (.var 6)) .nil ["at","first","step"] [none,some 3,some 4]) .nil)))) .nil))))))))
noncomputable def Qjj:List String:=["sizes","found","size"]
noncomputable def Qm1:CSs:=(.cons (.asg (.nm 1) (.lst (.cons (.tup .nil) .nil))) (.cons (.forS (.nm 2) (.over (.var 0)) (.cons (.asg (.nm 1) (.comp2 (.bin .add (.var 1) (.tup (.cons (.var 0) .nil))) (.nm 0) (.rng (.int 1) (.bin .add (.var 2) (.int 1))) (.nm 1) (.over (.var 2)) ["index","row","found"] [none,none,some 1])) .nil)) (.cons (.ret (.var 1)) .nil)))
noncomputable def Qgc:List String:=["cells","pairs","table","sizes","kept","wide","found","row","there","rank","index"]
noncomputable def Qiy:CSs:=(.cons (.asg (.tup (.cons (.nm 2) (.cons (.nm 3) .nil))) (.var 0)) (.cons (.asg (.nm 4) (.comp (.var 0) (.tup (.cons (.nm 0) (.cons (.nm 1) .nil))) (.enum (.var 1)) (.cons (.not (.bi .isInt (.cons (.idx (.var 1) (.int 0)) .nil))) .nil) ["rank","pair"] [none,none])) (.cons (.asg (.nm 5) (.bi .tuple (.cons (.comp (.bi .len (.cons (.idx (.idx (.var 1) (.var 0)) (.int 1)) .nil)) (.nm 0) (.over (.var 4)) .nil ["rank","pairs"] [none,some 1]) .nil))) (.cons (.ownD 6) (.cons (.forS (.nm 7) (.over (.fn "_law_grid" (.cons (.var 5) .nil))) (.cons (.ownE 8 (.comp (.ite (.bi .isInt (.cons (.idx (.var 0) (.int 0)) .nil)) (.idx (.idx (.var 0) (.int 1)) (.int 0)) (.int 0)) (.nm 0) (.over (.var 1)) .nil ["pair"] [none])) (.cons (.forS (.tup (.cons (.nm 9) (.cons (.nm 10) .nil))) (.zip (.cons (.var 4) (.cons (.var 7) .nil))) (.cons (.setL 8 (.var 9) (.idx (.idx (.idx (.var 1) (.var 9)) (.int 1)) (.bin .sub (.var 10) (.int 1)))) .nil)) (.cons (.frz 8) (.cons (.setD 6 (.var 7) (.idx (.var 2) (.bi .tuple (.cons (.var 8) .nil)))) .nil))))) (.cons (.frz 6) (.cons (.ret (.tup (.cons (.var 6) (.cons (.var 5) .nil)))) .nil)))))))
noncomputable def Qdz:List String:=["heap","value","cells","table","sizes","rows"]
noncomputable def Qe7:CSs:=(.cons (.asg (.tup (.cons (.nm 3) (.cons (.nm 4) .nil))) (.var 2)) (.cons (.ifS (.bop false (.cmp .ne (.fn "sizes_of" (.cons (.var 0) (.cons (.var 1) .nil))) (.var 4)) (.cmp .ne (.bi .len (.cons (.fn "items_of" (.cons (.var 0) (.cons (.var 1) .nil))) .nil)) (.bi .len (.cons (.var 3) .nil)))) (.cons (.ret (.bool false)) .nil) .nil) (.cons (.asg (.nm 5) (.fn "_law_grid" (.cons (.var 4) .nil))) (.cons (.ifS (.cmp .ne (.comp (.idx (.var 0) (.int 2)) (.nm 0) (.over (.fn "items_of" (.cons (.var 0) (.cons (.var 1) .nil)))) .nil ["item"] [none]) (.comp (.idx (.var 1) (.var 0)) (.nm 0) (.over (.var 5)) .nil ["row","table"] [none,some 3])) (.cons (.ret (.bool false)) .nil) .nil) (.cons (.ret (.bop false (.cmp .eq (.var 4) (.tup .nil)) (.cmp .eq (.comp (.idx (.fn "item_at" (.cons (.var 1) (.cons (.var 2) (.cons (.var 0) .nil)))) (.int 2)) (.nm 0) (.over (.var 5)) .nil ["row","heap","value"] [none,some 0,some 1]) (.comp (.idx (.var 1) (.var 0)) (.nm 0) (.over (.var 5)) .nil ["row","table"] [none,some 3])))) .nil)))))
noncomputable def Qgj:List String:=["pen","sizes","parts","rank","size"]
noncomputable def Qix:CSs:=(.cons (.ownE 2 (.bin .mul (.lst (.cons .none .nil)) (.bi .len (.cons (.var 1) .nil)))) (.cons (.asg (.nm 3) (.fn "_law_some" (.cons (.var 0) (.cons (.bi .len (.cons (.var 1) .nil)) .nil)))) (.cons (.asg (.nm 4) (.idx (.var 1) (.var 3))) (.cons (.setL 2 (.var 3) (.idx (.lst (.cons (.int 0) (.cons (.bin .add (.var 4) (.int 1)) (.cons (.tup (.cons (.int 1) (.cons (.int 1) (.cons (.bin .add (.var 4) (.int 1)) .nil)))) (.cons (.tup (.cons (.var 4) (.cons (.int (-1)) (.cons (.bin .add (.var 4) (.int 1)) .nil)))) (.cons (.tup (.cons (.int 0) (.cons (.int 1) (.cons (.int 1) .nil)))) (.cons (.tup (.cons (.int 1) (.cons (.int (-1)) (.cons (.int 2) .nil)))) .nil))))))) (.fn "_law_some" (.cons (.var 0) (.cons (.int 6) .nil))))) (.cons (.frz 2) (.cons (.ret (.var 2)) .nil))))))
noncomputable def Y5:List String:=["script","pen","heap","sizes","rows","array","cells","here","turn","pairs","row","due","rank","lines","told"]
noncomputable def Qlb:CSs:=(.cons (.asg (.nm 3) (.bi .tuple (.cons (.comp (.bin .add (.int 1) (.fn "_law_some" (.cons (.var 1) (.cons (.int 4) .nil)))) (.nm 0) (.rng1 (.bin .add (.int 1) (.fn "_law_some" (.cons (.var 1) (.cons (.int 3) .nil))))) .nil ["rank","pen"] [none,some 1]) .nil))) (.cons (.asg (.nm 4) (.fn "_law_grid" (.cons (.var 3) .nil))) .nil))
noncomputable def Qu2:CSs:=(.cons (.asg (.nm 6) (.tup (.cons (.bi .dict (.cons (.comp (.tup (.cons (.var 1) (.cons (.var 0) .nil))) (.tup (.cons (.nm 0) (.cons (.nm 1) .nil))) (.enum (.var 4)) .nil ["place","row"] [none,none]) .nil)) (.cons (.var 3) .nil)))) (.cons (.asg (.nm 7) (.var 5)) (.cons (.forS (.nm 8) (.rng1 (.int 2)) (.cons (.asg (.nm 9) (.comp (.fn "_law_part" (.cons (.var 1) (.cons (.var 0) .nil))) (.nm 0) (.over (.idx (.var 6) (.int 1))) .nil ["size","pen"] [none,some 1])) (.cons (.two 7 6 (some (.fn "view_of" (.cons (.var 2) (.cons (.var 7) (.cons (.comp (.idx (.var 0) (.int 0)) (.nm 0) (.over (.var 9)) .nil ["pair"] [none]) .nil))))) (some (.fn "_law_picked" (.cons (.var 6) (.cons (.var 9) .nil))))) (.cons (.ifS (.bop false (.cmp .ne (.upto (.var 7) 2) (.tup (.cons (.str "view") (.cons (.idx (.var 5) (.int 1)) .nil)))) (.not (.fn "_law_is_alike" (.cons (.var 2) (.cons (.var 7) (.cons (.var 6) .nil)))))) (.cons (.ret (.bool false)) .nil) .nil) .nil)))) (.cons (.ifS (.bop true (.cmp .ne (.idx (.var 6) (.int 1)) (.tup .nil)) (.cmp .gt (.bi .len (.cons (.idx (.var 6) (.int 0)) .nil)) (.int 0))) (.cons (.asg (.nm 10) (.idx (.bi .list (.cons (.idx (.var 6) (.int 0)) .nil)) (.fn "_law_some" (.cons (.var 1) (.cons (.bi .len (.cons (.idx (.var 6) (.int 0)) .nil)) .nil))))) (.cons (.ex (.fn "set_item" (.cons (.var 2) (.cons (.var 7) (.cons (.var 10) (.cons (.tup (.cons (.str "int") (.cons (.str "Int64") (.cons (.int (-5)) .nil)))) .nil)))))) (.cons (.asg (.nm 11) (.comp (.ite (.cmp .eq (.var 0) (.idx (.idx (.var 2) (.int 0)) (.var 1))) (.int (-5)) (.var 0)) (.nm 0) (.rng1 (.bi .len (.cons (.var 4) .nil))) .nil ["place","row","cells"] [none,some 10,some 6])) (.cons (.ifS (.cmp .ne (.comp (.idx (.var 0) (.int 2)) (.nm 0) (.over (.fn "items_of" (.cons (.var 2) (.cons (.var 5) .nil)))) .nil ["item"] [none]) (.var 11)) (.cons (.ret (.bool false)) .nil) .nil) .nil)))) .nil) (.cons (.ifS (.not (.fn "_law_is_refused" (.cons (.var 2) (.cons (.var 5) (.cons (.fn "_law_beyond" (.cons (.var 1) (.cons (.var 3) .nil))) .nil))))) (.cons (.ret (.bool false)) .nil) .nil) (.cons (.asg (.nm 12) (.fn "_law_some" (.cons (.var 1) (.cons (.bi .len (.cons (.var 3) .nil)) .nil)))) (.cons (.asg (.nm 13) (.comp (.fn "items_of" (.cons (.var 1) (.cons (.var 0) .nil))) (.nm 0) (.over (.fn "line_views" (.cons (.var 2) (.cons (.var 5) (.cons (.var 12) .nil))))) .nil ["line","heap"] [none,some 2])) (.cons (.asg (.nm 14) (.bi .sorted (.cons (.comp2 (.idx (.var 1) (.int 2)) (.nm 0) (.over (.var 13)) (.nm 1) (.over (.var 0)) ["line","item"] [none,none]) .nil))) (.cons (.ifS (.cmp .ne (.var 14) (.bi .sorted (.cons (.comp (.idx (.var 0) (.int 2)) (.nm 0) (.over (.fn "items_of" (.cons (.var 2) (.cons (.var 5) .nil)))) .nil ["item"] [none]) .nil))) (.cons (.ret (.bool false)) .nil) .nil) (.cons (.ret (.cmp .eq (.comp (.bi .len (.cons (.var 0) .nil)) (.nm 0) (.over (.var 13)) .nil ["line"] [none]) (.bin .mul (.lst (.cons (.idx (.var 3) (.var 12)) .nil)) (.bi .len (.cons (.var 13) .nil))))) .nil))))))))))
noncomputable def Qg7:List String:=["name"]
noncomputable def Qim:CSs:=.cons (.ret (.tup (.cons (.str "name") (.cons (.var 0) (.cons (.tup .nil) .nil))))) .nil
noncomputable def Qe2:List String:=["name","parts"]
noncomputable def Qgr:CSs:=.cons (.ret (.tup (.cons (.str "struct") (.cons (.fn "error_kind" (.cons (.var 0) .nil)) (.cons (.bi .tuple (.cons (.var 1) .nil)) .nil))))) .nil
noncomputable def Qap:CSs:=(.cons (.asg (.nm 3) (.fn "sizes_of" (.cons (.var 0) (.cons (.var 1) .nil)))) (.cons (.ifS (.cmp .ne (.bi .len (.cons (.var 2) .nil)) (.bi .len (.cons (.var 3) .nil))) (.cons .bad .nil) .nil) (.cons (.asg (.nm 4) (.comp (.fn "taken_row" (.cons (.var 0) (.cons (.var 1) .nil))) (.tup (.cons (.nm 0) (.cons (.nm 1) .nil))) (.zip (.cons (.var 2) (.cons (.var 3) .nil))) .nil ["part","size"] [none,none])) .nil)))
noncomputable def Qdn:CE:=.inE .none (.var 4)
noncomputable def Qcw:CEs:=.cons (.var 1) (.cons (.fn "edge_indices" (.cons (.var 2) (.cons (.var 3) .nil))) .nil)
noncomputable def Qsl:List String:=["name","params"]
noncomputable def Qw3:CSs:=.cons (.ret (.tup (.cons (.str "name") (.cons (.var 0) (.cons (.bi .tuple (.cons (.var 1) .nil)) .nil))))) .nil
noncomputable def Qgq:List String:=["item","rank"]
noncomputable def Qhm:CSs:=.cons (.ret (.fn "named" (.cons (.str "Array") (.cons (.tup (.cons (.var 0) (.cons (.tup (.cons (.str "n") (.cons (.var 1) .nil))) .nil))) .nil)))) .nil
noncomputable def Qum:List (String×Nat×List String×CSs):=[
 ("many_of",1,Qnl,Qqu),
 ("strides_of",1,Qgv,Qh7),
 ("offset_of",2,Qih,Qj5),
 ("index_of",2,Qkj,Qnn),
 ("check_sizes",1,Qez,Qhe),
 ("is_array",1,Qjo,Qny),
 ("parent_of",2,Qhl,Qjm),
 ("sizes_of",2,Qjy,Qnj),
 ("layout_of",2,Qhp,Qjd),
 ("place_in_parent",3,Qby,Qcl),
 ("places_of",2,Qi8,Qkh),
 ("items_of",2,Qj9,Qne),
 ("item_at",3,Qnz,Qp4),
 ("set_item",4,Qki,Qm7),
 ("taken_row",2,Qid,Qj2),
 ("edge_indices",2,Qed,Qfb),
 ("edge_of",2,Qnh,Qrz),
 ("view_of",3,Yq,Qrp),
 ("line_views",3,Qhb,Qhv),
 ("_law_some",2,Qke,Qm8),
 ("_law_part",2,Qjw,Qmw),
 ("_law_grid",1,Qjj,Qm1),
 ("_law_picked",2,Qgc,Qiy),
 ("_law_is_alike",3,Qdz,Qe7),
 ("_law_beyond",2,Qgj,Qix),
 ("error_kind",1,Qg7,Qim),
 ("error_value",2,Qe2,Qgr),
 ("named",2,Qsl,Qw3),
 ("array_kind",2,Qgq,Qhm)]
section
noncomputable def Qzn:Nat→CSs→CSs
 |0,_=>.nil
 |_+1,.nil=>.nil
 |n+1,.cons s r=>.cons s (Qzn n r)
noncomputable def Ya4:Nat→CSs→CSs
 |0,c=>c
 |_+1,.nil=>.nil
 |n+1,.cons _ r=>Ya4 n r
noncomputable def Qd4:CSs:=Qzn 4 Qu2
noncomputable def Qep:CSs:=Ya4 5 Qu2
noncomputable def Ql8:CE:=.fn "_law_beyond" (.cons (.var 1) (.cons (.var 3) .nil))
end
noncomputable def Qye (fd:FuncData) (np:Nat) (nm:List String):Bool:=
 fd.params.posonlyargs.isEmpty&&fd.params.vararg.isNone&&fd.params.kwonlyargs.isEmpty&&fd.params.kwarg.isNone&&fd.globals==mainGlobals&&fd.builtins==builtinsNs&&fd.closure.isEmpty &&
  decide (fd.scope.kind=.function)&&!fd.scope.isGenerator&&!fd.scope.isCoroutine&&decide (fd.params.args.map (·.arg)=(nm.take np).map Str.ofString) &&
  nm.all (fun x=>decide (fd.scope.names.lookup (Str.ofString x)=some .local)||decide (fd.scope.names.lookup (Str.ofString x)=some .cell))&&decide ((nm.map Str.ofString).Nodup)&&decide (np≤nm.length)
noncomputable def vRf (k:Addr→Bool):Value→Bool:=mm Value.ctorIdx _ fun v q=>Value.ref.elim (motive:=fun Y=>Bool) v q k
noncomputable def vIn (k:Int→Bool):Value→Bool:=mm Value.ctorIdx _ fun v q=>Value.int.elim (motive:=fun Y=>Bool) v q fun i Y=>k i
noncomputable def vSt (k:Str→Bool):Value→Bool:=mm Value.ctorIdx _ fun v q=>Value.str.elim (motive:=fun Y=>Bool) v q fun x Y=>k x
noncomputable def dSq (k:Array Value→Bool):Data→Bool:=mm Data.ctorIdx _ fun v q=>Data.seq.elim (motive:=fun Y=>Bool) v q fun xs Y=>k xs
noncomputable def dFn (k:FuncData→Bool):Data→Bool:=mm Data.ctorIdx _ fun v q=>Data.func.elim (motive:=fun Y=>Bool) v q k
noncomputable def dCl (k:ClassData→Bool):Data→Bool:=mm Data.ctorIdx _ fun v q=>Data.cls.elim (motive:=fun Y=>Bool) v q k
noncomputable def Qz5 (K:Frag) (k:FuncData→Bool) (f:Addr):Bool:=mS (fun o=>dFn k o.data) (K.lookup f)
noncomputable def mo {α β:Type} (ix:α→Nat) (n:Nat) (f:(e:α)→ix e=n→Option β) (e:α):Option β:=if q:ix e=n then f e q else none
noncomputable def oRf {β:Type} (k:Addr→Option β):Value→Option β:=mo Value.ctorIdx _ fun v q=>Value.ref.elim (motive:=fun Y=>Option β) v q k
noncomputable def oFn {β:Type} (k:FuncData→Option β):Data→Option β:=mo Data.ctorIdx _ fun v q=>Data.func.elim (motive:=fun Y=>Option β) v q k
noncomputable def oSq {β:Type} (k:Array Value→Option β):Data→Option β:=mo Data.ctorIdx _ fun v q=>Data.seq.elim (motive:=fun Y=>Option β) v q fun xs Y=>k xs
noncomputable def fnK (K:Frag) (f:String):Option (Addr×FuncData):=(nsIn K mainGlobals (Str.ofString f)).bind fun o=>o.bind (oRf fun a=>(K.lookup a).bind fun o=>oFn (fun fd=>some (a,fd)) o.data)
noncomputable def dsK (K:Frag) (fd:FuncData):Option (List Value):=if fd.defaults=.none then some [] else oRf (fun T=>(K.lookup T).bind fun o=>oSq (fun xs=>some xs.toList) o.data) fd.defaults
noncomputable def fdK (K:Frag) (fd:FuncData) (np:Nat) (nm:List String):Bool:=
 Qye fd np nm&&codeIn K fd.code fd.qualname&&mS (fun ds=>decide (ds.length≤1)) (dsK K fd)
noncomputable def V9 (fd:FuncData) (p:Scope→List Stmt→Bool):Bool:=match fd.body with
 |.stmts ss=>p fd.scope ss
 |_=>false
noncomputable def okK (K:Frag) (f:String) (np:Nat) (nm:List String) (p:Scope→List Stmt→Bool):Bool:=mS (fun q=>fdK K q.2 np nm&&V9 q.2 p) (fnK K f)
noncomputable def Qc7:List String:=["number","kind"]
noncomputable def Qd3:CSs:=.cons (.ret (.tup (.cons (.str "int") (.cons (.var 1) (.cons (.var 0) .nil))))) .nil
noncomputable def Qxg:Value→Bool:=vSt fun x=>decide (x=Str.ofString "Int64")
noncomputable def Yfu (K:Frag):Bool:=Qum.all (fun e=>okK K e.1 e.2.1 e.2.2.1 fun sc ss=>Qbj sc e.2.2.1 e.2.2.2 ss) &&
 okK K "int_value" 2 Qc7 (fun sc ss=>Qbj sc Qc7 Qd3 ss)&&mS (fun q=>mS (m1 Qxg) (dsK K q.2)) (fnK K "int_value")
noncomputable def Qw8 (K:Frag) (v:Value) (p:List Value→Bool):Bool:=vRf (fun a=>mS (fun o=>decide (o.cls=.type "tuple")&&o.dict.isNone&&o.slots.isEmpty&&dSq (fun xs=>p xs.toList) o.data) (K.lookup a)) v
noncomputable def Qpb (x:String):Value→Bool:=vSt fun y=>decide (Str.ofString x=y)
noncomputable def Yge (K:Frag):Bool:=mS (mS (vIn fun i=>i==20000)) (nsIn K mainGlobals (Str.ofString "MOST_ITEMS")) &&
 mS (mS fun v=>Qw8 K v (m3 fun a b c=>Qpb "name" a&&Qpb "Int64" b&&Qw8 K c mE)) (nsIn K mainGlobals (Str.ofString "_law_ITEM"))
section
open PySem PySem.W PySem.Calls PyProof.Rows Builtin Builtin.ObjectAttr
noncomputable def Qcu (l:List Value):Bool:=@List.rec Value (fun Y=>Bool) false (fun v r ih=>decide (v::r=[.type "object"])||decide (v::r=[.type "Exception",.type "BaseException",.type "object"])||vRf (fun Y=>ih) v) l
noncomputable def Qy4 (K:Frag) (C:Addr):Bool:=(clsIn K C).any (fun cd=>cd.hasDict&&Qcu cd.mro)&&findIn K (.ref C) "__getattribute__"==some (some (.builtin "object.__getattribute__"))&&findIn K (.ref C) "__getattr__"==some none &&
 findIn K (.ref C) "__setattr__"==some (some (.builtin "object.__setattr__"))
noncomputable def Jw (K:Frag) (C:Addr) (name:Str):Bool:=findIn K (.ref C) name==some none
noncomputable def Qrn (K:Frag) (C:Addr) (name:Str):Option Addr:=(findIn K (.ref C) name).bind fun o=>o.bind (oRf fun f=>if typeIn K (.ref f)==some (.type "function") then some f else none)
end
noncomputable def Qmu (K:Frag) (C:Addr) (np:Nat) (nm:List String) (p:Scope→List Stmt→Bool):Bool:=makesIn K C&&Qy4 K C &&
 mS (mS (vRf fun f=>typeIn K (.ref f)==some (.type "function")&&Qz5 K (fun fd=>fdK K fd np nm&&V9 fd p) f)) (findIn K (.ref C) "__init__")
section
variable {K:Frag}
noncomputable def Qe0 (x:String) (n:String):Expr→Bool:=mAt fun b m Y=>mNS x b&&decide (m=Str.ofString n)
noncomputable def Qcv (_:Scope) (ss:List Stmt):Bool:=m1 (mAs fun ts v Y=>m1 (Qe0 "self" "things") ts&&mLs (fun es Y=>mE es) v) ss
end
noncomputable def Qqx (sc:Scope):Expr→Bool:=mUn fun o x Y=>decide (o=.Not)&&Qu5 (fun l os rs Y=>m2 (fun o1 o2=>Qeh .le o1&&Qeh .lt o2) os&&m2 (fun m c=>isE sc ["self","address"] (.int 0) l&&isE sc ["self","address"] (.var 1) m&&mF (fun y as=>Q6 sc "len" y&&m1 (Qe0 "self" "things") as) c) rs) x
noncomputable def Qk4 (sc:Scope):List Stmt→Bool:=m2 fun a b=>mSI (fun t Y o Y=>mE o&&Qqx sc t) a&&mRe (fun v Y=>mS (Qr9 fun e i Y=>Qe0 "self" "things" e&&isE sc ["self","address"] (.var 1) i&&Jf i) v) b
noncomputable def Qmg (K:Frag) (C:Addr) (n:String) (np:Nat) (nm:List String) (p:Scope→List Stmt→Bool):Bool:=mS (Qz5 K fun fd=>fdK K fd np nm&&V9 fd p) (Qrn K C (Str.ofString n))
noncomputable def Yc7 (K:Frag) (HC TC:Addr):Bool:=Qy4 K HC&&Qy4 K TC&&Jw K TC (Str.ofString "sizes")&&Jw K TC (Str.ofString "fields")&&Jw K HC (Str.ofString "things")&&Qmg K HC "object" 2 ["self","address"] Qk4
noncomputable def Qdr:List String:=["script","ink","drop"]
noncomputable def Qtt:CSs:=.cons (.asg (.nm 1) (.ite (.cmp .gt (.bi .len (.cons (.var 0) .nil)) (.int 0)) (.idx (.var 0) (.int 0)) (.int 0))) (.cons (.asg (.nm 2) (.ite (.cmp .ge (.var 1) (.int 0)) (.var 1) (.bin .sub (.int 8) (.var 1)))) .nil)
noncomputable def Qsm:CEs:=.cons (.ite (.cmp .ge (.var 2) (.bin .pow (.int 10) (.int 15))) (.var 2) (.int 0)) (.cons (.bin .mod (.bin .add (.bin .mul (.bin .mod (.var 2) (.int 999979)) (.int 167)) (.int 37)) (.int 65437)) .nil)
noncomputable def Qua (sc:Scope) (ss:List Stmt):Bool:=Qbj sc Qdr Qtt (ss.take 2)&&mR (mLs fun es Y=>J0 sc Qdr Qsm es) (ss.drop 2)
section
variable {K:Addr→Prop}
noncomputable def Qty (sc:Scope):Stmt→Bool:=mAs fun ts v Y=>m1 (mTu fun es Y Y=>m2 (fun a b=>mNS "pen" a&&mNS "heap" b) es) ts&&mTu (fun es Y Y=>m2 (fun a b=>mF (fun f as=>Q6 sc "_law_pen" f&&m1 (isE sc Y5 (.var 0)) as) a&&mF (fun c as=>Q6 sc "Heap" c&&mE as) b) es) v
end
noncomputable def Qjc (K:Frag) (f:String):Option Addr:=(nsIn K mainGlobals (Str.ofString f)).bind fun o=>o.bind (oRf some)
noncomputable def Qxm (K:Frag) (HC:Addr):Bool:=Qjc K "Heap"==some HC&&Qmu K HC 1 ["self"] Qcv&&findIn K (.ref HC) (Str.ofString "things")==some none&&keepIn K (.ref HC)
section
variable {K:Frag}{l:List (String×Value)}
noncomputable def Qd9 (f v:String):Stmt→Bool:=mAs fun ts e Y=>m1 (Qe0 "self" f) ts&&mNS v e
noncomputable def Qln:List String:=["self","kind","fields","sizes"]
noncomputable def Qd6 (_:Scope) (ss:List Stmt):Bool:=m3 (fun a b c=>Qd9 "kind" "kind" a&&Qd9 "fields" "fields" b&&Qd9 "sizes" "sizes" c) ss
end
noncomputable def Quc (sc:Scope) (ss:List Stmt):Bool:=m2 (fun a b=>mEx (fun v Y=>mM "append" (fun f as=>Qe0 "self" "things" f&&m1 (mNS "thing") as) v) a &&
 mRe (fun v Y=>mS (Yda fun l o r Y=>decide (o=.Sub)&&mCn (fun c Y Y=>decide (c=.int 1)) r&&mF (fun c as=>Q6 sc "len" c&&m1 (Qe0 "self" "things") as) l) v) b) ss
noncomputable def Qga (sc:Scope) (ss:List Stmt):Bool:=mR (mM "put" fun x as=>mNS "self" x&&m1 (mF fun c as=>Q6 sc "Thing" c&&m3 (fun k l t=>mNS "kind" k&&mF (fun f as=>Q6 sc "list" f&&m1 (mNS "items") as) l&&mF (fun f as=>Q6 sc "tuple" f&&m1 (mNS "sizes") as) t) as) as) ss
noncomputable def Qob (K:Frag) (TC:Addr):Bool:=Qjc K "Thing"==some TC&&Qmu K TC 4 Qln Qd6&&Jw K TC (Str.ofString "kind")&&Jw K TC (Str.ofString "fields")&&Jw K TC (Str.ofString "sizes")&&keepIn K (.ref TC)
noncomputable def Qbe:List String:=["heap","item_kind","sizes","items"]
noncomputable def Ql0:CSs:=.cons (.ex (.fn "check_sizes" (.cons (.var 2) .nil))) (.cons (.ifS (.cmp .ne (.fn "many_of" (.cons (.var 2) .nil)) (.bi .len (.cons (.var 3) .nil))) (.cons .bad .nil) .nil) .nil)
noncomputable def Qld:CEs:=.cons (.fn "array_kind" (.cons (.var 1) (.cons (.bi .len (.cons (.var 2) .nil)) .nil))) (.cons (.var 2) (.cons (.var 3) .nil))
noncomputable def Qvg (sc:Scope) (ss:List Stmt):Bool:=Qbj sc Qbe Ql0 (ss.take 2)&&mR (mTu fun es Y Y=>m2 (fun y c=>mCn (fun v Y Y=>decide (v=.str (Str.ofString "array"))) y&&mM "new_array" (fun x as=>isE sc Qbe (.var 0) x&&J0 sc Qbe Qld as) c) es) (ss.drop 2)
section
variable {K:Frag}
noncomputable def Qp7 (K:Frag) (HC TC:Addr):Bool:=Qy4 K HC&&Jw K HC (Str.ofString "things")&&Qob K TC&&okK K "made" 4 Qbe Qvg&&Qmg K HC "new_array" 4 ["self","kind","sizes","items"] Qga&&Qmg K HC "put" 2 ["self","thing"] Quc
end
noncomputable def Qsj:CEs:=.cons (.var 2) (.cons (.glob "_law_ITEM") (.cons (.var 3) (.cons (.comp (.tup (.cons (.str "int") (.cons (.str "Int64") (.cons (.var 0) .nil)))) (.nm 0) (.rng1 (.bi .len (.cons (.var 4) .nil))) .nil ["place"] [none]) .nil)))
noncomputable def Qt9 (sc:Scope):Stmt→Bool:=mAs fun ts v Y=>m1 (mNS "array") ts&&mF (fun f es=>Q6 sc "made" f&&J0 sc Y5 Qsj es) v
noncomputable def Yem (K:Frag) (C:Addr):Bool:=mS (fun o=>decide (o.cls=.type "type")&&dCl (fun cd=>mC (fun v bm=>decide (v=.ref C)&&(bm.contains (.type "Exception")&&bm.contains (.type "BaseException")&&!(bm.contains (.type "AttributeError"))&&!(bm.contains (.type "NameError")))) cd.mro&&!cd.hasDel) o.data&&(o.slots.size==6&&o.slots[4]?==some (some (.builtin "Exception.__new__")))) (K.lookup C)
section
open PySem PySem.W PySem.Calls PyProof.Rows Builtin Builtin.ObjectAttr
noncomputable def Ydn (K:Frag) (C:Addr):Bool:=(clsIn K C).any (fun cd=>cd.hasDict&&Qcu cd.mro)&&findIn K (.ref C) "__getattribute__"==some (some (.builtin "BaseException.__getattribute__"))&&findIn K (.ref C) "__getattr__"==some none &&
 findIn K (.ref C) "__setattr__"==some (some (.builtin "object.__setattr__"))&&subIn K (.ref C) (.type "BaseException")==some true&&subIn K (.ref C) (.type "Exception")==some true
end
noncomputable def Qaz (sc:Scope) (ss:List Stmt):Bool:=m3 (fun a st2 st3=>mEx (fun v Y=>mM "__init__" (fun x as=>mNm (fun x Y=>Q6 sc "Exception" x) x&&m2 (fun y m=>mNS "self" y&&mNS "message" m) as) v) a&&Qd9 "message" "message" st2&&Qd9 "spot" "spot" st3) ss
noncomputable def Ybs (c:Const):Bool:=c.ctorIdx==5
noncomputable def Qar (sc:Scope) (ss:List Stmt):Bool:=m2 (fun a st2=>mEx (fun v Y=>mM "__init__" (fun x as=>mNm (fun x Y=>Q6 sc "RowsError" x) x&&m2 (fun y m=>mNS "self" y&&mCn (fun c Y Y=>Ybs c) m) as) v) a&&Qd9 "value" "value" st2) ss
noncomputable def Yfr (k:Value→Bool):CFound→Bool:=mm CFound.ctorIdx _ fun v q=>CFound.val.elim (motive:=fun Y=>Bool) v q k
noncomputable def Qot (K:Frag) (TC RC:Addr):Bool:=Qjc K "Thrown"==some TC&&Qjc K "RowsError"==some RC&&Yem K TC&&Ydn K TC&&Jw K TC (Str.ofString "message")&&Jw K TC (Str.ofString "spot")&&Jw K TC (Str.ofString "value")&&keepIn K (.ref TC) &&
 mS (mS (vRf fun f=>typeIn K (.ref f)==some (.type "function")&&Qz5 K (fun fd=>fdK K fd 2 ["self","value"]&&V9 fd Qar) f)) (findIn K (.ref TC) "__init__") &&
 readsIn K RC (.type "type")&&specialIn K (.ref RC) "__getattribute__"==some (some (.builtin "type.__getattribute__")) &&
 mS (Yfr (vRf (Qz5 K fun fd=>fdK K fd 3 ["self","message","spot"]&&V9 fd Qaz&&decide (dsK K fd=some [.none])))) (findCls K (.ref RC) (.type "type") "__init__") &&
 mS (Yfr fun v=>decide (v=.builtin "Exception.__init__")) (findCls K (.type "Exception") (.type "type") "__init__")
noncomputable def Qkc:CEs:=.cons (.fn "error_value" (.cons (.var 0) (.cons (.var 1) .nil))) .nil
noncomputable def Qy5:CEs:=.cons (.str "BoundsError") (.cons (.tup (.cons (.var 0) (.cons (.tup (.cons (.str "tuple") (.cons (.bi .tuple (.cons (.comp (.fn "int_value" (.cons (.var 0) .nil)) (.nm 0) (.over (.var 1)) .nil ["index"] [none]) .nil)) .nil))) .nil))) .nil)
noncomputable def Y1 (f:String) (nm:List String) (es:CEs) (sc:Scope) (ss:List Stmt):Bool:=mR (mF fun x es'=>Q6 sc f x&&J0 sc nm es es') ss
noncomputable def Qgh (sc:Scope) (ss:List Stmt):Bool:=Qbj sc Yq Qap (ss.take 3)&&mC (fun s Y=>mSI (fun t b o Y=>mE o&&isE sc Yq Qdn t&&m1 (mRa fun e c Y=>mN c&&mS (mF fun x es=>Q6 sc "bounds_fault" x&&J0 sc Yq Qcw es) e) b) s) (ss.drop 3)
noncomputable def Yfv:Expr→Bool:=Qu5 fun l os rs Y=>decide (os=[.Eq])&&m1 (mCn fun c Y Y=>decide (c=.str (Str.ofString "BoundsError"))) rs&&Qr9 (fun b i Y=>mCn (fun c Y Y=>decide (c=.int 1)) i&&Qr9 (fun f j Y=>mCn (fun c Y Y=>decide (c=.int 1)) j&&Qe0 "error" "value" f) b) l
noncomputable def Qc2:List String:=["heap","value","parts","error"]
noncomputable def Quo:CEs:=.cons (.var 0) (.cons (.var 1) (.cons (.var 2) .nil))
noncomputable def Qeq (sc:Scope) (ss:List Stmt):Bool:=mC (fun s Y=>mTr (fun b hs o fi Y=>mE o&&mE fi&&m1 (mEx fun v Y=>mF (fun x es=>Q6 sc "view_of" x&&J0 sc Qc2 Quo es) v) b&&m1 (mEH fun t n bd=>mS (mNm fun y Y=>Q6 sc "Thrown" y) t&&mS (nmS "error") n&&mR Yfv bd) hs) s&&(sc.names.lookup (Str.ofString "error")==some .local)) ss
noncomputable def Qlm:CEs:=.cons (.var 2) (.cons (.var 5) (.cons Ql8 .nil))
noncomputable def Ycd (sc:Scope) (ss:List Stmt):Bool:=mC (fun s r=>mSI (fun t Y o Y=>mE o&&mUn (fun op x Y=>decide (op=.Not)&&mF (fun x es=>Q6 sc "_law_is_refused" x&&J0 sc Y5 Qlm es) x) t) s&&Qbj sc Y5 Qep r) ss
noncomputable def Qz0 (sc:Scope) (ss:List Stmt):Bool:=mC (fun st2 r=>Qt9 sc st2&&Qbj sc Y5 Qd4 (r.take 4)&&Ycd sc (r.drop 4)) ss
noncomputable def Qzr (sc:Scope) (ss:List Stmt):Bool:=mC (fun st1 r=>Qty sc st1&&Qbj sc Y5 Qlb (r.take 2)&&Qz0 sc (r.drop 2)) ss
noncomputable def Yfm (K:Frag) (HC TC XC RC:Addr):Bool:=Yfu K&&Yge K&&okK K "_law_pen" 1 Qdr Qua&&Qxm K HC&&Qp7 K HC TC&&Yc7 K HC TC&&Qot K XC RC&&okK K "thrown" 2 ["name","parts"] (Y1 "Thrown" ["name","parts"] Qkc) &&
 okK K "bounds_fault" 2 ["value","indices"] (Y1 "thrown" ["value","indices"] Qy5)&&okK K "view_of" 3 Yq Qgh&&okK K "_law_is_refused" 3 Qc2 Qeq&&okK K "law" 1 Y5 Qzr
noncomputable def Yhd:Option (Option Value)→Bool
 |some none=>true
 |_=>false
noncomputable def Qgl:List String:=["len","tuple","list","sorted","dict","isinstance","int","range","zip","enumerate","Exception"]
noncomputable def Qx7:Option (Addr×FuncData)→Bool
 |some (a,_)=>a==399
 |none=>false
noncomputable def Qon (K:Frag):Bool:=Yfm K 198 142 71 39&&Qx7 (fnK K "law")&&Qgl.all fun x=>Yhd (nsIn K mainGlobals (Str.ofString x))
section
open PySem PySem.W PySem.W.X PySem.W.ZRun PyProof.Rows
set_option maxHeartbeats 0
noncomputable abbrev PG:Program:=PySem.Challenge.pw_pq0698_01
noncomputable def Yan (l:List Stmt) (n:Nat) (ks:List Nat):List Stmt:=@List.rec Stmt (fun Y=>Nat→List Nat→List Stmt) (fun Y Y=>[]) (fun s Y ih n ks=>match ks with
  |[]=>[]
  |k::ks'=>@Bool.rec (fun Y=>List Stmt) (ih (n+1) ks) (s::ih (n+1) ks') (Nat.beq n k)) l n ks
noncomputable def vw:Program:={ PG with main:={ PG.main with body:=Yan PG.main.body 0 [0, 2, 3, 4, 7, 8, 9, 10, 11, 15, 16, 17, 19, 20, 21, 22, 23, 24, 25, 26, 27, 28, 29, 30, 31, 32, 33, 34, 35, 37, 38, 39, 40, 41, 43, 44, 45, 46, 47, 48, 49, 50, 51, 52] } }
noncomputable def lo:List Str:=["RowsError","int_value","named"]
noncomputable def frL (l:List Obj):Nat→Frag:=@List.rec Obj (fun Y=>Nat→Frag) (fun Y=>[]) (fun o Y ih n=>@Bool.rec (fun Y=>Frag) (ih (n+1)) ((n,o)::ih (n+1)) o.alive) l
noncomputable def Quw (h:Heap):Frag:=frL h.objs.toList 0
noncomputable abbrev Xt:Shared→Bool:=fun s=>xlAt vw [] s&&recOk (RowW.records PySem.Challenge.rw_pq0698_01.row.toRowW) s
theorem Ydk:PySem.Challenge.rw_pq0698_01.wellSaid=true:=by kernel_rfl
theorem left:LeftO PG vw lo Xt (fun s=>Qon (Quw s.heap)) (fun Y=>true) 5234:=fun w=>by
 delta openEnds fencedOpening topFrom openGood staticsOk namesBound
 rw [PySem.W.Fast.te4187177175401517315,PySem.W.Fast.te8920871248978507458,PySem.W.Fast.te10274390034422433532,PySem.W.Fast.te14364793385576792824,PySem.W.Fast.te1435165496053646825,PySem.W.Fast.te14289696077712309145,PySem.W.Fast.te14082659384304107361,PySem.W.Fast.te4857012375875476094,PySem.W.Fast.te7966671052430208091,PySem.W.Fast.te18344453789297297638,PySem.W.Fast.te3247288618530077131,PySem.W.Fast.te821141287760084731,PySem.W.Fast.te12749700546528644094,PySem.W.Fast.te1584917186373303978]
 kernel_rfl
end
set_option genInjectivity true
theorem gk (k:∀Z:Prop,(G→Z)→Z):G:=k G id
@[elab_as_elim] theorem eqR {α:Sort _} {a b:α} {M:α→Prop} (h:a=b) (k:M b):M a:=h▸k
@[elab_as_elim] theorem eqL {α:Sort _} {a b:α} {M:α→Prop} (h:a=b) (k:M a):M b:=h▸k
inductive QT
 |v (i:Nat)
 |k (n:Nat)
 |add (a b:QT)
 |sub (a b:QT)
 |neg (a:QT)
 |mul (n:Nat) (a:QT)
 |cast (a:QT)
 |toN (a:QT)
 |min (a b:QT)
 |max (a b:QT)
inductive QF
 |nlt (a b:QT)
 |nle (a b:QT)
 |neq (a b:QT)
 |ilt (a b:QT)
 |ile (a b:QT)
 |ieq (a b:QT)
 |imp (p q:QF)
 |and (p q:QF)
 |or (p q:QF)
 |not (p:QF)
 |fls
noncomputable def QT.ev (ρ:List Nat) (σ:List Int) (t:QT):Nat×Int:=t.rec (fun i=>(ρ.getD i 0,σ.getD i 0)) (fun n=>(n,(n:Int))) (fun Y Y x y=>(x.1+y.1,x.2+y.2)) (fun Y Y x y=>(x.1-y.1,x.2-y.2)) (fun Y x=>(0,-x.2)) (fun n Y x=>(n*x.1,(n:Int)*x.2)) (fun Y x=>(0,(x.1:Int))) (fun Y x=>(x.2.toNat,0))
 (fun Y Y x y=>(Nat.min x.1 y.1,0)) (fun Y Y x y=>(Nat.max x.1 y.1,0))
noncomputable def QF.sem (ρ:List Nat) (σ:List Int) (f:QF):Prop:=f.rec (fun a b=>(a.ev ρ σ).1<(b.ev ρ σ).1) (fun a b=>(a.ev ρ σ).1≤(b.ev ρ σ).1) (fun a b=>(a.ev ρ σ).1=(b.ev ρ σ).1) (fun a b=>(a.ev ρ σ).2<(b.ev ρ σ).2) (fun a b=>(a.ev ρ σ).2≤(b.ev ρ σ).2) (fun a b=>(a.ev ρ σ).2=(b.ev ρ σ).2)
 (fun Y Y p q=>p→q) (fun Y Y p q=>p∧q) (fun Y Y p q=>p∨q) (fun Y p=>¬p) False
noncomputable abbrev QL:=Int×List Int
noncomputable def Qtb:List Int→List Int→List Int
 |[],y=>y
 |x,[]=>x
 |a::x,b::y=>(a+b)::Qtb x y
noncomputable def Yew (k:Int) (x:List Int):List Int:=x.map (k*·)
noncomputable def Qfa (e:Nat→Int):List Int→Nat→Int
 |[],_=>0
 |a::x,i=>a*e i+Qfa e x (i+1)
theorem Qlr (e:Nat→Int):∀(x y:List Int) (i:Nat),Qfa e (Qtb x y) i=Qfa e x i+Qfa e y i
 |[],y,i=>(Int.zero_add _).symm
 |a::x,[],i=>(Int.add_zero _).symm
 |a::x,b::y,i=>by
  show (a+b)*e i+Qfa e (Qtb x y) (i+1)=a*e i+Qfa e x (i+1)+(b*e i+Qfa e y (i+1))
  rw [Qlr e x y,Int.add_mul,Int.add_assoc,Int.add_assoc,Int.add_left_comm (b*e i)]
theorem Qo5 (e:Nat→Int) (k:Int):∀(x:List Int) (i:Nat),Qfa e (Yew k x) i=k*Qfa e x i
 |[],i=>(Int.mul_zero k).symm
 |a::x,i=>by
  show k*a*e i+Qfa e (Yew k x) (i+1)=k*(a*e i+Qfa e x (i+1));rw [Qo5 e k x,Int.mul_add,Int.mul_assoc]
noncomputable def Qbx (e:Nat→Int) (l:QL):Int:=l.1+Qfa e l.2 0
noncomputable def QL.add (x y:QL):QL:=(x.1+y.1,Qtb x.2 y.2)
noncomputable def QL.sc (k:Int) (x:QL):QL:=(k*x.1,Yew k x.2)
theorem Qb4 (e:Nat→Int) (x y:QL):Qbx e (x.add y)=Qbx e x+Qbx e y:=by
 unfold Qbx QL.add;rw [Qlr,Int.add_assoc,Int.add_assoc,Int.add_left_comm y.1]
theorem Qbg (e:Nat→Int) (k:Int) (x:QL):Qbx e (x.sc k)=k*Qbx e x:=by
 unfold Qbx QL.sc;rw [Qo5,Int.mul_add]
noncomputable def QL.sub (x y:QL):QL:=x.add (y.sc (-1))
theorem Yz (e:Nat→Int) (x y:QL):Qbx e (x.sub y)=Qbx e x-Qbx e y:=by
 unfold QL.sub;rw [Qb4,Qbg,Int.neg_one_mul,Int.sub_eq_add_neg]
noncomputable def qlk (n:Int):QL:=(n,[])
theorem Qa3 (e:Nat→Int) (n:Int):Qbx e (qlk n)=n:=Int.add_zero n
noncomputable def Qok:Nat→List Int
 |0=>[1]
 |i+1=>0::Qok i
theorem Qik (e:Nat→Int):∀i j:Nat,Qfa e (Qok i) j=e (i+j)
 |0,j=>by show 1*e j+0=e (0+j);rw [Int.one_mul,Int.add_zero,Nat.zero_add]
 |i+1,j=>by show 0*e j+Qfa e (Qok i) (j+1)=e (i+1+j);rw [Qik e i,Int.zero_mul,Int.zero_add,Nat.add_right_comm,Nat.add_assoc]
noncomputable def qlv (i:Nat):QL:=(0,Qok i)
theorem Qrv (e:Nat→Int) (i:Nat):Qbx e (qlv i)=e i:=by
 show 0+Qfa e (Qok i) 0=e i;rw [Qik,Int.zero_add,Nat.add_zero]
noncomputable abbrev QA:=List (List QL×QL)
noncomputable def Qjv (x y:QA) (f:List QL→QL→QL→QA):QA:=x.flatMap fun p=>y.flatMap fun q=>f (p.1++q.1) p.2 q.2
noncomputable def QT.ways (t:QT):QA×QA:=t.rec (fun i=>([([],qlv (2*i))],[([],qlv (2*i+1))])) (fun n=>([([],qlk n)],[([],qlk n)]))
 (fun Y Y x y=>(Qjv x.1 y.1 fun c a b=>[(c,a.add b)],Qjv x.2 y.2 fun c a b=>[(c,a.add b)]))
 (fun Y Y x y=>(Qjv x.1 y.1 fun c a b=>[(a.sub b::c,a.sub b),(b.sub a::c,qlk 0)],Qjv x.2 y.2 fun c a b=>[(c,a.sub b)]))
 (fun Y x=>([([],qlk 0)],x.2.map fun p=>(p.1,p.2.sc (-1)))) (fun n Y x=>(x.1.map fun p=>(p.1,p.2.sc n),x.2.map fun p=>(p.1,p.2.sc n)))
 (fun Y x=>([([],qlk 0)],x.1)) (fun Y x=>(x.2.flatMap fun p=>[(p.2::p.1,p.2),(p.2.sc (-1)::p.1,qlk 0)],[([],qlk 0)]))
 (fun Y Y x y=>(Qjv x.1 y.1 fun c a b=>[(b.sub a::c,a),(a.sub b::c,b)],[([],qlk 0)]))
 (fun Y Y x y=>(Qjv x.1 y.1 fun c a b=>[(b.sub a::c,b),(a.sub b::c,a)],[([],qlk 0)]))
noncomputable def Qbs (e:Nat→Int) (c:List QL):Prop:=∀l∈c,0≤Qbx e l
noncomputable def Qev (e:Nat→Int) (w:QA) (x:Int):Prop:=∃p∈w,Qbs e p.1∧Qbx e p.2=x
theorem Qbs.cons {e:Nat→Int}{l:QL}{c:List QL}(h:0≤Qbx e l) (g:Qbs e c):Qbs e (l::c):=fun m hm=>by
 rcases List.mem_cons.mp hm with rfl|hm
 ·exact h
 ·exact g m hm
theorem Qbs.app {e:Nat→Int}{c d:List QL}(g:Qbs e c) (h:Qbs e d):Qbs e (c++d):=fun m hm=>(List.mem_append.mp hm).elim (g m) (h m)
theorem Qev.one {e:Nat→Int}{l:QL}{x:Int}(h:Qbx e l=x):Qev e [([],l)] x:=⟨_,.head _,fun Y q=>(by cases q),h⟩
theorem Qev.both {e:Nat→Int}{u v:QA}{x y z:Int}{f:List QL→QL→QL→QA}(h:Qev e u x) (k:Qev e v y) (hf:∀c a b,Qbs e c→Qbx e a=x→Qbx e b=y→Qev e (f c a b) z):Qev e (Qjv u v f) z:=by
 obtain ⟨p,hp,g,h⟩:=h;obtain ⟨q,hq,g',k⟩:=k;obtain ⟨r,hr,h1,h2⟩:=hf _ _ _ (g.app g') h k;exact ⟨r,List.mem_flatMap.mpr ⟨p,hp,List.mem_flatMap.mpr ⟨q,hq,hr⟩⟩,h1,h2⟩
theorem Qev.map {e:Nat→Int}{u:QA}{x z:Int}{f:QL→QL}(h:Qev e u x) (hf:∀a,Qbx e a=x→Qbx e (f a)=z):Qev e (u.map fun p=>(p.1,f p.2)) z:=by
 obtain ⟨p,hp,g,h⟩:=h;exact ⟨_,List.mem_map.mpr ⟨p,hp,rfl⟩,g,hf _ h⟩
noncomputable def Quz (ρ:List Nat) (σ:List Int) (i:Nat):Int:=cond (i % 2==0) (ρ.getD (i / 2) 0:Int) (σ.getD (i / 2) 0)
theorem Qvu (ρ:List Nat) (σ:List Int) (i:Nat):Quz ρ σ (2*i)=(ρ.getD i 0:Int):=by
 unfold Quz;rw [Nat.mul_mod_right,Nat.mul_div_cancel_left i (by decide)];rfl
theorem Yav (ρ:List Nat) (σ:List Int) (i:Nat):Quz ρ σ (2*i+1)=σ.getD i 0:=by
 unfold Quz;have h1:(2*i+1) % 2=1:=Nat.mul_add_mod 2 i 1;have h2:(2*i+1) / 2=i:=Nat.mul_add_div (by decide) i 1;rw [h1,h2];rfl
theorem nnI {a b:Int}(h:a≤b):0≤b-a:=Int.sub_nonneg_of_le h
theorem nnN {a b:Nat}(h:a≤b):(0:Int)≤(b:Int)-a:=nnI (Int.ofNat_le.mpr h)
theorem ltI {a b:Int}(h:a<b):0≤b-a-1:=by rw [Int.sub_sub];exact nnI h
theorem Qdk (ρ:List Nat) (σ:List Int) (t:QT):Qev (Quz ρ σ) t.ways.1 ((t.ev ρ σ).1:Int)∧Qev (Quz ρ σ) t.ways.2 (t.ev ρ σ).2:=by
 induction t with
 |v i=>exact ⟨.one ((Qrv _ _).trans (Qvu ρ σ i)),.one ((Qrv _ _).trans (Yav ρ σ i))⟩
 |k n=>exact ⟨.one (Qa3 _ _),.one (Qa3 _ _)⟩
 |add a b x y=>
  exact ⟨Qev.both (f:=fun c a b=>[(c,a.add b)]) x.1 y.1 fun c p q g h k=>⟨_,.head _,g,(Qb4 _ _ _).trans (by rw [h,k];rfl)⟩,Qev.both (f:=fun c a b=>[(c,a.add b)]) x.2 y.2 fun c p q g h k=>⟨_,.head _,g,(Qb4 _ _ _).trans (by rw [h,k];rfl)⟩⟩
 |sub a b x y=>
  refine ⟨Qev.both (f:=fun c a b=>[(a.sub b::c,a.sub b),(b.sub a::c,qlk 0)]) x.1 y.1 fun c p q g h k=>?_,Qev.both (f:=fun c a b=>[(c,a.sub b)]) x.2 y.2 fun c p q g h k=>⟨_,.head _,g,(Yz _ _ _).trans (by rw [h,k];rfl)⟩⟩
  ·by_cases hl:(b.ev ρ σ).1≤(a.ev ρ σ).1
   ·exact ⟨_,.head _,g.cons (by rw [Yz,h,k];exact nnN hl),(Yz _ _ _).trans (by rw [h,k];exact (Int.ofNat_sub hl).symm)⟩
   ·exact ⟨_,.tail _ (.head _),g.cons (by rw [Yz,h,k];exact nnN (Nat.le_of_not_le hl)),(Qa3 _ _).trans (by show (0:Int)=(((a.ev ρ σ).1-(b.ev ρ σ).1:Nat):Int);rw [Nat.sub_eq_zero_of_le (Nat.le_of_not_le hl)];rfl)⟩
 |neg a x=>exact ⟨.one (Qa3 _ _),x.2.map fun p h=>(Qbg _ _ _).trans (by rw [h,Int.neg_one_mul];rfl)⟩
 |mul n a x=>exact ⟨x.1.map fun p h=>(Qbg _ _ _).trans (by rw [h];rfl),x.2.map fun p h=>(Qbg _ _ _).trans (by rw [h];rfl)⟩
 |cast a x=>exact ⟨.one (Qa3 _ _),x.1⟩
 |toN a x=>
  refine ⟨?_,.one (Qa3 _ _)⟩;obtain ⟨p,hp,g,h⟩:=x.2;by_cases hl:0≤(a.ev ρ σ).2
  ·exact ⟨_,List.mem_flatMap.mpr ⟨p,hp,.head _⟩,g.cons (by rw [h];exact hl),h.trans (Int.toNat_of_nonneg hl).symm⟩
  ·exact ⟨_,List.mem_flatMap.mpr ⟨p,hp,.tail _ (.head _)⟩,g.cons (by rw [Qbg,h,Int.neg_one_mul];exact Int.neg_nonneg_of_nonpos (Int.le_of_lt (Int.not_le.mp hl))),(Qa3 _ _).trans (by show (0:Int)=((a.ev ρ σ).2.toNat:Int);rw [Int.toNat_of_nonpos (Int.le_of_lt (Int.not_le.mp hl))];rfl)⟩
 |min a b x y=>
  refine ⟨Qev.both (f:=fun c a b=>[(b.sub a::c,a),(a.sub b::c,b)]) x.1 y.1 fun c p q g h k=>?_,.one (Qa3 _ _)⟩;have e:(((QT.min a b).ev ρ σ).1:Int)=((min (a.ev ρ σ).1 (b.ev ρ σ).1:Nat):Int):=rfl;rw [e];by_cases hl:(a.ev ρ σ).1≤(b.ev ρ σ).1
  ·exact ⟨_,.head _,g.cons (by rw [Yz,h,k];exact nnN hl),h.trans (by rw [Nat.min_eq_left hl])⟩
  ·exact ⟨_,.tail _ (.head _),g.cons (by rw [Yz,h,k];exact nnN (Nat.le_of_not_le hl)),k.trans (by rw [Nat.min_eq_right (Nat.le_of_not_le hl)])⟩
 |max a b x y=>
  refine ⟨Qev.both (f:=fun c a b=>[(b.sub a::c,b),(a.sub b::c,a)]) x.1 y.1 fun c p q g h k=>?_,.one (Qa3 _ _)⟩;have e:(((QT.max a b).ev ρ σ).1:Int)=((max (a.ev ρ σ).1 (b.ev ρ σ).1:Nat):Int):=rfl;rw [e];by_cases hl:(a.ev ρ σ).1≤(b.ev ρ σ).1
  ·exact ⟨_,.head _,g.cons (by rw [Yz,h,k];exact nnN hl),k.trans (by rw [Nat.max_eq_right hl])⟩
  ·exact ⟨_,.tail _ (.head _),g.cons (by rw [Yz,h,k];exact nnN (Nat.le_of_not_le hl)),h.trans (by rw [Nat.max_eq_left (Nat.le_of_not_le hl)])⟩
noncomputable abbrev QB:=List (List QL)
noncomputable def Yhf (x y:QA) (f:QL→QL→QB):QB:=x.flatMap fun p=>y.flatMap fun q=>(f p.2 q.2).map fun l=>l++(p.1++q.1)
noncomputable def qlt (a b:QL):QL:=(b.sub a).add (qlk (-1))
noncomputable def Qac (x y:QA) (k:Nat) (pos:Bool):QB:=Yhf x y fun a b=>match k,pos with
 |0,true=>[[qlt a b]]
 |0,false=>[[a.sub b]]
 |1,true=>[[b.sub a]]
 |1,false=>[[qlt b a]]
 |_,true=>[[a.sub b,b.sub a]]
 |_,false=>[[qlt a b],[qlt b a]]
noncomputable def Qtd (x y:QB):QB:=x.flatMap fun p=>y.map fun q=>p++q
noncomputable def QF.dn (f:QF):QB×QB:=f.rec (fun a b=>(Qac a.ways.1 b.ways.1 0 true,Qac a.ways.1 b.ways.1 0 false)) (fun a b=>(Qac a.ways.1 b.ways.1 1 true,Qac a.ways.1 b.ways.1 1 false)) (fun a b=>(Qac a.ways.1 b.ways.1 2 true,Qac a.ways.1 b.ways.1 2 false))
 (fun a b=>(Qac a.ways.2 b.ways.2 0 true,Qac a.ways.2 b.ways.2 0 false)) (fun a b=>(Qac a.ways.2 b.ways.2 1 true,Qac a.ways.2 b.ways.2 1 false)) (fun a b=>(Qac a.ways.2 b.ways.2 2 true,Qac a.ways.2 b.ways.2 2 false))
 (fun Y Y p q=>(p.2++q.1,Qtd p.1 q.2)) (fun Y Y p q=>(Qtd p.1 q.1,p.2++q.2)) (fun Y Y p q=>(p.1++q.1,Qtd p.2 q.2)) (fun Y p=>(p.2,p.1)) ([],[[]])
noncomputable def qBr (e:Nat→Int) (b:QB):Prop:=∃c∈b,Qbs e c
theorem qBr.l {e:Nat→Int}{x y:QB}(h:qBr e x):qBr e (x++y):=let ⟨c,h1,h2⟩:=h;⟨c,List.mem_append.mpr (.inl h1),h2⟩
theorem qBr.r {e:Nat→Int}{x y:QB}(h:qBr e y):qBr e (x++y):=let ⟨c,h1,h2⟩:=h;⟨c,List.mem_append.mpr (.inr h1),h2⟩
theorem qBr.conj {e:Nat→Int}{x y:QB}(h:qBr e x) (k:qBr e y):qBr e (Qtd x y):=
 let ⟨c,h1,h2⟩:=h
 let ⟨d,k1,k2⟩:=k
 ⟨_,List.mem_flatMap.mpr ⟨c,h1,List.mem_map.mpr ⟨d,k1,rfl⟩⟩,h2.app k2⟩
theorem Qvy {e:Nat→Int}{u v:QA}{x y:Int}{f:QL→QL→QB}(h:Qev e u x) (k:Qev e v y) (hf:∀a b,Qbx e a=x→Qbx e b=y→qBr e (f a b)):qBr e (Yhf u v f):=by
 obtain ⟨p,hp,g,h⟩:=h;obtain ⟨q,hq,g',k⟩:=k;obtain ⟨c,h1,h2⟩:=hf _ _ h k;exact ⟨_,List.mem_flatMap.mpr ⟨p,hp,List.mem_flatMap.mpr ⟨q,hq,List.mem_map.mpr ⟨c,h1,rfl⟩⟩⟩,h2.app (g.app g')⟩
theorem qBr.one {e:Nat→Int}{l:QL}{b:QB}(h:0≤Qbx e l):qBr e ([l]::b):=⟨_,.head _,Qbs.cons h fun Y q=>(by cases q)⟩
theorem Qgw {e:Nat→Int}{a b:QL}:Qbx e (qlt a b)=Qbx e b-Qbx e a-1:=by unfold qlt;rw [Qb4,Yz,Qa3];rfl
theorem Qku {e:Nat→Int}{u v:QA}{x y:Int}(h:Qev e u x) (k:Qev e v y):(x<y→qBr e (Qac u v 0 true))∧(¬x<y→qBr e (Qac u v 0 false))∧(x≤y→qBr e (Qac u v 1 true))∧(¬x≤y→qBr e (Qac u v 1 false))∧(x=y→qBr e (Qac u v 2 true))∧(¬x=y→qBr e (Qac u v 2 false)):=by
 refine ⟨fun q=>?_,fun q=>?_,fun q=>?_,fun q=>?_,fun q=>?_,fun q=>?_⟩<;>refine Qvy h k fun a b ha hb=>?_
 ·exact .one (by rw [Qgw,ha,hb];exact ltI q)
 ·exact .one (by rw [Yz,ha,hb];exact nnI (Int.not_lt.mp q))
 ·exact .one (by rw [Yz,ha,hb];exact nnI q)
 ·exact .one (by rw [Qgw,ha,hb];exact ltI (Int.not_le.mp q))
 ·exact ⟨_,.head _,.cons (by rw [Yz,ha,hb];first|exact nnI (Int.le_of_eq q)|exact nnI (Int.le_of_eq q.symm)) (.cons (by rw [Yz,ha,hb];first|exact nnI (Int.le_of_eq q)|exact nnI (Int.le_of_eq q.symm)) fun Y q=>(by cases q))⟩
 ·rcases Int.lt_or_gt_of_ne q with q|q
  ·exact .one (by rw [Qgw,ha,hb];exact ltI q)
  ·exact ⟨_,.tail _ (.head _),.cons (by rw [Qgw,ha,hb];exact ltI q) fun Y q=>(by cases q)⟩
theorem Qzm (ρ:List Nat) (σ:List Int) (f:QF):(f.sem ρ σ→qBr (Quz ρ σ) f.dn.1)∧(¬f.sem ρ σ→qBr (Quz ρ σ) f.dn.2):=by
 have n (a b:QT):=Qku (Qdk ρ σ a).1 (Qdk ρ σ b).1;have i (a b:QT):=Qku (Qdk ρ σ a).2 (Qdk ρ σ b).2
 induction f with
 |nlt a b=>exact ⟨fun h=>(n a b).1 (Int.ofNat_lt.mpr h),fun h=>(n a b).2.1 fun q=>h (Int.ofNat_lt.mp q)⟩
 |nle a b=>exact ⟨fun h=>(n a b).2.2.1 (Int.ofNat_le.mpr h),fun h=>(n a b).2.2.2.1 fun q=>h (Int.ofNat_le.mp q)⟩
 |neq a b=>exact ⟨fun h=>(n a b).2.2.2.2.1 (congrArg _ h),fun h=>(n a b).2.2.2.2.2 fun q=>h (Int.ofNat.inj q)⟩
 |ilt a b=>exact ⟨(i a b).1,(i a b).2.1⟩
 |ile a b=>exact ⟨(i a b).2.2.1,(i a b).2.2.2.1⟩
 |ieq a b=>exact ⟨(i a b).2.2.2.2.1,(i a b).2.2.2.2.2⟩
 |imp p q x y=>
  refine ⟨fun h=>?_,fun h=>(x.1 ?_).conj (y.2 fun k=>h fun Y=>k)⟩
  ·by_cases hp:p.sem ρ σ
   ·exact (y.1 (h hp)).r
   ·exact (x.2 hp).l
  ·exact Classical.byContradiction fun k=>h fun l=>absurd l k
 |and p q x y=>
  refine ⟨fun h=>(x.1 h.1).conj (y.1 h.2),fun h=>?_⟩;by_cases hp:p.sem ρ σ
  ·exact (y.2 fun k=>h ⟨hp,k⟩).r
  ·exact (x.2 hp).l
 |or p q x y=>exact ⟨fun h=>h.elim (fun h=>(x.1 h).l) fun h=>(y.1 h).r,fun h=>(x.2 fun k=>h (.inl k)).conj (y.2 fun k=>h (.inr k))⟩
 |not p x=>exact ⟨x.2,fun h=>x.1 (Classical.not_not.mp h)⟩
 |fls=>exact ⟨False.elim,fun Y=>⟨_,.head _,fun Y q=>(by cases q)⟩⟩
noncomputable def qhd (l:QL):Int:=l.2.headD 0
noncomputable def qtl (l:QL):QL:=(l.1,l.2.tail)
noncomputable def Qz1 (cs:List QL):List QL:=(cs.filter fun l=>qhd l==0).map qtl++(cs.filter fun l=>decide (0<qhd l)).flatMap fun p=>(cs.filter fun l=>decide (qhd l<0)).map fun n=>((qtl p).sc (-qhd n)).add ((qtl n).sc (qhd p))
noncomputable def Qr2:Nat→List QL→Bool
 |0,cs=>cs.any fun l=>decide (l.1<0)&&l.2.all (·==0)
 |n+1,cs=>Qr2 n (Qz1 cs)
theorem Qff (e:Nat→Int):∀(x:List Int) (i:Nat),Qfa (fun k=>e (k+1)) x i=Qfa e x (i+1)
 |[],_=>rfl
 |a::x,i=>congrArg (a*e (i+1)+·) (Qff e x (i+1))
theorem Qfg (e:Nat→Int) (l:QL):Qbx e l=qhd l*e 0+Qbx (fun k=>e (k+1)) (qtl l):=by
 obtain ⟨c,x⟩:=l;cases x with
 |nil=>show c+0=0*e 0+(c+0);rw [Int.zero_mul,Int.zero_add]
 |cons a x=>show c+(a*e 0+Qfa e x 1)=a*e 0+(c+Qfa (fun k=>e (k+1)) x 0);rw [Qff,Int.add_left_comm]
theorem Quk {e:Nat→Int}{cs:List QL}(g:Qbs e cs):Qbs (fun k=>e (k+1)) (Qz1 cs):=fun l hl=>by
 rcases List.mem_append.mp hl with hl|hl
 ·obtain ⟨m,hm,rfl⟩:=List.mem_map.mp hl;obtain ⟨h1,h2⟩:=List.mem_filter.mp hm;have:=g m h1;rw [Qfg,eq_of_beq h2,Int.zero_mul,Int.zero_add]at this;exact this
 ·obtain ⟨p,hp,hl⟩:=List.mem_flatMap.mp hl;obtain ⟨n,hn,rfl⟩:=List.mem_map.mp hl;obtain ⟨p1,p2⟩:=List.mem_filter.mp hp;obtain ⟨n1,n2⟩:=List.mem_filter.mp hn;have p2:=of_decide_eq_true p2;have n2:=of_decide_eq_true n2;have a:=Int.mul_nonneg (Int.le_of_lt (Int.neg_pos_of_neg n2)) (g p p1);have b:=Int.mul_nonneg (Int.le_of_lt p2) (g n n1);rw [Qfg,Int.mul_add]at a b;rw [Qb4,Qbg,Qbg];have c:-qhd n*(qhd p*e 0)+qhd p*(qhd n*e 0)=0:=by rw [Int.neg_mul,Int.mul_left_comm (qhd p)];exact Int.add_left_neg _
  omega
theorem Qvj (e:Nat→Int):∀(x:List Int) (i:Nat),x.all (·==0)=true→Qfa e x i=0
 |[],_,_=>rfl
 |a::x,i,h=>by
  obtain ⟨h1,h2⟩:=Bool.and_eq_true_iff.mp h;show a*e i+Qfa e x (i+1)=0;rw [Qvj e x _ h2,eq_of_beq h1,Int.zero_mul];rfl
theorem Qi0:∀(n:Nat) {e:Nat→Int}{cs:List QL},Qr2 n cs=true→¬Qbs e cs
 |0,e,cs,h,g=>by
  obtain ⟨l,h1,h2⟩:=List.any_eq_true.mp h;obtain ⟨h3,h4⟩:=Bool.and_eq_true_iff.mp h2;have:=g l h1;unfold Qbx at this;rw [Qvj e _ _ h4]at this;have h3:=of_decide_eq_true h3;omega
 |n+1,e,cs,h,g=>Qi0 n h (Quk g)
noncomputable def Qwg (n:Nat):List QL:=(List.range n).map fun i=>qlv (2*i)
noncomputable def QF.chk (n:Nat) (f:QF):Bool:=f.dn.2.all fun c=>Qr2 (2*n) (c++Qwg n)
theorem QF.ok (f:QF) (n:Nat) (h:f.chk n=true) (ρ:List Nat) (σ:List Int):f.sem ρ σ:=Classical.byContradiction fun q=>by
 obtain ⟨c,h1,h2⟩:=(Qzm ρ σ f).2 q;refine Qi0 _ (List.all_eq_true.mp h c h1) (h2.app fun l hl=>?_);obtain ⟨i,_,rfl⟩:=List.mem_map.mp hl;rw [Qrv,Qvu];exact Int.natCast_nonneg _
noncomputable def qpt:Nat→Nat→QT×Nat
 |0,n=>(.k 0,n)
 |f+1,n=>match n % 16 with
  |0=>(.v 0,n / 16)
  |1=>(.v 1,n / 16)
  |2=>(.v 2,n / 16)
  |3=>(.v 3,n / 16)
  |4=>(.v (n / 16 % 16),n / 256)
  |5=>(.k (n / 16 % 16),n / 256)
  |6=>(.k (n / 256 % 16 ^ (n / 16 % 16)),n / 256 / 16 ^ (n / 16 % 16))
  |7=>let a:=qpt f (n / 16);let b:=qpt f a.2;(.add a.1 b.1,b.2)
  |8=>let a:=qpt f (n / 16);let b:=qpt f a.2;(.sub a.1 b.1,b.2)
  |9=>let a:=qpt f (n / 16);(.neg a.1,a.2)
  |10=>let a:=qpt f (n / 16);(.cast a.1,a.2)
  |11=>let a:=qpt f (n / 16);(.toN a.1,a.2)
  |12=>let a:=qpt f (n / 16);let b:=qpt f a.2;(.min a.1 b.1,b.2)
  |13=>let a:=qpt f (n / 16);let b:=qpt f a.2;(.max a.1 b.1,b.2)
  |_=>let a:=qpt f (n / 256);(.mul (n / 16 % 16) a.1,a.2)
noncomputable def qpf:Nat→Nat→QF×Nat
 |0,n=>(.fls,n)
 |f+1,n=>match n % 16 with
  |0=>let a:=qpt 40 (n / 16);let b:=qpt 40 a.2;(.nlt a.1 b.1,b.2)
  |1=>let a:=qpt 40 (n / 16);let b:=qpt 40 a.2;(.nle a.1 b.1,b.2)
  |2=>let a:=qpt 40 (n / 16);let b:=qpt 40 a.2;(.neq a.1 b.1,b.2)
  |3=>let a:=qpt 40 (n / 16);let b:=qpt 40 a.2;(.ilt a.1 b.1,b.2)
  |4=>let a:=qpt 40 (n / 16);let b:=qpt 40 a.2;(.ile a.1 b.1,b.2)
  |5=>let a:=qpt 40 (n / 16);let b:=qpt 40 a.2;(.ieq a.1 b.1,b.2)
  |6=>let a:=qpf f (n / 16);let b:=qpf f a.2;(.imp a.1 b.1,b.2)
  |7=>let a:=qpf f (n / 16);let b:=qpf f a.2;(.and a.1 b.1,b.2)
  |8=>let a:=qpf f (n / 16);let b:=qpf f a.2;(.or a.1 b.1,b.2)
  |9=>let a:=qpf f (n / 16);(.not a.1,a.2)
  |_=>(.fls,n / 16)
theorem Z01 (cc:Nat) (hh:(qpf 40 cc).1.chk 1=true:=by kernel_rfl):(qpf 40 cc).1.sem [] [u]:=QF.ok _ _ hh _ _
theorem Z02 (cc:Nat) {v:Int}(hh:(qpf 40 cc).1.chk 2=true:=by kernel_rfl):(qpf 40 cc).1.sem [] [u,v]:=QF.ok _ _ hh _ _
theorem Z03 (cc:Nat) {v w:Int}(hh:(qpf 40 cc).1.chk 3=true:=by kernel_rfl):(qpf 40 cc).1.sem [] [u,v,w]:=QF.ok _ _ hh _ _
theorem Z04 (cc:Nat) {v w x:Int}(hh:(qpf 40 cc).1.chk 4=true:=by kernel_rfl):(qpf 40 cc).1.sem [] [u,v,w,x]:=QF.ok _ _ hh _ _
theorem Z10 (cc:Nat) {a:Nat}(hh:(qpf 40 cc).1.chk 1=true:=by kernel_rfl):(qpf 40 cc).1.sem [a] []:=QF.ok _ _ hh _ _
theorem Z11 (cc:Nat) {a:Nat}(hh:(qpf 40 cc).1.chk 1=true:=by kernel_rfl):(qpf 40 cc).1.sem [a] [u]:=QF.ok _ _ hh _ _
theorem Z12 (cc:Nat) {a:Nat}{v:Int}(hh:(qpf 40 cc).1.chk 2=true:=by kernel_rfl):(qpf 40 cc).1.sem [a] [u,v]:=QF.ok _ _ hh _ _
theorem Z13 (cc:Nat) {a:Nat}{v w:Int}(hh:(qpf 40 cc).1.chk 3=true:=by kernel_rfl):(qpf 40 cc).1.sem [a] [u,v,w]:=QF.ok _ _ hh _ _
theorem Z20 (cc:Nat) {a b:Nat}(hh:(qpf 40 cc).1.chk 2=true:=by kernel_rfl):(qpf 40 cc).1.sem [a,b] []:=QF.ok _ _ hh _ _
theorem Z21 (cc:Nat) {a b:Nat}(hh:(qpf 40 cc).1.chk 2=true:=by kernel_rfl):(qpf 40 cc).1.sem [a,b] [u]:=QF.ok _ _ hh _ _
theorem Z30 (cc:Nat) {a b c:Nat}(hh:(qpf 40 cc).1.chk 3=true:=by kernel_rfl):(qpf 40 cc).1.sem [a,b,c] []:=QF.ok _ _ hh _ _
theorem Z40 (cc:Nat) {a b c d:Nat}(hh:(qpf 40 cc).1.chk 4=true:=by kernel_rfl):(qpf 40 cc).1.sem [a,b,c,d] []:=QF.ok _ _ hh _ _
inductive X2 {t0 t1:Type} (p:t0→t1→Prop):Prop
 |mk (x0:t0) (x1:t1) (h:p x0 x1)
inductive X3 {t0 t1 t2:Type} (p:t0→t1→t2→Prop):Prop
 |mk (x0:t0) (x1:t1) (x2:t2) (h:p x0 x1 x2)
inductive X4 {t0 t1 t2 t3:Type} (p:t0→t1→t2→t3→Prop):Prop
 |mk (x0:t0) (x1:t1) (x2:t2) (x3:t3) (h:p x0 x1 x2 x3)
inductive X5 {t0 t1 t2 t3 t4:Type} (p:t0→t1→t2→t3→t4→Prop):Prop
 |mk (x0:t0) (x1:t1) (x2:t2) (x3:t3) (x4:t4) (h:p x0 x1 x2 x3 x4)
inductive X6 {t0 t1 t2 t3 t4 t5:Type} (p:t0→t1→t2→t3→t4→t5→Prop):Prop
 |mk (x0:t0) (x1:t1) (x2:t2) (x3:t3) (x4:t4) (x5:t5) (h:p x0 x1 x2 x3 x4 x5)
inductive X7 {t0 t1 t2 t3 t4 t5 t6:Type} (p:t0→t1→t2→t3→t4→t5→t6→Prop):Prop
 |mk (x0:t0) (x1:t1) (x2:t2) (x3:t3) (x4:t4) (x5:t5) (x6:t6) (h:p x0 x1 x2 x3 x4 x5 x6)
inductive X9 {t0 t1 t2 t3 t4 t5 t6 t7 t8:Type} (p:t0→t1→t2→t3→t4→t5→t6→t7→t8→Prop):Prop
 |mk (x0:t0) (x1:t1) (x2:t2) (x3:t3) (x4:t4) (x5:t5) (x6:t6) (x7:t7) (x8:t8) (h:p x0 x1 x2 x3 x4 x5 x6 x7 x8)
inductive X10 {t0 t1 t2 t3 t4 t5 t6 t7 t8 t9:Type} (p:t0→t1→t2→t3→t4→t5→t6→t7→t8→t9→Prop):Prop
 |mk (x0:t0) (x1:t1) (x2:t2) (x3:t3) (x4:t4) (x5:t5) (x6:t6) (x7:t7) (x8:t8) (x9:t9) (h:p x0 x1 x2 x3 x4 x5 x6 x7 x8 x9)
inductive X11 {t0 t1 t2 t3 t4 t5 t6 t7 t8 t9 t10:Type} (p:t0→t1→t2→t3→t4→t5→t6→t7→t8→t9→t10→Prop):Prop
 |mk (x0:t0) (x1:t1) (x2:t2) (x3:t3) (x4:t4) (x5:t5) (x6:t6) (x7:t7) (x8:t8) (x9:t9) (x10:t10) (h:p x0 x1 x2 x3 x4 x5 x6 x7 x8 x9 x10)
inductive X12 {t0 t1 t2 t3 t4 t5 t6 t7 t8 t9 t10 t11:Type} (p:t0→t1→t2→t3→t4→t5→t6→t7→t8→t9→t10→t11→Prop):Prop
 |mk (x0:t0) (x1:t1) (x2:t2) (x3:t3) (x4:t4) (x5:t5) (x6:t6) (x7:t7) (x8:t8) (x9:t9) (x10:t10) (x11:t11) (h:p x0 x1 x2 x3 x4 x5 x6 x7 x8 x9 x10 x11)
inductive X14 {t0 t1 t2 t3 t4 t5 t6 t7 t8 t9 t10 t11 t12 t13:Type} (p:t0→t1→t2→t3→t4→t5→t6→t7→t8→t9→t10→t11→t12→t13→Prop):Prop
 |mk (x0:t0) (x1:t1) (x2:t2) (x3:t3) (x4:t4) (x5:t5) (x6:t6) (x7:t7) (x8:t8) (x9:t9) (x10:t10) (x11:t11) (x12:t12) (x13:t13) (h:p x0 x1 x2 x3 x4 x5 x6 x7 x8 x9 x10 x11 x12 x13)
inductive X15 {t0 t1 t2 t3 t4 t5 t6 t7 t8 t9 t10 t11 t12 t13 t14:Type} (p:t0→t1→t2→t3→t4→t5→t6→t7→t8→t9→t10→t11→t12→t13→t14→Prop):Prop
 |mk (x0:t0) (x1:t1) (x2:t2) (x3:t3) (x4:t4) (x5:t5) (x6:t6) (x7:t7) (x8:t8) (x9:t9) (x10:t10) (x11:t11) (x12:t12) (x13:t13) (x14:t14) (h:p x0 x1 x2 x3 x4 x5 x6 x7 x8 x9 x10 x11 x12 x13 x14)
inductive X16 {t0 t1 t2 t3 t4 t5 t6 t7 t8 t9 t10 t11 t12 t13 t14 t15:Type} (p:t0→t1→t2→t3→t4→t5→t6→t7→t8→t9→t10→t11→t12→t13→t14→t15→Prop):Prop
 |mk (x0:t0) (x1:t1) (x2:t2) (x3:t3) (x4:t4) (x5:t5) (x6:t6) (x7:t7) (x8:t8) (x9:t9) (x10:t10) (x11:t11) (x12:t12) (x13:t13) (x14:t14) (x15:t15) (h:p x0 x1 x2 x3 x4 x5 x6 x7 x8 x9 x10 x11 x12 x13 x14 x15)
inductive A3 (p0 p1 p2:Prop):Prop
 |mk (h0:p0) (h1:p1) (h2:p2)
inductive A4 (p0 p1 p2 p3:Prop):Prop
 |mk (h0:p0) (h1:p1) (h2:p2) (h3:p3)
inductive A5 (p0 p1 p2 p3 p4:Prop):Prop
 |mk (h0:p0) (h1:p1) (h2:p2) (h3:p3) (h4:p4)
inductive A6 (p0 p1 p2 p3 p4 p5:Prop):Prop
 |mk (h0:p0) (h1:p1) (h2:p2) (h3:p3) (h4:p4) (h5:p5)
inductive A7 (p0 p1 p2 p3 p4 p5 p6:Prop):Prop
 |mk (h0:p0) (h1:p1) (h2:p2) (h3:p3) (h4:p4) (h5:p5) (h6:p6)
inductive A8 (p0 p1 p2 p3 p4 p5 p6 p7:Prop):Prop
 |mk (h0:p0) (h1:p1) (h2:p2) (h3:p3) (h4:p4) (h5:p5) (h6:p6) (h7:p7)
noncomputable abbrev Z:=Addr→Option Obj
variable {z z' z1 z'':Z}{St:Nat→Z→Heap→Prop}
inductive Hd
 |pen|heap|thing|flds|raw
 deriving DecidableEq
inductive D
 |none
 |bool (b:Bool)
 |int (i:Int)
 |str (x:Str)
 |tup (xs:List D)
 |lst (xs:List D)
 |dct (kvs:List (List Int×D))
 |hnd (k:Hd)
 deriving Inhabited
variable {d b y da c db vd c':D}{xs ds sz ys szd parts zs:List D}{gl:String→Option D}{es kvs:List (List Int×D)}{ρ0:List (Option D)}{val:List Int→D}{lss:List (List D)}
structure Gm where
 pA:Addr
 hA:Addr
 tA:Addr
 fA:Addr
 has:Bool
 two:Bool
 szs:List D
variable {Γ Γ':Gm}
noncomputable def Gm.at (Γ:Gm):Hd→Addr
 |.pen=>Γ.pA
 |.heap=>Γ.hA
 |.thing=>Γ.tA
 |.flds=>Γ.fA
 |.raw=>Γ.hA
noncomputable def Gm.free (Γ:Gm) (a:Addr):Prop:=(Γ.has=true→a≠Γ.pA)∧(Γ.two=true→a≠Γ.fA)
noncomputable def Gm.ok (Γ:Gm):Hd→Prop
 |.pen=>Γ.has=true
 |.raw=>Γ.has=true
 |_=>Γ.two=true
noncomputable def Ydt (hB:Heap):Prop:=X2 fun a o=>hB.get? a=some o∧sysModules<a
noncomputable abbrev Qae (vs:List Value) (n:Nat):Obj:={ cls:=.type "tuple",data:=.seq vs.toArray n }
noncomputable abbrev Vs (vs:List Value) (n:Nat):Obj:={ cls:=.type "list",data:=.seq vs.toArray n }
noncomputable def ZIn (z:Z) (h:Heap):Prop:=∀a o,z a=some o→h.get? a=some o
noncomputable def ZLe (z z':Z):Prop:=∀a o,z a=some o→z' a=some o
theorem ZLe.refl (z:Z):ZLe z z:=fun Y Y e=>e
theorem ZLe.trans {a b c:Z}(x:ZLe a b) (y:ZLe b c):ZLe a c:=fun Y Y e=>y _ _ (x _ _ e)
section
variable (P:Program) (w:World)
noncomputable abbrev tk:HeapKind P w (List Int):=tupleKind (PySem.intKind P w)
noncomputable def Qey (z:Z) (a:Addr) (xs:List (List Int×Addr×Value)):Prop:=
 X3 fun o es ep=>A7 (z a=some o) o.ExactDict (o.data=.dict es ep) (es.toList=xs.map (entryOfKey (tk P w))) (∀x∈xs,X2 fun vs n=>z x.2.1=some (Qae vs n)∧ItemsAre (PySem.intKind P w) x.1 vs) ((xs.map (·.1)).Nodup) ((a==sysModules)=false)
theorem Qey.inH {xs}(x:Qey P w z a xs) (hz:ZIn z h):h.DictOfH (tk P w) a xs:=by
 obtain ⟨o,es,ep,h1,h2,h3,h4,h5,h6,_⟩:=x;refine ⟨o,es,ep,hz _ _ h1,h2,h3,h4,fun y hy=>?_,h6⟩;obtain ⟨vs,n,e,hi⟩:=h5 y hy;exact ⟨_,vs.toArray,n,hz _ _ e,rfl,rfl,hi⟩
theorem Qey.le {xs}(x:Qey P w z a xs) (hz:ZLe z z'):Qey P w z' a xs:=by
 obtain ⟨o,es,ep,h1,h2,h3,h4,h5,h6,h7⟩:=x;refine ⟨o,es,ep,hz _ _ h1,h2,h3,h4,fun y hy=>?_,h6,h7⟩;obtain ⟨vs,n,e,hi⟩:=h5 y hy;exact ⟨vs,n,hz _ _ e,hi⟩
end
section
variable (P:Program) (w:World) (Γ:Gm)
mutual
inductive Rd (z:Z):Value→D→Prop
 |none:Rd z .none .none
 |bool (b:Bool):Rd z (.bool b) (.bool b)
 |int (i:Int) (t:Tok):Rd z (.int i t) (.int i)
 |str (x:Str) (t:Tok):Rd z (.str x t) (.str x)
 |tup {a:Addr} {vs:List Value} {xs:List D} {n:Nat}:z a=some (Qae vs n)→Rds z vs xs→Rd z (.ref a) (.tup xs)
 |lst {a:Addr} {vs:List Value} {xs:List D} {n:Nat}:z a=some (Vs vs n)→Rds z vs xs→Rd z (.ref a) (.lst xs)
 |dct {a:Addr} {es:List (List Int×Addr×Value)} {ks:List (List Int)} {xs:List D}:Qey P w z a es→ks=es.map (·.1)→Rds z (es.map fun x=>x.2.2) xs →
   Rd z (.ref a) (.dct (ks.zip xs))
 |hnd (k:Hd):Γ.ok k→Rd z (.ref (Γ.at k)) (.hnd k)
inductive Rds (z:Z):List Value→List D→Prop
 |nil:Rds z [] []
 |cons {v:Value} {d:D} {vs:List Value} {ds:List D}:Rd z v d→Rds z vs ds→Rds z (v::vs) (d::ds)
end
end
section
theorem Rd.both {M:Value→D→Prop}{N:List Value→List D→Prop}(no:M .none .none) (bo:∀b,M (.bool b) (.bool b)) (it:∀i t,M (.int i t) (.int i)) (st:∀x t,M (.str x t) (.str x))
  (tu:∀{a vs xs n},z a=some (Qae vs n)→Rds P w Γ z vs xs→N vs xs→M (.ref a) (.tup xs)) (ls:∀{a vs xs n},z a=some (Vs vs n)→Rds P w Γ z vs xs→N vs xs→M (.ref a) (.lst xs))
  (dc:∀{a es xs},Qey P w z a es→Rds P w Γ z (es.map fun x=>x.2.2) xs→N (es.map fun x=>x.2.2) xs→M (.ref a) (.dct ((es.map (·.1)).zip xs))) (hn:∀k,Γ.ok k→M (.ref (Γ.at k)) (.hnd k))
  (ni:N [] []) (co:∀{v d vs ds},Rd P w Γ z v d→Rds P w Γ z vs ds→M v d→N vs ds→N (v::vs) (d::ds)):(∀{v d},Rd P w Γ z v d→M v d)∧(∀{vs ds},Rds P w Γ z vs ds→N vs ds):=
 ⟨fun h=>Rd.rec (motive_1:=fun v d Y=>M v d) (motive_2:=fun vs ds Y=>N vs ds) no bo it st (fun e r q=>tu e r q) (fun e r q=>ls e r q) (fun e k r q=>by subst k;exact dc e r q) hn ni (fun a r x y=>co a r x y) h,
  fun h=>Rds.rec (motive_1:=fun v d Y=>M v d) (motive_2:=fun vs ds Y=>N vs ds) no bo it st (fun e r q=>tu e r q) (fun e r q=>ls e r q) (fun e k r q=>by subst k;exact dc e r q) hn ni (fun a r x y=>co a r x y) h⟩
theorem Rds.ind {N:List Value→List D→Prop}(ni:N [] []) (co:∀{v d vs ds},Rd P w Γ z v d→Rds P w Γ z vs ds→N vs ds→N (v::vs) (d::ds)) (h:Rds P w Γ z vs ds):N vs ds:=
 (Rd.both (M:=fun Y Y=>True) trivial (fun Y=>trivial) (fun Y Y=>trivial) (fun Y Y=>trivial) (fun Y Y Y=>trivial) (fun Y Y Y=>trivial) (fun Y Y Y=>trivial) (fun Y Y=>trivial) ni (fun a r Y y=>co a r y)).2 h
theorem Rd.les (hz:ZLe z z'):(∀{v:Value}{d:D},Rd P w Γ z v d→Rd P w Γ z' v d)∧(∀{vs:List Value}{ds:List D},Rds P w Γ z vs ds→Rds P w Γ z' vs ds):=
 Rd.both .none .bool .int .str (fun e Y r=>.tup (hz _ _ e) r) (fun e Y r=>.lst (hz _ _ e) r) (fun e Y r=>.dct (e.le P w hz) rfl r) .hnd .nil fun Y Y x y=>.cons x y
theorem Rd.le (hz:ZLe z z') (h:Rd P w Γ z v d):Rd P w Γ z' v d:=(Rd.les hz).1 h
theorem Rds.le (hz:ZLe z z') (h:Rds P w Γ z vs ds):Rds P w Γ z' vs ds:=(Rd.les hz).2 h
theorem Rds.length {z:Z}{vs:List Value}{ds:List D}(h:Rds P w Γ z vs ds):vs.length=ds.length:=Rds.ind (N:=fun vs ds=>vs.length=ds.length) rfl (fun Y Y h=>congrArg (·+1) h) h
theorem Rds.append {es:List D}(h:Rds P w Γ z vs ds) (y:Rds P w Γ z us es):Rds P w Γ z (vs++us) (ds++es):=
 Rds.ind (N:=fun vs ds=>Rds P w Γ z (vs++us) (ds++es)) y (fun a Y h=>.cons a h) h
theorem Rds.one (x:Rd P w Γ z v d):Rds P w Γ z [v] [d]:=.cons x .nil
theorem Rds.rel (h:Rds P w Γ z vs ds):∀i:Nat,(vs[i]?=none∧ds[i]?=none)∨X2 fun v d=>A3 (vs[i]?=some v) (ds[i]?=some d) (Rd P w Γ z v d):=
 Rds.ind (N:=fun vs ds=>∀i:Nat,(vs[i]?=none∧ds[i]?=none)∨X2 fun v d=>A3 (vs[i]?=some v) (ds[i]?=some d) (Rd P w Γ z v d)) (fun Y=>.inl ⟨rfl,rfl⟩) (fun a Y h i=>match i with
  |0=>.inr ⟨_,_,rfl,rfl,a⟩
  |i+1=>h i) h
theorem Rds.get (h:Rds P w Γ z vs ds) (e:ds[i]?=some d):∃v,vs[i]?=some v∧Rd P w Γ z v d:=by
 rcases h.rel i with ⟨_,q⟩|⟨v,d',h1,h2,h3⟩
 ·rw [q]at e;exact nomatch e
 ·rw [h2]at e;cases e;exact ⟨v,h1,h3⟩
theorem Rds.getV (h:Rds P w Γ z vs ds) (e:vs[i]?=some v):∃d,ds[i]?=some d∧Rd P w Γ z v d:=by
 rcases h.rel i with ⟨q,_⟩|⟨v',d,h1,h2,h3⟩
 ·rw [q]at e;exact nomatch e
 ·rw [h1]at e;cases e;exact ⟨d,h2,h3⟩
theorem Rds.set {z:Z}{vs:List Value}{ds:List D}(h:Rds P w Γ z vs ds) (i:Nat) {v:Value}{d:D}(e:Rd P w Γ z v d):Rds P w Γ z (vs.set i v) (ds.set i d):=
 Rds.ind (N:=fun vs ds=>∀i,Rds P w Γ z (vs.set i v) (ds.set i d)) (fun Y=>.nil) (fun a r h i=>match i with
  |0=>.cons e r
  |i+1=>.cons a (h i)) h i
theorem Rds.take {z:Z}{vs:List Value}{ds:List D}(h:Rds P w Γ z vs ds) (i:Nat):Rds P w Γ z (vs.take i) (ds.take i):=
 Rds.ind (N:=fun vs ds=>∀i,Rds P w Γ z (vs.take i) (ds.take i)) (fun i=>by rw [List.take_nil,List.take_nil];exact .nil) (fun a Y h i=>match i with
  |0=>.nil
  |i+1=>.cons a (h i)) h i
theorem Rd.int_i (h:Rd P w Γ z v d) {i:Int}(e:d=.int i):∃t,v=.int i t:=by
 cases h<;>cases e;exact ⟨_,rfl⟩
theorem Rds.ints' (h:Rds P w Γ z vs ds):∀ns:List Int,ds=ns.map .int→IntsAre vs ns∧ItemsAre (PySem.intKind P w) ns vs:=
 Rds.ind (N:=fun vs ds=>∀ns:List Int,ds=ns.map .int→IntsAre vs ns∧ItemsAre (PySem.intKind P w) ns vs) (fun ns e=>by
  cases ns with
  |nil=>exact ⟨.nil,.nil⟩
  |cons n ns=>cases e) (fun {v d vs ds} a Y h ns e=>by
  cases ns with
  |nil=>cases e
  |cons n ns=>
   obtain ⟨e1,e2⟩:=List.cons.inj e;obtain ⟨t,rfl⟩:=a.int_i e1;obtain ⟨x,y⟩:=h ns e2;exact ⟨.cons n t x,.cons (by simp [PySem.intKind,Value.isInt]) y⟩) h
theorem Rds.ints {ns:List Int}(h:Rds P w Γ z vs (ns.map .int)):IntsAre vs ns:=(h.ints' ns rfl).1
theorem Rds.ofInts {ns:List Int}(h:IntsAre vs ns):Rds P w Γ z vs (ns.map .int):=by
 induction h with
 |nil=>exact .nil
 |cons n t _ ih=>exact .cons (.int n t) ih
theorem Rds.keyItems {ns:List Int}(h:Rds P w Γ z vs (ns.map .int)):ItemsAre (PySem.intKind P w) ns vs:=(h.ints' ns rfl).2
end
structure Step (Γ:Gm) (z:Z) (s:Shared) (z':Z) (s':Shared):Prop where
 eq:X2 fun h t=>s'={ s with heap:=h,toks:=t }
 keep:∀a o,Γ.free a→s.heap.get? a=some o→s'.heap.get? a=some o
 le:ZLe z z'
 fresh:∀a o,Γ.free a→s.heap.get? a=some o→z' a=z a
theorem Step.refl (Γ:Gm) (z:Z) (s:Shared):Step Γ z s z s:=⟨⟨s.heap,s.toks,rfl⟩,fun Y Y Y e=>e,ZLe.refl z,fun Y Y Y Y=>rfl⟩
theorem Step.trans {Γ:Gm}{z z' z'':Z}{s s' s'':Shared}(x:Step Γ z s z' s') (y:Step Γ z' s' z'' s''):Step Γ z s z'' s'' where
 eq:=by obtain ⟨h,t,rfl⟩:=x.eq;obtain ⟨h',t',rfl⟩:=y.eq;exact ⟨h',t',rfl⟩
 keep:=fun a o f e=>y.keep a o f (x.keep a o f e)
 le:=x.le.trans y.le
 fresh:=fun a o f e=>(y.fresh a o f (x.keep a o f e)).trans (x.fresh a o f e)
structure Gs where
 p0:Int
 p1:Int
 flds:List D
variable {g g' g1 g2 g3:Gs}
structure Base (P:Program) (w:World) (hB:Heap) (Γ:Gm) (z:Z) (g:Gs) (s:Shared):Prop where
 zin:ZIn z s.heap
 zB:∀a o,hB.get? a=some o→z a=some o
 pen:Γ.has=true→X3 fun t u n=>s.heap.get? Γ.pA=some (Vs [.int g.p0 t,.int g.p1 u] n)
 zpen:Γ.has=true→z Γ.pA=none
 flds:Γ.two=true→X2 fun vs n=>s.heap.get? Γ.fA=some (Vs vs n)∧Rds P w Γ z vs g.flds
 zflds:Γ.two=true→z Γ.fA=none
theorem Y6 (b:Base P w hB Γ z g s) (e:s.heap.get? a=some o)
  (hd:∀vs n,o≠Vs vs n):Γ.free a:=by
 refine ⟨fun h q=>?_,fun h q=>?_⟩
 ·obtain ⟨t,u,n,x⟩:=b.pen h;rw [q,x]at e;cases e;exact hd _ _ rfl
 ·obtain ⟨vs,n,x,_⟩:=b.flds h;rw [q,x]at e;cases e;exact hd _ _ rfl
theorem Ql (hz:ZIn z h) (ha:h.get? a=none):z a=none:=by
 cases e:z a with
 |none=>rfl
 |some o=>have:=hz _ _ e;rw [ha]at this;cases this
theorem Qe (h:Heap):h.get? h.objs.size=none:=by
 cases e:h.get? h.objs.size with
 |none=>rfl
 |some o=>exact absurd (Heap.lt_size e) (Nat.lt_irrefl _)
theorem Qn (ha:h.objs.size≤a):h.get? a=none:=by
 cases e:h.get? a with
 |none=>rfl
 |some o=>exact absurd (Heap.lt_size e) (Nat.not_lt.mpr ha)
theorem Qgs (k:∀a o,h.get? a=some o→h'.get? a=some o) (e:h'.get? a=none):h.get? a=none:=by
 cases q:h.get? a with
 |none=>rfl
 |some o=>rw [k _ _ q]at e;cases e
noncomputable def Z.add (z:Z) (a:Addr) (o:Obj):Z:=fun b=>if b=a then some o else z b
set_option tactic.hygienic true in
theorem Z.le_add (h:z a=none):ZLe z (z.add a o):=fun b o' e=>by
 unfold Z.add;split
 ·rename_i q;rw [q,h]at e;exact nomatch e
 ·exact e
theorem Z.add_self (z:Z) (a:Addr) (o:Obj):z.add a o a=some o:=by simp [Z.add]
section
theorem Base.grown (b:Base P w hB Γ z g s) {t:Nat}(k:∀a o,s.heap.get? a=some o→h'.get? a=some o):Base P w hB Γ z g { s with heap:=h',toks:=t } where
 zin:=fun a o e=>k _ _ (b.zin a o e)
 zB:=b.zB
 pen:=fun h=>let ⟨t,u,n,e⟩:=b.pen h;⟨t,u,n,k _ _ e⟩
 zpen:=b.zpen
 flds:=fun h=>let ⟨vs,n,e,r⟩:=b.flds h;⟨vs,n,k _ _ e,r⟩
 zflds:=b.zflds
theorem Step.grown (_b:Base P w hB Γ z g s) {t:Nat}(k:∀a o,s.heap.get? a=some o→h'.get? a=some o) :
  Step Γ z s z { s with heap:=h',toks:=t } where
 eq:=⟨h',t,rfl⟩
 keep:=fun a o Y e=>k a o e
 le:=ZLe.refl z
 fresh:=fun Y Y Y Y=>rfl
set_option tactic.hygienic true in
theorem Base.freeze (b:Base P w hB Γ z g s) (e:s.heap.get? a=some o) (hz:z a=none) (hf:Γ.free a):Base P w hB Γ (z.add a o) g s where
 zin:=fun c o' q=>by
  unfold Z.add at q;split at q
  ·rename_i hc;cases q;rw [hc];exact e
  ·exact b.zin _ _ q
 zB:=fun c o' q=>Z.le_add hz _ _ (b.zB c o' q)
 pen:=b.pen
 zpen:=fun h=>by unfold Z.add;rw [if_neg (fun q=>hf.1 h q.symm)];exact b.zpen h
 flds:=fun h=>let ⟨vs,n,e,r⟩:=b.flds h;⟨vs,n,e,r.le (Z.le_add hz)⟩
 zflds:=fun h=>by unfold Z.add;rw [if_neg (fun q=>hf.2 h q.symm)];exact b.zflds h
end
set_option genInjectivity false
inductive B
 |val (d:D)
 |cap (d:D)
 |own (xs:List D)
 |ownD (kvs:List (List Int×D))
variable {b' b0:B}
noncomputable abbrev Q8:=List (Option B)
variable {ρ ρ' ρ₁:Q8}
inductive Fl
 |nxt
 |ret (d:D)
variable {fl:Fl}
theorem ns {a:α}{p:Prop}(h:none=some a):p:=nomatch h
noncomputable def bnd {α γ:Type} (x:Option (α×Gs)) (f:α→Gs→Option γ):Option γ:=match x with
 |some (a,g)=>f a g
 |none=>none
@[simp] theorem Qb6 (a:α) (g:Gs) (f:α→Gs→Option γ):bnd (some (a,g)) f=f a g:=rfl
@[simp] theorem Ydb (f:α→Gs→Option γ):bnd none f=none:=rfl
theorem Y8 {x:Option (α×Gs)}{f:α→Gs→Option γ}{r:γ}(h:bnd x f=some r) (k:∀a g,x=some (a,g)→f a g=some r→G):G:=by
 cases x with
 |none=>cases h
 |some p=>exact k p.1 p.2 rfl h
noncomputable def Qbl {α:Type} (x:Option α) (g:Gs):Option (α×Gs):=x.map (·,g)
@[simp] theorem Ya5 (a:α) (g:Gs):Qbl (some a) g=some (a,g):=rfl
@[simp] theorem Yc0 (g:Gs):Qbl (none:Option α) g=none:=rfl
@[elab_as_elim] theorem eqK {a d:α} {M:α→Gs→Prop} (h:some (a,g)=some (d,g')) (k:M a g):M d g':=by
 cases h;exact k
@[elab_as_elim] theorem eqB {a t:Bool} {M:Bool→Gs→Prop} (h:some (D.bool a,g)=some (D.bool t,g')) (k:M a g):M t g':=by
 cases h;exact k
@[elab_as_elim] theorem Qle {a d:α} {b b':β} {M:α→β→Gs→Prop} (h:some (a,b,g)=some (d,b',g')) (k:M a b g):M d b' g':=by
 cases h;exact k
@[elab_as_elim] theorem Qnr {x:Option α} {a:α} {M:Gs→Prop} (h:Qbl x g=some (a,g')) (k:x=some a→M g):M g':=by
 cases x with
 |none=>cases h
 |some b=>cases h;exact k rfl
theorem Qpg {x:Option α}{y:Option (β×Gs)}{c:β}{a:α}(h:Qbl x g=some (a,g')) (n:y=some (c,g)) (k:x=some a→y=some (c,g')→G):G:=Qnr (M:=fun g'=>(x=some a→y=some (c,g')→G)→G) h (fun q k=>k q n) k
noncomputable def gd {γ:Type} (c:Bool) (x:Option γ):Option γ:=cond c x none
theorem gdK {c:Bool}{x:Option γ}{r:γ}(h:gd c x=some r) (k:c=true→x=some r→G):G:=by
 cases c
 ·cases h
 ·exact k rfl h
@[simp] theorem Yd8 (x:Option γ):gd true x=x:=rfl
theorem Jl {c:Bool}{x:Option γ}(h:c=true):gd c x=x:=by rw [h];rfl
noncomputable def sB {γ:Type} (f:Bool→Option γ) (d:D):Option γ:=D.casesOn (motive_1:=fun Y=>Option γ) d none f (fun Y=>none) (fun Y=>none) (fun Y=>none) (fun Y=>none) (fun Y=>none) (fun Y=>none)
noncomputable def sI' {γ:Type} (f:Int→Option γ) (d:D):Option γ:=D.casesOn (motive_1:=fun Y=>Option γ) d none (fun Y=>none) f (fun Y=>none) (fun Y=>none) (fun Y=>none) (fun Y=>none) (fun Y=>none)
noncomputable def sTu {γ:Type} (f:List D→Option γ) (d:D):Option γ:=D.casesOn (motive_1:=fun Y=>Option γ) d none (fun Y=>none) (fun Y=>none) (fun Y=>none) f (fun Y=>none) (fun Y=>none) (fun Y=>none)
noncomputable def sLi {γ:Type} (f:List D→Option γ) (d:D):Option γ:=D.casesOn (motive_1:=fun Y=>Option γ) d none (fun Y=>none) (fun Y=>none) (fun Y=>none) (fun Y=>none) f (fun Y=>none) (fun Y=>none)
@[elab_as_elim] theorem sBK {f:Bool→Option γ} {r:γ} {M:D→Prop}:sB f d=some r→(∀b,f b=some r→M (.bool b))→M d:=
 D.casesOn (motive_1:=fun d=>sB f d=some r→(∀b,f b=some r→M (.bool b))→M d) d (fun h Y=>ns h) (fun b h k=>k b h) (fun Y h Y=>ns h) (fun Y h Y=>ns h) (fun Y h Y=>ns h) (fun Y h Y=>ns h) (fun Y h Y=>ns h) (fun Y h Y=>ns h)
@[elab_as_elim] theorem sIK {f:Int→Option γ} {r:γ} {M:D→Prop}:sI' f d=some r→(∀b,f b=some r→M (.int b))→M d:=
 D.casesOn (motive_1:=fun d=>sI' f d=some r→(∀b,f b=some r→M (.int b))→M d) d (fun h Y=>ns h) (fun Y h Y=>ns h) (fun b h k=>k b h) (fun Y h Y=>ns h) (fun Y h Y=>ns h) (fun Y h Y=>ns h) (fun Y h Y=>ns h) (fun Y h Y=>ns h)
@[elab_as_elim] theorem Qzb {f:List D→Option γ} {r:γ} {M:D→Prop}:sTu f d=some r→(∀b,f b=some r→M (.tup b))→M d:=
 D.casesOn (motive_1:=fun d=>sTu f d=some r→(∀b,f b=some r→M (.tup b))→M d) d (fun h Y=>ns h) (fun Y h Y=>ns h) (fun Y h Y=>ns h) (fun Y h Y=>ns h) (fun b h k=>k b h) (fun Y h Y=>ns h) (fun Y h Y=>ns h) (fun Y h Y=>ns h)
@[elab_as_elim] theorem Yim {f:List D→Option γ} {r:γ} {M:D→Prop}:sLi f d=some r→(∀b,f b=some r→M (.lst b))→M d:=
 D.casesOn (motive_1:=fun d=>sLi f d=some r→(∀b,f b=some r→M (.lst b))→M d) d (fun h Y=>ns h) (fun Y h Y=>ns h) (fun Y h Y=>ns h) (fun Y h Y=>ns h) (fun Y h Y=>ns h) (fun b h k=>k b h) (fun Y h Y=>ns h) (fun Y h Y=>ns h)
section
variable {x:Option (D×Gs)}{r:γ}
noncomputable def bB (x:Option (D×Gs)) (f:Bool→Gs→Option γ):Option γ:=bnd x fun d g=>sB (fun b=>f b g) d
noncomputable def bI (x:Option (D×Gs)) (f:Int→Gs→Option γ):Option γ:=bnd x fun d g=>sI' (fun b=>f b g) d
noncomputable def bTu (x:Option (D×Gs)) (f:List D→Gs→Option γ):Option γ:=bnd x fun d g=>sTu (fun b=>f b g) d
noncomputable def bLi (x:Option (D×Gs)) (f:List D→Gs→Option γ):Option γ:=bnd x fun d g=>sLi (fun b=>f b g) d
theorem bBK {f:Bool→Gs→Option γ}(h:bB x f=some r) (k:∀b g,x=some (.bool b,g)→f b g=some r→G):G:=Y8 h fun d g h1 h2=>sBK (M:=fun d=>x=some (d,g)→G) h2 (fun b h3 h4=>k b g h4 h3) h1
theorem bIK {f:Int→Gs→Option γ}(h:bI x f=some r) (k:∀b g,x=some (.int b,g)→f b g=some r→G):G:=Y8 h fun d g h1 h2=>sIK (M:=fun d=>x=some (d,g)→G) h2 (fun b h3 h4=>k b g h4 h3) h1
theorem Ygl {f:List D→Gs→Option γ}(h:bTu x f=some r) (k:∀b g,x=some (.tup b,g)→f b g=some r→G):G:=Y8 h fun d g h1 h2=>Qzb (M:=fun d=>x=some (d,g)→G) h2 (fun b h3 h4=>k b g h4 h3) h1
theorem Yig {f:List D→Gs→Option γ}(h:bLi x f=some r) (k:∀b g,x=some (.lst b,g)→f b g=some r→G):G:=Y8 h fun d g h1 h2=>Yim (M:=fun d=>x=some (d,g)→G) h2 (fun b h3 h4=>k b g h4 h3) h1
@[simp] theorem Yfo (b:Bool) (g:Gs) (f:Bool→Gs→Option γ):bB (some (.bool b,g)) f=f b g:=rfl
@[simp] theorem Qxk (b:Int) (g:Gs) (f:Int→Gs→Option γ):bI (some (.int b,g)) f=f b g:=rfl
@[simp] theorem Ydc (b:List D) (g:Gs) (f:List D→Gs→Option γ):bTu (some (.tup b,g)) f=f b g:=rfl
@[simp] theorem Ydm (b:List D) (g:Gs) (f:List D→Gs→Option γ):bLi (some (.lst b,g)) f=f b g:=rfl
end
noncomputable def opt {α γ:Type} (x:Option α) (f:α→Option γ):Option γ:=x.bind f
@[simp] theorem Ql5 (a:α) (f:α→Option γ):opt (some a) f=f a:=rfl
theorem Qcj {x:Option α}{f:α→Option γ}{r:γ}(h:opt x f=some r) (k:∀a,x=some a→f a=some r→G):G:=by
 cases x with
 |none=>cases h
 |some a=>exact k a rfl h
noncomputable def Q2 (a:Int):Bool:=decide (-4611686018427387904≤a∧a<4611686018427387904)
noncomputable def Qm (n:Nat):Bool:=decide (n≤1048576)
noncomputable def ii (f:Int→Int→Option D):D→D→Option D
 |.int a,.int b=>f a b
 |_,_=>none
@[simp] theorem Yho (f:Int→Int→Option D) (a b:Int):ii f (.int a) (.int b)=f a b:=rfl
noncomputable def Yd2:D→D→Option D
 |.int a,.int b=>some (.int (a+b))
 |.lst a,.lst b=>if Qm a.length&&Qm b.length then some (.lst (a++b)) else none
 |.tup a,.tup b=>if Qm a.length&&Qm b.length&&!b.isEmpty then some (.tup (a++b)) else none
 |_,_=>none
@[simp] theorem Yhq (a b:Int):Yd2 (.int a) (.int b)=some (.int (a+b)):=rfl
@[simp] theorem Ygj (a b:List D):Yd2 (.lst a) (.lst b)=if Qm a.length&&Qm b.length then some (.lst (a++b)) else none:=rfl
@[simp] theorem Yg7 (a b:List D):Yd2 (.tup a) (.tup b)=if Qm a.length&&Qm b.length&&!b.isEmpty then some (.tup (a++b)) else none:=rfl
noncomputable def Yfl:D→D→Option D
 |.int a,.int b=>if Q2 a||Q2 b then some (.int (a*b)) else none
 |.lst [d],.int n=>if 0≤n&&n≤1048576 then some (.lst (List.replicate n.toNat d)) else none
 |_,_=>none
@[simp] theorem Yc2 (a b:Int):Yfl (.int a) (.int b)=if Q2 a||Q2 b then some (.int (a*b)) else none:=rfl
@[simp] theorem Yhe (d:D) (n:Int):Yfl (.lst [d]) (.int n)=if 0≤n&&n≤1048576 then some (.lst (List.replicate n.toNat d)) else none:=rfl
noncomputable def Qc9 (o:BOp) (a b:D):Option D:=match o with
 |.add=>Yd2 a b
 |.sub=>ii (fun a b=>some (.int (a-b))) a b
 |.mul=>Yfl a b
 |.fdiv=>ii (fun a b=>if b≠0&&decide (b.natAbs<1073741824) then some (.int (Int.fdiv a b)) else none) a b
 |.mod=>ii (fun a b=>if b≠0 then some (.int (Int.fmod a b)) else none) a b
 |.pow=>ii (fun a n=>if a=10&&n=15 then some (.int 1000000000000000) else none) a b
mutual
noncomputable def Qab:D→Option PyData
 |.none=>some .none
 |.bool b=>some (.bool b)
 |.int i=>some (.int i)
 |.str x=>some (.str x)
 |.tup xs=>(Vz xs).map .tuple
 |.lst xs=>(Vz xs).map .list
 |.dct _=>none
 |.hnd _=>none
noncomputable def Vz:List D→Option (List PyData)
 |[]=>some []
 |x::r=>match Qab x,Vz r with
  |some d,some ds=>some (d::ds)
  |_,_=>none
end
noncomputable def aeq (a b:D):Option Bool:=match Qab a,Qab b with
 |some x,some y=>if SeqAt.shaped x&&SeqAt.shaped y then some (PyData.eqv x y) else none
 |_,_=>none
noncomputable def ib (f:Int→Int→Bool):D→D→Option Bool
 |.int a,.int b=>some (f a b)
 |_,_=>none
@[simp] theorem Yi5 (f:Int→Int→Bool) (a b:Int):ib f (.int a) (.int b)=some (f a b):=rfl
noncomputable def Vw (o:COp) (a b:D):Option Bool:=match o with
 |.eq=>aeq a b
 |.ne=>(aeq a b).map (!·)
 |.lt=>ib (fun a b=>decide (a<b)) a b
 |.le=>ib (fun a b=>decide (a≤b)) a b
 |.gt=>ib (fun a b=>decide (a > b)) a b
 |.ge=>ib (fun a b=>decide (a ≥ b)) a b
noncomputable def isNone:D→Bool
 |.none=>true
 |_=>false
noncomputable def ain (a b:D):Option Bool:=match Qab a,b with
 |some d,.lst xs=>(match Vz xs with
  |some ds=>if SeqAt.shaped d&&PyData.canLayAll0 ds&&decide (PyData.depth d≤8) then some (ds.any fun y=>PyData.eqv y d) else none
  |none=>none)
 |some d,.tup xs=>(match Vz xs with
  |some ds=>if SeqAt.shaped d&&PyData.canLayAll0 ds&&decide (PyData.depth d≤8) then some (ds.any fun y=>PyData.eqv y d) else none
  |none=>none)
 |_,_=>none
noncomputable def V3 (l:List D):Option (List Int):=l.rec (some []) fun d Y ih=>sI' (fun i=>ih.map (i::·)) d
noncomputable def Qjt (es:List (List Int×D)):List D:=es.map fun e=>.tup (e.1.map .int)
noncomputable def Qn3 (es:List (List Int×D)) (k:List Int) (v:D):List (List Int×D):=
 if es.any (fun e=>decide (e.1=k)) then es.map (fun e=>if e.1=k then (e.1,v) else e) else es++[(k,v)]
noncomputable def Qsz (es:List (List Int×D)) (k:List Int):Option D:=(es.find? fun e=>decide (e.1=k)).map (·.2)
noncomputable def Qvx (xs:List D):D→Option D
 |.int i=>if 0≤i&&Qm xs.length then xs[i.toNat]? else none
 |_=>none
@[simp] theorem Qah (xs:List D) (i:Int):Qvx xs (.int i)=if 0≤i&&Qm xs.length then xs[i.toNat]? else none:=rfl
noncomputable def Yd1 (es:List (List Int×D)):D→Option D
 |.tup k=>(V3 k).bind (Qsz es)
 |_=>none
@[simp] theorem Qal (es:List (List Int×D)) (k:List D):Yd1 es (.tup k)=(V3 k).bind (Qsz es):=rfl
noncomputable def Ydf (g:Gs):D→Option D
 |.int i=>if i=0 then some (.int g.p0) else if i=1 then some (.int g.p1) else none
 |_=>none
@[simp] theorem Yg9 (g:Gs) (i:Int):Ydf g (.int i)=if i=0 then some (.int g.p0) else if i=1 then some (.int g.p1) else none:=rfl
noncomputable def Yeq (g:Gs) (y:D):Hd→Option D
 |.flds=>Qvx g.flds y
 |.pen=>Ydf g y
 |_=>none
@[simp] theorem Yg0 (g:Gs) (y:D):Yeq g y .flds=Qvx g.flds y:=rfl
@[simp] theorem Yhc (g:Gs) (y:D):Yeq g y .pen=Ydf g y:=rfl
noncomputable def Qde (g:Gs):D→D→Option D
 |.tup xs,y=>Qvx xs y
 |.lst xs,y=>Qvx xs y
 |.dct es,y=>Yd1 es y
 |.hnd k,y=>Yeq g y k
 |_,_=>none
noncomputable def Qbk (a:Int) (n:Nat):List D:=(List.range n).map fun (i:Nat)=>.int (a+(i:Int))
noncomputable def Qav:List (List D)→List D
 |[a,b]=>List.zipWith (fun x y=>D.tup [x,y]) a b
 |[a,b,c]=>List.zipWith (fun x yz=>D.tup [x,yz.1,yz.2]) a (b.zip c)
 |_=>[]
noncomputable def Qt6:List (List D)→Bool
 |[a,b]=>Qm a.length&&decide (a.length=b.length)
 |[a,b,c]=>Qm a.length&&decide (a.length=b.length)&&decide (a.length=c.length)
 |_=>false
noncomputable def Qji:D→Option (List D)
 |.tup xs=>if Qm xs.length then some xs else none
 |.lst xs=>if Qm xs.length then some xs else none
 |_=>none
noncomputable def Quj:List D→Option (List (List D))
 |[]=>some []
 |x::r=>opt (Qji x) fun a=>opt (Quj r) fun b=>some (a::b)
@[simp] theorem Ydy:Quj []=some []:=rfl
@[simp] theorem Yc3 (x:D) (r:List D):Quj (x::r)=opt (Qji x) fun a=>opt (Quj r) fun b=>some (a::b):=rfl
@[elab_as_elim] theorem Qvo {N:List D→Prop} (h:Quj xs=some []) (k:N []):N xs:=by
 cases xs with
 |nil=>exact k
 |cons x r=>exact Qcj h fun a Y h=>Qcj h fun b Y h=>nomatch h
@[elab_as_elim] theorem Qif {a:List D} {b:List (List D)} {N:List D→Prop} (h:Quj xs=some (a::b)) (k:∀x r,Qji x=some a→Quj r=some b→N (x::r)):N xs:=by
 cases xs with
 |nil=>cases h
 |cons x r=>exact Qcj h fun a h1 h=>Qcj h fun b h2 h=>by cases h;exact k x r h1 h2
@[elab_as_elim] theorem Ycg {ls:List (List D)} {N:List (List D)→Prop} (h:Qt6 ls=true) (k2:∀a b,Qm a.length=true→a.length=b.length→N [a,b]) (k3:∀a b c,Qm a.length=true→a.length=b.length→a.length=c.length→N [a,b,c]):N ls:=by
 rcases ls with _|⟨a,_|⟨b,_|⟨c,_|⟨d,ls⟩⟩⟩⟩
 ·exact Bool.noConfusion h
 ·exact Bool.noConfusion h
 ·exact k2 a b (Bool.and_eq_true_iff.mp h).1 (of_decide_eq_true (Bool.and_eq_true_iff.mp h).2)
 ·exact k3 a b c (Bool.and_eq_true_iff.mp (Bool.and_eq_true_iff.mp h).1).1 (of_decide_eq_true (Bool.and_eq_true_iff.mp (Bool.and_eq_true_iff.mp h).1).2) (of_decide_eq_true (Bool.and_eq_true_iff.mp h).2)
 ·exact Bool.noConfusion h
noncomputable def Qx (f:D→Gs→Option (Option D×Gs)):List D→Gs→Option (List D×Gs)
 |[],g=>some ([],g)
 |d::r,g=>bnd (f d g) fun o g=>bnd (Qx f r g) fun ys g=>some (o.toList++ys,g)
noncomputable def V0 (f:D→Gs→Option (List D×Gs)):List D→Gs→Option (List D×Gs)
 |[],g=>some ([],g)
 |d::r,g=>bnd (f d g) fun ys g=>bnd (V0 f r g) fun zs g=>some (ys++zs,g)
noncomputable def Qa7 (ρ:Q8) (i:Nat):Bool:=match ρ[i]? with
 |some (some (.cap _))=>false
 |some _=>true
 |none=>false
noncomputable def lC {α γ:Type} (f:α→List α→Option γ):List α→Option γ
 |[]=>none
 |a::r=>f a r
@[simp] theorem Yea (f:α→List α→Option γ) (a:α) (r:List α):lC f (a::r)=f a r:=rfl
@[elab_as_elim] theorem lCK {f:α→List α→Option γ} {l:List α} {r:γ} {M:List α→Prop} (h:lC f l=some r) (k:∀a l,f a l=some r→M (a::l)):M l:=by
 cases l with
 |nil=>cases h
 |cons a l=>exact k a l h
noncomputable def lN {α γ:Type} (x:Option γ):List α→Option γ
 |[]=>x
 |_::_=>none
@[simp] theorem Yg3 (x:Option γ):lN x ([]:List α)=x:=rfl
@[elab_as_elim] theorem lNK {x:Option γ} {l:List α} {r:γ} {M:List α→Prop} (h:lN x l=some r) (k:x=some r→M []):M l:=by
 cases l with
 |nil=>exact k h
 |cons a l=>cases h
mutual
noncomputable def Qdb:CT→Q8→D→Option Q8
 |.nm i,ρ,d=>gd (Qa7 ρ i) (some (ρ.set i (some (.val d))))
 |.tup ts,ρ,d=>sTu (fun xs=>J9 ts ρ xs) d
noncomputable def J9:CTs→Q8→List D→Option Q8
 |.nil,ρ,ds=>lN (some ρ) ds
 |.cons t r,ρ,ds=>lC (fun d ds=>opt (Qdb t ρ d) fun ρ'=>J9 r ρ' ds) ds
end
noncomputable def Qzf:Option (Option B)→Bool
 |some none=>true
 |_=>false
theorem Qwm {o:Option (Option B)}(h:Qzf o=true):o=some none:=by
 rcases o with _|_|o
 ·cases h
 ·rfl
 ·cases h
mutual
noncomputable def Qqk:CT→Q8→Bool
 |.nm i,ρ=>Qzf ρ[i]?
 |.tup ts,ρ=>Qjz ts ρ
noncomputable def Qjz:CTs→Q8→Bool
 |.nil,_=>true
 |.cons t r,ρ=>Qqk t ρ&&Qjz r ρ
end
noncomputable def Qai (t:CT) (ρ:Q8) (d:D):Option Q8:=gd (Qqk t ρ) (Qdb t ρ d)
noncomputable def slV {γ:Type} (f:D→Option γ):Option (Option B)→Option γ
 |some (some (.val d))=>f d
 |some (some (.cap d))=>f d
 |_=>none
noncomputable def slO {γ:Type} (f:List D→Option γ):Option (Option B)→Option γ
 |some (some (.own xs))=>f xs
 |_=>none
noncomputable def slD {γ:Type} (f:List (List Int×D)→Option γ):Option (Option B)→Option γ
 |some (some (.ownD xs))=>f xs
 |_=>none
@[elab_as_elim] theorem Yg8 {f:D→Option γ} {b:Option (Option B)} {r:γ} {M:Option (Option B)→Prop} (h:slV f b=some r) (k:∀d bb,bb=.val d∨bb=.cap d→f d=some r→M (some (some bb))):M b:=by
 rcases b with _|_|b
 ·exact ns h
 ·exact ns h
 ·cases b<;>first|exact ns h|exact k _ _ (.inl rfl) h|exact k _ _ (.inr rfl) h
@[elab_as_elim] theorem Ygu {f:List D→Option γ} {b:Option (Option B)} {r:γ} {M:Option (Option B)→Prop} (h:slO f b=some r) (k:∀xs,f xs=some r→M (some (some (.own xs)))):M b:=by
 rcases b with _|_|b
 ·exact ns h
 ·exact ns h
 ·cases b<;>first|exact ns h|exact k _ h
@[elab_as_elim] theorem Yh0 {f:List (List Int×D)→Option γ} {b:Option (Option B)} {r:γ} {M:Option (Option B)→Prop} (h:slD f b=some r) (k:∀xs,f xs=some r→M (some (some (.ownD xs)))):M b:=by
 rcases b with _|_|b
 ·exact ns h
 ·exact ns h
 ·cases b<;>first|exact ns h|exact k _ h
@[simp] theorem Ydz (xs:List D) (f:List D→Option γ):slO f (some (some (.own xs)))=f xs:=rfl
@[simp] theorem Ydg (xs:List (List Int×D)) (f:List (List Int×D)→Option γ):slD f (some (some (.ownD xs)))=f xs:=rfl
@[simp] theorem Ydd (d:D) (f:D→Option γ):slV f (some (some (.val d)))=f d:=rfl
@[simp] theorem Yes (d:D) (f:D→Option γ):slV f (some (some (.cap d)))=f d:=rfl
noncomputable def Yhl (ρ:Q8):Option Nat→Option (Option B)
 |none=>some none
 |some k=>slV (fun d=>some (some (.cap d))) ρ[k]?
noncomputable def Qaq (ρ:Q8):List (Option Nat)→Option Q8
 |[]=>some []
 |c::r=>opt (Yhl ρ c) fun b=>opt (Qaq ρ r) fun ρ'=>some (b::ρ')
structure Orc where
 fn:String→List D→Gs→Option (D×Gs)
 glob:String→Option D
 szs:List D
 sort:List Int→Option (List Int)
variable {O:Orc}
noncomputable def Ydp:D→Option D
 |.lst xs=>if Qm xs.length then some (.int xs.length) else none
 |.tup xs=>if Qm xs.length then some (.int xs.length) else none
 |.dct es=>if Qm es.length then some (.int es.length) else none
 |_=>none
@[simp] theorem Yc1 (xs:List D):Ydp (.lst xs)=if Qm xs.length then some (.int xs.length) else none:=rfl
@[simp] theorem Ya0 (xs:List D):Ydp (.tup xs)=if Qm xs.length then some (.int xs.length) else none:=rfl
@[simp] theorem Yb1 (xs:List (List Int×D)):Ydp (.dct xs)=if Qm xs.length then some (.int xs.length) else none:=rfl
noncomputable def Ye6:D→Option D
 |.lst xs=>if Qm xs.length then some (.tup xs) else none
 |.tup xs=>some (.tup xs)
 |_=>none
@[simp] theorem Yac (xs:List D):Ye6 (.lst xs)=if Qm xs.length then some (.tup xs) else none:=rfl
@[simp] theorem Ygq (xs:List D):Ye6 (.tup xs)=some (.tup xs):=rfl
noncomputable def Yds:D→Option D
 |.lst xs=>if Qm xs.length then some (.lst xs) else none
 |.tup xs=>if Qm xs.length then some (.lst xs) else none
 |.dct es=>if Qm es.length then some (.lst (Qjt es)) else none
 |_=>none
@[simp] theorem Yhb (xs:List D):Yds (.lst xs)=if Qm xs.length then some (.lst xs) else none:=rfl
@[simp] theorem Ygr (xs:List D):Yds (.tup xs)=if Qm xs.length then some (.lst xs) else none:=rfl
@[simp] theorem Ygs (xs:List (List Int×D)):Yds (.dct xs)=if Qm xs.length then some (.lst (Qjt xs)) else none:=rfl
noncomputable def Yfy (O:Orc):D→Option D
 |.lst xs=>opt (V3 xs) fun ns=>(O.sort ns).map fun l=>.lst (l.map .int)
 |_=>none
@[simp] theorem Quv (O:Orc) (xs:List D):Yfy O (.lst xs)=opt (V3 xs) fun ns=>(O.sort ns).map fun l=>.lst (l.map .int):=rfl
noncomputable def Jk (l:List D):List (List Int×D)→Option (List (List Int×D)):=l.rec some fun d Y ih es=>sTu (lC fun k=>lC fun v=>lN (sTu (fun ks=>opt (V3 ks) fun ns=>ih (Qn3 es ns v)) k)) d
@[elab_as_elim] theorem Qxs {r:List (List Int×D)} {M:D→Prop} (h:Jk (d::ds) es=some r) (k:∀ks v ns,V3 ks=some ns→Jk ds (Qn3 es ns v)=some r→M (.tup [.tup ks,v])):M d:=
 Qzb (show sTu _ d=some r from h) fun kv h=>lCK (M:=fun kv=>M (.tup kv)) h fun x t h=>lCK (M:=fun t=>M (.tup (x::t))) h fun v u h=>lNK (M:=fun u=>M (.tup (x::v::u))) h fun h=>Qzb (M:=fun x=>M (.tup [x,v])) h fun ks h=>Qcj h fun ns e h=>k ks v ns e h
noncomputable def Yhj:D→Option D
 |.lst xs=>if Qm xs.length then (Jk xs []).map .dct else none
 |_=>none
@[simp] theorem Qz4 (xs:List D):Yhj (.lst xs)=if Qm xs.length then (Jk xs []).map .dct else none:=rfl
noncomputable def Ydx:D→Option D
 |.int _=>some (.bool true)
 |.none=>some (.bool false)
 |.tup _=>some (.bool false)
 |_=>none
@[simp] theorem Yhi (i:Int):Ydx (.int i)=some (.bool true):=rfl
@[simp] theorem Ygy:Ydx .none=some (.bool false):=rfl
@[simp] theorem Yhk (xs:List D):Ydx (.tup xs)=some (.bool false):=rfl
noncomputable def Yg1:D→D→Option D:=ii fun a b=>if Q2 a&&0≤b-a&&b-a≤1048576 then some (.lst (Qbk a (b-a).toNat)) else none
@[simp] theorem Ycv (a b:Int):Yg1 (.int a) (.int b)=if Q2 a&&0≤b-a&&b-a≤1048576 then some (.lst (Qbk a (b-a).toNat)) else none:=rfl
noncomputable def on1 (f:D→Option D):List D→Option D
 |[x]=>f x
 |_=>none
@[simp] theorem Yct (f:D→Option D) (x:D):on1 f [x]=f x:=rfl
noncomputable def on2 (f:D→D→Option D):List D→Option D
 |[x,y]=>f x y
 |_=>none
@[simp] theorem Yfg (f:D→D→Option D) (x y:D):on2 f [x,y]=f x y:=rfl
noncomputable def abi (O:Orc) (k:Bi) (xs:List D):Option D:=match k with
 |.len=>on1 Ydp xs
 |.tuple=>on1 Ye6 xs
 |.list=>on1 Yds xs
 |.sorted=>on1 (Yfy O) xs
 |.dict=>on1 Yhj xs
 |.isInt=>on1 Ydx xs
 |.listR=>on2 Yg1 xs
noncomputable def Yaf (O:Orc):D→At→Option D
 |.hnd .thing,.sizes=>some (.tup O.szs)
 |.hnd .thing,.fields=>some (.hnd .flds)
 |_,_=>none
noncomputable def Ygi:D→D→Option D
 |.hnd .heap,.int i=>if i=0 then some (.hnd .thing) else none
 |_,_=>none
mutual
noncomputable def Qb (O:Orc):CE→Q8→Gs→Option (D×Gs)
 |.none,_,g=>some (.none,g)
 |.bool b,_,g=>some (.bool b,g)
 |.int i,_,g=>some (.int i,g)
 |.str x,_,g=>some (.str (Str.ofString x),g)
 |.var i,ρ,g=>slV (fun d=>some (d,g)) ρ[i]?
 |.glob x,_,g=>Qbl (O.glob x) g
 |.bin o l r,ρ,g=>bnd (Qb O l ρ g) fun a g=>bnd (Qb O r ρ g) fun b g=>Qbl (Qc9 o a b) g
 |.cmp o l r,ρ,g=>bnd (Qb O l ρ g) fun a g=>bnd (Qb O r ρ g) fun b g=>Qbl ((Vw o a b).map .bool) g
 |.cmp2 o₁ o₂ l m r,ρ,g=>bnd (Qb O l ρ g) fun a g=>bnd (Qb O m ρ g) fun b g=>opt (Vw o₁ a b) fun t=>
  cond t (bnd (Qb O r ρ g) fun c g=>Qbl ((Vw o₂ b c).map .bool) g) (some (.bool false,g))
 |.isN neg e,ρ,g=>bnd (Qb O e ρ g) fun a g=>some (.bool (if neg then !isNone a else isNone a),g)
 |.inE l r,ρ,g=>bnd (Qb O l ρ g) fun a g=>bnd (Qb O r ρ g) fun b g=>Qbl ((ain a b).map .bool) g
 |.not e,ρ,g=>bB (Qb O e ρ g) fun b g=>some (.bool (!b),g)
 |.bop and a b,ρ,g=>bB (Qb O a ρ g) fun v g=>if v=and then bB (Qb O b ρ g) fun u g=>some (.bool u,g) else some (.bool v,g)
 |.bop3 and a b c,ρ,g=>bB (Qb O a ρ g) fun v g=>if v=and then bB (Qb O b ρ g) fun u g=>(if u=and then bB (Qb O c ρ g) fun u g=>some (.bool u,g) else some (.bool u,g)) else some (.bool v,g)
 |.ite t a b,ρ,g=>bB (Qb O t ρ g) fun v g=>cond v (Qb O a ρ g) (Qb O b ρ g)
 |.tup es,ρ,g=>bnd (Yd O es ρ g) fun xs g=>gd (Qm xs.length) (some (.tup xs,g))
 |.lst es,ρ,g=>bnd (Yd O es ρ g) fun xs g=>gd (Qm xs.length) (some (.lst xs,g))
 |.idx e i,ρ,g=>bnd (Qb O e ρ g) fun a g=>bnd (Qb O i ρ g) fun b g=>Qbl (Qde g a b) g
 |.upto e k,ρ,g=>bTu (Qb O e ρ g) fun xs g=>gd (Qm xs.length&&decide (k<xs.length)&&decide (1≤k)) (some (.tup (xs.take k),g))
 |.fn f es,ρ,g=>bnd (Yd O es ρ g) fun xs g=>O.fn f xs g
 |.bi b es,ρ,g=>bnd (Yd O es ρ g) fun xs g=>Qbl (abi O b xs) g
 |.attr e a,ρ,g=>bnd (Qb O e ρ g) fun x g=>Qbl (Yaf O x a) g
 |.obj h a,ρ,g=>bnd (Qb O h ρ g) fun x g=>bnd (Qb O a ρ g) fun y g=>Qbl (Ygi x y) g
 |.comp elt t it ifs _ cap,ρ,g=>bnd (Jm O it ρ g) fun ds g=>opt (Qaq ρ cap) fun ρ'=>
  bnd (Qx (fun d g=>opt (Qai t ρ' d) fun ρ₁=>bnd (Qfi O ifs ρ₁ g) fun ok g=>cond ok (bnd (Qb O elt ρ₁ g) fun y g=>some (some y,g)) (some (none,g))) ds g) fun ys g=>gd (Qm ys.length) (some (.lst ys,g))
 |.comp2 elt t₁ it₁ t₂ it₂ _ cap,ρ,g=>bnd (Jm O it₁ ρ g) fun ds g=>opt (Qaq ρ cap) fun ρ'=>
  bnd (V0 (fun d g=>opt (Qai t₁ ρ' d) fun ρ₁=>bnd (Jm O it₂ ρ₁ g) fun es g=>Qx (fun e g=>opt (Qai t₂ ρ₁ e) fun ρ₂=>bnd (Qb O elt ρ₂ g) fun y g=>some (some y,g)) es g) ds g) fun ys g=>gd (Qm ys.length) (some (.lst ys,g))
noncomputable def Yd (O:Orc):CEs→Q8→Gs→Option (List D×Gs)
 |.nil,_,g=>some ([],g)
 |.cons e r,ρ,g=>bnd (Qb O e ρ g) fun x g=>bnd (Yd O r ρ g) fun xs g=>some (x::xs,g)
noncomputable def Qfi (O:Orc):CEs→Q8→Gs→Option (Bool×Gs)
 |.nil,_,g=>some (true,g)
 |.cons e .nil,ρ,g=>bB (Qb O e ρ g) fun b g=>some (b,g)
 |.cons _ (.cons _ _),_,_=>none
noncomputable def Jm (O:Orc):CI→Q8→Gs→Option (List D×Gs)
 |.over e,ρ,g=>bnd (Qb O e ρ g) fun x g=>Qbl (Qji x) g
 |.rng a b,ρ,g=>bI (Qb O a ρ g) fun i g=>bI (Qb O b ρ g) fun j g=>gd (Q2 i&&0≤j-i&&j-i≤1048576) (some (Qbk i (j-i).toNat,g))
 |.rng1 b,ρ,g=>bI (Qb O b ρ g) fun j g=>gd (0≤j&&j≤1048576) (some (Qbk 0 j.toNat,g))
 |.zip es,ρ,g=>bnd (Yd O es ρ g) fun xs g=>opt (Quj xs) fun ls=>gd (Qt6 ls) (some (Qav ls,g))
 |.enum e,ρ,g=>bnd (Qb O e ρ g) fun x g=>opt (Qji x) fun xs=>some (Qav [Qbk 0 xs.length,xs],g)
end
noncomputable def Qww (x:Option (Fl×Q8×Gs)) (f:Q8→Gs→Option (Fl×Q8×Gs)):Option (Fl×Q8×Gs):=match x with
 |some (.nxt,ρ,g)=>f ρ g
 |x=>x
theorem Qw6 {x:Option (Fl×Q8×Gs)}{f:Q8→Gs→Option (Fl×Q8×Gs)}{r:Fl×Q8×Gs}(h:Qww x f=some r) (k1:∀ρ g,x=some (.nxt,ρ,g)→f ρ g=some r→G) (k2:∀d,r.1=.ret d→x=some r→G):G:=by
 rcases x with _|⟨_|d,ρ,g⟩
 ·exact ns h
 ·exact k1 ρ g rfl h
 ·cases h;exact k2 d rfl rfl
@[simp] theorem Ydl (ρ:Q8) (g:Gs) (f:Q8→Gs→Option (Fl×Q8×Gs)):Qww (some (.nxt,ρ,g)) f=f ρ g:=rfl
@[simp] theorem Ydq (d:D) (ρ:Q8) (g:Gs) (f:Q8→Gs→Option (Fl×Q8×Gs)):Qww (some (.ret d,ρ,g)) f=some (.ret d,ρ,g):=rfl
noncomputable def J4 (f:D→Q8→Gs→Option (Fl×Q8×Gs)):List D→Q8→Gs→Option (Fl×Q8×Gs)
 |[],ρ,g=>some (.nxt,ρ,g)
 |d::r,ρ,g=>Qww (f d ρ g) fun ρ' g'=>J4 f r ρ' g'
noncomputable def Ydi:Option (Option B)→Option D
 |some (some (.own xs))=>some (.lst xs)
 |some (some (.ownD es))=>some (.dct es)
 |_=>none
@[elab_as_elim] theorem Yhu {b:Option (Option B)} {M:Option (Option B)→D→Prop} (h:Ydi b=some d) (k1:∀xs,M (some (some (.own xs))) (.lst xs)) (k2:∀es,M (some (some (.ownD es))) (.dct es)):M b d:=by
 rcases b with _|_|b
 ·exact ns h
 ·exact ns h
 ·cases b<;>first|exact ns h|(cases h;exact k1 _)|(cases h;exact k2 _)
noncomputable def Qqg (O:Orc) (e:Option CE) (ρ:Q8) (g:Gs):Option (B×Gs):=match e with
 |none=>some (.own [],g)
 |some e=>bnd (Qb O e ρ g) fun d g=>some (.val d,g)
noncomputable def Qti (j:Int) (x:Int) (ρ:Q8) (g:Gs):Option (Fl×Q8×Gs):=if j=0 then some (.nxt,ρ,{ g with p0:=x }) else if j=1 then some (.nxt,ρ,{ g with p1:=x }) else none
noncomputable def Yc5 (d:D) (k:Option (D×Gs)) (ρ:Q8):D→Option (Fl×Q8×Gs)
 |.hnd .pen=>bI k fun j g=>sI' (fun x=>Qti j x ρ g) d
 |.hnd .flds=>bI k fun j g=>gd (0≤j&&j<g.flds.length&&Qm g.flds.length) (some (.nxt,ρ,{ g with flds:=g.flds.set j.toNat d }))
 |_=>none
theorem Yci {j x:Int}{r:Fl×Q8×Gs}(h:Qti j x ρ g=some r) (k0:j=0→some (.nxt,ρ,{ g with p0:=x })=some r→G) (k1:j=1→some (.nxt,ρ,{ g with p1:=x })=some r→G):G:=by
 unfold Qti at h;by_cases q:j=0
 ·rw [if_pos q]at h;exact k0 q h
 ·rw [if_neg q]at h;by_cases q1:j=1
  ·rw [if_pos q1]at h;exact k1 q1 h
  ·rw [if_neg q1]at h;exact ns h
set_option tactic.hygienic true in
@[elab_as_elim] theorem Ycb {h:D} {kk:Option (D×Gs)} {r:Fl×Q8×Gs} {M:D→Prop} (q:Yc5 d kk ρ h=some r) (k1:(bI kk fun j g=>sI' (fun x=>Qti j x ρ g) d)=some r→M (.hnd .pen))
  (k2:(bI kk fun j g=>gd (0≤j&&j<g.flds.length&&Qm g.flds.length) (some (Fl.nxt,ρ,{ g with flds:=g.flds.set j.toNat d })))=some r→M (.hnd .flds)):M h:=by
 cases h<;>first|exact ns q|skip
 rename_i u;cases u<;>first|exact ns q|exact k1 q|exact k2 q
mutual
noncomputable def Vy (O:Orc):CS→Q8→Gs→Option (Fl×Q8×Gs)
 |.asg t e,ρ,g=>bnd (Qb O e ρ g) fun d g=>opt (Qdb t ρ d) fun ρ'=>some (.nxt,ρ',g)
 |.ownL i,ρ,g=>gd (Qa7 ρ i) (some (.nxt,ρ.set i (some (.own [])),g))
 |.ownD i,ρ,g=>gd (Qa7 ρ i) (some (.nxt,ρ.set i (some (.ownD [])),g))
 |.ownE i e,ρ,g=>gd (Qa7 ρ i) (bLi (Qb O e ρ g) fun xs g=>some (.nxt,ρ.set i (some (.own xs)),g))
 |.two i j a b,ρ,g=>gd (Qa7 ρ i&&Qa7 ρ j&&i != j) (bnd (Qqg O a ρ g) fun x g=>bnd (Qqg O b ρ g) fun y g=>some (.nxt,(ρ.set i (some x)).set j (some y),g))
 |.app i e,ρ,g=>slO (fun xs=>bnd (Qb O e ρ g) fun d g=>gd (Qm xs.length) (some (.nxt,ρ.set i (some (.own (xs++[d]))),g))) ρ[i]?
 |.setL i k v,ρ,g=>bnd (Qb O v ρ g) fun d g=>slO (fun xs=>bI (Qb O k ρ g) fun j g=>gd (0≤j&&j<xs.length&&Qm xs.length) (some (.nxt,ρ.set i (some (.own (xs.set j.toNat d))),g))) ρ[i]?
 |.setD i k v,ρ,g=>bnd (Qb O v ρ g) fun d g=>slD (fun es=>bTu (Qb O k ρ g) fun ks g=>opt (V3 ks) fun ns=>gd (Qm es.length) (some (.nxt,ρ.set i (some (.ownD (Qn3 es ns d))),g))) ρ[i]?
 |.setH b k v,ρ,g=>bnd (Qb O v ρ g) fun d g=>bnd (Qb O b ρ g) fun h g=>Yc5 d (Qb O k ρ g) ρ h
 |.frz i,ρ,g=>opt (Ydi ρ[i]?) fun d=>some (.nxt,ρ.set i (some (.val d)),g)
 |.ex e,ρ,g=>bnd (Qb O e ρ g) fun d g=>gd (isNone d) (some (.nxt,ρ,g))
 |.ifS t a b,ρ,g=>bB (Qb O t ρ g) fun v g=>cond v (Yj O a ρ g) (Yj O b ρ g)
 |.forS t it b,ρ,g=>bnd (Jm O it ρ g) fun ds g=>J4 (fun d ρ g=>opt (Qdb t ρ d) fun ρ'=>Yj O b ρ' g) ds ρ g
 |.ret e,ρ,g=>bnd (Qb O e ρ g) fun d g=>some (.ret d,ρ,g)
 |.bad,_,_=>none
noncomputable def Yj (O:Orc):CSs→Q8→Gs→Option (Fl×Q8×Gs)
 |.nil,ρ,g=>some (.nxt,ρ,g)
 |.cons s r,ρ,g=>Qww (Vy O s ρ g) fun ρ g=>Yj O r ρ g
end
theorem bn {b:Bool}(h:(!b)=true):b=false:=by cases b;rfl;cases h
theorem mmK {ix:α→Nat}{f:(e:α)→ix e=n→Bool}{e:α}(h:mm ix n f e=true) (g:∀q:ix e=n,f e q=true→G):G:=by
 unfold mm at h;by_cases q:ix e=n
 ·rw [dif_pos q]at h;exact g q h
 ·rw [dif_neg q]at h;exact nomatch h
theorem ff {p:Prop}(h:false=true):p:=(Bool.false_ne_true h).elim
theorem ba1 {a b:Bool}(h:(a&&b)=true):a=true:=(Bool.and_eq_true_iff.mp h).1
theorem ba2 {a b:Bool}(h:(a&&b)=true):b=true:=(Bool.and_eq_true_iff.mp h).2
@[elab_as_elim] theorem Ydr {k:UnaryOp→Expr→Pos→Bool} (hh:mUn k ee=true) (g:∀op x p,k op x p=true→M (Expr.UnaryOp op x p)):M ee:=mmK hh fun q hh=>
 Expr.UnaryOp.elim (motive_1:=fun ee=>(q:ee.ctorIdx=_)→Expr.UnaryOp.elim (motive_1:=fun Y=>Bool) ee q k=true→M ee) ee q (fun op x p Y hh=>g op x p hh) q hh
@[elab_as_elim] theorem Ycr {k:Expr→Operator→Expr→Pos→Bool} (hh:Yda k ee=true) (g:∀l o r p,k l o r p=true→M (Expr.BinOp l o r p)):M ee:=mmK hh fun q hh=>
 Expr.BinOp.elim (motive_1:=fun ee=>(q:ee.ctorIdx=_)→Expr.BinOp.elim (motive_1:=fun Y=>Bool) ee q k=true→M ee) ee q (fun l o r p Y hh=>g l o r p hh) q hh
@[elab_as_elim] theorem Yhw {k:Expr→Expr→Expr→Pos→Bool} (hh:mIf k ee=true) (g:∀t a b p,k t a b p=true→M (Expr.IfExp t a b p)):M ee:=mmK hh fun q hh=>
 Expr.IfExp.elim (motive_1:=fun ee=>(q:ee.ctorIdx=_)→Expr.IfExp.elim (motive_1:=fun Y=>Bool) ee q k=true→M ee) ee q (fun t a b p Y hh=>g t a b p hh) q hh
@[elab_as_elim] theorem Ygw {k:BoolOp→List Expr→Pos→Bool} (hh:mBl k ee=true) (g:∀o vs p,k o vs p=true→M (Expr.BoolOp o vs p)):M ee:=mmK hh fun q hh=>
 Expr.BoolOp.elim (motive_1:=fun ee=>(q:ee.ctorIdx=_)→Expr.BoolOp.elim (motive_1:=fun Y=>Bool) ee q k=true→M ee) ee q (fun o vs p Y hh=>g o vs p hh) q hh
@[elab_as_elim] theorem Ydj {k:Expr→List Comprehension→Scope→Pos→Bool} (hh:mLC k ee=true) (g:∀x gs sc p,k x gs sc p=true→M (Expr.ListComp x gs sc p)):M ee:=mmK hh fun q hh=>
 Expr.ListComp.elim (motive_1:=fun ee=>(q:ee.ctorIdx=_)→Expr.ListComp.elim (motive_1:=fun Y=>Bool) ee q k=true→M ee) ee q (fun x gs sc p Y hh=>g x gs sc p hh) q hh
@[elab_as_elim] theorem Qmz {k:Expr→List CmpOp→List Expr→Pos→Bool} (hh:Qu5 k ee=true) (g:∀l os rs p,k l os rs p=true→M (Expr.Compare l os rs p)):M ee:=mmK hh fun q hh=>
 Expr.Compare.elim (motive_1:=fun ee=>(q:ee.ctorIdx=_)→Expr.Compare.elim (motive_1:=fun Y=>Bool) ee q k=true→M ee) ee q (fun l os rs p Y hh=>g l os rs p hh) q hh
@[elab_as_elim] theorem Ygk {k:Expr→List Expr→List Keyword→Pos→Bool} (hh:mCl k ee=true) (g:∀f as ks p,k f as ks p=true→M (Expr.Call f as ks p)):M ee:=mmK hh fun q hh=>
 Expr.Call.elim (motive_1:=fun ee=>(q:ee.ctorIdx=_)→Expr.Call.elim (motive_1:=fun Y=>Bool) ee q k=true→M ee) ee q (fun f as ks p Y hh=>g f as ks p hh) q hh
@[elab_as_elim] theorem Qng {k:Const→Nat→Pos→Bool} (hh:mCn k ee=true) (g:∀c kk p,k c kk p=true→M (Expr.Constant c kk p)):M ee:=mmK hh fun q hh=>
 Expr.Constant.elim (motive_1:=fun ee=>(q:ee.ctorIdx=_)→Expr.Constant.elim (motive_1:=fun Y=>Bool) ee q k=true→M ee) ee q (fun c kk p Y hh=>g c kk p hh) q hh
@[elab_as_elim] theorem Yek {k:Expr→Str→Pos→Bool} (hh:mAt k ee=true) (g:∀x n p,k x n p=true→M (Expr.Attribute x n p)):M ee:=mmK hh fun q hh=>
 Expr.Attribute.elim (motive_1:=fun ee=>(q:ee.ctorIdx=_)→Expr.Attribute.elim (motive_1:=fun Y=>Bool) ee q k=true→M ee) ee q (fun x n p Y hh=>g x n p hh) q hh
@[elab_as_elim] theorem Qjh {k:Expr→Expr→Pos→Bool} (hh:Qr9 k ee=true) (g:∀x i p,k x i p=true→M (Expr.Subscript x i p)):M ee:=mmK hh fun q hh=>
 Expr.Subscript.elim (motive_1:=fun ee=>(q:ee.ctorIdx=_)→Expr.Subscript.elim (motive_1:=fun Y=>Bool) ee q k=true→M ee) ee q (fun x i p Y hh=>g x i p hh) q hh
@[elab_as_elim] theorem Qmo {k:Str→Pos→Bool} (hh:mNm k ee=true) (g:∀x p,k x p=true→M (Expr.Name x p)):M ee:=mmK hh fun q hh=>
 Expr.Name.elim (motive_1:=fun ee=>(q:ee.ctorIdx=_)→Expr.Name.elim (motive_1:=fun Y=>Bool) ee q k=true→M ee) ee q (fun x p Y hh=>g x p hh) q hh
@[elab_as_elim] theorem Qy1 {k:List Expr→Pos→Bool} (hh:mLs k ee=true) (g:∀es p,k es p=true→M (Expr.List es p)):M ee:=mmK hh fun q hh=>
 Expr.List.elim (motive_1:=fun ee=>(q:ee.ctorIdx=_)→Expr.List.elim (motive_1:=fun Y=>Bool) ee q k=true→M ee) ee q (fun es p Y hh=>g es p hh) q hh
@[elab_as_elim] theorem Qyj {k:List Expr→Nat→Pos→Bool} (hh:mTu k ee=true) (g:∀es kk p,k es kk p=true→M (Expr.Tuple es kk p)):M ee:=mmK hh fun q hh=>
 Expr.Tuple.elim (motive_1:=fun ee=>(q:ee.ctorIdx=_)→Expr.Tuple.elim (motive_1:=fun Y=>Bool) ee q k=true→M ee) ee q (fun es kk p Y hh=>g es kk p hh) q hh
@[elab_as_elim] theorem Yhx {k:Option Expr→Option Expr→Option Expr→Pos→Bool} (hh:mSl k ee=true) (g:∀lo up st p,k lo up st p=true→M (Expr.Slice lo up st p)):M ee:=mmK hh fun q hh=>
 Expr.Slice.elim (motive_1:=fun ee=>(q:ee.ctorIdx=_)→Expr.Slice.elim (motive_1:=fun Y=>Bool) ee q k=true→M ee) ee q (fun lo up st p Y hh=>g lo up st p hh) q hh
@[elab_as_elim] theorem Yht {k:List (Option Expr)→List Expr→Pos→Bool} (hh:mDi k ee=true) (g:∀ks vs p,k ks vs p=true→M (Expr.Dict ks vs p)):M ee:=mmK hh fun q hh=>
 Expr.Dict.elim (motive_1:=fun ee=>(q:ee.ctorIdx=_)→Expr.Dict.elim (motive_1:=fun Y=>Bool) ee q k=true→M ee) ee q (fun ks vs p Y hh=>g ks vs p hh) q hh
@[elab_as_elim] theorem Qoq {k:List Expr→Expr→Pos→Bool} {ee:Stmt} {M:Stmt→Prop} (hh:mAs k ee=true) (g:∀ts v p,k ts v p=true→M (Stmt.Assign ts v p)):M ee:=mmK hh fun q hh=>
 Stmt.Assign.elim (motive_2:=fun ee=>(q:ee.ctorIdx=_)→Stmt.Assign.elim (motive_2:=fun Y=>Bool) ee q k=true→M ee) ee q (fun ts v p Y hh=>g ts v p hh) q hh
@[elab_as_elim] theorem Qy6 {k:Expr→Pos→Bool} {ee:Stmt} {M:Stmt→Prop} (hh:mEx k ee=true) (g:∀v p,k v p=true→M (Stmt.Expr v p)):M ee:=mmK hh fun q hh=>
 Stmt.Expr.elim (motive_2:=fun ee=>(q:ee.ctorIdx=_)→Stmt.Expr.elim (motive_2:=fun Y=>Bool) ee q k=true→M ee) ee q (fun v p Y hh=>g v p hh) q hh
@[elab_as_elim] theorem Ydv {k:Expr→List Stmt→List Stmt→Pos→Bool} {ee:Stmt} {M:Stmt→Prop} (hh:mSI k ee=true) (g:∀t a b p,k t a b p=true→M (Stmt.If t a b p)):M ee:=mmK hh fun q hh=>
 Stmt.If.elim (motive_2:=fun ee=>(q:ee.ctorIdx=_)→Stmt.If.elim (motive_2:=fun Y=>Bool) ee q k=true→M ee) ee q (fun t a b p Y hh=>g t a b p hh) q hh
@[elab_as_elim] theorem Yh7 {k:Expr→Expr→List Stmt→List Stmt→Pos→Bool} {ee:Stmt} {M:Stmt→Prop} (hh:mFo k ee=true) (g:∀t i b o p,k t i b o p=true→M (Stmt.For t i b o p)):M ee:=mmK hh fun q hh=>
 Stmt.For.elim (motive_2:=fun ee=>(q:ee.ctorIdx=_)→Stmt.For.elim (motive_2:=fun Y=>Bool) ee q k=true→M ee) ee q (fun t i b o p Y hh=>g t i b o p hh) q hh
@[elab_as_elim] theorem Ydh {k:Option Expr→Pos→Bool} {ee:Stmt} {M:Stmt→Prop} (hh:mRe k ee=true) (g:∀v p,k v p=true→M (Stmt.Return v p)):M ee:=mmK hh fun q hh=>
 Stmt.Return.elim (motive_2:=fun ee=>(q:ee.ctorIdx=_)→Stmt.Return.elim (motive_2:=fun Y=>Bool) ee q k=true→M ee) ee q (fun v p Y hh=>g v p hh) q hh
@[elab_as_elim] theorem Yhv {k:Option Expr→Option Expr→Pos→Bool} {ee:Stmt} {M:Stmt→Prop} (hh:mRa k ee=true) (g:∀e c p,k e c p=true→M (Stmt.Raise e c p)):M ee:=mmK hh fun q hh=>
 Stmt.Raise.elim (motive_2:=fun ee=>(q:ee.ctorIdx=_)→Stmt.Raise.elim (motive_2:=fun Y=>Bool) ee q k=true→M ee) ee q (fun e c p Y hh=>g e c p hh) q hh
@[elab_as_elim] theorem Yiu {k:List Stmt→List ExceptHandler→List Stmt→List Stmt→Pos→Bool} {ee:Stmt} {M:Stmt→Prop} (hh:mTr k ee=true) (g:∀b h o fi p,k b h o fi p=true→M (Stmt.Try b h o fi p)):M ee:=mmK hh fun q hh=>
 Stmt.Try.elim (motive_2:=fun ee=>(q:ee.ctorIdx=_)→Stmt.Try.elim (motive_2:=fun Y=>Bool) ee q k=true→M ee) ee q (fun b h o fi p Y hh=>g b h o fi p hh) q hh
@[elab_as_elim] theorem mEK {l:List α} {M:List α→Prop} (h:mE l=true) (g:M []):M l:=(List.isEmpty_iff.mp h).symm▸g
@[elab_as_elim] theorem dK {a b:α} {d:Decidable (a=b)} {M:α→Prop} (h:decide (a=b)=true) (g:M b):M a:=(of_decide_eq_true h).symm▸g
@[elab_as_elim] theorem dK' {a b:α} {d:Decidable (a=b)} {M:α→Prop} (h:decide (a=b)=true) (g:M a):M b:=of_decide_eq_true h▸g
theorem baK {a b:Bool}(h:(a&&b)=true) (k:a=true→b=true→G):G:=k (ba1 h) (ba2 h)
@[elab_as_elim] theorem mCK {f:α→List α→Bool} {l:List α} {M:List α→Prop} (h:mC f l=true) (g:∀a r,f a r=true→M (a::r)):M l:=by
 cases l with
 |nil=>exact ff h
 |cons a r=>exact g a r h
@[elab_as_elim] theorem m1K {f:α→Bool} {l:List α} {M:List α→Prop} (h:m1 f l=true) (g:∀a,f a=true→M [a]):M l:=mCK h fun a Y h=>mEK (M:=fun r=>M (a::r)) (ba1 h) (g a (ba2 h))
@[elab_as_elim] theorem m2K {f:α→α→Bool} {l:List α} {M:List α→Prop} (h:m2 f l=true) (g:∀a b,f a b=true→M [a,b]):M l:=mCK h fun a Y h=>m1K (M:=fun r=>M (a::r)) h (g a)
@[elab_as_elim] theorem m3K {f:α→α→α→Bool} {l:List α} {M:List α→Prop} (h:m3 f l=true) (g:∀a b c,f a b c=true→M [a,b,c]):M l:=mCK h fun a Y h=>m2K (M:=fun r=>M (a::r)) h (g a)
@[elab_as_elim] theorem mSK {f:α→Bool} {o:Option α} {M:Option α→Prop} (h:mS f o=true) (g:∀a,f a=true→M (some a)):M o:=by
 cases o with
 |none=>exact ff h
 |some a=>exact g a h
@[elab_as_elim] theorem mNK {o:Option α} {M:Option α→Prop} (h:mN o=true) (g:M none):M o:=by
 cases o with
 |none=>exact g
 |some _=>exact ff h
@[elab_as_elim] theorem mFK {f:Str→List Expr→Bool} {e:Expr} (h:mF f e=true) (g:∀x q as p,f x as=true→M (.Call (.Name x q) as [] p)):M e:=
 Ygk h fun c as Y p h=>Qmo (M:=fun c=>M (.Call c as _ p)) (ba2 h) fun x q h2=>mEK (M:=fun ks=>M (.Call (.Name x q) as ks p)) (ba1 h) (g x q as p h2)
@[elab_as_elim] theorem Yha {a:String} {x:Str} {M:Str→Prop} (h:nmS a x=true) (g:(Str.ofString a==("__debug__":Str))=false→M (Str.ofString a)):M x:=dK' (M:=fun x=>(x==("__debug__":Str))=false→M x) (ba1 h) g (bn (ba2 h))
@[elab_as_elim] theorem Qna {a:String} (h:mNS a e'=true) (g:∀q,(Str.ofString a==("__debug__":Str))=false→M (.Name (Str.ofString a) q)):M e':=Qmo h fun Y q h=>Yha (M:=fun x=>M (.Name x q)) h (g q)
@[elab_as_elim] theorem mRK {f:Expr→Bool} {ss:List Stmt} {M:List Stmt→Prop} (h:mR f ss=true) (g:∀e q,f e=true→M [.Return (some e) q]):M ss:=
 m1K h fun s h=>Ydh (M:=fun s=>M [s]) h fun Y q h=>mSK (M:=fun v=>M [.Return v q]) h fun e h=>g e q h
@[elab_as_elim] theorem mMK {n:String} {f:Expr→List Expr→Bool} (h:mM n f e'=true) (g:∀x ap as p,(ap.endLine==p.line)=true→f x as=true→M (.Call (.Attribute x (Str.ofString n) ap) as [] p)):M e':=
 Ygk h fun c as Y p h=>Yek (M:=fun c=>M (.Call c as _ p)) (ba2 h) fun x Y ap h2=>dK (M:=fun m=>M (.Call (.Attribute x m ap) as _ p)) (ba1 (ba1 h2)) (mEK (M:=fun ks=>M (.Call (.Attribute x _ ap) as ks p)) (ba1 h) (g x ap as p (ba2 (ba1 h2)) (ba2 h2)))
@[elab_as_elim] theorem Yh2 {f:Option Expr→Option Str→List Stmt→Bool} {h':ExceptHandler} {M:ExceptHandler→Prop} (h:mEH f h'=true) (g:∀t n b p,f t n b=true→M (.ExceptHandler t n b p)):M h':=by
 cases h' with
 |ExceptHandler t n b p=>exact g t n b p h
@[elab_as_elim] theorem Yiw {k:String→CEs→Bool} {ee:CE} {M:CE→Prop} (hh:kFn k ee=true) (g:∀f r,k f r=true→M (CE.fn f r)):M ee:=mmK hh fun q hh=>
 CE.fn.elim (motive_1:=fun ee=>(q:ee.ctorIdx=_)→CE.fn.elim (motive_1:=fun Y=>Bool) ee q k=true→M ee) ee q (fun f r Y hh=>g f r hh) q hh
@[elab_as_elim] theorem Yh4 {k:Nat→Bool} {ee:CE} {M:CE→Prop} (hh:kVa k ee=true) (g:∀i,k i=true→M (CE.var i)):M ee:=mmK hh fun q hh=>
 CE.var.elim (motive_1:=fun ee=>(q:ee.ctorIdx=_)→CE.var.elim (motive_1:=fun Y=>Bool) ee q k=true→M ee) ee q (fun i Y hh=>g i hh) q hh
@[elab_as_elim] theorem kLK {k:CEs→Bool} {ee:CE} {M:CE→Prop} (hh:kL k ee=true) (g:∀es,k es=true→M (CE.lst es)):M ee:=mmK hh fun q hh=>
 CE.lst.elim (motive_1:=fun ee=>(q:ee.ctorIdx=_)→CE.lst.elim (motive_1:=fun Y=>Bool) ee q k=true→M ee) ee q (fun es Y hh=>g es hh) q hh
@[elab_as_elim] theorem kCK {k:CE→CEs→Bool} {ee:CEs} {M:CEs→Prop} (hh:kC k ee=true) (g:∀e r,k e r=true→M (CEs.cons e r)):M ee:=mmK hh fun q hh=>
 CEs.cons.elim (motive_2:=fun ee=>(q:ee.ctorIdx=_)→CEs.cons.elim (motive_2:=fun Y=>Bool) ee q k=true→M ee) ee q (fun e r Y hh=>g e r hh) q hh
@[elab_as_elim] theorem kBK {k:BOp→CE→CE→Bool} {ee:CE} {M:CE→Prop} (hh:kB k ee=true) (g:∀o l r,k o l r=true→M (CE.bin o l r)):M ee:=mmK hh fun q hh=>
 CE.bin.elim (motive_1:=fun ee=>(q:ee.ctorIdx=_)→CE.bin.elim (motive_1:=fun Y=>Bool) ee q k=true→M ee) ee q (fun o l r Y hh=>g o l r hh) q hh
@[elab_as_elim] theorem Qnb {M:CE→Prop} (h:Qei e=true) (g:∀r,M (.bin .mul (.lst (.cons .none .nil)) r)):M e:=
 kBK h fun o l r h=>dK (M:=fun o=>M (.bin o l r)) (ba1 h) (kLK (M:=fun l=>M (.bin .mul l r)) (ba2 h) fun es h=>kCK (M:=fun es=>M (.bin .mul (.lst es) r)) h fun e t h=>
  CE.none.elim (motive_1:=fun e=>M (.bin .mul (.lst (.cons e t)) r)) e (eq_of_beq (ba1 h)) (CEs.nil.elim (motive_2:=fun t=>M (.bin .mul (.lst (.cons .none t)) r)) t (eq_of_beq (ba2 h)) (g r)))
theorem aP {M:Model}{c:Prop} [Decidable c] {x y:Sem α}{Q:α→Shared→Prop}{E:Value→Shared→Prop}{s:Shared}(h:c) (k:wpAny M A x Q E s):wpAny M A (if c then x else y) Q E s:=(if_pos h).symm▸k
theorem aN {M:Model}{c:Prop} [Decidable c] {x y:Sem α}{Q:α→Shared→Prop}{E:Value→Shared→Prop}{s:Shared}(h:¬c) (k:wpAny M A y Q E s):wpAny M A (if c then x else y) Q E s:=(if_neg h).symm▸k
structure AOk (n:Nat) (A:Around):Prop where
 hh:A.handled=none
 dep:A.depth+n+1<recursionLimit
 uni:A.units+4*n+200<cLine
theorem AOk.le {m:Nat}(x:AOk n A) (h:m≤n):AOk m A:=⟨x.hh,by have:=x.dep;exact (Z40 0x315027703151277061016) h this,by have:=x.uni;exact (Z40 0x3c82604e27703c82614e277061016) h this⟩
theorem AOk.deeper {n:Nat}{A:Around}{env:Env}(x:AOk (n+1) A):AOk n (A.deeper env):=
 ⟨x.hh,by have:=x.dep;show A.depth+1+n+1<_;exact (Z30 0x21511507770215151707706) this,by have:=x.uni;show A.units+3+4*n+200<_;exact (Z30 0x2c82614e35077702c82615174e07706) this⟩
section
noncomputable def Jb (P:Program) (w:World) (hB:Heap) (Γ:Gm) (z:Z) (s:Shared) (g:Gs) (d:D) (Q:Value→Shared→Prop):Prop:=
 ∀v z' s',Base P w hB Γ z' g s'→Step Γ z s z' s'→Rd P w Γ z' v d→Q v s'
theorem Jb.at (p:Jb P w hB Γ z s g d Q) (b:Base P w hB Γ z g s) {t:Nat}(k:∀a o,s.heap.get? a=some o→h'.get? a=some o)
  (r:Rd P w Γ z v d):Q v { s with heap:=h',toks:=t }:=p v z _ (b.grown k) (Step.grown b k) r
theorem Jb.same (p:Jb P w hB Γ z s g d Q) (b:Base P w hB Γ z g s) (t:Nat) (r:Rd P w Γ z v d):Q v { s with toks:=t }:=
 p.at b (h':=s.heap) (t:=t) (fun Y Y e=>e) r
theorem Jb.here (p:Jb P w hB Γ z s g d Q) (b:Base P w hB Γ z g s) (r:Rd P w Γ z v d):Q v s:=p v z s b (Step.refl Γ z s) r
theorem Jb.step (p:Jb P w hB Γ z s g d Q) (st:Step Γ z s z' s'):Jb P w hB Γ z' s' g d Q:=
 fun v z'' s'' b st' r=>p v z'' s'' b (st.trans st') r
theorem Vc (b:Base P w hB Γ z g s) (ha:s.heap.get? a=none):Γ.free a:=by
 refine ⟨fun h q=>?_,fun h q=>?_⟩
 ·obtain ⟨t,u,n,e⟩:=b.pen h;rw [←q,ha]at e;cases e
 ·obtain ⟨vs,n,e,_⟩:=b.flds h;rw [←q,ha]at e;exact nomatch e
theorem Jb.frozen (p:Jb P w hB Γ z s g d Q) (b:Base P w hB Γ z g s) {t:Nat}(k:∀a o,s.heap.get? a=some o→h'.get? a=some o)
  (ha:s.heap.get? a=none) (e:h'.get? a=some o) (r:Rd P w Γ (z.add a o) (.ref a) d):Q (.ref a) { s with heap:=h',toks:=t }:=by
 have hz:z a=none:=Ql b.zin ha;refine p _ (z.add a o) _ ((b.grown k).freeze e hz (Vc b ha)) ⟨⟨h',t,rfl⟩,fun c o' Y q=>k c o' q,Z.le_add hz,fun c o' Y hc=>?_⟩ r;unfold Z.add;rw [if_neg (fun q=>by rw [q,ha]at hc;exact nomatch hc)]
theorem Jb.tup (p:Jb P w hB Γ z s g (.tup ds) Q) (b:Base P w hB Γ z g s) {a:Addr}{vs:List Value}{n:Nat}{h':Heap}{t:Nat}(k:∀a o,s.heap.get? a=some o→h'.get? a=some o)
  (ha:s.heap.get? a=none) (e:h'.get? a=some (Qae vs n)) (r:Rds P w Γ z vs ds):Q (.ref a) { s with heap:=h',toks:=t }:=
 p.frozen b k ha e (.tup (Z.add_self ..) (r.le (Z.le_add (Ql b.zin ha))))
theorem Jb.lst (p:Jb P w hB Γ z s g (.lst ds) Q) (b:Base P w hB Γ z g s) {a:Addr}{vs:List Value}{n:Nat}{h':Heap}{t:Nat}(k:∀a o,s.heap.get? a=some o→h'.get? a=some o)
  (ha:s.heap.get? a=none) (e:h'.get? a=some (Vs vs n)) (r:Rds P w Γ z vs ds):Q (.ref a) { s with heap:=h',toks:=t }:=
 p.frozen b k ha e (.lst (Z.add_self ..) (r.le (Z.le_add (Ql b.zin ha))))
theorem Qv (h:Heap) (o:Obj):∀a o',h.get? a=some o'→(h.push o).get? a=some o':=fun Y Y e=>Heap.get?_push_of_some _ e
theorem Jb.newTup (p:Jb P w hB Γ z s g (.tup ds) Q) (b:Base P w hB Γ z g s) (t:Nat) (r:Rds P w Γ z vs ds) :
  Q (.ref s.heap.objs.size) { s with heap:=s.heap.push { cls:=.type "tuple",data:=.seq vs.toArray },toks:=t }:=
 p.tup b (Qv _ _) (Qe _) (Heap.get?_push_size _ rfl) r
theorem Jb.newLst (p:Jb P w hB Γ z s g (.lst ds) Q) (b:Base P w hB Γ z g s) (t:Nat) (r:Rds P w Γ z vs ds) :
  Q (.ref s.heap.objs.size) { s with heap:=s.heap.push { cls:=.type "list",data:=.seq vs.toArray },toks:=t }:=
 p.lst b (Qv _ _) (Qe _) (Heap.get?_push_size _ rfl) r
noncomputable def RdI (P:Program) (w:World) (Γ:Gm) (z:Z) (v:Value) (d:D):Prop:=∀M:Value→Prop,D.casesOn (motive_1:=fun Y=>Prop) d (M .none→M v) (fun b=>M (.bool b)→M v) (fun i=>(∀t,M (.int i t))→M v) (fun x=>(∀t,M (.str x t))→M v)
 (fun xs=>(∀a vs n,z a=some (Qae vs n)→Rds P w Γ z vs xs→M (.ref a))→M v) (fun xs=>(∀a vs n,z a=some (Vs vs n)→Rds P w Γ z vs xs→M (.ref a))→M v)
 (fun kvs=>(∀a es xs,Qey P w z a es→kvs=(es.map (·.1)).zip xs→Rds P w Γ z (es.map fun x=>x.2.2) xs→M (.ref a))→M v) (fun k=>(Γ.ok k→M (.ref (Γ.at k)))→M v)
noncomputable def Yh9 (P:Program) (w:World) (Γ:Gm) (z:Z) (vs:List Value) (ds:List D):Prop:=∀M:List Value→Prop,List.casesOn (motive:=fun Y=>Prop) ds (M []→M vs) fun d ds=>(∀v us,Rd P w Γ z v d→Rds P w Γ z us ds→M (v::us))→M vs
theorem Qcc:(∀{v:Value}{d:D},Rd P w Γ z v d→RdI P w Γ z v d)∧(∀{vs:List Value}{ds:List D},Rds P w Γ z vs ds→Yh9 P w Γ z vs ds):=
 Rd.both (fun Y g=>g) (fun Y Y g=>g) (fun Y t Y g=>g t) (fun Y t Y g=>g t) (fun e r Y Y g=>g _ _ _ e r) (fun e r Y Y g=>g _ _ _ e r) (fun e r Y Y g=>g _ _ _ e rfl r) (fun Y q Y g=>g q) (fun Y g=>g) fun r q Y Y Y g=>g _ _ r q
section
variable {M:Value→Prop}{N:List Value→Prop}
@[elab_as_elim] theorem Qoz (h:Rd P w Γ z v .none) (g:M .none):M v:=Qcc.1 h M g
@[elab_as_elim] theorem Qs9 {b:Bool} (h:Rd P w Γ z v (.bool b)) (g:M (.bool b)):M v:=Qcc.1 h M g
@[elab_as_elim] theorem V4 {i:Int} (h:Rd P w Γ z v (.int i)) (g:∀t,M (.int i t)):M v:=Qcc.1 h M g
@[elab_as_elim] theorem Qj7 (h:Rd P w Γ z v (.tup xs)) (g:∀a vs n,z a=some (Qae vs n)→Rds P w Γ z vs xs→M (.ref a)):M v:=Qcc.1 h M g
@[elab_as_elim] theorem Qq9 (h:Rd P w Γ z v (.lst xs)) (g:∀a vs n,z a=some (Vs vs n)→Rds P w Γ z vs xs→M (.ref a)):M v:=Qcc.1 h M g
@[elab_as_elim] theorem Qxx (h:Rd P w Γ z v (.dct kvs)) (g:∀a es xs,Qey P w z a es→kvs=(es.map (·.1)).zip xs→Rds P w Γ z (es.map fun x=>x.2.2) xs→M (.ref a)):M v:=Qcc.1 h M g
@[elab_as_elim] theorem Qdu {k:Hd} (h:Rd P w Γ z v (.hnd k)) (g:Γ.ok k→M (.ref (Γ.at k))):M v:=Qcc.1 h M g
@[elab_as_elim] theorem Yef (h:Rds P w Γ z vs []) (g:N []):N vs:=Qcc.2 h N g
@[elab_as_elim] theorem Qt2 {x:D} (h:Rds P w Γ z vs (x::xs)) (g:∀v us,Rd P w Γ z v x→Rds P w Γ z us xs→N (v::us)):N vs:=Qcc.2 h N g
@[elab_as_elim] theorem Qtu {x:D} (h:Rds P w Γ z vs [x]) (g:∀v,Rd P w Γ z v x→N [v]):N vs:=Qt2 h fun v Y r q=>Yef (N:=fun us=>N (v::us)) q (g v r)
@[elab_as_elim] theorem Qse {x:D} (h:Rds P w Γ z vs [x,y]) (g:∀v u,Rd P w Γ z v x→Rd P w Γ z u y→N [v,u]):N vs:=Qt2 h fun v Y r q=>Qtu (N:=fun us=>N (v::us)) q fun u=>g v u r
@[elab_as_elim] theorem Yb9 {x t:D} (h:Rds P w Γ z vs [x,y,t]) (g:∀v u q,Rd P w Γ z v x→Rd P w Γ z u y→Rd P w Γ z q t→N [v,u,q]):N vs:=Qt2 h fun v Y r q=>Qse (N:=fun us=>N (v::us)) q fun u q=>g v u q r
end
theorem Vo {i:Int}(h:Rd P w Γ z v (.int i)):∃t,v=.int i t:=V4 h fun t=>⟨t,rfl⟩
theorem Qz3 (h:Rd P w Γ z v .none):v=.none:=Qoz h rfl
theorem Jx (h:Rd P w Γ z v (.tup xs)):X3 fun a vs n=>A3 (v=.ref a) (z a=some (Qae vs n)) (Rds P w Γ z vs xs):=Qj7 h fun a vs n e r=>⟨a,vs,n,rfl,e,r⟩
theorem Qc5 (h:Rd P w Γ z v (.lst xs)):X3 fun a vs n=>A3 (v=.ref a) (z a=some (Vs vs n)) (Rds P w Γ z vs xs):=Qq9 h fun a vs n e r=>⟨a,vs,n,rfl,e,r⟩
theorem Qqi (h:Rd P w Γ z v (.dct kvs)):X3 fun a es xs=>A4 (v=.ref a) (Qey P w z a es) (kvs=(es.map (·.1)).zip xs) (Rds P w Γ z (es.map fun x=>x.2.2) xs):=Qxx h fun a es xs e q r=>⟨a,es,xs,rfl,e,q,r⟩
theorem Qlg {k:Hd}(h:Rd P w Γ z v (.hnd k)):v=.ref (Γ.at k)∧Γ.ok k:=Qdu h fun q=>⟨rfl,q⟩
theorem Yee {x:D}(h:Rds P w Γ z vs [x]):∃v,vs=[v]∧Rd P w Γ z v x:=Qtu h fun v r=>⟨v,rfl,r⟩
theorem Qz8 {x:D}(h:Rds P w Γ z vs [x,y]):X2 fun v u=>A3 (vs=[v,u]) (Rd P w Γ z v x) (Rd P w Γ z u y):=Qse h fun v u r q=>⟨v,u,rfl,r,q⟩
theorem Ybv {x t:D}(h:Rds P w Γ z vs [x,y,t]):X3 fun v u q=>A4 (vs=[v,u,q]) (Rd P w Γ z v x) (Rd P w Γ z u y) (Rd P w Γ z q t):=Yb9 h fun v u q r s t=>⟨v,u,q,rfl,r,s,t⟩
theorem Ycl (hz:ZIn z h):(∀{v:Value}{d:D},Rd P w Γ z v d→∀p,Qab d=some p→∃as,Reads h v p as)∧(∀{vs:List Value}{ds:List D},Rds P w Γ z vs ds→∀ps,Vz ds=some ps→∃as,ReadsAll h vs ps as):=
 Rd.both (M:=fun v d=>∀p,Qab d=some p→∃as,Reads h v p as) (N:=fun vs ds=>∀ps,Vz ds=some ps→∃as,ReadsAll h vs ps as)
  (fun p e=>by cases e;exact ⟨_,.none⟩) (fun b p e=>by cases e;exact ⟨_,.bool b⟩) (fun i t p e=>by cases e;exact ⟨_,.int i t⟩) (fun x t p e=>by cases e;exact ⟨_,.str x t⟩)
  (fun q Y x p e=>by
   obtain ⟨ps,e1,rfl⟩:=Option.map_eq_some_iff.mp e;obtain ⟨as,y⟩:=x ps e1;exact ⟨as,.tuple (hz _ _ q) rfl rfl y⟩)
  (fun q Y x p e=>by
   obtain ⟨ps,e1,rfl⟩:=Option.map_eq_some_iff.mp e;obtain ⟨as,y⟩:=x ps e1;exact ⟨_::as,.list (hz _ _ q) rfl rfl y⟩)
  (fun Y Y Y p e=>ns e) (fun Y Y p e=>ns e) (fun ps e=>by cases e;exact ⟨_,.nil⟩)
  (fun {v d vs ds} Y Y x y ps e=>by
   replace e:(match Qab d,Vz ds with
    |some d,some ds=>some (d::ds)
    |_,_=>none)=some ps:=e
   cases h1:Qab d with
   |none=>rw [h1]at e;cases e
   |some p=>
    cases h2:Vz ds with
    |none=>rw [h1,h2]at e;cases e
    |some q=>
     rw [h1,h2]at e;obtain rfl:=Option.some.inj e;obtain ⟨as,a⟩:=x p h1;obtain ⟨bs,b⟩:=y q h2;exact ⟨_,.cons a b⟩)
theorem Qe5 (hz:ZIn z h) {p:PyData}(r:Rd P w Γ z v d) (e:Qab d=some p):∃as,Reads h v p as:=(Ycl hz).1 r p e
set_option tactic.hygienic true in
theorem Ye5 (hA:AOk n A) (b:Base P w hB Γ z g s) {x y:Value}{r:Bool}(ra:Rd P w Γ z x da) (rb:Rd P w Γ z y db) (h:aeq da db=some r) (p:Jb P w hB Γ z s g (.bool r) Q) :
  wpAny (model P w) A (compareOp .Eq x y) Q E s:=by
 unfold aeq at h;cases e1:Qab da with
 |none=>rw [e1]at h;cases h
 |some pa=>cases e2:Qab db with
  |none=>rw [e1,e2]at h;cases h
  |some pb=>
   rw [e1,e2]at h
   replace h:(if SeqAt.shaped pa&&SeqAt.shaped pb then some (PyData.eqv pa pb) else none)=some r:=h
   by_cases hs:(SeqAt.shaped pa&&SeqAt.shaped pb)=true
   ·rw [if_pos hs]at h;cases h;obtain ⟨as,ra'⟩:=Qe5 b.zin ra e1;obtain ⟨bs,rb'⟩:=Qe5 b.zin rb e2;obtain ⟨h1,h2⟩:=Bool.and_eq_true_iff.mp hs;exact eq_dataH ra' rb' h1 h2 (by have:=hA.uni;exact (Z30 0x240260702c82614e07706) this) (p.here b (.bool _))
   ·rw [if_neg hs]at h;cases h
set_option tactic.hygienic true in
theorem Ygf (hA:AOk n A) (b:Base P w hB Γ z g s) {x y:Value}{r:Bool}(ra:Rd P w Γ z x da) (rb:Rd P w Γ z y db) (h:aeq da db=some r) (p:Jb P w hB Γ z s g (.bool (!r)) Q) :
  wpAny (model P w) A (compareOp .NotEq x y) Q E s:=by
 unfold aeq at h;cases e1:Qab da with
 |none=>rw [e1]at h;cases h
 |some pa=>cases e2:Qab db with
  |none=>rw [e1,e2]at h;cases h
  |some pb=>
   rw [e1,e2]at h
   replace h:(if SeqAt.shaped pa&&SeqAt.shaped pb then some (PyData.eqv pa pb) else none)=some r:=h
   by_cases hs:(SeqAt.shaped pa&&SeqAt.shaped pb)=true
   ·rw [if_pos hs]at h;cases h;obtain ⟨as,ra'⟩:=Qe5 b.zin ra e1;obtain ⟨bs,rb'⟩:=Qe5 b.zin rb e2;obtain ⟨h1,h2⟩:=Bool.and_eq_true_iff.mp hs;exact ne_dataH ra' rb' h1 h2 (by have:=hA.uni;exact (Z30 0x240260702c82614e07706) this) (p.here b (.bool _))
   ·rw [if_neg hs]at h;cases h
theorem Yah {f:Int→Int→Bool}{a:D}{r:Bool}(h:ib f a b=some r):X2 fun i j=>a=.int i∧b=.int j:=by
 cases a<;>first|exact ns h|skip
 cases b<;>first|exact ns h|exact ⟨_,_,rfl,rfl⟩
theorem Yae {o:COp}{a:D}{r:Bool}(h:Vw o a b=some r) (h1:o≠.eq) (h2:o≠.ne):X2 fun i j=>a=.int i∧b=.int j:=by
 cases o<;>first|exact absurd rfl h1|exact absurd rfl h2|exact Yah h
theorem Qc0 (hA:AOk n A) (b:Base P w hB Γ z g s) {o:COp}{o':CmpOp}{x y:Value}{r:Bool}(ho:Qeh o o'=true) (ra:Rd P w Γ z x da) (rb:Rd P w Γ z y db)
  (h:Vw o da db=some r) (p:Jb P w hB Γ z s g (.bool r) Q):wpAny (model P w) A (compareOp o' x y) Q E s:=by
 obtain rfl:=of_decide_eq_true ho;clear ho;by_cases h1:o=.eq
 ·subst h1;exact Ye5 hA b ra rb h p
 by_cases h2:o=.ne
 ·subst h2;obtain ⟨r',e,rfl⟩:=Option.map_eq_some_iff.mp h;exact Ygf hA b ra rb e p
 obtain ⟨i,j,rfl,rfl⟩:=Yae h h1 h2;obtain ⟨t,rfl⟩:=Vo ra;obtain ⟨u,rfl⟩:=Vo rb;have q:=p.here b (.bool _);cases o with
 |eq=>exact absurd rfl h1
 |ne=>exact absurd rfl h2
 |lt=>cases h;exact lt_int q
 |le=>cases h;exact le_int q
 |gt=>cases h;exact gt_int q
 |ge=>cases h;exact ge_int q
theorem Qvt (hA:AOk n A) {ds:List PyData}{pa:PyData}(h:PyData.depth pa≤8):A.units+1+min (PyData.depthAll ds) pa.depth<cLine:=by
 refine Nat.lt_of_le_of_lt ?_ hA.uni;rw [Nat.add_assoc,Nat.add_assoc];exact Nat.add_le_add_left (Nat.le_trans (Nat.add_le_add_left (Nat.le_trans (Nat.min_le_right _ _) h) 1) (Nat.le_trans (by decide:1+8≤200) (Nat.le_add_left _ _))) _
set_option tactic.hygienic true in
theorem Ybg (hA:AOk n A) (b:Base P w hB Γ z g s) {x y:Value}{r:Bool}(ra:Rd P w Γ z x da) (rb:Rd P w Γ z y db) (h:ain da db=some r) (p:Jb P w hB Γ z s g (.bool r) Q) :
  wpAny (model P w) A (compareOp .In x y) Q E s:=by
 unfold ain at h;cases e1:Qab da with
 |none=>rw [e1]at h;cases h
 |some pa=>
  rw [e1]at h;cases rb with
  |lst e0 r0=>
   rename_i xs n0;dsimp only at h;cases e2:Vz xs with
   |none=>rw [e2]at h;cases h
   |some ds=>
    rw [e2]at h
    replace h:(if SeqAt.shaped pa&&PyData.canLayAll0 ds&&decide (PyData.depth pa≤8) then some (ds.any fun y=>PyData.eqv y pa) else none)=some r:=h
    by_cases hs:(SeqAt.shaped pa&&PyData.canLayAll0 ds&&decide (PyData.depth pa≤8))=true
    ·rw [if_pos hs]at h;cases h;obtain ⟨h1,h2⟩:=Bool.and_eq_true_iff.mp hs;obtain ⟨h3,h4⟩:=Bool.and_eq_true_iff.mp h1;obtain ⟨as,ra'⟩:=Qe5 b.zin ra e1;obtain ⟨bs,rb'⟩:=Qe5 (p:=.list ds) b.zin (.lst e0 r0) (show (Vz xs).map PyData.list=_ by rw [e2];rfl);exact PySem.SeqAt.in_list_reads rb' ra' h4 (PySem.SeqAt.canLay_of_shaped h3) (Qvt hA (of_decide_eq_true h2)) (p.here b (.bool _))
    ·rw [if_neg hs]at h;cases h
  |tup e0 r0=>
   rename_i xs n0;dsimp only at h;cases e2:Vz xs with
   |none=>rw [e2]at h;cases h
   |some ds=>
    rw [e2]at h
    replace h:(if SeqAt.shaped pa&&PyData.canLayAll0 ds&&decide (PyData.depth pa≤8) then some (ds.any fun y=>PyData.eqv y pa) else none)=some r:=h
    by_cases hs:(SeqAt.shaped pa&&PyData.canLayAll0 ds&&decide (PyData.depth pa≤8))=true
    ·rw [if_pos hs]at h;cases h;obtain ⟨h1,h2⟩:=Bool.and_eq_true_iff.mp hs;obtain ⟨h3,h4⟩:=Bool.and_eq_true_iff.mp h1;obtain ⟨as,ra'⟩:=Qe5 b.zin ra e1;obtain ⟨bs,rb'⟩:=Qe5 (p:=.tuple ds) b.zin (.tup e0 r0) (show (Vz xs).map PyData.tuple=_ by rw [e2];rfl);exact PySem.SeqAt.in_tuple_reads rb' ra' h4 (PySem.SeqAt.canLay_of_shaped h3) (Qvt hA (of_decide_eq_true h2)) (p.here b (.bool _))
    ·rw [if_neg hs]at h;cases h
  |_=>cases h
end
section
theorem Q5 {c:Prop} [Decidable c] {a:Option α}{x:α}(h:(if c then a else none)=some x):c∧a=some x:=by
 by_cases q:c
 ·rw [if_pos q]at h;exact ⟨q,h⟩
 ·rw [if_neg q]at h;exact ns h
theorem Qkr {m:Nat}(h1:vs.length=n) (h2:us.length=m) (l1:n≤1048576) (l2:m≤1048576):vs.toArray.size+us.toArray.size≤sizeLine:=by
 rw [List.size_toArray,List.size_toArray,sizeLine_eq];exact (Z40 0x1000000762071100000663161000006611632261026) h1 h2 l1 l2
theorem Qhk (h:vs≠[]):¬vs.toArray.isEmpty=true:=fun q=>by
 cases vs with
 |nil=>exact absurd rfl h
 |cons a l=>cases q
theorem Qzi {a b:Int}(h:(Q2 a||Q2 b)=true):IntMulOk a b:=by
 simp only [Q2,Bool.or_eq_true,decide_eq_true_eq]at h;rcases h with h|h
 ·exact IntMulOk.of_left (intBits_le_64 (by omega) (by omega))
 ·exact IntMulOk.of_right (intBits_le_64 (by omega) (by omega))
theorem Qhz {l:Addr}{x:Int}{u:Tok}
  (hl:s.heap.get? l=some { cls:=.type "list",dict:=none,data:=.seq items k,slots:=#[] })
  (hlo:-(2 ^ 63:Int)≤x) (hhi:x<2 ^ 63) (hsz:items.size*x.toNat≤2 ^ 24)
  (h:Q (.ref s.heap.objs.size) { s with heap:=s.heap.push { cls:=.type "list",data:=.seq (List.foldl (fun x1 x2=>x1++x2) #[] (List.replicate (if items.isEmpty=true then 0 else x.toNat) items)) } }) :
  wpAny (model P w) A (binaryOp .Mult (.ref l) (.int x u)) Q E s:=
 wpAny_binaryOp_repeat_ref (T:="list") (U:="int") (by decide) ⟨_,hl,rfl⟩ (fun s'=>typeIs_int s' x u) noFill_list_mul F.fills_int_mul F.slot_int_rmul repeat_list F.slot_int_index.lookup
  (call_meets F.slot_int_rmul (typeIs_int s x u) F.entry_int_rmul (F.args_int_rmul_2 _ _) (int___rmul___int_list x u l items k)
   ⟨hl,rfl,⟨_,hl,rfl⟩,call_meets F.slot_list_mul ⟨_,hl,rfl⟩ F.entry_list_mul (F.args_list_mul_2 _ _)
    (AutoListH.list___mul___list_int_3 l items k x u (by simp [Builtin.List.listFitsIndex];omega) (by omega) (by simp [Builtin.List.listTooLong,sizeLine];exact (Z10 0x10000007601100000076016) hsz))
    ⟨hl,h⟩⟩)
theorem Qeu (v:Value):∀(k:Nat) (acc:Array Value),List.foldl (fun x1 x2=>x1++x2) acc (List.replicate k #[v])=acc++(List.replicate k v).toArray
 |0,acc=>by rfl
 |k+1,acc=>by
  refine eqR (List.replicate_succ) ?_;rw [List.foldl_cons,Qeu v k];apply Array.ext';simp [List.replicate_succ]
theorem Rds.rep {v:Value}{d:D}(x:Rd P w Γ z v d):∀k:Nat,Rds P w Γ z (List.replicate k v) (List.replicate k d)
 |0=>.nil
 |k+1=>.cons x (Rds.rep x k)
theorem Qsy {a:D}(h:Qc9 .add a b=some d):(X2 fun i j=>A3 (a=.int i) (b=.int j) (d=.int (i+j)))∨(X2 fun xs ys=>A4 (a=.lst xs) (b=.lst ys) ((Qm xs.length&&Qm ys.length)=true) (d=.lst (xs++ys))) ∨
  (X2 fun xs ys=>A4 (a=.tup xs) (b=.tup ys) ((Qm xs.length&&Qm ys.length&&!ys.isEmpty)=true) (d=.tup (xs++ys))):=by
 cases a<;>first|exact ns h|skip
 ·cases b<;>first|exact ns h|skip
  cases h;exact .inl ⟨_,_,rfl,rfl,rfl⟩
 ·cases b<;>first|exact ns h|skip
  obtain ⟨q,h⟩:=Q5 h;cases h;exact .inr (.inr ⟨_,_,rfl,rfl,q,rfl⟩)
 ·cases b<;>first|exact ns h|skip
  obtain ⟨q,h⟩:=Q5 h;cases h;exact .inr (.inl ⟨_,_,rfl,rfl,q,rfl⟩)
set_option tactic.hygienic true in
theorem Qlc {a:D}(h:Qc9 .mul a b=some d):(X2 fun i j=>A4 (a=.int i) (b=.int j) ((Q2 i||Q2 j)=true) (d=.int (i*j)))∨(X2 fun e (j:Int)=>A5 (a=.lst [e]) (b=.int j) (0≤j) (j≤1048576) (d=.lst (List.replicate j.toNat e))):=by
 cases a<;>first|exact ns h|skip
 ·cases b<;>first|exact ns h|skip
  obtain ⟨q,h⟩:=Q5 h;cases h;exact .inl ⟨_,_,rfl,rfl,q,rfl⟩
 ·rename_i xs;rcases xs with _|⟨e,_|⟨f,xs⟩⟩<;>first|exact ns h|skip
  cases b<;>first|exact ns h|skip
  obtain ⟨q,h⟩:=Q5 h;cases h;exact .inr ⟨_,_,rfl,rfl,of_decide_eq_true (ba1 q),of_decide_eq_true (ba2 q),rfl⟩
theorem Qq4 {e:D}(h:Qc9 .mul (.lst [e]) b=some d):∃j:Int,A4 (b=.int j) (0≤j) (j≤1048576) (d=.lst (List.replicate j.toNat e)):=by
 rcases Qlc h with ⟨i,j,q,_⟩|⟨f,j,q,h2,h3,h4,h5⟩
 ·cases q
 ·cases q;exact ⟨j,h2,h3,h4,h5⟩
theorem Qwc {o:BOp}{a:D}(h:Qc9 o a b=some d) (h1:o≠.add) (h2:o≠.mul):X2 fun i j=>a=.int i∧b=.int j:=by
 cases o<;>first|exact absurd rfl h1|exact absurd rfl h2|skip
 all_goals (clear h1 h2;cases a<;>first|exact ns h|skip)
 all_goals (cases b<;>first|exact ns h|exact ⟨_,_,rfl,rfl⟩)
theorem Ybb (_hA:AOk n A) (b:Base P w hB Γ z g s) {o:BOp}{o':Operator}{x y:Value}(ho:Qxu o o'=true) (ra:Rd P w Γ z x da) (rb:Rd P w Γ z y db)
  (h:Qc9 o da db=some d) (p:Jb P w hB Γ z s g d Q):wpAny (model P w) A (binaryOp o' x y) Q E s:=by
 obtain rfl:=of_decide_eq_true ho;clear ho _hA;by_cases h1:o=.add
 ·subst h1;rcases Qsy h with ⟨i,j,rfl,rfl,rfl⟩|⟨xs1,xs2,rfl,rfl,l,rfl⟩|⟨xs1,xs2,rfl,rfl,l,rfl⟩<;>clear h
  ·obtain ⟨t,rfl⟩:=Vo ra;obtain ⟨u,rfl⟩:=Vo rb;exact add_int (p.same b _ (.int _ _))
  ·obtain ⟨a1,vs1,k1,rfl,e1,r1⟩:=Qc5 ra;obtain ⟨a2,vs2,k2,rfl,e2,r2⟩:=Qc5 rb;have l1:xs1.length≤1048576:=of_decide_eq_true (ba1 l);have l2:xs2.length≤1048576:=of_decide_eq_true (ba2 l);refine PySem.P.add_list (hsz:=Qkr r1.length r2.length l1 l2) (b.zin _ _ e1) (b.zin _ _ e2) ?_;rw [List.append_toArray];exact p.newLst b _ (r1.append r2)
  ·obtain ⟨a1,vs1,k1,rfl,e1,r1⟩:=Jx ra;obtain ⟨a2,vs2,k2,rfl,e2,r2⟩:=Jx rb;have l3:=ba2 l;have h1:=b.zin _ _ e1;have h2:=b.zin _ _ e2;by_cases hv:vs1=[]
   ·subst hv;refine gk fun Ω κ=>?_;obtain rfl:xs1=[]:=List.eq_nil_of_length_eq_zero r1.length.symm;refine κ ?_;refine concat_meets ⟨_,h1,rfl⟩ ⟨_,h2,rfl⟩ noFill_tuple_add seq_tuple_add PySem.F.slot_tuple_add PySem.F.entry_tuple_add (PySem.F.args_tuple_add_2 _ _)
     (tuple_addW0 a1 a2 #[] vs2.toArray k1 k2 none none #[] #[] rfl) ⟨h1,h2,?_⟩
    exact p.here b (.tup e2 r2)
   ·have hw:vs2≠[]:=fun q=>by
     subst q;cases r2;exact ff l3
    refine concat_meets ⟨_,h1,rfl⟩ ⟨_,h2,rfl⟩ noFill_tuple_add seq_tuple_add PySem.F.slot_tuple_add PySem.F.entry_tuple_add (PySem.F.args_tuple_add_2 _ _)
     (tuple_addW2 a1 a2 vs1.toArray vs2.toArray k1 k2 none none #[] #[] (Qhk hv) (Qhk hw) (Qkr r1.length r2.length (of_decide_eq_true (ba1 (ba1 l)):xs1.length≤1048576) (of_decide_eq_true (ba2 (ba1 l)):xs2.length≤1048576))) ⟨h1,h2,?_⟩
    rw [List.append_toArray];exact p.newTup b _ (r1.append r2)
 by_cases h2:o=.mul
 ·subst h2;rcases Qlc h with ⟨i,j,rfl,rfl,hm,rfl⟩|⟨e,j,rfl,rfl,q1,q2,rfl⟩<;>clear h
  ·obtain ⟨t,rfl⟩:=Vo ra;obtain ⟨u,rfl⟩:=Vo rb;exact mul_int (p.same b _ (.int _ _)) (Qzi hm)
  ·obtain ⟨u,rfl⟩:=Vo rb;obtain ⟨a1,vs1,k1,rfl,e1,r1⟩:=Qc5 ra;cases r1 with
   |cons a r=>
    cases r;refine Qhz (b.zin _ _ e1) (by omega) (by omega) (by simp;exact (Z01 0x1000000760410000066046) q2) ?_;refine eqR (if_neg (by simp)) ?_;rw [Qeu,Array.empty_append];exact p.newLst b _ (Rds.rep a _)
 obtain ⟨i,j,rfl,rfl⟩:=Qwc h h1 h2;obtain ⟨t,rfl⟩:=Vo ra;obtain ⟨u,rfl⟩:=Vo rb;cases o with
 |add=>exact absurd rfl h1
 |mul=>exact absurd rfl h2
 |sub=>cases h;exact sub_int (p.same b _ (.int _ _))
 |fdiv=>
  obtain ⟨q,h⟩:=Q5 h;obtain rfl:=Option.some.inj h;exact floordiv_int (of_decide_eq_true (ba1 q)) (p.same b _ (.int _ _)) (Or.inl (PyProof.noPylong_small (of_decide_eq_true (ba2 q))))
 |mod=>
  obtain ⟨q,h⟩:=Q5 h;obtain rfl:=Option.some.inj h;exact mod_int' q (p.same b _ (.int _ _))
 |pow=>
  obtain ⟨q,h⟩:=Q5 h;obtain rfl:=Option.some.inj h;obtain rfl:=of_decide_eq_true (ba1 q);obtain rfl:=of_decide_eq_true (ba2 q);exact pow_int (by decide) (by decide) (p.same b _ (.int _ _))
end
noncomputable def Qm0 (h:Heap) (d:Addr) (es:Array DictEntry) (ep:Nat):Prop:=∃o,A3 (h.get? d=some o) (o.cls=.type "dict") (o.data=.dict es ep)
theorem Qm0.typeIs {d es ep}(x:Qm0 s.heap d es ep):s.TypeIs (.ref d) "dict":=let ⟨o,h,c,_⟩:=x;⟨o,h,c⟩
theorem Qm0.lt {d es ep}(x:Qm0 h d es ep):d<h.objs.size:=let ⟨_,e,_,_⟩:=x;Heap.lt_size e
theorem Qm0.at {d es ep}(x:Qm0 h d es ep) (k:∀o,h.get? d=some o→h'.get? d=some o):Qm0 h' d es ep:=let ⟨o,e,r,q⟩:=x;⟨o,k _ e,r,q⟩
section
variable {d:Addr}{es:Array DictEntry}
theorem Qwf (hd:(d==sysModules)=false) (hm:Qm0 s.heap d es ep) (hfit:(es.size:Int)<2 ^ 63)
  (h:Q (.int es.size (s.toks+1)) { s with toks:=s.toks+1+1 }):wpAny (model prog w) A (call (.builtin "len") [.ref d]) Q E s:=by
 refine Calls.call_function_entry kind_len plain_len entry_len (args_len1 _) ?_;unfold Builtin.«len»;refine wpAny_bind (m:=oneArg "len" _) (wpAny_pure ?_);refine wpAny_bind (m:=callSpecial? (.ref d) (Str.ofString "__len__")) (wpAny_callSpecial?_slot (name:=Str.ofString "__len__") hm.typeIs F.slot_dict_len
  (wpAny_call_entry F.slot_dict_len hm.typeIs F.entry_dict_len ?_ (F.args_dict_len_1 _)))
 obtain ⟨o,ho,hc,hdat⟩:=id hm;refine (?_:wpAny _ _ (dictSize d >>= _) _ _ s);unfold dictSize;refine wpAny_bind (wpAny_bind (wpAny_dictEntries ho hdat (wpAny_pure ?_)));show wpAny _ _ (Builtin.Dict.pendingCount d >>= _) _ _ s;refine wpAny_bind (wpAny_pendingCount_other hd ?_);refine wpAny_ret_mkInt ?_;show wpAny _ _ _ _ _ { s with toks:=s.toks+1 };refine wpAny_bind (wpAny_holding (wpAny_pure ?_));refine wpAny_bind (wpAny_letGo ?_);rw [Nat.add_zero];refine (?_:wpAny _ _ (if ((es.size:Nat):Int)<0 then _ else _) _ _ _);refine aN (by exact (Z10 330297)) ?_;refine (?_:wpAny _ _ (if ((es.size:Nat):Int) ≥ 2 ^ 63 then _ else _) _ _ _);refine aN ((Z11 0xa04900a36) hfit) ?_;exact wpAny_bind (wpAny_mkInt (wpAny_pure ⟨_,rfl,h⟩))
theorem Qnw (hd:(d==sysModules)=false) (hm:Qm0 s.heap d es ep)
  (hQ:Q (.ref s.heap.objs.size) { s with heap:=s.heap.push { cls:=.type "dict_keyiterator",data:=.fields #[.ref d,.int 0 0,.int es.size 0,.int ep 0] } }) :
  wpAny (model prog w) A (pyIter (.ref d)) Q E s:=by
 obtain ⟨o,ho,hc,hdat⟩:=id hm;have hT:s.TypeIs (.ref d) "dict":=hm.typeIs;refine wpAny_pyIter_slot hT F.slot_dict_iter (wpAny_call_entry F.slot_dict_iter hT F.entry_dict_iter ?_ (F.args_dict_iter_1 _));unfold Builtin.«dict.__iter__»;refine wpAny_bind ?_;unfold Builtin.Dict.dictSlotNone;refine wpAny_bind (wpAny_notOrdered_dict hT ?_);refine (?_:wpAny _ _ (pure (Value.ref d)) _ _ s);refine wpAny_pure ?_;refine (?_:wpAny _ _ (Builtin.Dict.showsAll d >>= _) _ _ s);unfold Builtin.Dict.showsAll;refine eqR (if_neg (by rw [hd];exact Bool.false_ne_true)) ?_;refine wpAny_bind (wpAny_pure ?_);refine wpAny_bind (wpAny_dictEntries ho hdat ?_);refine wpAny_bind (wpAny_dictEpoch ho hdat ?_);refine wpAny_bind (wpAny_newObj_type (wpAny_pure ⟨_,rfl,"dict_keyiterator",_,⟨_,Heap.get?_push_size _ rfl,rfl⟩,F.slot_dict_keyiterator_next.lookup,?_⟩));simpa [rawInt] using hQ
theorem Qtp {Q:Option Value→Shared→Prop}(hit:s.heap.IsKeyIter it d i es.size ep) (hm:Qm0 s.heap d es ep) (hlt':i<es.size)
  (hQ:∀h',h'.IsKeyIter it d (i+1) es.size ep→Heap.SameBut it s.heap h'→Q (some es[i].key) { s with heap:=h' }) :
  wpAny (model prog w) A (pyNext (.ref it)) Q E s:=by
 obtain ⟨o,ho,hc,hd⟩:=id hit;obtain ⟨od,hod,hcd,hdd⟩:=id hm;unfold pyNext;refine wpAny_bind (wpAny_attempt (wpAny_callSpecial?_slot (name:=Str.ofString "__next__") hit.typeIs F.slot_dict_keyiterator_next
  (wpAny_call_entry F.slot_dict_keyiterator_next hit.typeIs F.entry_dict_keyiterator_next ?_ (F.args_dict_keyiterator_next_1 _))))
 refine wpAny_bind (wpAny_pure ?_);refine wpAny_bind ?_;refine wpAny_bind ?_
 first|refine wpAny_bind (wpAny_typeNameOfWhole_keyiter hit.typeIs (wpAny_pure ?_))|refine wpAny_bind (wpAny_typeNameOf_keyiter hit.typeIs (wpAny_pure ?_))
 refine wpAny_bind (wpAny_fieldsOf ho hd ?_);dsimp only [(by decide:Builtin.Dict_items.ownsTuple "dict_keyiterator"=false),Bool.false_eq_true,if_false];refine (?_:wpAny _ _ (if (Value.ref d==Value.none)=true then _ else _) _ _ s);refine aN (show ¬((Value.ref d==Value.none)=true) from Bool.false_ne_true) ?_;refine wpAny_bind (wpAny_pure ?_);refine wpAny_bind (wpAny_dictEntries hod hdd ?_);refine aN (by simp) ?_;refine wpAny_bind (wpAny_pure ?_);refine wpAny_bind (wpAny_dictEpoch hod hdd ?_);refine aN (by simp) ?_;refine wpAny_pure ?_;dsimp only;rw [if_neg (show ¬((i:Int)<0) from (Z10 330297)),show es[(i:Int).toNat]?=some es[i] from Array.getElem?_eq_getElem hlt'];dsimp only;refine wpAny_bind ?_
 first|refine wpAny_bind (wpAny_typeNameOfWhole_keyiter hit.typeIs (wpAny_pure ?_))|refine wpAny_bind (wpAny_typeNameOf_keyiter hit.typeIs (wpAny_pure ?_))
 refine wpAny_bind (wpAny_isOneOf_keyiter hit.typeIs ?_);refine (?_:wpAny _ _ (setField (.ref it) 1 (rawInt ((i:Int)+1)) >>= _) _ _ s);refine wpAny_bind (wpAny_setField ho hd (by simp) ?_);have hit':(s.heap.update it (Obj.mapFields (·.setIfInBounds 1 (rawInt ((i:Int)+1))))).IsKeyIter it d (i+1) es.size ep:=
  ⟨_,Heap.get?_update_self _ ho (Obj.isFreed_of_fields (Obj.data_mapFields hd _)),(Obj.cls_mapFields ..).trans hc,by rw [Obj.data_mapFields hd];rfl⟩
 refine wpAny_bind (wpAny_holding ?_);refine wpAny_bind (wpAny_isOneOf_keyiter (s:={ s with heap:=s.heap.update it (Obj.mapFields (·.setIfInBounds 1 (rawInt ((i:Int)+1)))) }) hit'.typeIs ?_);refine (?_:wpAny _ _ (pure es[i].key) _ _ _);exact wpAny_pure (wpAny_pure ⟨_,rfl,wpAny_pure (hQ _ hit' (Heap.SameBut.update ..))⟩)
theorem Qxz {Q:Option Value→Shared→Prop}(hh:A.handled=none) (hit:s.heap.IsKeyIter it d es.size es.size ep) (hm:Qm0 s.heap d es ep)
  (hQ:∀h',Heap.ExtBut it s.heap h'→Q none { s with heap:=h' }):wpAny (model prog w) A (pyNext (.ref it)) Q E s:=by
 refine gk fun Ω κ=>?_;obtain ⟨o,ho,hc,hd⟩:=id hit;obtain ⟨od,hod,hcd,hdd⟩:=id hm;refine κ ?_;unfold pyNext;refine wpAny_bind (wpAny_attempt (wpAny_callSpecial?_slot (name:=Str.ofString "__next__") hit.typeIs F.slot_dict_keyiterator_next
  (wpAny_call_entry F.slot_dict_keyiterator_next hit.typeIs F.entry_dict_keyiterator_next ?_ (F.args_dict_keyiterator_next_1 _))))
 refine wpAny_bind (wpAny_pure ?_);refine wpAny_bind ?_;refine wpAny_bind ?_
 first|refine wpAny_bind (wpAny_typeNameOfWhole_keyiter hit.typeIs (wpAny_pure ?_))|refine wpAny_bind (wpAny_typeNameOf_keyiter hit.typeIs (wpAny_pure ?_))
 refine wpAny_bind (wpAny_fieldsOf ho hd ?_);dsimp only [(by decide:Builtin.Dict_items.ownsTuple "dict_keyiterator"=false),Bool.false_eq_true,if_false];refine (?_:wpAny _ _ (if (Value.ref d==Value.none)=true then _ else _) _ _ s);refine aN (show ¬((Value.ref d==Value.none)=true) from Bool.false_ne_true) ?_;refine wpAny_bind (wpAny_pure ?_);refine wpAny_bind (wpAny_dictEntries hod hdd ?_);refine aN (by simp) ?_;refine wpAny_bind (wpAny_pure ?_);refine wpAny_bind (wpAny_dictEpoch hod hdd ?_);refine aN (by simp) ?_;refine wpAny_pure ?_;simp only [show ¬((es.size:Int)<0) from (Z10 330297),if_false,Int.toNat_natCast,Array.getElem?_eq_none (Nat.le_refl es.size)];refine wpAny_bind ?_
 first|refine wpAny_bind (wpAny_typeNameOfWhole_keyiter hit.typeIs (wpAny_pure ?_))|refine wpAny_bind (wpAny_typeNameOf_keyiter hit.typeIs (wpAny_pure ?_))
 refine (?_:wpAny _ _ (setField (.ref it) 0 .none >>= _) _ _ s);refine wpAny_bind (wpAny_setField ho hd (by simp) ?_);show wpAny _ _ (newExc (.type "StopIteration") [] >>= _) _ _ _;refine wpAny_bind ?_;simp only [newExc,newTuple];refine wpAny_bind (wpAny_newObj_type ?_ (by size_fits));refine wpAny_bind (m:=firstArgMember _ _) (wpAny_of_eq (a:=Value.none) (by first|rfl|(simp only [firstArgMember];rfl)) ?_);refine wpAny_newObj_type ?_ (by size_fits);dsimp only [raiseNew];refine wpAny_bind (wpAny_handled ?_);refine eqR (show A.in1.handled=none from hh) ?_;refine wpAny_bind (wpAny_pure (wpAny_throw ?_));refine wpAny_bind (wpAny_isInstance (T:="StopIteration") (b:=true) ⟨_,Heap.get?_push_size _ rfl,rfl⟩ isSubtype_stop ?_);exact wpAny_pure (hQ _ (((Heap.SameBut.update ..).extBut.push _).push _))
theorem Walks.raw (hh:A.handled=none) (I d:Addr) (hne:d≠I) (es:Array DictEntry) (ep:Nat) :
  Walks prog w A I [I,d] [I] es.size (fun i v=>∃e,es[i]?=some e∧v=e.key) (fun i h=>h.IsKeyIter I d i es.size ep∧Qm0 h d es ep) where
 sub:=fun b hb=>by simp at hb;simp [hb]
 frame:=fun Y Y Y st hk=>⟨st.1.at fun o e=>hk I (by exact .head _) o e,st.2.at fun o e=>hk d (by simp) o e⟩
 item:=fun i s Q E hi st hQ=>by
  refine Qtp st.1 st.2 hi fun h' hit' hs'=>?_;exact hQ _ h' s.toks ⟨es[i],by simp [hi],rfl⟩ ⟨hit',st.2.at fun o e=>hs'.extBut d o hne e⟩ fun b o hb e=>hs'.extBut b o (fun h=>hb (by simp [h])) e
 done:=fun s Q E st hQ=>Qxz hh st.1 st.2 fun h' he'=>hQ h' s.toks fun b o hb e=>he' b o (fun h=>hb (by simp [h])) e
 self:=fun Y Y Y Y st hQ=>wpAny_pyIter_keyiter st.1 hQ
theorem Qx3 (lo:(d==sysModules)=false):KdlSrc prog w "dict" d d es.size (fun i v=>∃e,es[i]?=some e∧v=e.key) (fun h=>Qm0 h d es ep) where
 type:=fun Y hm=>hm.typeIs
 there:=fun Y hm=>⟨hm.lt,hm.lt⟩
 keep:=fun Y Y hm hk=>hm.at fun o e=>hk d (.inl rfl) o e
 notList:=by decide
 notTuple:=by decide
 hint:=fun Y Y Y Y hm hq=>kdl_hint_dict hm.typeIs hq
 iter:=fun Y Y hh hm=>⟨_,_,(fun Y Y hq=>Qnw lo hm hq),Walks.raw hh _ d (Nat.ne_of_lt hm.lt) es ep,⟨⟨_,Heap.get?_push_size _ rfl,rfl,rfl⟩,hm.at fun Y e=>Heap.get?_push_of_some _ e⟩⟩
end
section
theorem Rds.tupsOf {xs:List (List Int×Addr×Value)}(h:∀x∈xs,X2 fun vs n=>z x.2.1=some (Qae vs n)∧ItemsAre (PySem.intKind P w) x.1 vs) :
  Rds P w Γ z (xs.map fun x=>Value.ref x.2.1) (xs.map fun x=>D.tup (x.1.map .int)):=by
 induction xs with
 |nil=>exact .nil
 |cons x r ih=>
  refine .cons ?_ (ih fun y hy=>h y (List.mem_cons_of_mem _ hy));obtain ⟨vs,k,e,hi⟩:=h x List.mem_cons_self;refine .tup e ?_;clear e h ih;generalize x.1=ns at hi
  induction hi with
  |nil=>exact .nil
  |cons h1 _ ih=>
   obtain ⟨t,rfl⟩:=Value.isInt_shape h1;exact .cons (.int _ _) ih
end
theorem Base.lowSize (b:Base P w hB Γ z g s) (hlow:Ydt hB):(s.heap.objs.size==sysModules)=false:=by
 obtain ⟨a,o,e,hl⟩:=hlow;exact beq_eq_false_iff_ne.mpr (Nat.ne_of_gt (Nat.lt_trans hl (Heap.lt_size (b.zin _ _ (b.zB _ _ e)))))
theorem Qe3:typeLookup (.type "list") (Str.ofString "keys")=pure none:=am_miss_of_fast (by kernel_rfl)
section
theorem getAttr?_keys_list {xs:Array Value}{Q:Option Value→Shared→Prop}(hx:s.heap.get? a=some { cls:=.type "list",data:=.seq xs k }) (hA:A.handled=none)
  (h:∀h' tk,(∀b o,s.heap.get? b=some o→h'.get? b=some o)→Q none { s with heap:=h',toks:=tk }):wpAny (model P w) A (getAttr? (.ref a) "keys") Q E s:=by
 obtain ⟨hp,g,d,tk,os⟩:=s;have hT:∀tk',(⟨hp,g,d,tk',os⟩:Shared).TypeIs (.ref a) "list":=fun Y=>⟨_,hx,rfl⟩
 have f1:=sub_AttributeError;have f3:=F.slot_list_getattribute.lookup;have f4:=F.slot_list_getattribute.bind (.ref a);have f5:=am_list_getattr_none
 delta getAttr? getAttrBy? getAttrBy
 repeat (any_goals (first|assumption|exact hT _|((with_reducible show wpAny _ _ (call (Value.builtin "list.__getattribute__") _ _) _ _ _);refine call_meets F.slot_list_getattribute (hT _) am_entry_list_getattribute (F.args_list_getattribute_2 _ _) (meets_getattribute_miss_list a xs k #[] _ _ Qe3 (by decide)) ⟨hx,hA,fun h' tk' e hx'=>?_⟩)|wp_step))
 refine gk fun Ω κ=>?_;obtain ⟨t',u',he⟩:=hx'.there;refine κ ?_;refine (?_:wpAny _ _ (getattributeRaised _ _ _ _ _ _ _) _ _ _);unfold getattributeRaised
 repeat (any_goals (first|assumption|wp_step))
 exact h _ _ hx'.keeps
end
theorem Qfo:∀{ns:List Int},V3 xs=some ns→xs=ns.map .int:=by
 induction xs with
 |nil=>intro ns h;cases h;rfl
 |cons d xs ih=>exact fun {ns} h=>sIK (M:=fun d=>d::xs=ns.map .int) (show sI' _ d=some ns from h) fun i h=>(Option.map_eq_some_iff.mp h).elim fun l q=>by rw [←q.2,ih q.1];rfl
noncomputable def Qfn (P:Program) (w:World) (Γ:Gm) (z:Z) (h:Heap) (a:Addr) (es:List (List Int×D)):Prop:=
 X2 fun (xs:List (List Int×Addr×Value)) (ys:List D)=>A4 (h.DictOfH (tk P w) a xs) (∀x∈xs,X2 fun vs n=>z x.2.1=some (Qae vs n)∧ItemsAre (PySem.intKind P w) x.1 vs) (Rds P w Γ z (xs.map fun x=>x.2.2) ys) (es=(xs.map (·.1)).zip ys)
section
theorem Qa8 {xs:List (List Int×Addr×Value)}(r:Rds P w Γ z (xs.map fun x=>x.2.2) ys):xs.length=ys.length:=by have:=r.length;simpa using this
theorem Qow (k:List Int):∀{xs:List (List Int×Addr×Value)}{ys:List D},xs.length=ys.length →
  ((xs.map (·.1)).zip ys).any (fun e=>decide (e.1=k))=(atKey xs k).isSome
 |[],ys,_=>by rfl
 |x::r,[],h=>by simp at h
 |x::r,y::ys,h=>by
  simp only [List.map_cons,List.zip_cons_cons,List.any_cons,atKey,List.find?_cons];by_cases e:x.1=k
  ·simp [e]
  ·rw [decide_eq_false e];dsimp only [Bool.false_or];exact (Qow k (xs:=r) (ys:=ys) (by simpa using h))
theorem Qqf {k:List Int}:∀{xs:List (List Int×Addr×Value)}{ys:List D}{d:D},Rds P w Γ z (xs.map fun x=>x.2.2) ys→Qsz ((xs.map (·.1)).zip ys) k=some d→∃p,atKey xs k=some p∧Rd P w Γ z p.2 d
 |[],ys,d,_,h=>by simp [Qsz]at h
 |x::r,[],d,h,_=>by cases h
 |x::r,y::ys,d,h,e=>by
  cases h with
  |cons a b=>
   simp only [List.map_cons,List.zip_cons_cons,Qsz,List.find?_cons]at e;by_cases q:x.1=k
   ·rw [decide_eq_true q]at e;simp only [Option.map_some,Option.some.injEq]at e;subst e;exact ⟨x.2,by simp [atKey,q],a⟩
   ·rw [decide_eq_false q]at e;obtain ⟨p,h1,h2⟩:=Qqf b e;refine ⟨p,?_,h2⟩;simp only [atKey,List.find?_cons];refine eqR (decide_eq_false q) ?_;exact h1
theorem Qpp {k:List Int}{v:Value}{d:D}(rv:Rd P w Γ z v d):∀{xs:List (List Int×Addr×Value)}{ys:List D},Rds P w Γ z (xs.map fun x=>x.2.2) ys →
  ∃ys',Rds P w Γ z ((xs.map (putAt k v)).map fun x=>x.2.2) ys'∧((xs.map (·.1)).zip ys).map (fun e=>if e.1=k then (e.1,d) else e)=((xs.map (putAt k v)).map (·.1)).zip ys'
 |[],ys,_=>⟨[],.nil,by simp⟩
 |x::r,[],h=>by exact nomatch h
 |x::r,y::ys,h=>by
  cases h with
  |cons a b=>
   obtain ⟨ys',h1,h2⟩:=Qpp rv b;by_cases q:x.1=k
   ·exact ⟨d::ys',.cons (by simp [putAt,q];exact rv) h1,by simp [putAt,q];simpa [putAt] using h2⟩
   ·exact ⟨y::ys',.cons (by simp [putAt,q];exact a) h1,by simp [putAt,q];simpa [putAt] using h2⟩
theorem Qrx {z:Z}:∀{xs:List (List Int×Addr×Value)}{ys:List D}{k:List Int}{d:D},xs.length=ys.length→((xs.map (·.1)).zip ys)++[(k,d)]=(xs.map (·.1)++[k]).zip (ys++[d])
 |[],[],_,_,_=>rfl
 |[],_::_,_,_,h=>by simp at h
 |_::_,[],_,_,h=>by simp at h
 |x::r,y::ys,k,d,h=>by simp;exact Qrx (z:=z) (by simpa using h)
theorem Qfn.put {b:Addr}{ns:List Int}{xs:List (List Int×Addr×Value)}
  (hk:∀x∈xs,X2 fun vs n=>z x.2.1=some (Qae vs n)∧ItemsAre (PySem.intKind P w) x.1 vs) (r:Rds P w Γ z (xs.map fun x=>x.2.2) ys) (he:es=(xs.map (·.1)).zip ys)
  (hz:z b=some (Qae vs n)) (hi:ItemsAre (PySem.intKind P w) ns vs) (rv:Rd P w Γ z v d) (hd:h'.DictOfH (tk P w) a (storedH xs ns b v)):Qfn P w Γ z h' a (Qn3 es ns d):=by
 have l:=Qa8 r;have ha:=Qow ns l;rw [←he]at ha;unfold Qn3;cases q:(atKey xs ns).isSome
 ·have hs:storedH xs ns b v=xs++[(ns,b,v)]:=by simp [storedH,q]
  rw [q]at ha;refine eqR (if_neg (by rw [ha];exact Bool.false_ne_true)) ?_;rw [hs]at hd;refine ⟨_,ys++[d],hd,?_,?_,?_⟩
  ·intro x hx;rcases List.mem_append.mp hx with hx|hx
   ·exact hk x hx
   ·simp at hx;subst hx;exact ⟨vs,n,hz,hi⟩
  ·refine eqR (List.map_append) ?_;exact r.append (.one rv)
  ·refine eqR (he) ?_;refine eqR (List.map_append) ?_;exact Qrx (z:=z) l
 ·have hs:storedH xs ns b v=xs.map (putAt ns v):=by simp [storedH,q]
  rw [q]at ha;refine eqR (if_pos ha) ?_;refine gk fun Ω κ=>?_;rw [hs]at hd;obtain ⟨ys',h1,h2⟩:=Qpp rv r (k:=ns);refine κ ?_;refine ⟨_,ys',hd,?_,h1,by rw [he];exact h2⟩;intro x hx;obtain ⟨y,hy,rfl⟩:=List.mem_map.mp hx;have:=hk y hy;unfold putAt;split<;>exact this
theorem Qfn.le {z z':Z}{h:Heap}{a:Addr}{es}(x:Qfn P w Γ z h a es) (hz:ZLe z z'):Qfn P w Γ z' h a es:=by
 obtain ⟨xs,ys,h1,h2,h3,h4⟩:=x;exact ⟨xs,ys,h1,fun x hx=>let ⟨vs,n,e,i⟩:=h2 x hx;⟨vs,n,hz _ _ e,i⟩,h3.le hz,h4⟩
theorem Qfn.at {es}(x:Qfn P w Γ z h a es) (hz:ZIn z h') (k:∀o,h.get? a=some o→h'.get? a=some o):Qfn P w Γ z h' a es:=by
 obtain ⟨xs,ys,⟨o,e1,e2,g1,g2,g3,g4,g5,g6⟩,h2,h3,h4⟩:=x;refine ⟨xs,ys,⟨o,e1,e2,k _ g1,g2,g3,g4,fun y hy=>?_,g6⟩,h2,h3,h4⟩;obtain ⟨vs,n,e,i⟩:=h2 y hy;exact ⟨_,vs.toArray,n,hz _ _ e,rfl,rfl,i⟩
theorem Qfn.nil {z:Z}{h:Heap}{a:Addr}(e:h.get? a=some { cls:=.type "dict",data:=.dict #[] }):Qfn P w Γ z h a []:=
 ⟨[],[],⟨_,#[],0,e,⟨rfl,rfl,rfl⟩,rfl,rfl,by simp,by simp⟩,by simp,.nil,rfl⟩
theorem Qfn.frz {es}(x:Qfn P w Γ z h a es) (ha:(a==sysModules)=false) (hz:z a=none):∃o,h.get? a=some o∧Rd P w Γ (z.add a o) (.ref a) (.dct es):=by
 refine gk fun Ω κ=>?_;obtain ⟨xs,ys,⟨o,e1,e2,g1,g2,g3,g4,g5,g6⟩,h2,h3,rfl⟩:=x;refine κ ?_;exact ⟨o,g1,.dct ⟨o,e1,e2,Z.add_self ..,g2,g3,g4,fun y hy=>let ⟨vs,n,e,i⟩:=h2 y hy;⟨vs,n,Z.le_add hz _ _ e,i⟩,g6,ha⟩ rfl (h3.le (Z.le_add hz))⟩
end
theorem Qt1 (es:List (List Int×D)) (ns:List Int) (v:D):(Qn3 es ns v).length≤es.length+1:=by unfold Qn3;split<;>simp
theorem Yx:plainId "dict.update.loop"=true:=by decide +kernel
theorem Jv:entryFor table "dict.update.loop"=some Builtin.«dict.update.loop»:=entryFor_of_tree (by kernel_rfl)
section
variable {d I l:Addr}
set_option tactic.hygienic true in
theorem Qsk (hh:A.handled=none) (hu:A.units+1<cLine) (hdI:d≠I) (hdl:d≠l) (hIl:l≠I) (zd:z d=none) (zI:z I=none) (es':List (List Int×D)) :
  ∀(k i:Nat) (t:Tok) (s:Shared) (es:List (List Int×D)) (ds:List D),items.size-i=k→i≤items.size→ZIn z s.heap→s.heap.IsListIter I l i→s.heap.IsList l items→Qfn P w Γ z s.heap d es →
   Rds P w Γ z (items.toList.drop i) ds→Jk ds es=some es'→es.length+k≤sizeLine →
   (∀h' t,ZIn z h'→Qfn P w Γ z h' d es'→(∀b o,b≠d→b≠I→s.heap.get? b=some o→h'.get? b=some o)→R (.ok (.ret .none)) { s with heap:=h',toks:=t }) →
   codeAny (model P w) A (.builtin "dict.update.loop" ⟨[.ref d,.ref I,.int i t,.none],[]⟩) R s:=by
 intro k
 induction k with
 |zero=>
  intro i t s es ds hk hi hz hI hl hd rs hdo hsz hQ;refine codeAny_builtin Jv ?_;refine eqR (Around.under_plainId Yx _) ?_;refine (?_:wpAny _ A.in1 (pyNext (.ref I) >>= _) _ _ s);have e0:items.toList.drop i=[]:=List.drop_eq_nil_of_le (by rw [Array.length_toList];exact Nat.le_of_sub_eq_zero hk);rw [e0]at rs;cases rs;obtain rfl:=Option.some.inj hdo;refine wpAny_bind (wpAny_pyNext_list_end (i:=i) hh hI hl (Array.getElem?_eq_none (Nat.le_of_sub_eq_zero hk)) fun h' he=>?_);refine (?_:wpAny _ _ (Builtin.Dict.addKeywords d [] >>= _) _ _ _);refine wpAny_bind (wpAny_pure (wpAny_pure ?_));have zin':ZIn z h':=fun a o q=>he a o (fun e=>by rw [e,zI]at q;exact nomatch q) (hz a o q);exact hQ h' s.toks zin' (hd.at zin' fun o e=>he d o hdI e) fun b o Y h2 e=>he b o h2 e
 |succ k ih=>
  intro i t s es ds hk hi hz hI hl hd rs hdo hsz hQ;refine codeAny_builtin Jv ?_;rw [Around.under_plainId Yx _];have hlt:i<items.size:=Nat.sub_pos_iff_lt.mp (hk▸Nat.succ_pos k);have e0:items.toList.drop i=items[i]::items.toList.drop (i+1):=by
   refine eqR (List.drop_eq_getElem_cons (by rw [Array.length_toList];exact hlt)) ?_;rfl
  rw [e0]at rs;cases rs with
  |cons r1 rs=>
   rename_i d1 ds;have hx:items[i]?=some items[i]:=by simp [hlt]
   generalize items[i]=x at r1 hx;refine wpAny_bind (wpAny_pyNext_list_item hI hl hx fun h' hI' hs'=>?_);have zin':ZIn z h':=fun a o q=>(hs'.2 a (fun e=>by rw [e,zI]at q;exact nomatch q)).trans (hz a o q);obtain ⟨v,ns,rfl,hdo2⟩:X2 fun v ns=>d1=.tup [.tup (ns.map .int),v]∧Jk ds (Qn3 es ns v)=some es':=Qxs hdo fun ks v ns e h=>⟨v,ns,by rw [Qfo e],h⟩
   obtain ⟨_,_,_,rfl,e1,r2⟩:=Jx r1;obtain ⟨_,_,rfl,r3,r6⟩:=Qz8 r2;obtain ⟨_,_,_,rfl,e3,r5⟩:=Jx r3;refine gk fun Ω κ=>?_;have hkey:=Rds.keyItems r5;obtain ⟨xs,ys,hD,hks,hvs,hes⟩:=(hd.at zin' fun o e=>(hs'.2 d hdI).trans e)
   have hroom:(tk P w).room A.in1:=hu;have hxl:xs.length≤sizeLine:=by
    have:=Qa8 hvs;rw [hes]at hsz;simp only [List.length_zip,List.length_map]at hsz;omega
   refine κ ?_;refine (?_:wpAny _ _ (holding _ _ >>= _) _ _ _);refine wpAny_bind (wpAny_holding ?_);refine wpAny_bind (wpAny_tryCatch ?_);unfold Builtin.Dict.pairItems;have hT:(({ s with heap:=h' }:Shared)).TypeIs (.ref _) "tuple":=⟨_,zin' _ _ e1,rfl⟩
   refine wpAny_bind (wpAny_typeOf hT ?_);refine aP (by decide) ?_;refine wpAny_bind (wpAny_seqItems (zin' _ _ e1) rfl ?_);refine wpAny_pure ?_;refine (?_:wpAny _ _ (holding _ (dictSet d (Value.ref _) _)) _ _ _);refine wpAny_holding (wpAny_dictSet_heap hroom ⟨_,_,_,zin' _ _ e3,rfl,rfl,hkey⟩ hD (fun h2 hD2 hs2=>?_) hxl);refine wpAny_pure ⟨plainId_quiet Yx _,?_⟩;refine ih (i+1) 0 _ _ ds (by rw [Nat.sub_succ,hk];rfl) hlt (fun a o q=>(hs2.2 a (fun e=>by rw [e,zd]at q;exact nomatch q)).trans (zin' a o q):ZIn z h2) ?_ ?_ (Qfn.put hks hvs hes e3 hkey r6 hD2) rs hdo2 ?_ ?_
   ·obtain ⟨o,e,r⟩:=hI';exact ⟨o,(hs2.2 I (fun q=>hdI q.symm)).trans e,r⟩
   ·obtain ⟨o,e,r⟩:=(let ⟨o,e,r⟩:=hl;⟨o,(hs'.2 l hIl).trans e,r⟩:h'.IsList l items);exact ⟨o,(hs2.2 l (fun q=>hdl q.symm)).trans e,r⟩
   ·exact Nat.le_trans (Nat.add_le_add_right (Qt1 _ _ _) k) (by rw [Nat.add_right_comm];exact hsz)
   ·intro h3 t3 z3 o3 k3;exact hQ h3 t3 z3 o3 fun b o h1 h2' e=>k3 b o h1 h2' ((hs2.2 b h1).trans ((hs'.2 b h2').trans e))
set_option tactic.hygienic true in
theorem Qxf {x:Value}(hA:AOk n A) (b:Base P w hB Γ z g s) (hlow:Ydt hB)
  (rx:Rd P w Γ z x (.lst ds)) (hl:Qm ds.length=true) (h:Jk ds []=some es) (p:Jb P w hB Γ z s g (.dct es) Q) :
  wpAny (model P w) A (call (.type "dict") [x]) Q E s:=by
 cases rx with
 |lst e r=>
 rename_i a vs n;have hl':=b.zin _ _ e;simp only [Qm,decide_eq_true_eq]at hl;refine callType_codes (Q₁:=fun obj s₁=>obj=.ref s.heap.objs.size∧s₁={ s with heap:=s.heap.push { cls:=.type "dict",data:=.dict #[] } }) F.kt_called_dict (F.kt_typeCall_dict_1 _) F.entry_dict_init (kt_code_dict_new _ ⟨rfl,rfl⟩) ?_;rintro obj s₁ ⟨rfl,rfl⟩;have hnew:(s.heap.push { cls:=.type "dict",data:=.dict #[] }).get? s.heap.objs.size=some { cls:=.type "dict",data:=.dict #[] }:=Heap.get?_push_size _ rfl;have hlo:a<s.heap.objs.size:=Heap.lt_size hl';refine ⟨⟨_,hnew,rfl⟩,F.args_dict_init_2 _ _,?_⟩;unfold Builtin.«dict.__init__»;refine wpAny_bind ?_;unfold Builtin.Dict.selfAndRest;refine wpAny_bind (wpAny_notOrdered_dict ⟨_,hnew,rfl⟩ ?_);refine (?_:wpAny _ _ (pure (s.heap.objs.size,[Value.ref a])) _ _ _);refine wpAny_pure ?_;refine (?_:wpAny _ _ (Builtin.Dict.updateFrom "dict.__init__" s.heap.objs.size (.ref a) [] .none) _ _ _);unfold Builtin.Dict.updateFrom;have hl2:(s.heap.push { cls:=.type "dict",data:=.dict #[] }).get? a=some (Vs vs n):=Heap.get?_push_of_some _ hl';refine wpAny_bind (wpAny_typeOf (T:="list") ⟨_,hl2,rfl⟩ ?_);refine aP (by decide) ?_;refine wpAny_bind (getAttr?_keys_list (s:={ s with heap:=s.heap.push { cls:=.type "dict",data:=.dict #[] } }) hl2 hA.hh fun h1 t1 k1=>?_);dsimp only [Option.isNone_none,if_true];refine wpAny_bind (wpAny_rule ?_);have hl3:=k1 _ _ hl2;refine wpAny_bind (wpAny_pyIter_list (items:=vs.toArray) ⟨_,hl3,rfl,_,rfl⟩ ?_);have hs1:s.heap.objs.size+1≤h1.objs.size:=by
  exact Nat.succ_le_of_lt (Heap.lt_size (k1 _ _ hnew))
 have zd:z s.heap.objs.size=none:=Ql b.zin (Qe _);have zin1:ZIn z (h1.push { cls:=.type "list_iterator",data:=.fields #[.ref a,.int 0 0] }):=fun c o q=>Heap.get?_push_of_some _ (k1 _ _ (Heap.get?_push_of_some _ (b.zin _ _ q)));have zI:z h1.objs.size=none:=by
  cases q:z h1.objs.size with
  |none=>rfl
  |some o=>exact absurd (Heap.lt_size (b.zin _ _ q)) (Nat.not_lt.mpr (Nat.le_trans (Nat.le_succ _) hs1))
 refine wpAny_pure ⟨plainId_quiet Yx _,?_⟩;refine Qsk (A:=A.in1) (R:=wants (fun r s₂=>r=Value.none∧Q (Value.ref s.heap.objs.size) s₂) E) (items:=vs.toArray) (l:=a) hA.hh (by have:=hA.uni;show A.units+1+1<cLine;exact (Z30 0x2151507702c82614e07706) this) (Nat.ne_of_lt hs1) (Nat.ne_of_gt hlo) (Nat.ne_of_lt (Nat.lt_trans hlo hs1)) zd zI es _ 0 0 { s with heap:=h1.push { cls:=.type "list_iterator",data:=.fields #[.ref a,.int 0 0] },toks:=t1 } [] ds rfl (Nat.zero_le _) zin1 ⟨_,Heap.get?_push_size _ rfl,rfl,rfl⟩ ⟨_,Heap.get?_push_of_some _ hl3,rfl,_,rfl⟩
  (Qfn.nil (Heap.get?_push_of_some _ (k1 _ _ hnew))) r h (by simp [sizeLine_eq];exact (Z20 0x10000007601100000661161026) r.length hl) fun h' t' zin' hO hk=>?_
 refine ⟨rfl,?_⟩;obtain ⟨o,ho,hr⟩:=hO.frz (b.lowSize hlow) zd;refine p.frozen b (fun c o' q=>hk c o' (Nat.ne_of_lt (Heap.lt_size q)) (Nat.ne_of_lt (Nat.lt_trans (Heap.lt_size q) hs1)) (Heap.get?_push_of_some _ (k1 _ _ (Heap.get?_push_of_some _ q)))) (Qe _) ho hr
end
theorem Qd0 {ns:List Int}(h:V3 xs=some ns):xs=ns.map .int:=Qfo h
theorem V1 (ns:List Int):V3 (ns.map .int)=some ns:=by
 induction ns with
 |nil=>rfl
 |cons n r ih=>exact congrArg (Option.map (n::·)) ih
section
noncomputable def Qzu:Bi→Value
 |.len=>.builtin "len"
 |.tuple=>.type "tuple"
 |.list=>.type "list"
 |.sorted=>.builtin "sorted"
 |.dict=>.type "dict"
 |.isInt=>.builtin "isinstance"
 |.listR=>.type "list"
theorem Qhj {a:Int}(h:ItemsOf (fun i v=>∃t,v=Value.int (a+(i:Int)*1) t) acc k):Rds P w Γ z acc.toList (Qbk a k):=by
 have e:∀(l:List Value) (j:Nat),(∀i v,l[i]?=some v→∃t,v=Value.int (a+((i+j:Nat):Int)) t)→Rds P w Γ z l ((List.range l.length).map fun (i:Nat)=>D.int (a+((i+j:Nat):Int))):=by
  intro l
  induction l with
  |nil=>intro j _;exact .nil
  |cons v r ih=>
   intro j hv;refine eqR (List.length_cons) ?_;refine eqR (List.range_succ_eq_map) ?_;refine eqR (List.map_cons) ?_;refine eqR (List.map_map) ?_;obtain ⟨t,rfl⟩:=hv 0 v rfl;refine .cons (.int _ _) ?_;have:=ih (j+1) (fun i u hu=>by
    obtain ⟨t,q⟩:=hv (i+1) u hu;exact ⟨t,by rw [q];congr 1;exact (Z21 0x151707a07115077a075)⟩)
   refine Eq.mp ?_ this
   congr 1
   apply List.map_congr_left;intro i _;refine (?_:D.int _=D.int _)
   congr 1
   simp only [Nat.succ_eq_add_one];exact (Z21 0x115077a07151707a075)
 have:=e acc.toList 0 (fun i v hv=>by
  obtain ⟨t,q⟩:=h.2 i v (by rw [←Array.getElem?_toList];exact hv);exact ⟨t,by rw [q];congr 1;omega⟩)
 rw [(by rw [Array.length_toList];exact h.1:acc.toList.length=k)]at this;exact this
theorem Qeo {a c:Int}{t u:Tok}
  (h:Q (.ref s.heap.objs.size) { s with heap:=s.heap.push { cls:=.type "range",data:=.fields #[.int a t,.int c u,.int 1 s.toks] },toks:=s.toks+1 }) :
  wpAny (model P w) A (call (.type "range") [.int a t,.int c u]) Q E s:=PySem.call_range_2 h
theorem Qh4 {a c:Int}(h:Q2 a=true) (h0:0≤c-a) (h1:c-a≤1048576):Builtin.Range.small a c 1=true∧Builtin.Range.rangeSize a c 1=(((c-a).toNat:Nat):Int):=by
 simp only [Q2,decide_eq_true_eq]at h;have e:Builtin.Range.rangeSize a c 1=(((c-a).toNat:Nat):Int):=by
  unfold Builtin.Range.rangeSize;refine eqR (if_pos (by decide)) ?_;split
  ·rw [Int.ediv_one];exact (Z02 0x108ba15151088751080546) h0
  ·exact (Z02 0x18ba05510396) ‹_›
 refine ⟨?_,e⟩;unfold Builtin.Range.small;refine eqR (e) ?_;simp only [Builtin.Range.rangeFitsLong,Bool.and_eq_true,Bool.or_eq_true,decide_eq_true_eq];simp only [(by decide:(1:Int) > 0),if_true];refine ⟨⟨⟨⟨?_,?_⟩,?_⟩,?_⟩,.inr ?_⟩<;>(try simp only [Bool.and_eq_true,decide_eq_true_eq])<;>first|omega|(constructor<;>omega)
theorem Qur (hA:AOk n A) (b:Base P w hB Γ z g s) {a c:Int}{r:Addr}{t u v:Tok}(hr:IsRange s.heap r a c 1 t u v) (h:Q2 a=true) (h0:0≤c-a) (h1:c-a≤1048576)
  (p:Jb P w hB Γ z s g (.lst (Qbk a (c-a).toNat)) Q):wpAny (model P w) A (call (.type "list") [.ref r]) Q E s:=by
 obtain ⟨e1,e2⟩:=Qh4 h h0 h1;refine call_list_range hA.hh hr e1 e2 ((Z02 0x100000076108b11000006610846) h1) fun h' tk acc' c' k e3 e4=>?_;exact p.lst b (vs:=acc'.toList) (n:=c') k (Qe _) (by simpa using e3) (Qhj e4)
theorem Qyc (b:Base P w hB Γ z g s) {x:Value}(ra:Rd P w Γ z x (.tup xs)) (hk:Qm xs.length=true) (p:Jb P w hB Γ z s g (.int xs.length) Q):wpAny (model P w) A (call (.builtin "len") [x]) Q E s:=by
 obtain ⟨a,vs,m,rfl,e,r⟩:=Jx ra;have l:=r.length;have l2:xs.length≤1048576:=of_decide_eq_true hk;refine PySem.P.len_tuple (b.zin _ _ e) (by rw [List.size_toArray];omega) ?_;refine eqR (List.size_toArray) ?_;refine eqR (l) ?_;exact p.same b _ (.int _ _)
theorem Qr1 (b:Base P w hB Γ z g s) {x:Value}(ra:Rd P w Γ z x (.lst xs)) (hk:Qm xs.length=true) (p:Jb P w hB Γ z s g (.int xs.length) Q):wpAny (model P w) A (call (.builtin "len") [x]) Q E s:=by
 obtain ⟨a,vs,m,rfl,e,r⟩:=Qc5 ra;have l:=r.length;have l2:xs.length≤1048576:=of_decide_eq_true hk;refine Calls.call_len_list (IsL.isList (b.zin _ _ e)) (by rw [List.size_toArray];omega) ?_;refine eqR (List.size_toArray) ?_;refine eqR (l) ?_;exact p.same b _ (.int _ _)
theorem Qwa (b:Base P w hB Γ z g s) {x:Value}(ra:Rd P w Γ z x (.dct kvs)) (hk:Qm kvs.length=true) (p:Jb P w hB Γ z s g (.int kvs.length) Q):wpAny (model P w) A (call (.builtin "len") [x]) Q E s:=by
 refine gk fun Ω κ=>?_;obtain ⟨a,xs,ks,rfl,⟨o,es,ep,h1,h2,h3,h4,h5,h6,h7⟩,rfl,r⟩:=Qqi ra;have l:=r.length;have h8:(List.zip (xs.map (·.1)) ks).length≤1048576:=of_decide_eq_true hk;have hsz:es.size=(List.zip (xs.map (·.1)) ks).length:=by
  rw [List.length_map]at l;refine eqL (Array.length_toList) ?_;rw [h4,List.length_zip,List.length_map,List.length_map,←l,Nat.min_self]
 refine κ ?_;refine Qwf h7 ⟨o,b.zin _ _ h1,h2.1,h3⟩ (by omega) ?_;refine eqR (hsz) ?_;exact p.same b _ (.int _ _)
theorem Qf7 (_hA:AOk n A) (b:Base P w hB Γ z g s) {x:Value}(ra:Rd P w Γ z x da) (h:da=.tup ds∨(da=.lst ds∧Qm ds.length=true)) (p:Jb P w hB Γ z s g (.tup ds) Q) :
  wpAny (model P w) A (call (.type "tuple") [x]) Q E s:=by
 rcases h with rfl|⟨rfl,h⟩
 ·cases ra with
  |tup e r=>
   exact call_tuple_same ⟨_,b.zin _ _ e,rfl,_,rfl⟩ (p.here b (.tup e r))
 ·cases ra with
  |lst e r=>
   simp only [Qm,decide_eq_true_eq]at h;refine call_tuple_list (IsL.isList (b.zin _ _ e)) (fun h' k=>?_) (by rw [List.size_toArray,sizeLine_eq];exact (Z20 0x10000007601100000661161026) (Rds.length r) h);exact p.tup b (fun a o e=>Qv _ _ _ _ (k a o e)) (Qgs k (Qe _)) (Heap.get?_push_size _ rfl) r
theorem Qoc (_hA:AOk n A) (b:Base P w hB Γ z g s) {x:Value}(ra:Rd P w Γ z x da) (h:(da=.tup ds∨da=.lst ds)∧Qm ds.length=true) (p:Jb P w hB Γ z s g (.lst ds) Q) :
  wpAny (model P w) A (call (.type "list") [x]) Q E s:=by
 obtain ⟨h,hl⟩:=h;simp only [Qm,decide_eq_true_eq]at hl;rcases h with rfl|rfl
 ·cases ra with
  |tup e r=>
   have l:=Rds.length r;refine call_list_seq _ (.inr rfl) (b.zin _ _ e) rfl rfl (fun h' c' k e'=>?_) (by rw [List.size_toArray,sizeLine_eq];exact (Z20 0x10000007611012610000066016) hl l);exact p.lst b k (Qe _) e' r
 ·cases ra with
  |lst e r=>
   have l:=Rds.length r;refine call_list_seq _ (.inl rfl) (b.zin _ _ e) rfl rfl (fun h' c' k e'=>?_) (by rw [List.size_toArray,sizeLine_eq];exact (Z20 0x10000007611012610000066016) hl l);exact p.lst b k (Qe _) e' r
theorem Qtw (_hA:AOk n A) (b:Base P w hB Γ z g s) {x:Value}{r:Bool}(ra:Rd P w Γ z x da) (h:(∃i,da=.int i∧r=true)∨((da=.none∨∃xs,da=.tup xs)∧r=false)) (p:Jb P w hB Γ z s g (.bool r) Q) :
  wpAny (model P w) A (call (.builtin "isinstance") [x,.type "int"]) Q E s:=by
 rcases h with ⟨i,rfl,rfl⟩|⟨rfl|⟨xs,rfl⟩,rfl⟩
 ·obtain ⟨t,rfl⟩:=Vo ra;exact IsiPair.int_int (p.here b (.bool _))
 ·obtain rfl:=Qz3 ra;exact IsiPair.NoneType_int (p.same b _ (.bool _))
 ·obtain ⟨a,vs,m,rfl,e,r⟩:=Jx ra;exact IsiPair.isTuple_int (h₀:=s.heap) ⟨_,b.zin _ _ e,rfl,_,rfl⟩ (fun Y Y q=>q) (p.same b _ (.bool _))
@[elab_as_elim] theorem Qx0 {M:D→Prop} (h:Qvx xs y=some d) (k:∀i,(if 0≤i&&Qm xs.length then xs[i.toNat]? else none)=some d→M (.int i)):M y:=by
 cases y<;>first|exact ns h|exact k _ h
@[elab_as_elim] theorem Yf1 {M:D→Prop} (h:Yd1 es y=some d) (k:∀ks,(V3 ks).bind (Qsz es)=some d→M (.tup ks)):M y:=by
 cases y<;>first|exact ns h|exact k _ h
set_option tactic.hygienic true in
@[elab_as_elim] theorem Ye7 {M:D→Prop} (h:Ydf g y=some d) (k:∀i:Int,(i=0∧d=.int g.p0)∨(i=1∧d=.int g.p1)→M (.int i)):M y:=by
 cases y<;>first|exact ns h|skip
 rename_i i;refine k i ?_;have h:(if i=0 then some (.int g.p0) else if i=1 then some (.int g.p1) else none)=some d:=h;by_cases q:i=0
 ·rw [if_pos q]at h;cases h;exact .inl ⟨q,rfl⟩
 ·rw [if_neg q]at h;obtain ⟨q,h⟩:=Q5 h;cases h;exact .inr ⟨q,rfl⟩
set_option tactic.hygienic true in
@[elab_as_elim] theorem Qvv {a:D} {M:D→D→Prop} (h:Qde g a y=some d) (k1:∀xs i,(if 0≤i&&Qm xs.length then xs[i.toNat]? else none)=some d→M (.tup xs) (.int i)) (k2:∀xs i,(if 0≤i&&Qm xs.length then xs[i.toNat]? else none)=some d→M (.lst xs) (.int i))
  (k3:∀es k,(V3 k).bind (Qsz es)=some d→M (.dct es) (.tup k)) (k4:∀i,(if 0≤i&&Qm g.flds.length then g.flds[i.toNat]? else none)=some d→M (.hnd .flds) (.int i)) (k5:∀i:Int,(i=0∧d=.int g.p0)∨(i=1∧d=.int g.p1)→M (.hnd .pen) (.int i)):M a y:=by
 cases a<;>first|exact ns h|exact Qx0 h (k1 _)|exact Qx0 h (k2 _)|exact Yf1 h (k3 _)|skip
 rename_i k;cases k<;>first|exact ns h|exact Ye7 h k5|exact Qx0 h k4
theorem Qio (b:Base P w hB Γ z g s) {m:Nat}{i:Int}{t:Tok}(e:s.heap.get? a=some (Vs vs m)) (r:Rds P w Γ z vs xs) (h:(if 0≤i&&Qm xs.length then xs[i.toNat]? else none)=some d) (p:Jb P w hB Γ z s g d Q) :
  wpAny (model P w) A (getItem (.ref a) (.int i t)) Q E s:=by
 obtain ⟨q,hi⟩:=Q5 h;have hl:xs.length≤1048576:=of_decide_eq_true (ba2 q);obtain ⟨v,hv,rv⟩:=Rds.get r hi;have hlt:=(List.getElem?_eq_some_iff.mp hi).1;exact wpAny_getItem_list (IsL.isList e) (of_decide_eq_true (ba1 q)) (by omega) (by rw [List.getElem?_toArray];exact hv) (p.here b rv)
theorem Qqa (hA:AOk n A) (b:Base P w hB Γ z g s) {x y:Value}(ra:Rd P w Γ z x da) (rb:Rd P w Γ z y db) (h:Qde g da db=some d) (p:Jb P w hB Γ z s g d Q) :
  wpAny (model P w) A (getItem x y) Q E s:=
 Qvv (M:=fun da db=>Rd P w Γ z x da→Rd P w Γ z y db→_) h (fun xs i h ra rb=>by
  obtain ⟨a,vs,m,rfl,e,r⟩:=Jx ra;obtain ⟨t,rfl⟩:=Vo rb;obtain ⟨q,hi⟩:=Q5 h;have hl:xs.length≤1048576:=of_decide_eq_true (ba2 q);obtain ⟨v,hv,rv⟩:=Rds.get r hi;have hlt:=(List.getElem?_eq_some_iff.mp hi).1;have l:=r.length;have h0:0≤i:=of_decide_eq_true (ba1 q);have l2:vs.length≤1048576:=l▸hl;exact PySem.P.getItem_tuple (k:=i.toNat) (b.zin _ _ e) (by omega) (by omega) (by rw [List.size_toArray];exact seqIndex_of h0 ((Z21 0x1a03012600b06) hlt l)) (by rw [List.getElem?_toArray];exact hv) (p.here b rv))
 (fun xs i h ra rb=>by
  obtain ⟨a,vs,m,rfl,e,r⟩:=Qc5 ra;obtain ⟨t,rfl⟩:=Vo rb;exact Qio b (b.zin _ _ e) r h p)
 (fun es k h ra rb=>by
  obtain ⟨c,xs,ys,rfl,e1,rfl,r⟩:=Qqi ra;obtain ⟨a,vs,m,rfl,e3,r3⟩:=Jx rb;obtain ⟨ns,h1,h2⟩:=Option.bind_eq_some_iff.mp h;obtain rfl:=Qd0 h1;obtain ⟨pr,h3,h4⟩:=Qqf r h2;refine wpAny_getItem_heap (by have:=hA.uni;show A.units+1<cLine;exact (Z30 0x2150702c82614e07706) this:(tk P w).room A.in1) ⟨_,_,_,b.zin _ _ e3,rfl,rfl,Rds.keyItems r3⟩ (e1.inH P w b.zin) h3 ?_;exact p.same b _ h4)
 (fun i h ra rb=>by
  obtain ⟨rfl,hk⟩:=Qlg ra;obtain ⟨t,rfl⟩:=Vo rb;obtain ⟨vs,m,e,r⟩:=b.flds hk;exact Qio b e r h p)
 (fun i h ra rb=>by
  obtain ⟨rfl,hk⟩:=Qlg ra;obtain ⟨t,rfl⟩:=Vo rb;obtain ⟨t,u,m,e⟩:=b.pen hk;rcases h with ⟨rfl,rfl⟩|⟨rfl,rfl⟩
  ·exact wpAny_getItem_list (IsL.isList e) (by decide) (by decide) (by rfl) (p.here b (.int _ _))
  ·exact wpAny_getItem_list (IsL.isList e) (by decide) (by decide) (by rfl) (p.here b (.int _ _))) ra rb
theorem Qm9 {xs:List (List Int×Addr×Value)}{ks:List D}(hk:∀x∈xs,X2 fun vs n=>z x.2.1=some (Qae vs n)∧ItemsAre (PySem.intKind P w) x.1 vs) (hl:xs.length=ks.length)
  (h:ItemsOf (fun i v=>∃e,(xs.map (entryOfKey (tk P w))).toArray[i]?=some e∧v=e.key) acc xs.length):Rds P w Γ z acc.toList (Qjt ((xs.map (·.1)).zip ks)):=by
 have e1:acc.toList=xs.map fun x=>Value.ref x.2.1:=by
  apply List.ext_getElem?;intro i;refine eqR (Array.getElem?_toList) ?_;refine eqR (List.getElem?_map) ?_;cases q:acc[i]? with
  |none=>
   have:acc.size≤i:=by simpa using q
   rw [h.1]at this;refine eqR (List.getElem?_eq_none this) ?_;rfl
  |some v=>
   obtain ⟨e,h1,rfl⟩:=h.2 i v q;simp only [List.getElem?_toArray,List.getElem?_map,Option.map_eq_some_iff]at h1;obtain ⟨x,h2,rfl⟩:=h1;refine eqR (h2) ?_;rfl
 have e2:Qjt ((xs.map (·.1)).zip ks)=xs.map fun x=>D.tup (x.1.map .int):=by
  unfold Qjt;clear h e1 hk
  induction xs generalizing ks with
  |nil=>rfl
  |cons x r ih=>
   cases ks with
   |nil=>simp at hl
   |cons k ks=>simp only [List.map_cons,List.zip_cons_cons];rw [ih (by simpa using hl)]
 refine eqR (e1) ?_;refine eqR (e2) ?_;exact Rds.tupsOf hk
set_option tactic.hygienic true in
theorem Qs1 (hA:AOk n A) (b:Base P w hB Γ z g s) {x:Value}(ra:Rd P w Γ z x (.dct es)) (hl:Qm es.length=true) (p:Jb P w hB Γ z s g (.lst (Qjt es)) Q) :
  wpAny (model P w) A (call (.type "list") [x]) Q E s:=by
 cases ra with
 |dct e1 e2 r=>
 rename_i a xs ks ys;obtain ⟨o,es,ep,h1,h2,h3,h4,h5,h6,h7⟩:=e1;subst e2;have l:=r.length;simp only [List.length_map]at l;have h8:es=(xs.map (entryOfKey (tk P w))).toArray:=by rw [←h4]
 have hsz:es.size=xs.length:=by rw [h8];simp
 simp only [Qm,decide_eq_true_eq,List.length_zip,List.length_map]at hl;refine kdl_call (Qx3 (es:=es) (ep:=ep) h7) hA.hh ⟨o,b.zin _ _ h1,h2.1,h3⟩ (by rw [hsz,sizeLine_eq];exact (Z20 0x100000076011000006610c161026) l hl) fun h' t acc c' k e' hi=>?_;rw [hsz,h8]at hi;exact p.lst b (vs:=acc.toList) k (Qe _) e' (Qm9 h5 l hi)
noncomputable def Qfp (P:Program) (w:World) (f:List Int→Option (List Int)):Prop:=
 ∀{A:Around} {s:Shared} {l:Addr} {vs:List Value} {ns out:List Int} {Q E:Value→Shared→Prop},A.handled=none→A.units+100<cLine→s.heap.IsList l vs.toArray→IntsAre vs ns→f ns=some out →
  (∀a h' t us n',(∀b o,s.heap.get? b=some o→h'.get? b=some o)→s.heap.get? a=none→h'.get? a=some (Vs us n')→IntsAre us out→Q (.ref a) { s with heap:=h',toks:=t }) →
  wpAny (model P w) A (call (.builtin "sorted") [.ref l]) Q E s
theorem Yep {f:D→Option D}(h:on1 f ds=some d):∃x,ds=[x]:=by
 rcases ds with _|⟨x,_|⟨y,l⟩⟩
 ·exact ns h
 ·exact ⟨x,rfl⟩
 ·exact ns h
theorem Yia {k:Bi}(h:abi O k ds=some d) (hk:k≠.listR):∃x,ds=[x]:=by
 cases k<;>first|exact absurd rfl hk|exact Yep h
theorem Qnt (h:abi O .sorted [.lst xs]=some d):∃out,∃ns,V3 xs=some ns∧O.sort ns=some out∧d=.lst (out.map .int):=
 Qcj (show opt (V3 xs) (fun ns=>(O.sort ns).map fun l=>.lst (l.map .int))=some d from h) fun ns h1 h2=>by
  obtain ⟨out,h3,rfl⟩:=Option.map_eq_some_iff.mp h2;exact ⟨out,ns,h1,h3,rfl⟩
theorem Yd3 (hS:Qfp P w O.sort) (hA:AOk n A) (b:Base P w hB Γ z g s) (hlow:Ydt hB) {k:Bi}(hk:k≠.isInt∧k≠.listR) (rs:Rds P w Γ z vs ds) (h:abi O k ds=some d) (p:Jb P w hB Γ z s g d Q) :
  wpAny (model P w) A (call (Qzu k) vs) Q E s:=by
 obtain ⟨x,rfl⟩:=Yia h hk.2;obtain ⟨v,rfl,r1⟩:=Yee rs;clear rs;cases k with
 |isInt=>exact absurd rfl hk.1
 |listR=>exact absurd rfl hk.2
 |len=>
  cases x<;>first|exact ns h|skip
  ·obtain ⟨hl,h⟩:=Q5 h;cases h;exact Qyc b r1 hl p
  ·obtain ⟨hl,h⟩:=Q5 h;cases h;exact Qr1 b r1 hl p
  ·obtain ⟨hl,h⟩:=Q5 h;cases h;exact Qwa b r1 hl p
 |tuple=>
  cases x<;>first|exact ns h|skip
  ·cases h;exact Qf7 hA b r1 (.inl rfl) p
  ·obtain ⟨hl,h⟩:=Q5 h;cases h;exact Qf7 hA b r1 (.inr ⟨rfl,hl⟩) p
 |list=>
  cases x<;>first|exact ns h|skip
  ·obtain ⟨hl,h⟩:=Q5 h;cases h;exact Qoc hA b r1 ⟨.inl rfl,hl⟩ p
  ·obtain ⟨hl,h⟩:=Q5 h;cases h;exact Qoc hA b r1 ⟨.inr rfl,hl⟩ p
  ·obtain ⟨hl,h⟩:=Q5 h;cases h;exact Qs1 hA b r1 hl p
 |sorted=>
  cases x<;>first|exact ns h|skip
  refine gk fun Ω κ=>?_;obtain ⟨out,ns,hns,h1,rfl⟩:=Qnt h;obtain ⟨a,vs,m,rfl,e,r⟩:=Qc5 r1;refine κ ?_;refine hS hA.hh (by have:=hA.uni;exact (Z30 0x264260702c82614e07706) this) (IsL.isList (b.zin _ _ e)) (Rds.ints (Qd0 hns▸r)) h1 fun a h' t us n' k ha e' hi=>?_;exact p.lst b k ha e' (Rds.ofInts hi)
 |dict=>
  cases x<;>first|exact ns h|skip
  refine gk fun Ω κ=>?_;obtain ⟨hl,h⟩:=Q5 h;obtain ⟨es,h1,rfl⟩:=Option.map_eq_some_iff.mp h;refine κ ?_;exact Qxf hA b hlow r1 hl h1 p
end
section
theorem Qct {l:Addr}{items}{x:Value}(hit:s.heap.IsTupleIter it l i)
  (hl:s.heap.IsTuple l items) (hx:items[i]?=some x)
  (hQ:∀h',h'.IsTupleIter it l (i+1)→Heap.SameBut it s.heap h'→Q x { s with heap:=h' }) :
  wpAny (model prog w) A (Builtin.SmallTypes.nextOf (.ref it)) Q E s:=by
 obtain ⟨o,ho,hc,hd⟩:=id hit;obtain ⟨ol,hol,_,nl,hdl⟩:=hl;unfold Builtin.SmallTypes.nextOf;refine wpAny_bind (wpAny_callSpecial?_slot (name:=Str.ofString "__next__") hit.typeIs F.slot_tuple_iterator_next
  (wpAny_call_entry F.slot_tuple_iterator_next hit.typeIs F.entry_tuple_iterator_next ?_ (F.args_tuple_iterator_next_1 _)))
 refine (?_:wpAny _ _ (field (.ref it) 0 >>= _) _ _ s);refine wpAny_bind (wpAny_field ho hd (x:=.ref l) rfl ?_);refine (?_:wpAny _ _ (if (Value.ref l==Value.none)=true then _ else _) _ _ s);refine eqR (if_neg (show ¬((Value.ref l==Value.none)=true) from Bool.false_ne_true)) ?_;refine (?_:wpAny _ _ (field (.ref it) 1 >>= _) _ _ s);refine wpAny_bind (wpAny_field ho hd (x:=.int i 0) rfl ?_);refine (?_:wpAny _ _ (seqItems? (.ref l) >>= _) _ _ s);refine wpAny_bind (wpAny_seqItems hol hdl ?_);simp only [Int.toNat_natCast,hx];refine wpAny_bind (wpAny_setField ho hd (by simp) (wpAny_pure ⟨x,rfl,wpAny_pure (hQ _ ?_ (Heap.SameBut.update ..))⟩));exact ⟨_,Heap.get?_update_self _ ho (Obj.isFreed_of_fields (Obj.data_mapFields hd _)),(Obj.cls_mapFields ..).trans hc,by
  rw [Obj.data_mapFields hd];rfl⟩
theorem Qdf {l:Addr}{items}(hh:A.handled=none)
  (hit:s.heap.IsTupleIter it l i) (hl:s.heap.IsTuple l items) (hx:items[i]?=none)
  (hE:∀h' e,Heap.ExtBut it s.heap h'→(∃o,h'.get? e=some o∧o.cls=.type "StopIteration")→E (.ref e) { s with heap:=h' }) :
  wpAny (model prog w) A (Builtin.SmallTypes.nextOf (.ref it)) Q E s:=by
 obtain ⟨o,ho,hc,hd⟩:=id hit;obtain ⟨ol,hol,_,nl,hdl⟩:=hl;unfold Builtin.SmallTypes.nextOf;refine wpAny_bind (wpAny_callSpecial?_slot (name:=Str.ofString "__next__") hit.typeIs F.slot_tuple_iterator_next
  (wpAny_call_entry F.slot_tuple_iterator_next hit.typeIs F.entry_tuple_iterator_next ?_ (F.args_tuple_iterator_next_1 _)))
 refine (?_:wpAny _ _ (field (.ref it) 0 >>= _) _ _ s);refine wpAny_bind (wpAny_field ho hd (x:=.ref l) rfl ?_);refine (?_:wpAny _ _ (if (Value.ref l==Value.none)=true then _ else _) _ _ s);refine eqR (if_neg (show ¬((Value.ref l==Value.none)=true) from Bool.false_ne_true)) ?_;refine (?_:wpAny _ _ (field (.ref it) 1 >>= _) _ _ s);refine wpAny_bind (wpAny_field ho hd (x:=.int i 0) rfl ?_);refine (?_:wpAny _ _ (seqItems? (.ref l) >>= _) _ _ s);refine wpAny_bind (wpAny_seqItems hol hdl ?_);simp only [Int.toNat_natCast,hx];refine wpAny_bind (wpAny_rule (wpAny_bind (wpAny_setField ho hd (by simp) ?_)));refine (?_:wpAny _ _ (newExc (.type "StopIteration") [] >>= _) _ _ _);refine wpAny_bind ?_;simp only [newExc,newTuple];refine wpAny_bind (wpAny_newObj_type ?_ (by size_fits));refine wpAny_bind (m:=firstArgMember _ _) (wpAny_of_eq (a:=Value.none) (by first|rfl|(simp only [firstArgMember];rfl)) ?_);refine wpAny_newObj_type ?_ (by size_fits);dsimp only [raiseNew];refine wpAny_bind (wpAny_handled ?_)
 first|rw [show A.in1.handled=none from hh]|rw [hh]
 refine wpAny_bind (wpAny_pure (wpAny_throw ?_));exact hE _ _ (((Heap.SameBut.update ..).extBut.push _).push _) ⟨_,Heap.get?_push_size _ rfl,rfl⟩
end
noncomputable def SI (z:Z) (h:Heap) (it:Addr) (i:Nat) (vs:List Value):Prop:=
 X2 fun l n=>(z l=some (Vs vs n)∧h.IsListIter it l i)∨(z l=some (Qae vs n)∧h.IsTupleIter it l i)
theorem SI.at {z z':Z}{h h':Heap}{it i vs}(x:SI z h it i vs) (hz:ZLe z z') (k:∀o,h.get? it=some o→h'.get? it=some o):SI z' h' it i vs:=by
 obtain ⟨l,n,⟨a,b⟩|⟨a,b⟩⟩:=x
 ·exact ⟨l,n,.inl ⟨hz _ _ a,b.at k⟩⟩
 ·exact ⟨l,n,.inr ⟨hz _ _ a,b.at k⟩⟩
section
theorem Qh8 {l:Addr}(hz:ZIn z h) (e:z l=some (Vs vs n)):h.IsList l vs.toArray:=⟨_,hz _ _ e,rfl,n,rfl⟩
theorem Qhi {l:Addr}(hz:ZIn z h) (e:z l=some (Qae vs n)):h.IsTuple l vs.toArray:=⟨_,hz _ _ e,rfl,n,rfl⟩
set_option tactic.hygienic true in
theorem SI.next {x:Value}(S:SI z s.heap it i vs) (hz:ZIn z s.heap) (hx:vs[i]?=some x) (hQ:∀h',SI z h' it (i+1) vs→Heap.SameBut it s.heap h'→Q x { s with heap:=h' }) :
  wpAny (model prog w) A (Builtin.SmallTypes.nextOf (.ref it)) Q E s:=by
 obtain ⟨l,n,⟨a,b⟩|⟨a,b⟩⟩:=S
 ·exact wpAny_nextOf_list_item b (Qh8 hz a) (by simpa using hx) fun h' b' hs=>hQ h' ⟨l,n,.inl ⟨a,b'⟩⟩ hs
 ·exact Qct b (Qhi hz a) (by simpa using hx) fun h' b' hs=>hQ h' ⟨l,n,.inr ⟨a,b'⟩⟩ hs
theorem SI.end (hh:A.handled=none) (S:SI z s.heap it i vs) (hz:ZIn z s.heap) (hx:vs.length≤i)
  (hE:∀h' e,Heap.ExtBut it s.heap h'→(∃o,h'.get? e=some o∧o.cls=.type "StopIteration")→E (.ref e) { s with heap:=h' }) :
  wpAny (model prog w) A (Builtin.SmallTypes.nextOf (.ref it)) Q E s:=by
 obtain ⟨l,n,⟨a,b⟩|⟨a,b⟩⟩:=S
 ·exact wpAny_nextOf_list_end hh b (Qh8 hz a) (by simpa using hx) hE
 ·exact Qdf hh b (Qhi hz a) (by simpa using hx) hE
theorem SI.pnext {x:Value}{Q:Option Value→Shared→Prop}(S:SI z s.heap it i vs) (hz:ZIn z s.heap) (hx:vs[i]?=some x) (hQ:∀h',SI z h' it (i+1) vs→Heap.SameBut it s.heap h'→Q (some x) { s with heap:=h' }) :
  wpAny (model prog w) A (pyNext (.ref it)) Q E s:=by
 obtain ⟨l,n,⟨a,b⟩|⟨a,b⟩⟩:=S
 ·exact wpAny_pyNext_list_item b (Qh8 hz a) (by simpa using hx) fun h' b' hs=>hQ h' ⟨l,n,.inl ⟨a,b'⟩⟩ hs
 ·exact wpAny_pyNext_tuple_item b (Qhi hz a) (by simpa using hx) fun h' b' hs=>hQ h' ⟨l,n,.inr ⟨a,b'⟩⟩ hs
theorem SI.pend {Q:Option Value→Shared→Prop}(hh:A.handled=none) (S:SI z s.heap it i vs) (hz:ZIn z s.heap) (hx:vs.length≤i)
  (hQ:∀h',Heap.ExtBut it s.heap h'→Q none { s with heap:=h' }):wpAny (model prog w) A (pyNext (.ref it)) Q E s:=by
 obtain ⟨l,n,⟨a,b⟩|⟨a,b⟩⟩:=S
 ·exact wpAny_pyNext_list_end hh b (Qh8 hz a) (by simpa using hx) hQ
 ·exact wpAny_pyNext_tuple_end hh b (Qhi hz a) (by simpa using hx) hQ
theorem SI.make {l:Addr}(hz:ZIn z s.heap) (e:z l=some (Vs vs n)∨z l=some (Qae vs n))
  (hQ:∀o,SI z (s.heap.push o) s.heap.objs.size 0 vs→Q (.ref s.heap.objs.size) { s with heap:=s.heap.push o }):wpAny (model prog w) A (pyIter (.ref l)) Q E s:=by
 rcases e with e|e
 ·exact wpAny_pyIter_list (Qh8 hz e) (hQ _ ⟨l,n,.inl ⟨e,_,Heap.get?_push_size _ rfl,rfl,rfl⟩⟩)
 ·exact wpAny_pyIter_tuple (Qhi hz e) (hQ _ ⟨l,n,.inr ⟨e,_,Heap.get?_push_size _ rfl,rfl,rfl⟩⟩)
end
noncomputable abbrev Yn (t:Bool) (l:Addr):Obj:={ cls:=.type (if t then "tuple_iterator" else "list_iterator"),data:=.fields #[.ref l,.int 0 0] }
noncomputable abbrev sqO (t:Bool) (vs:List Value) (n:Nat):Obj:={ cls:=.type (if t then "tuple" else "list"),data:=.seq vs.toArray n }
section
theorem V2 {t:Bool}{l:Addr}(h:s.heap.get? l=some (sqO t vs n)) (hQ:Q (.ref s.heap.objs.size) { s with heap:=s.heap.push (Yn t l) }) :
  wpAny (model prog w) A (pyIter (.ref l)) Q E s:=by
 cases t
 ·exact wpAny_pyIter_list (items:=vs.toArray) ⟨_,h,rfl,n,rfl⟩ hQ
 ·exact wpAny_pyIter_tuple (items:=vs.toArray) ⟨_,h,rfl,n,rfl⟩ hQ
theorem SI.of {t:Bool}{l:Addr}(e:z l=some (sqO t vs n)) (e':h.get? it=some (Yn t l)):SI z h it 0 vs:=by
 cases t
 ·exact ⟨l,n,.inl ⟨e,_,e',rfl,rfl⟩⟩
 ·exact ⟨l,n,.inr ⟨e,_,e',rfl,rfl⟩⟩
theorem Qns {l:Addr}(e:z l=some (Vs vs n)∨z l=some (Qae vs n)):∃t,z l=some (sqO t vs n):=by
 rcases e with e|e
 ·exact ⟨false,e⟩
 ·exact ⟨true,e⟩
end
theorem Qe8 (a b c:Value):checkTypeCall "zip" ⟨[a,b,c],[]⟩=pure ():=by kernel_rfl
theorem Qg0 (a b c:Value):checkBuiltinCall "zip.__new__" ⟨[.type "zip",a,b,c],[]⟩=pure ():=by kernel_rfl
theorem Qbu (a b c d:Value):argsOk "object.__init__" ⟨[a,b,c,d],[]⟩:=by
 unfold argsOk;rw [PySem.signature?_of (id:="object.__init__") (n:=['_','_','t','i','n','i','_','_']) (o:=['t','c','e','j','b','o']) (by kernel_rfl) F.owner_object];kernel_rfl
noncomputable abbrev zp3 (h:Heap) (t1 t2:Bool) (l1 l2:Addr):Heap:=((h.push (Yn t1 l1)).push (Yn t2 l2)).push { cls:=.type "tuple",data:=.seq #[.ref h.objs.size,.ref (h.push (Yn t1 l1)).objs.size] }
noncomputable abbrev zp4 (h:Heap) (t1 t2:Bool) (l1 l2:Addr):Heap:=(zp3 h t1 t2 l1 l2).push { cls:=.type "tuple",data:=.seq #[.none,.none] }
noncomputable abbrev zp5 (h:Heap) (t1 t2:Bool) (l1 l2:Addr):Heap:=(zp4 h t1 t2 l1 l2).push { cls:=.type "zip",data:=.fields #[.none,.bool false,.bool false,.ref ((h.push (Yn t1 l1)).push (Yn t2 l2)).objs.size,.ref (zp3 h t1 t2 l1 l2).objs.size] }
theorem Qnu (t1 t2:Bool) (l1 l2:Addr) (xs ys:List Value) (n m:Nat) :
  Meets (Builtin.«zip.__new__» ⟨[.type "zip",.ref l1,.ref l2],[]⟩) (fun Y R s=>s.heap.get? l1=some (sqO t1 xs n)∧s.heap.get? l2=some (sqO t2 ys m) ∧
   R (.ok (.ret (.ref (zp4 s.heap t1 t2 l1 l2).objs.size))) { s with heap:=zp5 s.heap t1 t2 l1 l2 }):=
 .of_wp fun prog w A R s h=>by
  refine gk fun Ω κ=>?_;obtain ⟨hp,g,d,tk,os⟩:=s;obtain ⟨hl1,hl2,h⟩:=h;have hsub:=sub_zip;have hL2:(Shared.heap ⟨hp.push (Yn t1 l1),g,d,tk,os⟩).get? l2=some (sqO t2 ys m):=Heap.get?_push_of_some _ hl2;refine κ ?_
  wp_walk using V2 (hl1:(Shared.heap ⟨hp,g,d,tk,os⟩).get? l1=some (sqO t1 xs n)),V2 hL2
  exact ⟨_,rfl,h⟩
noncomputable abbrev zq3 (h:Heap) (t1 t2 t3:Bool) (l1 l2 l3:Addr):Heap:=((h.push (Yn t1 l1)).push (Yn t2 l2)).push (Yn t3 l3)
noncomputable abbrev zq4 (h:Heap) (t1 t2 t3:Bool) (l1 l2 l3:Addr):Heap:=(zq3 h t1 t2 t3 l1 l2 l3).push { cls:=.type "tuple",data:=.seq #[.ref h.objs.size,.ref (h.push (Yn t1 l1)).objs.size,.ref ((h.push (Yn t1 l1)).push (Yn t2 l2)).objs.size] }
noncomputable abbrev zq5 (h:Heap) (t1 t2 t3:Bool) (l1 l2 l3:Addr):Heap:=(zq4 h t1 t2 t3 l1 l2 l3).push { cls:=.type "tuple",data:=.seq #[.none,.none,.none] }
noncomputable abbrev zq6 (h:Heap) (t1 t2 t3:Bool) (l1 l2 l3:Addr):Heap:=(zq5 h t1 t2 t3 l1 l2 l3).push { cls:=.type "zip",data:=.fields #[.none,.bool false,.bool false,.ref (zq3 h t1 t2 t3 l1 l2 l3).objs.size,.ref (zq4 h t1 t2 t3 l1 l2 l3).objs.size] }
set_option maxHeartbeats 4000000 in
theorem Qm2 (t1 t2 t3:Bool) (l1 l2 l3:Addr) (xs ys us:List Value) (n m k:Nat) :
  Meets (Builtin.«zip.__new__» ⟨[.type "zip",.ref l1,.ref l2,.ref l3],[]⟩) (fun Y R s=>s.heap.get? l1=some (sqO t1 xs n)∧s.heap.get? l2=some (sqO t2 ys m)∧s.heap.get? l3=some (sqO t3 us k) ∧
   R (.ok (.ret (.ref (zq5 s.heap t1 t2 t3 l1 l2 l3).objs.size))) { s with heap:=zq6 s.heap t1 t2 t3 l1 l2 l3 }):=
 .of_wp fun prog w A R s h=>by
  obtain ⟨hp,g,d,tk,os⟩:=s;obtain ⟨hl1,hl2,hl3,h⟩:=h;have hsub:=sub_zip
  wp_walk using V2 (hl1:(Shared.heap ⟨hp,g,d,tk,os⟩).get? l1=some (sqO t1 xs n)),V2 (Heap.get?_push_of_some _ hl2:(Shared.heap ⟨hp.push (Yn t1 l1),g,d,tk,os⟩).get? l2=some (sqO t2 ys m)),V2 (Heap.get?_push_of_some _ (Heap.get?_push_of_some _ hl3):(Shared.heap ⟨(hp.push (Yn t1 l1)).push (Yn t2 l2),g,d,tk,os⟩).get? l3=some (sqO t3 us k))
  exact ⟨_,rfl,h⟩
theorem ZIn.but (hz:ZIn z h) (hs:Heap.SameBut a h h') (za:z a=none):ZIn z h':=
 fun b o e=>(hs.2 b (fun q=>by rw [q,za]at e;exact nomatch e)).trans (hz b o e)
theorem SI.but {it a i vs}(x:SI z h it i vs) (hs:Heap.SameBut a h h') (n:it≠a):SI z h' it i vs:=x.at (ZLe.refl z) fun _ e=>(hs.2 it n).trans e
noncomputable abbrev IsTup (h:Heap) (T:Addr) (xs:Array Value):Prop:=h.get? T=some { cls:=.type "tuple",data:=.seq xs }
theorem Qya {xs:Array Value}{x:Value}{Q:Unit→Shared→Prop}(hT:IsTup s.heap T xs) (hs:xs.size≤64)
  (h:∀h',IsTup h' T (xs.setIfInBounds k x)→Heap.SameBut T s.heap h'→Q () { s with heap:=h' }) :
  wpAny (model prog w) A (updateSeq T (·.setIfInBounds k x)) Q E s:=by
 refine wpAny_updateSeq hT rfl (h _ ?_ (Heap.SameBut.update ..)) (by rw [sizeLine_eq];exact (Z10 0x100000076014026016) hs) (by simp [sizeLine_eq];exact (Z10 0x100000176014026016) hs);refine (?_:(s.heap.update T _).get? T=_);refine eqR (Heap.get?_update_self _ hT rfl) ?_;simp [Obj.mapSeq]
inductive SIs (z:Z) (h:Heap) (i:Nat):List Addr→List (List Value)→Prop
 |nil:SIs z h i [] []
 |cons {a:Addr} {xs:List Value} {is:List Addr} {xss:List (List Value)}:SI z h a i xs→SIs z h i is xss→SIs z h i (a::is) (xs::xss)
inductive Its {α:Type} (i:Nat):List (List α)→List α→Prop
 |nil:Its i [] []
 |cons {xs:List α} {x:α} {xss:List (List α)} {vs:List α}:xs[i]?=some x→Its i xss vs→Its i (xs::xss) (x::vs)
theorem SIs.but {i is xss}(x:SIs z h i is xss) (k:∀a∈is,∀o,h.get? a=some o→h'.get? a=some o):SIs z h' i is xss:=by
 induction x with
 |nil=>exact .nil
 |cons s _ ih=>exact .cons (s.at (ZLe.refl z) (k _ (.head _))) (ih fun a ha=>k a (.tail _ ha))
theorem SIs.at {z z':Z}{h h':Heap}{i is xss}(x:SIs z h i is xss) (hz:ZLe z z') (k:∀a∈is,∀o,h.get? a=some o→h'.get? a=some o):SIs z' h' i is xss:=by
 induction x with
 |nil=>exact .nil
 |cons s _ ih=>exact .cons (s.at hz (k _ (.head _))) (ih fun a ha=>k a (.tail _ ha))
theorem SIs.len {i is xss}(x:SIs z h i is xss):is.length=xss.length:=by
 induction x with
 |nil=>rfl
 |cons s x ih=>exact congrArg Nat.succ ih
theorem Its.len {xss:List (List α)}{vs:List α}(x:Its i xss vs):vs.length=xss.length:=by
 induction x with
 |nil=>rfl
 |cons s x ih=>exact congrArg Nat.succ ih
section
structure ZipN (z:Z) (h:Heap) (zo TI TO:Addr) (is:List Addr) (i:Nat) (xss:List (List Value)) (f0:Value):Prop where
 zp:IsZip h zo TI TO f0
 ti:IsTup h TI (is.map Value.ref).toArray
 to:∃l:List Value,l.length=is.length∧IsTup h TO l.toArray
 its:SIs z h i is xss
 nd:(zo::TI::TO::is).Nodup
 zn:∀c∈zo::TI::TO::is,z c=none
 sz:is.length≤8
 ne:is≠[]
theorem Ygc {b0:β}{F:Value×Nat→β→Sem (ForInStep β)}{Q:β→Shared→Prop}
  (hF:∀(s:Shared) (it:Addr) (k:Nat) (xs:List Value) (v:Value) (l:List Value) (R:ForInStep β→Shared→Prop),SI z s.heap it i xs→ZIn z s.heap→xs[i]?=some v→IsTup s.heap TO l.toArray→l.length≤8→it≠TO→z it=none →
   (∀h',SI z h' it (i+1) xs→IsTup h' TO (l.set k v).toArray→(∀c,c≠it→c≠TO→h'.get? c=s.heap.get? c)→h'.objs.size=s.heap.objs.size→ZIn z h'→R (.yield b0) { s with heap:=h' })→wpAny (model prog w) A (F (.ref it,k) b0) R E s) :
  ∀{is:List Addr} {xss:List (List Value)} {vs pre old:List Value} {s:Shared},SIs z s.heap i is xss→Its i xss vs→IsTup s.heap TO (pre++old).toArray→old.length=is.length→(pre++old).length≤8→(TO::is).Nodup→(∀c∈is,z c=none)→ZIn z s.heap →
   (∀h',SIs z h' (i+1) is xss→IsTup h' TO (pre++vs).toArray→(∀c,c∉TO::is→h'.get? c=s.heap.get? c)→h'.objs.size=s.heap.objs.size→ZIn z h'→Q b0 { s with heap:=h' }) →
   wpAny (model prog w) A (forIn ((is.map Value.ref).zipIdx pre.length) b0 F) Q E s:=by
 intro is
 induction is with
 |nil=>
  intro xss vs pre old s S hv hT hl hm hnd hzn hz hq;cases S;cases hv;cases old with
  |cons=>cases hl
  |nil=>exact wpAny_pure (hq s.heap .nil hT (fun Y Y=>rfl) rfl hz)
 |cons it is ih=>
  intro xss vs pre old s S hv hT hl hm hnd hzn hz hq;cases S with
  |cons S1 S2=>
  cases hv with
  |@cons xs x xss vs hx hv=>
  cases old with
  |nil=>cases hl
  |cons o old=>
  obtain ⟨n0,n1⟩:=List.nodup_cons.mp hnd;obtain ⟨n2,n3⟩:=List.nodup_cons.mp n1;have ne:it≠TO:=fun q=>n0 (q▸.head _);rw [List.map_cons,List.zipIdx_cons,List.forIn_cons];refine wpAny_bind (hF s it pre.length _ _ (pre++o::old) _ S1 hz hx hT hm ne (hzn _ (.head _)) fun h' S' hT' hk hsz hz'=>?_);have e:(pre++o::old).set pre.length x=(pre++[x])++old:=by simp
  rw [e]at hT';refine (?_:wpAny _ _ (forIn ((is.map Value.ref).zipIdx (pre.length+1)) b0 F) _ _ _);have el:(pre++[x]).length=pre.length+1:=List.length_append;have em:((pre++[x])++old).length=(pre++o::old).length:=by rw [←e,List.length_set]
  rw [←el];refine ih (s:={ s with heap:=h' }) (S2.but fun a ha o e=>(hk a (fun q=>n2 (q▸ha)) fun q=>n0 (q▸.tail _ ha)).trans e) hv hT' (Nat.succ.inj hl) (em▸hm) (List.nodup_cons.mpr ⟨fun q=>n0 (.tail _ q),n3⟩) (fun c hc=>hzn c (.tail _ hc)) hz' fun h'' S'' hT'' hk' hsz' hz''=>?_;have kit:∀c,c∉TO::it::is→h''.get? c=s.heap.get? c:=fun c hc=>(hk' c fun q=>hc ((List.mem_cons.mp q).elim (fun q=>q▸.head _) fun q=>.tail _ (.tail _ q))).trans (hk c (fun q=>hc (q▸.tail _ (.head _))) fun q=>hc (q▸.head _));refine hq h'' (.cons (S'.at (ZLe.refl z) fun o e=>(hk' it fun q=>(List.mem_cons.mp q).elim ne n2).trans e) S'') ?_ kit (hsz'.trans hsz) hz'';rw [List.append_assoc]at hT'';exact hT''
theorem Qod {Q:Option Value→Shared→Prop}(S:ZipN z s.heap zo TI TO is i xss .none) (hz:ZIn z s.heap) (hv:Its i xss vs)
  (hQ:∀h',ZipN z h' zo TI TO is (i+1) xss (rawInt s.heap.objs.size)→IsTup h' s.heap.objs.size vs.toArray→(∀c o,c∉zo::TO::is→s.heap.get? c=some o→h'.get? c=some o)→Q (some (.ref s.heap.objs.size)) { s with heap:=h' }) :
  wpAny (model prog w) A (pyNext (.ref zo)) Q E s:=by
 obtain ⟨hzo,hTI,⟨l0,hl0,hTO⟩,its,nd,zn,sz,hne⟩:=S;cases is with
 |nil=>exact absurd rfl hne
 |cons i0 is=>
 have hT:s.TypeIs (.ref zo) "zip":=⟨_,hzo,rfl⟩
 have hvl:=hv.len.trans its.len.symm;obtain ⟨nz,nd1⟩:=List.nodup_cons.mp nd;obtain ⟨nT,nd2⟩:=List.nodup_cons.mp nd1;have zzo:=zn zo (.head _);have zTO:=zn TO (.tail _ (.tail _ (.head _)));have nzi:∀a∈i0::is,a≠zo:=fun a ha q=>nz (q▸.tail _ (.tail _ ha));have nzT:TO≠zo:=fun q=>nz (q▸.tail _ (.head _));unfold pyNext;refine wpAny_bind (wpAny_attempt (wpAny_callSpecial?_slot (name:=Str.ofString "__next__") hT F.slot_zip_next
  (wpAny_call_entry F.slot_zip_next hT F.entry_zip_next ?_ (F.args_zip_next_1 _))))
 refine (?_:wpAny _ _ (field (.ref zo) 2 >>= _) _ _ _);refine wpAny_bind (wpAny_field hzo rfl (x:=.bool false) rfl ?_);refine (?_:wpAny _ _ (field (.ref zo) 3 >>= _) _ _ _);refine wpAny_bind (wpAny_field hzo rfl (x:=.ref TI) rfl ?_);refine wpAny_bind (wpAny_seqItems hTI rfl ?_);refine (?_:wpAny _ _ (Builtin.SmallTypes.ownedTupleIsFree (.ref zo) >>= _) _ _ _);refine wpAny_bind ?_;unfold Builtin.SmallTypes.ownedTupleIsFree;refine wpAny_bind (wpAny_field hzo rfl (x:=.none) rfl (wpAny_pure ?_));dsimp only [if_true];refine wpAny_bind (wpAny_rule ?_);refine wpAny_bind (wpAny_field hzo rfl (x:=.ref TO) rfl ?_);refine wpAny_bind (wpAny_setField_rec hzo (by simp) fun h₁ hz₁ hs₁=>?_)
 replace hz₁:IsZip h₁ zo TI TO .ellipsis:=hz₁
 refine wpAny_bind (Ygc (i:=i) (TO:=TO) ?step (is:=i0::is) (xss:=xss) (vs:=vs) (pre:=[]) (old:=l0) (its.but fun a ha o e=>(hs₁.2 a (nzi a ha)).trans e) hv ((hs₁.2 _ nzT).trans hTO) hl0 (by rw [List.nil_append,hl0];exact sz) nd2 (fun c hc=>zn c (.tail _ (.tail _ (.tail _ hc)))) (hz.but hs₁ zzo) fun h₅ its₅ hTO₅ hk₅ hsz₅ zi₅=>?_)
 case step=>
  intro s it k xs v l R S1 zi hx hTO hl ne zit hR;refine wpAny_bind (wpAny_onRaise ?_);refine (?_:wpAny _ _ (Builtin.SmallTypes.nextOf (.ref it) >>= _) _ _ _);refine wpAny_bind (SI.next S1 zi hx fun h₂ h1₂ hs₂=>wpAny_pure ?_);have hTO₂:IsTup h₂ TO l.toArray:=(hs₂.2 _ (Ne.symm ne)).trans hTO;refine wpAny_bind (wpAny_seqItems hTO₂ rfl ?_);refine wpAny_bind (Qya hTO₂ (by rw [List.size_toArray];exact Nat.le_trans hl (by decide)) fun h₃ hTO₃ hs₃=>?_);refine wpAny_bind (wpAny_letGo (wpAny_pure (hR h₃ (h1₂.but hs₃ ne) (by rw [List.setIfInBounds_toArray]at hTO₃;exact hTO₃) (fun c c1 c2=>(hs₃.2 c c2).trans (hs₂.2 c c1)) (hs₃.1.trans hs₂.1) ((zi.but hs₂ zit).but hs₃ zTO))))
 have hsz:h₅.objs.size=s.heap.objs.size:=hsz₅.trans hs₁.1;have hk:∀c o,c≠zo→c∉TO::i0::is→s.heap.get? c=some o→h₅.get? c=some o:=fun c o c1 c2 e=>(hk₅ c c2).trans ((hs₁.2 c c1).trans e);have hz₅:IsZip h₅ zo TI TO .ellipsis:=(hk₅ zo (fun q=>nz (.tail _ q))).trans hz₁;refine wpAny_bind (wpAny_seqItems hTO₅ rfl ?_);refine wpAny_bind (wpAny_newTuple ?_ (by rw [sizeLine_eq];exact Nat.le_trans (hvl▸sz:vs.length≤8) (by decide)));refine (?_:wpAny _ _ (Builtin.SmallTypes.ownedTupleHandOut (.ref zo) (.ref h₅.objs.size) >>= _) _ _ _);refine wpAny_bind ?_;unfold Builtin.SmallTypes.ownedTupleHandOut;have hz₆:IsZip (h₅.push { cls:=.type "tuple",data:=.seq vs.toArray }) zo TI TO .ellipsis:=Heap.get?_push_of_some _ hz₅;refine wpAny_bind (wpAny_setField_rec hz₆ (by simp) fun h₇ hz₇ hs₇=>?_)
 replace hz₇:IsZip h₇ zo TI TO (rawInt h₅.objs.size):=hz₇
 refine wpAny_setField_rec hz₇ (by simp) fun h₈ hz₈ hs₈=>?_
 replace hz₈:IsZip h₈ zo TI TO (rawInt h₅.objs.size):=hz₈
 have up:∀c o,c≠zo→h₅.get? c=some o→h₈.get? c=some o:=fun c o c1 e=>(hs₈.2 _ c1).trans ((hs₇.2 _ c1).trans (Heap.get?_push_of_some _ e));have hn:h₅.objs.size≠zo:=Nat.ne_of_gt (Heap.lt_size hz₅);have hT₈:IsTup h₈ h₅.objs.size vs.toArray:=(hs₈.2 _ hn).trans ((hs₇.2 _ hn).trans (Heap.get?_push_size _ rfl));rw [hsz]at hz₈ hT₈;refine wpAny_pure ⟨_,rfl,?_⟩;refine (?_:wpAny _ _ (pure (some (Value.ref h₅.objs.size))) _ _ _);refine eqR (hsz) ?_;have nTz:TI≠zo:=fun q=>nz (q▸.head _);refine wpAny_pure (hQ h₈ ⟨hz₈,up _ _ nTz (hk _ _ nTz nT hTI),⟨vs,hvl,up _ _ nzT hTO₅⟩,its₅.but fun a ha o e=>up _ o (nzi a ha) e,nd,zn,sz,hne⟩ hT₈ fun c o hc e=>?_);exact up c o (fun q=>hc (q▸.head _)) (hk c o (fun q=>hc (q▸.head _)) (fun q=>hc (.tail _ q)) e)
theorem Qtf {xs:List Value}{Q:Option Value→Shared→Prop}(hh:A.handled=none) (S:ZipN z s.heap zo TI TO is i (xs::xss) .none) (hz:ZIn z s.heap) (hx:xs.length≤i)
  (hQ:∀h',(∀c o,c∉zo::TO::is→s.heap.get? c=some o→h'.get? c=some o)→Q none { s with heap:=h' }):wpAny (model prog w) A (pyNext (.ref zo)) Q E s:=by
 obtain ⟨hzo,hTI,⟨l0,hl0,hTO⟩,its,nd,zn,sz,hne⟩:=S;cases its with
 |@cons i0 xs is xss h1 its=>
 have hT:s.TypeIs (.ref zo) "zip":=⟨_,hzo,rfl⟩
 obtain ⟨nz,nd1⟩:=List.nodup_cons.mp nd;have n3:i0≠zo:=fun q=>nz (q▸.tail _ (.tail _ (.head _)));unfold pyNext;refine wpAny_bind (wpAny_attempt (wpAny_callSpecial?_slot (name:=Str.ofString "__next__") hT F.slot_zip_next
  (wpAny_call_entry F.slot_zip_next hT F.entry_zip_next ?_ (F.args_zip_next_1 _))))
 refine (?_:wpAny _ _ (field (.ref zo) 2 >>= _) _ _ _);refine wpAny_bind (wpAny_field hzo rfl (x:=.bool false) rfl ?_);refine (?_:wpAny _ _ (field (.ref zo) 3 >>= _) _ _ _);refine wpAny_bind (wpAny_field hzo rfl (x:=.ref TI) rfl ?_);refine wpAny_bind (wpAny_seqItems hTI rfl ?_);refine (?_:wpAny _ _ (Builtin.SmallTypes.ownedTupleIsFree (.ref zo) >>= _) _ _ _);refine wpAny_bind ?_;unfold Builtin.SmallTypes.ownedTupleIsFree;refine wpAny_bind (wpAny_field hzo rfl (x:=.none) rfl (wpAny_pure ?_));dsimp only [if_true];refine wpAny_bind (wpAny_rule ?_);refine wpAny_bind (wpAny_field hzo rfl (x:=.ref TO) rfl ?_);refine wpAny_bind (wpAny_setField_rec hzo (by simp) fun h₁ hz₁ hs₁=>?_)
 replace hz₁:IsZip h₁ zo TI TO .ellipsis:=hz₁
 refine wpAny_bind ?_;refine (?_:wpAny _ _ (forIn ((Value.ref i0,0)::(is.map Value.ref).zipIdx 1) _ _) _ _ _);rw [List.forIn_cons];refine wpAny_bind (wpAny_bind (wpAny_onRaise ?_));refine (?_:wpAny _ _ (Builtin.SmallTypes.nextOf (.ref i0) >>= _) _ _ _);refine wpAny_bind (SI.end hh (h1.but hs₁ n3) (hz.but hs₁ (zn zo (.head _))) hx fun h₂ e hs₂ he=>?_);obtain ⟨oe,hoe,hce⟩:=he;have hz₂:IsZip h₂ zo TI TO .ellipsis:=hs₂ _ _ (Ne.symm n3) hz₁;have hez:e≠zo:=fun x=>by subst x;rw [hz₂]at hoe;cases hoe;simp at hce
 refine wpAny_setField_rec hz₂ (by simp) fun h₃ Y hs₃=>?_;refine wpAny_bind (wpAny_isInstance (T:="StopIteration") (b:=true) ⟨oe,(hs₃.2 _ hez).trans hoe,hce⟩ isSubtype_stop ?_);refine wpAny_pure (hQ _ fun c o hc x=>?_);have c0:c≠zo:=fun q=>hc (q▸.head _);exact (hs₃.2 _ c0).trans (hs₂ _ _ (fun q=>hc (q▸.tail _ (.tail _ (.head _)))) ((hs₁.2 _ c0).trans x))
theorem Qyx {x1}{Q:Unit→Shared→Prop}(S:ZipN z s.heap zo TI TO is i xss (rawInt T))
  (hQ:∀h',ZipN z h' zo TI TO is i xss .none→Heap.SameBut zo s.heap h'→Q () { s with heap:=h' }) :
  wpAny (model prog w) A (letOwnedTupleGo (.Tuple elts x1 pos) (.ref zo) (.ref T)) Q E s:=by
 obtain ⟨hzo,hTI,⟨l0,hl0,hTO⟩,its,nd,zn,sz,hne⟩:=S;obtain ⟨nz,nd1⟩:=List.nodup_cons.mp nd;exact wpAny_letOwnedTupleGo_zip hzo fun h' hz' hs'=>hQ h' ⟨hz',(hs'.2 _ fun q=>nz (q▸.head _)).trans hTI,⟨l0,hl0,(hs'.2 _ fun q=>nz (q▸.tail _ (.head _))).trans hTO⟩,its.but fun a ha o e=>(hs'.2 a fun q=>nz (q▸.tail _ (.tail _ ha))).trans e,nd,zn,sz,hne⟩ hs'
end
section
structure En (z:Z) (h:Heap) (e it:Addr) (i:Nat) (xs:List Value):Prop where
 en:∃old,IsEnum h e it i old
 a:SI z h it i xs
 ne:e≠it
 ze:z e=none
 zi:z it=none
structure EnO (z:Z) (h:Heap) (e it:Addr) (i:Nat) (xs:List Value) (T:Addr):Prop where
 en:∃x,IsEnumOut h e it i x T
 a:SI z h it i xs
 ne:e≠it
 ze:z e=none
 zi:z it=none
set_option tactic.hygienic true in
theorem Qyr {e:Addr}{xs:List Value}{x:Value}{Q:Option Value→Shared→Prop}(S:En z s.heap e it i xs) (hz:ZIn z s.heap) (hx:xs[i]?=some x)
  (hQ:∀h' t,EnO z h' e it (i+1) xs s.heap.objs.size→IsTup h' s.heap.objs.size #[.int i t,x]→(∀c o,c∉[e,it]→s.heap.get? c=some o→h'.get? c=some o)→Q (some (.ref s.heap.objs.size)) { s with heap:=h',toks:=s.toks+1 }) :
  wpAny (model prog w) A (pyNext (.ref e)) Q E s:=by
 obtain ⟨⟨old,he⟩,h1,ne,ze,zi⟩:=S;have hT:s.TypeIs (.ref e) "enumerate":=⟨_,he,rfl⟩
 unfold pyNext;refine wpAny_bind (wpAny_attempt (wpAny_callSpecial?_slot (name:=Str.ofString "__next__") hT F.slot_enumerate_next
  (wpAny_call_entry F.slot_enumerate_next hT F.entry_enumerate_next ?_ (F.args_enumerate_next_1 _))))
 refine (?_:wpAny _ _ (field (.ref e) 2 >>= _) _ _ _);refine wpAny_bind (wpAny_field he rfl (x:=.ref it) rfl ?_);refine wpAny_bind (SI.next h1 hz hx fun h₁ hit₁ hs₁=>?_);have he₁:IsEnum h₁ e it i old:=(hs₁.2 _ ne).trans he;refine (?_:wpAny _ _ (field (.ref e) 3 >>= _) _ _ _);refine wpAny_bind (wpAny_field he₁ rfl (x:=rawInt i) rfl ?_);refine (?_:wpAny _ _ (field (.ref e) 4 >>= _) _ _ _);refine wpAny_bind (wpAny_field he₁ rfl (x:=.none) rfl ?_);refine (?_:wpAny _ _ (mkInt i >>= _) _ _ _);refine wpAny_bind (wpAny_mkInt ?_);refine (?_:wpAny _ _ (setField (.ref e) 3 (rawInt ((i:Int)+1)) >>= _) _ _ _);refine wpAny_bind (wpAny_setField_rec he₁ (by simp) fun h₂ he₂ hs₂=>?_)
 replace hs₂:Heap.SameBut e h₁ h₂:=hs₂
 replace he₂:IsEnum h₂ e it ((i:Int)+1) old:=he₂
 refine (?_:wpAny _ _ (setField (.ref e) 4 .none >>= _) _ _ _);refine wpAny_bind (wpAny_setField_rec he₂ (by simp) fun h₃ he₃ hs₃=>?_)
 replace hs₃:Heap.SameBut e h₂ h₃:=hs₃
 replace he₃:IsEnum h₃ e it ((i:Int)+1) old:=he₃
 refine (?_:wpAny _ _ (newTuple [.int i s.toks,x] >>= _) _ _ _);refine wpAny_bind (wpAny_newTuple ?_);have he₄:IsEnum (h₃.push { cls:=.type "tuple",data:=.seq #[.int i s.toks,x] }) e it ((i:Int)+1) old:=Heap.get?_push_of_some _ he₃;have hsz:h₃.objs.size=s.heap.objs.size:=by rw [hs₃.1,hs₂.1,hs₁.1]
 have hne:h₃.objs.size≠e:=Nat.ne_of_gt (Heap.lt_size he₃);refine (?_:wpAny _ _ (Builtin.SmallTypes.ownedTupleIsFree (.ref e) >>= _) _ _ _);refine wpAny_bind ?_;unfold Builtin.SmallTypes.ownedTupleIsFree;refine wpAny_bind (wpAny_field he₄ rfl (x:=.none) rfl (wpAny_pure ?_));dsimp only [if_true];refine wpAny_bind (wpAny_rule ?_);refine wpAny_bind (wpAny_field he₄ rfl (x:=old) rfl ?_);refine wpAny_bind (wpAny_setField_rec he₄ (by simp) fun h₅ he₅ hs₅=>?_)
 replace he₅:IsEnum h₅ e it ((i:Int)+1) x:=he₅
 refine (?_:wpAny _ _ (Builtin.SmallTypes.ownedTupleHandOut (.ref e) (.ref h₃.objs.size) >>= _) _ _ _);refine wpAny_bind ?_;unfold Builtin.SmallTypes.ownedTupleHandOut;refine wpAny_bind (wpAny_setField_rec he₅ (by simp) fun h₆ he₆ hs₆=>?_)
 replace he₆:IsEnumOut h₆ e it ((i:Int)+1) x h₃.objs.size:=he₆
 refine wpAny_setField_rec he₆ (by simp) fun h₇ he₇ hs₇=>?_
 replace he₇:IsEnumOut h₇ e it ((i:Int)+1) x h₃.objs.size:=he₇
 have up:∀c o,c≠e→h₃.get? c=some o→h₇.get? c=some o:=fun c o c1 q=>(hs₇.2 _ c1).trans ((hs₆.2 _ c1).trans ((hs₅.2 _ c1).trans (Heap.get?_push_of_some _ q)));have hT₇:IsTup h₇ h₃.objs.size #[.int i s.toks,x]:=(hs₇.2 _ hne).trans ((hs₆.2 _ hne).trans ((hs₅.2 _ hne).trans (Heap.get?_push_size _ rfl)));rw [hsz]at he₇ hT₇;refine wpAny_bind (wpAny_letGo (wpAny_pure ⟨_,rfl,?_⟩));show wpAny _ _ (pure (some (Value.ref h₃.objs.size))) _ _ _;refine eqR (hsz) ?_;refine wpAny_pure (hQ h₇ s.toks ⟨⟨x,by simpa using he₇⟩,((hit₁.but hs₂ (Ne.symm ne)).but hs₃ (Ne.symm ne):SI z h₃ it (i+1) xs).at (ZLe.refl z) fun o q=>up _ o (Ne.symm ne) q,ne,ze,zi⟩ hT₇ fun c o hc q=>?_);simp at hc;exact up c o hc.1 ((fun c o c1 c2 x=>(hs₃.2 _ c1).trans ((hs₂.2 _ c1).trans ((hs₁.2 _ c2).trans x)):∀c o,c≠e→c≠it→s.heap.get? c=some o→h₃.get? c=some o) c o hc.1 hc.2 q)
theorem Ya6 {e:Addr}{xs:List Value}{Q:Option Value→Shared→Prop}(hh:A.handled=none) (S:En z s.heap e it i xs) (hz:ZIn z s.heap) (hx:xs.length≤i)
  (hQ:∀h',(∀c o,c∉[e,it]→s.heap.get? c=some o→h'.get? c=some o)→Q none { s with heap:=h' }):wpAny (model prog w) A (pyNext (.ref e)) Q E s:=by
 obtain ⟨⟨old,he⟩,h1,ne,ze,zi⟩:=S;have hT:s.TypeIs (.ref e) "enumerate":=⟨_,he,rfl⟩
 unfold pyNext;refine wpAny_bind (wpAny_attempt (wpAny_callSpecial?_slot (name:=Str.ofString "__next__") hT F.slot_enumerate_next
  (wpAny_call_entry F.slot_enumerate_next hT F.entry_enumerate_next ?_ (F.args_enumerate_next_1 _))))
 refine (?_:wpAny _ _ (field (.ref e) 2 >>= _) _ _ _);refine wpAny_bind (wpAny_field he rfl (x:=.ref it) rfl ?_);refine wpAny_bind (SI.end hh h1 hz hx fun h' x he' hx'=>?_);obtain ⟨o,ho,hc⟩:=hx';refine wpAny_bind (wpAny_isInstance (T:="StopIteration") (b:=true) ⟨o,ho,hc⟩ isSubtype_stop ?_);refine wpAny_pure (hQ _ fun c o hc q=>?_);simp at hc;exact he' _ _ hc.2 q
theorem Yev {e:Addr}{xs:List Value}{x1}{Q:Unit→Shared→Prop}(S:EnO z s.heap e it i xs T)
  (hQ:∀h',En z h' e it i xs→Heap.SameBut e s.heap h'→Q () { s with heap:=h' }) :
  wpAny (model prog w) A (letOwnedTupleGo (.Tuple elts x1 pos) (.ref e) (.ref T)) Q E s:=by
 obtain ⟨⟨x,he⟩,h1,ne,ze,zi⟩:=S;exact wpAny_letOwnedTupleGo_enum he fun h' he' hs'=>hQ h' ⟨⟨x,by simpa using he'⟩,h1.but hs' (Ne.symm ne),ne,ze,zi⟩ hs'
set_option maxHeartbeats 1000000 in
theorem Qh9 {M:Model}{f:List (Code×Pos)→Bool}{Q:Bool→Shared→Prop}(h:∀b,Q b s):wpAny M A stack (fun st s'=>wpAny M A (pure (f st)) Q E s') E s:=wpAny_stack_any fun Y=>wpAny_pure (h _)
theorem Qnm (t:Bool) (l:Addr) (xs:List Value) (n:Nat) :
  Meets (Builtin.«enumerate.__new__» ⟨[.type "enumerate",.ref l],[]⟩) (fun Y R s=>s.heap.get? l=some (sqO t xs n) ∧
   R (.ok (.ret (.ref (s.heap.push (Yn t l)).objs.size)))
    {s with heap:=(s.heap.push (Yn t l)).push { cls:=.type "enumerate",data:=.fields #[.none,.bool false,.ref s.heap.objs.size,rawInt 0,.none,.none] } }):=
 .of_wp fun prog w A R s h=>by
  obtain ⟨hp,g,d,tk,os⟩:=s;obtain ⟨hl,h⟩:=h;have hsub:=sub_enumerate;have hL:(Shared.heap ⟨hp,g,d,tk,os⟩).get? l=some (sqO t xs n):=hl
  wp_walk using AutoSeq1.wpAny_loadPart' hl
  refine Qh9 fun b=>?_;cases b <;>
   ·wp_walk using AutoSeq1.wpAny_loadPart' hl,V2 hL
    exact ⟨_,rfl,h⟩
end
noncomputable def Qv5:List (String×Value):=[("len",.builtin "len"),("tuple",.type "tuple"),("list",.type "list"),("sorted",.builtin "sorted"),("dict",.type "dict"),("isinstance",.builtin "isinstance"),("int",.type "int"),("range",.type "range"),("zip",.type "zip"),("enumerate",.type "enumerate")]
noncomputable def Qr5 (x:String):Option Value:=(Qv5.find? fun p=>decide (p.1=x)).map (·.2)
noncomputable def Yfh:Value→Bool
 |.builtin _=>true
 |.type _=>true
 |_=>false
structure Wd (hB:Heap) (Γ:Gm) (mg mb:Str→Option Value):Prop where
 g:hB.Ns mainGlobals mg
 b:hB.Ns builtinsNs mb
 lim:hB.NoLimit
 low:Ydt hB
 bu:∀x v,Qr5 x=some v→mg (Str.ofString x)=none∧mb (Str.ofString x)=some v
noncomputable def Cur (h:Heap) (env:Env) (m:Str→Option Value) (x:Str) (v:Value):Prop:=
 (env.kindOf x=some .local∧m x=some v)∨((env.kindOf x=some .cell∨(env.kindOf x=some .free∧(x==("__classdict__":Str))=false))∧∃c,env.cells.lookup x=some c∧h.IsCell c (some v))
noncomputable def Wr (K:Addr→Prop) (z:Z) (h:Heap) (env:Env) (x:Str):Prop:=
 env.kindOf x=some .local∨(env.kindOf x=some .cell∧X2 fun c v₀=>A4 (env.cells.lookup x=some c) (h.IsCell c v₀) (z c=none) (¬K c))
noncomputable def Y7 (ρ:Q8) (i:Nat):Prop:=(∃xs,ρ[i]?=some (some (.own xs)))∨∃es,ρ[i]?=some (some (.ownD es))
section
variable (P:Program) (w:World) (Γ:Gm) (K:Addr→Prop)
noncomputable def Yhs (z:Z) (h:Heap) (a:Addr) (xs:List D):Prop:=X2 fun vs n=>A3 (h.get? a=some (Vs vs n)) (Rds P w Γ z vs xs) (Γ.free a)
noncomputable def Qip (z:Z) (h:Heap) (env:Env):B→Value→Prop
 |.val d,v=>Rd P w Γ z v d
 |.cap d,v=>Rd P w Γ z v d
 |.own xs,v=>∃a,A4 (v=.ref a) (Yhs P w Γ z h a xs) (z a=none) (¬K a)
 |.ownD es,v=>∃a,A6 (v=.ref a) (Qfn P w Γ z h a es) (z a=none) (¬K a) (a≠env.locals) ((a==sysModules)=false)
noncomputable def Qrj:B→Bool
 |.cap _=>true
 |_=>false
noncomputable def Qcy (z:Z) (h:Heap) (env:Env) (m:Str→Option Value) (x:Str):Option B→Prop
 |none=>Wr K z h env x
 |some b=>(Qrj b=false→Wr K z h env x)∧∃v,Cur h env m x v∧Qip P w Γ K z h env b v
structure Fro (z:Z) (h:Heap) (env:Env) (nm:List String) (ρ:Q8) (m:Str→Option Value):Prop where
 fn:env.scope.kind=.function
 gl:env.globals=mainGlobals
 bi:env.builtins=builtinsNs
 len:ρ.length=nm.length
 nd:(nm.map Str.ofString).Nodup
 ns:h.Ns env.locals m
 zl:z env.locals=none
 kl:¬K env.locals
 slot:∀(i:Nat) (x:String) b,nm[i]?=some x→ρ[i]?=some b→Qcy P w Γ K z h env m (Str.ofString x) b
 inj:∀(i j:Nat) (x y:String) (a:Addr),nm[i]?=some x→nm[j]?=some y→Y7 ρ i→Y7 ρ j→Cur h env m (Str.ofString x) (.ref a)→Cur h env m (Str.ofString y) (.ref a)→i=j
 cinj:∀(x y:Str) (c:Addr),env.cells.lookup x=some c→env.cells.lookup y=some c→x=y
end
structure SStep (Γ:Gm) (K:Addr→Prop) (z:Z) (s:Shared) (z':Z) (s':Shared):Prop where
 eq:X2 fun h t=>s'={ s with heap:=h,toks:=t }
 keep:∀a o,K a→Γ.free a→s.heap.get? a=some o→s'.heap.get? a=some o
 le:ZLe z z'
 fresh:∀a,K a→Γ.free a→z' a=z a
noncomputable def Kp (K:Addr→Prop) (h:Heap):Prop:=∀a,K a→∃o,h.get? a=some o
theorem SStep.refl (Γ:Gm) (K) (z:Z) (s:Shared):SStep Γ K z s z s:=⟨⟨s.heap,s.toks,rfl⟩,fun Y Y Y Y e=>e,ZLe.refl z,fun Y Y Y=>rfl⟩
theorem SStep.trans {Γ:Gm}{K}{z z' z'':Z}{s s' s'':Shared}(x:SStep Γ K z s z' s') (y:SStep Γ K z' s' z'' s''):SStep Γ K z s z'' s'' where
 eq:=by obtain ⟨h,t,rfl⟩:=x.eq;obtain ⟨h',t',rfl⟩:=y.eq;exact ⟨h',t',rfl⟩
 keep:=fun a o k f e=>y.keep a o k f (x.keep a o k f e)
 le:=x.le.trans y.le
 fresh:=fun a k f=>(y.fresh a k f).trans (x.fresh a k f)
theorem Step.ss {K}(x:Step Γ z s z' s') (k:Kp K s.heap):SStep Γ K z s z' s' where
 eq:=x.eq
 keep:=fun a o Y f e=>x.keep a o f e
 le:=x.le
 fresh:=fun a ka f=>let ⟨o,e⟩:=k a ka;x.fresh a o f e
theorem SStep.step (x:SStep Γ (fun a=>∃o,s.heap.get? a=some o) z s z' s'):Step Γ z s z' s' where
 eq:=x.eq
 keep:=fun a o f e=>x.keep a o ⟨o,e⟩ f e
 le:=x.le
 fresh:=fun a o f e=>x.fresh a ⟨o,e⟩ f
theorem SStep.sub {K:Addr→Prop}(x:SStep Γ K' z s z' s') (h:∀a,K a→K' a):SStep Γ K z s z' s':=
 ⟨x.eq,fun a o k=>x.keep a o (h a k),x.le,fun a k=>x.fresh a (h a k)⟩
section
variable {K:Addr→Prop}
theorem Kp.ss (k:Kp K s.heap) (b':Base P w hB Γ z' g' s') (x:SStep Γ K z s z' s'):Kp K s'.heap:=fun a ka=>by
 obtain ⟨o,e⟩:=k a ka;by_cases hf:Γ.free a
 ·exact ⟨o,x.keep a o ka hf e⟩
 ·unfold Gm.free at hf;by_cases h1:Γ.has=true∧a=Γ.pA
  ·obtain ⟨t,u,n,q⟩:=b'.pen h1.1;exact ⟨_,by rw [h1.2];exact q⟩
  ·have h1':Γ.has=true→a≠Γ.pA:=fun x y=>h1 ⟨x,y⟩;by_cases h2:Γ.two=true
   ·have h3:a=Γ.fA:=Classical.byContradiction fun q=>hf ⟨h1',fun Y=>q⟩;obtain ⟨vs,n,q,_⟩:=b'.flds h2;exact ⟨_,by rw [h3];exact q⟩
   ·exact absurd ⟨h1',fun q=>absurd q h2⟩ hf
theorem Base.but (b:Base P w hB Γ z g s) {c:Addr}{h':Heap}{t:Nat}(hs:Heap.SameBut c s.heap h') (zc:z c=none) (fc:Γ.free c):Base P w hB Γ z g { s with heap:=h',toks:=t } where
 zin:=b.zin.but hs zc
 zB:=b.zB
 pen:=fun h=>let ⟨t,u,n,e⟩:=b.pen h;⟨t,u,n,(hs.2 _ (Ne.symm (fc.1 h))).trans e⟩
 zpen:=b.zpen
 flds:=fun h=>let ⟨vs,n,e,r⟩:=b.flds h;⟨vs,n,(hs.2 _ (Ne.symm (fc.2 h))).trans e,r⟩
 zflds:=b.zflds
theorem SStep.but {c:Addr}{t:Nat}(hs:Heap.SameBut c s.heap h') (hc:¬K c):SStep Γ K z s z { s with heap:=h',toks:=t } where
 eq:=⟨h',t,rfl⟩
 keep:=fun a Y k Y e=>(hs.2 a (fun q=>hc (q▸k))).trans e
 le:=ZLe.refl z
 fresh:=fun Y Y Y=>rfl
theorem Y2 (b:Base P w hB Γ z g s) (h:s.heap.Ns a m):Γ.free a:=by
 obtain ⟨o,es,ep,e,hd,_⟩:=h;exact Y6 b e fun vs n q=>by rw [q]at hd;cases hd
theorem Yp (b:Base P w hB Γ z g s) {v:Option Value}(h:s.heap.IsCell a v):Γ.free a:=by
 obtain ⟨o,e,hd⟩:=h;exact Y6 b e fun vs n q=>by rw [q]at hd;cases hd
theorem Qak (b:Base P w hB Γ z g s) (h:Qfn P w Γ z s.heap a es):Γ.free a:=by
 refine gk fun Ω κ=>?_;obtain ⟨xs,ys,⟨o,e1,e2,g1,g2,g3,g4,g5,g6⟩,_⟩:=h;refine κ ?_;exact Y6 b g1 fun vs n q=>by rw [q]at g3;cases g3
theorem Cur.mv {x:Str}(c:Cur h env m x v) (k:∀a u,h.IsCell a u→∀o,h.get? a=some o→h'.get? a=some o):Cur h' env m x v:=by
 rcases c with c|⟨k1,c,l,o,e,d⟩
 ·exact .inl c
 ·exact .inr ⟨k1,c,l,o,k c _ ⟨o,e,d⟩ o e,d⟩
theorem Cur.uniq {x:Str}{u:Value}(a:Cur h env m x u) (b:Cur h env m x v):u=v:=by
 rcases a with ⟨k,a⟩|⟨k,c,l,o,e,d⟩
 ·rcases b with ⟨_,b⟩|⟨k',_⟩
  ·rw [a]at b;exact Option.some.inj b
  ·rw [k]at k';rcases k' with k'|⟨k',_⟩<;>cases k'
 ·rcases b with ⟨k',b⟩|⟨_,c',l',o',e',d'⟩
  ·rw [k']at k;rcases k with k|⟨k,_⟩<;>cases k
  ·rw [l]at l';obtain rfl:=Option.some.inj l';rw [e]at e';obtain rfl:=Option.some.inj e';rw [d]at d';cases d';rfl
noncomputable def IF (o:Obj):Prop:=X2 fun q vs=>o.cls=.type q∧o.data=.fields vs∨X2 fun xs n=>o.data=.seq xs n∧o.cls=.type "tuple"
theorem Qbb {es ep}(h:o.data=.dict es ep):¬IF o:=fun ⟨q,vs,x⟩=>by
 rcases x with ⟨_,x⟩|⟨xs,n,x,_⟩<;>rw [h]at x<;>cases x
theorem Qba {v}(h:o.data=.cell v):¬IF o:=fun ⟨q,vs,x⟩=>by
 rcases x with ⟨_,x⟩|⟨xs,n,x,_⟩<;>rw [h]at x<;>cases x
theorem Qfd {vs n}:¬IF (Vs vs n):=fun ⟨q,us,x⟩=>by
 rcases x with ⟨_,x⟩|⟨xs,n,_,x⟩
 ·cases x
 ·simp at x
theorem Fro.mv (F:Fro P w Γ K z s.heap env nm ρ m) (b:Base P w hB Γ z g s) {z':Z}{s':Shared}(zin':ZIn z' s'.heap) (hle:ZLe z z') (keep:∀a o,Γ.free a→¬IF o→s.heap.get? a=some o→s'.heap.get? a=some o)
  (fresh:∀a o,Γ.free a→¬IF o→s.heap.get? a=some o→z' a=z a):Fro P w Γ K z' s'.heap env nm ρ m:=by
 refine gk fun Ω κ=>?_;have hc:∀{h:Heap},h=s.heap→∀a u,h.IsCell a u→∀o,h.get? a=some o→s'.heap.get? a=some o:=fun q a u hu o e=>by
  subst q;have hf:=Yp b hu;obtain ⟨o',e',d'⟩:=hu;rw [e]at e';obtain rfl:=Option.some.inj e';exact keep a o hf (Qba d') e
 have fz:∀a,z a=none→Γ.free a→(∃o,¬IF o∧s.heap.get? a=some o)→z' a=none:=fun a h f ⟨o,n,e⟩=>(fresh a o f n e).trans h;have wr:∀x,Wr K z s.heap env x→Wr K z' s'.heap env x:=fun x h=>by
  rcases h with h|⟨k,c,v,l,hc',zc,kc⟩
  ·exact .inl h
  ·have ff:=Yp b hc';obtain ⟨o,e,d⟩:=hc';exact .inr ⟨k,c,v,l,⟨o,keep c o ff (Qba d) e,d⟩,fz c zc ff ⟨o,Qba d,e⟩,kc⟩
 have lf:=Y2 b F.ns;obtain ⟨lo,le,lp,l1,l2,lr⟩:=id F.ns;refine κ ?_;refine ⟨F.fn,F.gl,F.bi,F.len,F.nd,⟨lo,le,lp,keep _ _ lf (Qbb l2) l1,l2,lr⟩,fz _ F.zl lf ⟨lo,Qbb l2,l1⟩,F.kl,fun i x bb hi hb=>?_,fun i j x y a hi hj oi oj ci cj=>?_,F.cinj⟩
 ·have S:=F.slot i x bb hi hb;cases bb with
  |none=>exact wr _ S
  |some bb=>
   obtain ⟨S1,v,S2,S3⟩:=S;refine ⟨fun q=>wr _ (S1 q),v,S2.mv (hc rfl),?_⟩;cases bb with
   |val d=>exact Rd.le hle S3
   |cap d=>exact Rd.le hle S3
   |own xs=>
    obtain ⟨a,e,⟨vs,n,h1,h2,h3⟩,h4,h5⟩:=S3;exact ⟨a,e,⟨vs,n,keep _ _ h3 Qfd h1,h2.le hle,h3⟩,fz a h4 h3 ⟨_,Qfd,h1⟩,h5⟩
   |ownD es=>
    obtain ⟨a,e,h1,h4,h5,h6,h7⟩:=S3;have ff:=Qak b h1;have hx:∃o,¬IF o∧s.heap.get? a=some o:=by obtain ⟨xs,ys,⟨o,e1,e2,g1,g2,g3,_⟩,_⟩:=h1;exact ⟨o,Qbb g3,g1⟩
    obtain ⟨o',n',e'⟩:=id hx;exact ⟨a,e,(h1.le hle).at zin' fun o q=>by rw [e']at q;cases q;exact keep a _ ff n' e',fz a h4 ff hx,h5,h6,h7⟩
 ·have hb:∀{x:Str} {v:Value},Cur s'.heap env m x v→∀{u},Cur s.heap env m x u→Cur s.heap env m x v:=fun c' u c=>by
   have:=(c.mv (hc rfl)).uniq c';subst this;exact c
  have own_cur:∀{i x},nm[i]?=some x→Y7 ρ i→∃u,Cur s.heap env m (Str.ofString x) u:=fun hi oi=>by
   rcases oi with ⟨xs,q⟩|⟨es,q⟩
   ·obtain ⟨_,v,c,_⟩:=F.slot _ _ _ hi q;exact ⟨v,c⟩
   ·obtain ⟨_,v,c,_⟩:=F.slot _ _ _ hi q;exact ⟨v,c⟩
  obtain ⟨u,cu⟩:=own_cur hi oi;obtain ⟨u',cu'⟩:=own_cur hj oj;exact F.inj i j x y a hi hj oi oj (hb ci cu) (hb cj cu')
theorem Fro.step (F:Fro P w Γ K z s.heap env nm ρ m) (b:Base P w hB Γ z g s) (b':Base P w hB Γ z' g' s') (st:Step Γ z s z' s'):Fro P w Γ K z' s'.heap env nm ρ m:=
 F.mv b b'.zin st.le (fun a o f Y e=>st.keep a o f e) fun a o f Y e=>st.fresh a o f e
theorem Fro.curHeld (F:Fro P w Γ K z s.heap env nm ρ m) {b:B}(hi:nm[i]?=some x) (hb:ρ[i]?=some (some b)):∃v,Cur s.heap env m (Str.ofString x) v∧Qip P w Γ K z s.heap env b v:=
 (F.slot i x _ hi hb).2
theorem Qca {M:Model}{x:Str}(hk:env.scope.kind=.function) (ns:s.heap.Ns env.locals m) (c:Cur s.heap env m x v) (h:Q v s):wpAny M A (loadName env x) Q E s:=by
 rcases c with ⟨k,c⟩|⟨k|⟨k,k'⟩,c,l,hc⟩
 ·exact wpAny_loadName_local hk k ns c h
 ·exact wpAny_loadName_cell hk k l hc h
 ·exact wpAny_loadName_free hk k l hc h k'
end
theorem Qij {α:Type}:∀{l:List α},l.Nodup→∀{i j:Nat}{x:α},l[i]?=some x→l[j]?=some x→i=j
 |[],_,i,j,x,h,_=>by simp at h
 |a::r,hn,0,0,x,_,_=>rfl
 |a::r,hn,0,j+1,x,h1,h2=>by
  simp at h1 h2;subst h1;exact absurd (List.mem_of_getElem? h2) (List.nodup_cons.mp hn).1
 |a::r,hn,i+1,0,x,h1,h2=>by
  simp at h1 h2;subst h2;exact absurd (List.mem_of_getElem? h1) (List.nodup_cons.mp hn).1
 |a::r,hn,i+1,j+1,x,h1,h2=>by
  simp at h1 h2;refine eqR (Qij (List.nodup_cons.mp hn).2 h1 h2) ?_;rfl
noncomputable def Yv:B→Bool
 |.own _=>true
 |.ownD _=>true
 |_=>false
section
variable {K:Addr→Prop}
theorem Qlp (F:Fro P w Γ K z s.heap env nm ρ m) {y:String}(hi:nm[i]?=some x) (hj:nm[j]?=some y) (e:Str.ofString x=Str.ofString y):i=j:=by
 exact Qij F.nd (by rw [List.getElem?_map,hi];rfl:(nm.map Str.ofString)[i]?=some (Str.ofString x)) (by rw [List.getElem?_map,hj,e];rfl:(nm.map Str.ofString)[j]?=some (Str.ofString x))
theorem Qcy.but {c:Addr}{y:Str}{b:Option B}(S:Qcy P w Γ K z s.heap env m y b) (hs:Heap.SameBut c s.heap h') (zin':ZIn z h')
  (hm:env.kindOf y=some .local→m' y=m y) (hc:∀c' u,env.kindOf y≠some .local→env.cells.lookup y=some c'→s.heap.IsCell c' u→c'≠c) (ho:∀a,(∃b',b=some b'∧Yv b'=true)→Cur s.heap env m y (.ref a)→a≠c) :
  Qcy P w Γ K z h' env m' y b:=by
 have wr:Wr K z s.heap env y→Wr K z h' env y:=fun h=>by
  rcases h with h|⟨k,c',v,l,hcc,zc,kc⟩
  ·exact .inl h
  ·have:=hc c' _ (by rw [k];simp) l hcc;obtain ⟨o,e,d⟩:=hcc;exact .inr ⟨k,c',v,l,⟨o,(hs.2 _ this).trans e,d⟩,zc,kc⟩
 have cur:∀{v},Cur s.heap env m y v→Cur h' env m' y v:=fun h=>by
  rcases h with ⟨k,h⟩|⟨k,c',l,hcc⟩
  ·exact .inl ⟨k,(hm k).trans h⟩
  ·have:=hc c' _ (by rcases k with k|⟨k,_⟩<;>rw [k]<;>simp) l hcc;obtain ⟨o,e,d⟩:=hcc;exact .inr ⟨k,c',l,o,(hs.2 _ this).trans e,d⟩
 cases b with
 |none=>exact wr S
 |some b=>
  obtain ⟨S1,v,S2,S3⟩:=S;refine ⟨fun q=>wr (S1 q),v,cur S2,?_⟩;cases b with
  |val d=>exact S3
  |cap d=>exact S3
  |own xs=>
   obtain ⟨a,e,⟨vs,n,h1,h2,h3⟩,h4,h5⟩:=S3;have:=ho a ⟨_,rfl,rfl⟩ (e▸S2);exact ⟨a,e,⟨vs,n,(hs.2 _ this).trans h1,h2,h3⟩,h4,h5⟩
  |ownD es=>
   obtain ⟨a,e,h1,h4,h5,h6,h7⟩:=S3;have:=ho a ⟨_,rfl,rfl⟩ (e▸S2);exact ⟨a,e,h1.at zin' fun o q=>(hs.2 _ this).trans q,h4,h5,h6,h7⟩
theorem Qbf {b:Option B}(h:ρ[i]?=some b):Y7 ρ i↔∃b',b=some b'∧Yv b'=true:=by
 constructor
 ·rintro (⟨xs,q⟩|⟨es,q⟩)<;>rw [h]at q<;>cases q<;>exact ⟨_,rfl,rfl⟩
 ·rintro ⟨b',rfl,hb⟩;cases b'<;>first|cases hb|skip
  ·exact .inl ⟨_,h⟩
  ·exact .inr ⟨_,h⟩
theorem Yu {b:Option B}(hj:Y7 (ρ.set i b) j) (hne:j≠i):Y7 ρ j:=by
 unfold Y7 at hj ⊢
 rwa [List.getElem?_set_ne (Ne.symm hne)]at hj
theorem Qss (F:Fro P w Γ K z s.heap env nm ρ m) (hi:nm[i]?=some x) (hw:Qa7 ρ i=true):Wr K z s.heap env (Str.ofString x):=by
 unfold Qa7 at hw;cases hb2:ρ[i]? with
 |none=>rw [hb2]at hw;cases hw
 |some b=>
  rw [hb2]at hw;have:=F.slot i x b hi hb2;cases b with
  |none=>exact this
  |some b=>
   refine this.1 ?_;cases b<;>first|rfl|cases hw
theorem Fro.upd {c:Addr}(F:Fro P w Γ K z s.heap env nm ρ m) (hs:Heap.SameBut c s.heap h') (zin':ZIn z h') (ns':h'.Ns env.locals m') (hi:nm[i]?=some x)
  (hm:∀j y,j≠i→nm[j]?=some y→m' (Str.ofString y)=m (Str.ofString y))
  (hc:∀j y c' u,j≠i→nm[j]?=some y→env.kindOf (Str.ofString y)≠some .local→env.cells.lookup (Str.ofString y)=some c'→s.heap.IsCell c' u→c'≠c)
  (ho:∀j y a,j≠i→nm[j]?=some y→Y7 ρ j→Cur s.heap env m (Str.ofString y) (.ref a)→a≠c)
  (hw:Wr K z h' env (Str.ofString x)) (hcur:Cur h' env m' (Str.ofString x) v) (hheld:Qip P w Γ K z h' env b' v)
  (hap:∀a j y,Yv b'=true→v=.ref a→nm[j]?=some y→j≠i→Y7 ρ j→¬Cur s.heap env m (Str.ofString y) (.ref a)):Fro P w Γ K z h' env nm (ρ.set i (some b')) m':=by
 have hset:(ρ.set i (some b'))[i]?=some (some b'):=by rw [List.getElem?_set_self (by rw [F.len];exact (List.getElem?_eq_some_iff.mp hi).1:i<ρ.length)]
 have ot:∀{j y bb},j≠i→nm[j]?=some y→ρ[j]?=some bb→Qcy P w Γ K z h' env m' (Str.ofString y) bb:=fun {j y bb} hij hj hb=>
  (F.slot j y bb hj hb).but hs zin' (fun Y=>hm j y hij hj) (fun c' u hk l hcc=>hc j y c' u hij hj hk l hcc) fun a hob cu=>ho j y a hij hj ((Qbf hb).mpr hob) cu
 have back:∀{j y a},j≠i→nm[j]?=some y→Y7 ρ j→Cur h' env m' (Str.ofString y) (.ref a)→Cur s.heap env m (Str.ofString y) (.ref a):=fun {j y a} hij hj oj cj=>by
  obtain ⟨b,hb⟩:=(by rcases oj with ⟨xs,q⟩|⟨es,q⟩<;>exact ⟨_,q⟩:∃b,ρ[j]?=some (some b))
  obtain ⟨_,u,cu,_⟩:=F.slot j y _ hj hb;have cu':Cur h' env m' (Str.ofString y) u:=by
   rcases cu with ⟨k,h⟩|⟨k,c',l,hcc⟩
   ·exact .inl ⟨k,(hm j y hij hj).trans h⟩
   ·have:=hc j y c' _ hij hj (by rcases k with k|⟨k,_⟩<;>rw [k]<;>decide) l hcc;obtain ⟨o,e,d⟩:=hcc;exact .inr ⟨k,c',l,o,(hs.2 _ this).trans e,d⟩
  have:=cu'.uniq cj;subst this;exact cu
 refine ⟨F.fn,F.gl,F.bi,by rw [List.length_set];exact F.len,F.nd,ns',F.zl,F.kl,fun j y bb hj hb=>?_,fun j j' y y' a hj hj' oj oj' cj cj'=>?_,F.cinj⟩
 ·by_cases hij:j=i
  ·subst hij;rw [hset]at hb;obtain rfl:=Option.some.inj hb;rw [hi]at hj;obtain rfl:=Option.some.inj hj;exact ⟨fun Y=>hw,v,hcur,hheld⟩
  ·rw [List.getElem?_set_ne (Ne.symm hij)]at hb;exact ot hij hj hb
 ·by_cases hij:j=i
  ·by_cases hij':j'=i
   ·refine eqR (hij) ?_;refine eqR (hij') ?_;rfl
   ·subst hij;rw [hi]at hj;cases hj;have hb:=((Qbf hset).mp oj)
    obtain ⟨b2,e,hb⟩:=hb;cases e;have e:=hcur.uniq cj;exact absurd (back hij' hj' (Yu oj' hij') cj') (hap a j' y' hb e hj' hij' (Yu oj' hij'))
  ·by_cases hij':j'=i
   ·subst hij';rw [hi]at hj';cases hj';have hb:=((Qbf hset).mp oj')
    obtain ⟨b2,e,hb⟩:=hb;cases e;have e:=hcur.uniq cj';exact absurd (back hij hj (Yu oj hij) cj) (hap a j y hb e hj hij (Yu oj hij))
   ·exact F.inj j j' y y' a hj hj' (Yu oj hij) (Yu oj' hij') (back hij hj (Yu oj hij) cj) (back hij' hj' (Yu oj' hij') cj')
theorem Qdy (F:Fro P w Γ K z s.heap env nm ρ m) {y:String}(hj:nm[j]?=some y) (oj:Y7 ρ j) (cu:Cur s.heap env m (Str.ofString y) (.ref a)) :
  z a=none∧¬K a∧a≠env.locals∧∀u,¬s.heap.IsCell a u:=by
 rcases oj with ⟨xs,q⟩|⟨es,q⟩
 ·refine gk fun Ω κ=>?_;obtain ⟨_,v,c2,S⟩:=F.slot j y _ hj q;obtain ⟨a',e,⟨vs,n,h1,h2,h3⟩,h4,h5⟩:=S;have:=cu.uniq c2;rw [e]at this;cases this;obtain ⟨lo,le,lp,l1,l2,l3⟩:=id F.ns;refine κ ?_;refine ⟨h4,h5,fun q=>?_,fun u ⟨o,e,d⟩=>?_⟩
  ·rw [q,l1]at h1;cases h1;cases l2
  ·rw [h1]at e;cases e;cases d
 ·refine gk fun Ω κ=>?_;obtain ⟨_,v,c2,S⟩:=F.slot j y _ hj q;obtain ⟨a',e,h1,h4,h5,h6,h7⟩:=S;have:=cu.uniq c2;rw [e]at this;cases this;refine κ ?_;refine ⟨h4,h5,h6,fun u ⟨o,e,d⟩=>?_⟩;obtain ⟨xs,ys,⟨o',e1,e2,g1,g2,g3,_⟩,_⟩:=h1;rw [g1]at e;cases e;rw [d]at g3;cases g3
theorem Fro.storeC {Q:Unit→Shared→Prop}(F:Fro P w Γ K z s.heap env nm ρ m) (b:Base P w hB Γ z g s) (hi:nm[i]?=some x) (hw:Qa7 ρ i=true)
  (hnew:Qip P w Γ K z s.heap env b' v) (hap:∀a j y,Yv b'=true→v=.ref a→nm[j]?=some y→j≠i→Y7 ρ j→¬Cur s.heap env m (Str.ofString y) (.ref a))
  (hQ:∀h' t m',Base P w hB Γ z g { s with heap:=h',toks:=t }→SStep Γ K z s z { s with heap:=h',toks:=t }→Fro P w Γ K z h' env nm (ρ.set i (some b')) m' →
   (∀c o,s.heap.get? c=some o→c≠env.locals→(∀u,¬s.heap.IsCell c u)→h'.get? c=some o)→Cur h' env m' (Str.ofString x) v→(∀k u v',nm[k]?=some u→k≠i→Cur s.heap env m (Str.ofString u) v'→Cur h' env m' (Str.ofString u) v')→Q () { s with heap:=h',toks:=t }) :
  wpAny (model P w) A (storeName env (Str.ofString x) v) Q E s:=by
 refine gk fun Ω κ=>?_;obtain ⟨lo,le,lp,l1,l2,l3⟩:=id F.ns;refine κ ?_;rcases Qss F hi hw with k|⟨k,c,v₀,l,hc,zc,kc⟩
 ·refine wpAny_storeName_local k F.ns (fun h' hn hs=>?_) (by simp [F.fn]);have zin':ZIn z h':=b.zin.but hs F.zl;refine hQ h' _ _ (b.but hs F.zl (Y2 b F.ns)) (.but hs F.kl) (F.upd (v:=v) hs zin' hn hi (fun j y hij hj=>if_neg fun q=>hij (Qlp F hj hi q)) (fun j y c' u Y Y Y Y hcc q=>?_) (fun j y a Y hj oj cu=>(Qdy F hj oj cu).2.2.1) (.inl k) (.inl ⟨k,if_pos rfl⟩) ?_ hap) (fun c o e hne Y=>(hs.2 _ hne).trans e) (.inl ⟨k,if_pos rfl⟩) fun k2 u v' hk hki cu=>by
   rcases cu with ⟨k3,cu⟩|⟨k3,c,l,hcc⟩
   ·exact .inl ⟨k3,(if_neg fun q=>hki (Qlp F hk hi q)).trans cu⟩
   ·refine .inr ⟨k3,c,l,hcc.imp fun o ho=>⟨(hs.2 _ fun q=>?_).trans ho.1,ho.2⟩⟩;obtain ⟨e,d⟩:=ho;rw [q,l1]at e;cases e;rw [l2]at d;cases d
  ·obtain ⟨o,e,d⟩:=hcc;rw [q,l1]at e;cases e;rw [l2]at d;cases d
  ·cases b' with
   |val d=>exact hnew
   |cap d=>exact hnew
   |own xs=>
    obtain ⟨a,e,⟨vs,n,h1,h2,h3⟩,h4,h5⟩:=hnew;have:a≠env.locals:=fun q=>by rw [q,l1]at h1;cases h1;cases l2
    exact ⟨a,e,⟨vs,n,(hs.2 _ this).trans h1,h2,h3⟩,h4,h5⟩
   |ownD es=>
    obtain ⟨a,e,h1,h4,h5,h6,h7⟩:=hnew;exact ⟨a,e,h1.at zin' fun o q=>(hs.2 _ h6).trans q,h4,h5,h6,h7⟩
 ·refine wpAny_storeName_cell F.fn k l hc fun h' hn hs=>?_;have zin':ZIn z h':=b.zin.but hs zc;obtain ⟨co,ce,cd⟩:=id hc;refine hQ h' s.toks _ (b.but hs zc (Yp b hc)) (.but hs kc) (F.upd (v:=v) hs zin' ⟨lo,le,lp,(hs.2 _ (fun q=>by rw [←q,l1]at ce;cases ce;rw [l2]at cd;cases cd)).trans l1,l2,l3⟩ hi (fun Y Y Y Y=>rfl) (fun j y c' u hij hj Y l' Y q=>?_) (fun j y a Y hj oj cu q=>?_) (.inr ⟨k,c,_,l,hn,zc,kc⟩) (.inr ⟨.inl k,c,l,hn⟩) ?_ hap) (fun c' o e Y hne=>(hs.2 _ (fun q=>hne _ (q▸hc))).trans e) (.inr ⟨.inl k,c,l,hn⟩) fun k2 u v' hk hki cu=>by
   rcases cu with cu|⟨k3,c',l',hcc⟩
   ·exact .inl cu
   ·exact .inr ⟨k3,c',l',hcc.imp fun o ho=>⟨(hs.2 _ fun q=>by subst q;exact hki (Qlp F hk hi (F.cinj _ _ _ l' l))).trans ho.1,ho.2⟩⟩
  ·subst q;exact hij (Qlp F hj hi (F.cinj _ _ _ l' l))
  ·subst q;exact (Qdy F hj oj cu).2.2.2 _ hc
  ·cases b' with
   |val d=>exact hnew
   |cap d=>exact hnew
   |own xs=>
    obtain ⟨a,e,⟨vs,n,h1,h2,h3⟩,h4,h5⟩:=hnew;have:a≠c:=fun q=>by rw [q,ce]at h1;cases h1;cases cd
    exact ⟨a,e,⟨vs,n,(hs.2 _ this).trans h1,h2,h3⟩,h4,h5⟩
   |ownD es=>
    obtain ⟨a,e,h1,h4,h5,h6,h7⟩:=hnew;have:a≠c:=fun q=>by
     obtain ⟨xs,ys,⟨o',e1,e2,g1,g2,g3,_⟩,_⟩:=h1;rw [q,ce]at g1;cases g1;rw [cd]at g3;cases g3
    exact ⟨a,e,h1.at zin' fun o q=>(hs.2 _ this).trans q,h4,h5,h6,h7⟩
theorem Fro.store {Q:Unit→Shared→Prop}(F:Fro P w Γ K z s.heap env nm ρ m) (b:Base P w hB Γ z g s) (hi:nm[i]?=some x) (hw:Qa7 ρ i=true)
  (hnew:Qip P w Γ K z s.heap env b' v) (hap:∀a j y,Yv b'=true→v=.ref a→nm[j]?=some y→j≠i→Y7 ρ j→¬Cur s.heap env m (Str.ofString y) (.ref a))
  (hQ:∀h' t m',Base P w hB Γ z g { s with heap:=h',toks:=t }→SStep Γ K z s z { s with heap:=h',toks:=t }→Fro P w Γ K z h' env nm (ρ.set i (some b')) m' →
   (∀c o,s.heap.get? c=some o→c≠env.locals→(∀u,¬s.heap.IsCell c u)→h'.get? c=some o)→Q () { s with heap:=h',toks:=t }) :
  wpAny (model P w) A (storeName env (Str.ofString x) v) Q E s:=
 F.storeC b hi hw hnew hap fun h' t m' b' ss F' k Y Y=>hQ h' t m' b' ss F' k
end
structure StepW (Γ:Gm) (W:List Addr) (z:Z) (s:Shared) (z':Z) (s':Shared):Prop where
 eq:X2 fun h t=>s'={ s with heap:=h,toks:=t }
 keep:∀a o,a∉W→Γ.free a→s.heap.get? a=some o→s'.heap.get? a=some o
 le:ZLe z z'
 fresh:∀a o,Γ.free a→s.heap.get? a=some o→z' a=z a
structure Turns (P:Program) (w:World) (hB:Heap) (Γ:Gm) (A:Around) (tgt:Expr) (it:Value) (W:List Addr) (ds:List D) (St:Nat→Z→Heap→Prop):Prop where
 frame:∀{i z z' h h'},St i z h→ZLe z z'→ZIn z' h'→(∀a∈W,z' a=z a)→(∀a∈W,∀o,h.get? a=some o→h'.get? a=some o)→St i z' h'
 has:∀{i z h},St i z h→∀a∈W,z a=none∧Γ.free a∧∃o,h.get? a=some o∧IF o
 item:∀{i z g s d} {Q:Value→Shared→Prop} {E:Value→Shared→Prop},St i z s.heap→Base P w hB Γ z g s→ds[i]?=some d →
  (∀v z' s',Base P w hB Γ z' g s'→StepW Γ W z s z' s'→St (i+1) z' s'.heap→Rd P w Γ z' v d→Q v s') →
  wpAny (model P w) A (pyNext it) (fun r s₁=>∃v,r=some v∧wpAny (model P w) A (letOwnedTupleGo tgt it v) (fun Y s₂=>Q v s₂) E s₁) E s
 done:∀{z g s} {Q:Option Value→Shared→Prop} {E:Value→Shared→Prop},St ds.length z s.heap→Base P w hB Γ z g s→(∀s',Base P w hB Γ z g s'→StepW Γ W z s z s'→Q none s')→wpAny (model P w) A (pyNext it) Q E s
 self:∀{i z s} {Q:Value→Shared→Prop} {E:Value→Shared→Prop},St i z s.heap→Q it s→wpAny (model P w) A (pyIter it) Q E s
section
theorem Base.mut (b:Base P w hB Γ z g s) {t:Nat}(k:∀a o,a∉W→s.heap.get? a=some o→h'.get? a=some o) (hz:∀a∈W,z a=none) (hf:∀a∈W,Γ.free a) :
  Base P w hB Γ z g { s with heap:=h',toks:=t } where
 zin:=fun a o e=>k a o (fun q=>by rw [hz a q]at e;exact nomatch e) (b.zin a o e)
 zB:=b.zB
 pen:=fun h=>let ⟨t,u,n,e⟩:=b.pen h;⟨t,u,n,k _ _ (fun q=>(hf _ q).1 h rfl) e⟩
 zpen:=b.zpen
 flds:=fun h=>let ⟨vs,n,e,r⟩:=b.flds h;⟨vs,n,k _ _ (fun q=>(hf _ q).2 h rfl) e,r⟩
 zflds:=b.zflds
theorem StepW.mut {t:Nat}(k:∀a o,a∉W→s.heap.get? a=some o→h'.get? a=some o):StepW Γ W z s z { s with heap:=h',toks:=t }:=
 ⟨⟨h',t,rfl⟩,fun a o ha Y e=>k a o ha e,ZLe.refl z,fun Y Y Y Y=>rfl⟩
theorem Yhm (b:Base P w hB Γ z g s) {t:Nat}(k:∀a o,a∉W→s.heap.get? a=some o→h'.get? a=some o) (hz:∀a∈W,z a=none) (hf:∀a∈W,Γ.free a)
  (hT:h'.get? T=some o) (hn:s.heap.get? T=none):Base P w hB Γ (z.add T o) g { s with heap:=h',toks:=t }∧StepW Γ W z s (z.add T o) { s with heap:=h',toks:=t }:=by
 have zT:z T=none:=Ql b.zin hn;refine ⟨(b.mut k hz hf).freeze hT zT (Vc b hn),⟨h',t,rfl⟩,fun a o ha Y e=>k a o ha e,Z.le_add zT,fun a o Y e=>?_⟩;unfold Z.add;rw [if_neg (fun q=>by rw [q,hn]at e;exact nomatch e)]
theorem SI.has (S:SI z h it i vs):∃o,h.get? it=some o∧(X2 fun q vs=>o.cls=.type q∧o.data=.fields vs∨X2 fun xs n=>o.data=.seq xs n∧o.cls=.type "tuple"):=by
 obtain ⟨l,n,⟨a,o,e,c,d⟩|⟨a,o,e,c,d⟩⟩:=S<;>exact ⟨o,e,_,_,.inl ⟨c,d⟩⟩
theorem Qxj {M:Sem Unit→Prop}(h1:M (pure ())) (h2:∀a,M (do
   let o ←load it
   match o.cls,o.data with
   |.type n,.fields vs=>
    if ["enumerate","zip","dict_itemiterator","dict_reverseitemiterator","odict_iterator","itertools.zip_longest","itertools.pairwise"].contains n&&vs[0]?==some (rawInt a) then
     rule "for.unpacks-the-owned-tuple"
     updateField it 0 .none
   |_,_=>pure ())):M (letOwnedTupleGo tgt (.ref it) v):=by
 delta letOwnedTupleGo
 cases tgt<;>first|exact h1|(cases v<;>first|exact h1|exact h2 _)
theorem Qxc {i:Int}{t:Tok}:letOwnedTupleGo tgt (.ref it) (.int i t)=pure ():=by cases tgt<;>rfl
theorem SI.letgo {Q:Unit→Shared→Prop}(S:SI z s.heap it i vs) (h:Q () s):wpAny (model P w) A (letOwnedTupleGo tgt (.ref it) v) Q E s:=by
 have key:∀a,wpAny (model P w) A (do
   let o ←load it
   match o.cls,o.data with
   |.type n,.fields vs=>
    if ["enumerate","zip","dict_itemiterator","dict_reverseitemiterator","odict_iterator","itertools.zip_longest","itertools.pairwise"].contains n&&vs[0]?==some (rawInt a) then
     rule "for.unpacks-the-owned-tuple"
     updateField it 0 .none
   |_,_=>pure ()) Q E s:=fun a=>by
  obtain ⟨l,n,⟨_,o,e,c,d⟩|⟨_,o,e,c,d⟩⟩:=S
  all_goals
   refine wpAny_bind (wpAny_load e ?_);obtain ⟨oc,od,odt,osl⟩:=o;simp only at c d;subst c d;exact wpAny_pure h
 exact Qxj (M:=fun c=>wpAny (model P w) A c Q E s) (wpAny_pure h) key
theorem fa {p:α→Prop}{a:α}{l:List α}(h:p a) (t:∀c∈l,p c):∀c∈a::l,p c:=List.forall_mem_cons.mpr ⟨h,t⟩
theorem f0 {p:α→Prop}:∀c∈([]:List α),p c:=fun Y h=>(List.not_mem_nil h).elim
theorem ni {a b:α}{l:List α}(h:a≠b) (t:a∉l):a∉b::l:=List.not_mem_cons_of_ne_of_not_mem h t
@[elab_as_elim] theorem fal {l:List α} {c:α} {M:α→Prop} (hc:c∈l) (h:∀c∈l,M c):M c:=h c hc
theorem Yg4 {x y c:α}{l:List α}(h:c∈x::l):c∈x::y::l:=(((List.Sublist.refl l).cons y).cons₂ x).subset h
theorem mI {l:List α}{a:α}(i:Nat) (e:l[i]?=some a):a∈l:=List.mem_of_getElem? e
theorem Turns.seq (hh:A.handled=none) (tgt:Expr) (it:Addr) (vs:List Value) (ds:List D):Turns P w hB Γ A tgt (.ref it) [it] ds (fun i z h=>SI z h it i vs∧Rds P w Γ z vs ds∧z it=none∧Γ.free it) where
 frame:=fun S hz Y hw k=>⟨S.1.at hz (k it (by simp)),S.2.1.le hz,(hw it (by simp)).trans S.2.2.1,S.2.2.2⟩
 has:=fun S a ha=>by
  simp at ha;subst ha;exact ⟨S.2.2.1,S.2.2.2,S.1.has⟩
 item:=fun {i z g s d Q E} S b hd hQ=>by
  obtain ⟨S,r,zi,fi⟩:=S;obtain ⟨v,hv,rv⟩:=r.get hd;refine SI.pnext S b.zin hv fun h' S' hs=>⟨v,rfl,SI.letgo (s:={ s with heap:=h' }) S' ?_⟩
  exact hQ v z _ (b.but hs zi fi) (.mut fun a o ha e=>(hs.2 a (fun q=>ha (q▸.head _))).trans e) ⟨S',r,zi,fi⟩ rv
 done:=fun {z g s Q E} S b hQ=>by
  obtain ⟨S,r,zi,fi⟩:=S;refine SI.pend hh S b.zin (by rw [r.length];exact Nat.le_refl _) fun h' hs=>?_;have k:∀a o,a∉[it]→s.heap.get? a=some o→h'.get? a=some o:=fun a o ha e=>hs a o (fun q=>ha (q▸.head _)) e;exact hQ _ (b.mut k (fa zi f0) (fa fi f0)) (.mut k)
 self:=fun S hQ=>by
  obtain ⟨⟨l,n,⟨_,x⟩|⟨_,x⟩⟩,_⟩:=S
  ·exact wpAny_pyIter_listiter x hQ
  ·exact wpAny_pyIter_tupleiter x hQ
set_option tactic.hygienic true in
theorem Qly (a:Int) (n i:Nat):(Qbk a n)[i]?=if i<n then some (.int (a+i)) else none:=by
 unfold Qbk;rw [List.getElem?_map];split
 ·rename_i h;rw [List.getElem?_range h];rfl
 ·rename_i h;have:(List.range n)[i]?=none:=by simp;exact (Z20 17891478) h
  rw [this];rfl
set_option tactic.hygienic true in
theorem Turns.range (hh:A.handled=none) (tgt:Expr) (it:Addr) (a:Int) (n:Nat):Turns P w hB Γ A tgt (.ref it) [it] (Qbk a n) (fun i z h=>IsRangeIter h it (a+i) ((n:Int)-i) 1∧z it=none∧Γ.free it) where
 frame:=fun S Y Y hw k=>⟨k it (by simp) _ S.1,(hw it (by simp)).trans S.2.1,S.2.2⟩
 has:=fun S c hc=>by
  simp at hc;subst hc;exact ⟨S.2.1,S.2.2,_,S.1,_,_,.inl ⟨rfl,rfl⟩⟩
 item:=fun {i z g s d Q E} S b hd hQ=>by
  obtain ⟨S,zi,fi⟩:=S;rw [Qly]at hd;split at hd
  ·rename_i hlt;obtain rfl:=Option.some.inj hd;refine wpAny_pyNext_range_item S ((Z20 0xa1a80531006) hlt) fun h' S' hs=>⟨_,rfl,?_⟩
   rw [(by push_cast;exact (Z11 0x150a707150a0775):a+(i:Int)+1=a+((i+1:Nat):Int)),(by push_cast;exact (Z20 0x151a70a8151a0a885):(n:Int)-(i:Int)-1=(n:Int)-((i+1:Nat):Int))]at S';have hq:=hQ (.int (a+i) s.toks) z { s with heap:=h',toks:=s.toks+1 } (b.but hs zi fi) (.mut fun c o hc e=>(hs.2 c (fun q=>hc (q▸.head _))).trans e) ⟨S',zi,fi⟩ (.int _ _);exact eqR Qxc (wpAny_pure hq)
  ·exact nomatch hd
 done:=fun {z g s Q E} S b hQ=>by
  refine gk fun Ω κ=>?_;obtain ⟨S,zi,fi⟩:=S;rw [(by unfold Qbk;simp:(Qbk a n).length=n)]at S;refine κ ?_;refine wpAny_pyNext_range_end hh S ((Z10 84544132)) fun h' hs=>?_;have k:∀c o,c∉[it]→s.heap.get? c=some o→h'.get? c=some o:=fun c o hc e=>hs c o (fun q=>hc (q▸.head _)) e;exact hQ _ (b.mut k (fa zi f0) (fa fi f0)) (.mut k)
 self:=fun S hQ=>wpAny_pyIter_rangeiter S.1 hQ
theorem Qh0 {a b:List D}(h:(Qav [a,b])[i]?=some d):X2 fun x y=>A3 (a[i]?=some x) (b[i]?=some y) (d=.tup [x,y]):=by
 obtain ⟨x,y,h1,h2,h3⟩:=List.getElem?_zipWith_eq_some.mp h;exact ⟨x,y,h1,h2,h3.symm⟩
theorem Qre {a b c:List D}(h:(Qav [a,b,c])[i]?=some d):X3 fun x y u=>A4 (a[i]?=some x) (b[i]?=some y) (c[i]?=some u) (d=.tup [x,y,u]):=by
 obtain ⟨x,yz,h1,h2,rfl⟩:=List.getElem?_zipWith_eq_some.mp h;obtain ⟨h3,h4⟩:=List.getElem?_zip_eq_some.mp h2;exact ⟨x,yz.1,yz.2,h1,h3,h4,rfl⟩
theorem Qs0 {a b:List D}(h:(Qav [a,b])[i]?=some d):∃ds,d=.tup ds∧Its i [a,b] ds:=by
 obtain ⟨x,y,h1,h2,rfl⟩:=Qh0 h;exact ⟨_,rfl,.cons h1 (.cons h2 .nil)⟩
theorem Qsa {a b c:List D}(h:(Qav [a,b,c])[i]?=some d):∃ds,d=.tup ds∧Its i [a,b,c] ds:=by
 obtain ⟨x,y,u,h1,h2,h3,rfl⟩:=Qre h;exact ⟨_,rfl,.cons h1 (.cons h2 (.cons h3 .nil))⟩
theorem Qt7 {a b:List D}(h:a.length=b.length):(Qav [a,b]).length=a.length:=List.length_zipWith.trans (by rw [←h,Nat.min_self])
theorem Qtc {a b c:List D}(h:a.length=b.length) (h':a.length=c.length):(Qav [a,b,c]).length=a.length:=List.length_zipWith.trans (by rw [List.length_zip,←h,←h',Nat.min_self,Nat.min_self])
inductive RLs (P:Program) (w:World) (Γ:Gm) (z:Z):List (List Value)→List (List D)→Prop
 |nil:RLs P w Γ z [] []
 |cons {xs:List Value} {ls:List D} {xss:List (List Value)} {lss:List (List D)}:Rds P w Γ z xs ls→RLs P w Γ z xss lss→RLs P w Γ z (xs::xss) (ls::lss)
theorem RLs.le {z z':Z}(hz:ZLe z z') {xss:List (List Value)}{lss:List (List D)}(r:RLs P w Γ z xss lss):RLs P w Γ z' xss lss:=by
 induction r with
 |nil=>exact .nil
 |cons r _ ih=>exact .cons (r.le hz) ih
theorem RLs.its (r:RLs P w Γ z xss lss):∀{ds:List D},Its i lss ds→∃vs,Its i xss vs∧Rds P w Γ z vs ds:=by
 induction r with
 |nil=>intro ds h;cases h;exact ⟨_,.nil,.nil⟩
 |cons r _ ih=>
  intro ds h;cases h with
  |cons h1 h2=>
  obtain ⟨vs,a,b⟩:=ih h2;obtain ⟨v,c,d⟩:=r.get h1;exact ⟨v::vs,.cons c a,.cons d b⟩
theorem ZipN.has {z:Z}{h:Heap}{zo TI TO:Addr}{is:List Addr}{i:Nat}{xss:List (List Value)}{f:Value}(S:ZipN z h zo TI TO is i xss f):∀c∈zo::TI::TO::is,∃o,h.get? c=some o∧(X2 fun q vs=>o.cls=.type q∧o.data=.fields vs∨X2 fun xs n=>o.data=.seq xs n∧o.cls=.type "tuple"):=by
 obtain ⟨a1,a2,⟨l0,a0,a3⟩,a4,a6,a7,a8,a9⟩:=S;refine fa ⟨_,a1,_,_,.inl ⟨rfl,rfl⟩⟩ (fa ⟨_,a2,"",#[],.inr ⟨_,_,rfl,rfl⟩⟩ (fa ⟨_,a3,"",#[],.inr ⟨_,_,rfl,rfl⟩⟩ ?_));clear a1 a2 a3 a0 a6 a7 a8 a9
 induction a4 with
 |nil=>exact f0
 |cons s _ ih=>exact fa s.has ih
theorem Turns.zipN (hh:A.handled=none) (elts:List Expr) (x1) (pos:Pos) (zo TI TO:Addr) (is:List Addr) (xs:List Value) (xss:List (List Value)) (ls:List D) (lls:List (List D)) (hg:∀{i:Nat}{d:D},(Qav (ls::lls))[i]?=some d→∃ds,d=.tup ds∧Its i (ls::lls) ds) (hl:(Qav (ls::lls)).length=ls.length) :
  Turns P w hB Γ A (.Tuple elts x1 pos) (.ref zo) (zo::TI::TO::is) (Qav (ls::lls)) (fun i z h=>ZipN z h zo TI TO is i (xs::xss) .none∧RLs P w Γ z (xs::xss) (ls::lls)∧∀a∈zo::TI::TO::is,Γ.free a) where
 frame:=fun S hz Y hw k=>by
  refine gk fun Ω κ=>?_;obtain ⟨⟨a1,a2,⟨l0,a0,a3⟩,a4,a6,a7,a8,a9⟩,r,fr⟩:=S;refine κ ?_;exact ⟨⟨k _ (.head _) _ a1,k _ (mI 1 rfl) _ a2,⟨l0,a0,k _ (mI 2 rfl) _ a3⟩,a4.at hz fun a ha=>k a (.tail _ (.tail _ (.tail _ ha))),a6,fun c hc=>(hw c hc).trans (a7 c hc),a8,a9⟩,r.le hz,fr⟩
 has:=fun S c hc=>⟨S.1.zn c hc,S.2.2 c hc,S.1.has c hc⟩
 item:=fun {i z g s d Q E} S b hd hQ=>by
  refine gk fun Ω κ=>?_;obtain ⟨S,r,fr⟩:=S;obtain ⟨ds,rfl,hi⟩:=hg hd;obtain ⟨vs,hv,rv⟩:=r.its hi;refine κ ?_;refine Qod S b.zin hv fun h' S' hT k=>⟨_,rfl,Qyx (s:={ s with heap:=h' }) S' fun h'' S'' hs=>?_⟩
  refine gk fun Ω κ=>?_;obtain ⟨hb,hst⟩:=Yhm (t:=s.toks) b (fun a o ha e=>(hs.2 _ (fun q=>ha (q▸.head _))).trans (k a o (fun q=>ha (Yg4 q)) e):∀a o,a∉zo::TI::TO::is→s.heap.get? a=some o→h''.get? a=some o) S.zn fr ((hs.2 _ (Nat.ne_of_gt (Heap.lt_size S.zp):s.heap.objs.size≠zo)).trans hT:h''.get? s.heap.objs.size=some (Qae vs 0)) (Qe _);have zl:=Z.le_add (o:=Qae vs 0) (Ql b.zin (Qe s.heap));refine κ ?_;refine hQ _ _ _ hb hst ⟨?_,r.le zl,fr⟩ (.tup (Z.add_self ..) (rv.le zl));obtain ⟨a1,a2,a3,a4,a6,a7,a8,a9⟩:=S'';refine ⟨a1,a2,a3,a4.at zl fun Y Y Y e=>e,a6,fun c hc=>?_,a8,a9⟩;obtain ⟨o,e,_⟩:=S.has c hc;unfold Z.add;refine eqR (if_neg (Nat.ne_of_lt (Heap.lt_size e))) ?_;exact a7 c hc
 done:=fun {z g s Q E} S b hQ=>by
  refine gk fun Ω κ=>?_;obtain ⟨S,r,fr⟩:=S;have hle:xs.length≤(Qav (ls::lls)).length:=by
   cases r with
   |cons r _=>rw [hl,r.length];exact Nat.le_refl _
  refine κ ?_;refine Qtf hh S b.zin hle fun h' k=>?_;have k':∀a o,a∉zo::TI::TO::is→s.heap.get? a=some o→h'.get? a=some o:=fun a o ha e=>k a o (fun q=>ha (Yg4 q)) e;exact hQ _ (b.mut k' S.zn fr) (.mut k')
 self:=fun S hQ=>wpAny_pyIter_zip S.1.zp hQ
theorem Turns.enum (hh:A.handled=none) (elts:List Expr) (x1) (pos:Pos) (e it:Addr) (xs:List Value) (as:List D) :
  Turns P w hB Γ A (.Tuple elts x1 pos) (.ref e) [e,it] (Qav [Qbk 0 as.length,as]) (fun i z h=>En z h e it i xs∧Rds P w Γ z xs as∧Γ.free e∧Γ.free it) where
 frame:=fun S hz Y hw k=>by
  refine gk fun Ω κ=>?_;obtain ⟨⟨⟨old,a1⟩,a2,a3,a4,a5⟩,r1,f1,f2⟩:=S;refine κ ?_;exact ⟨⟨⟨old,k _ (by simp) _ a1⟩,a2.at hz (k _ (by simp)),a3,(hw _ (by simp)).trans a4,(hw _ (by simp)).trans a5⟩,r1.le hz,f1,f2⟩
 has:=fun S c hc=>by
  refine gk fun Ω κ=>?_;obtain ⟨⟨⟨old,a1⟩,a2,a3,a4,a5⟩,r1,f1,f2⟩:=S;simp at hc;refine κ ?_;rcases hc with rfl|rfl
  ·exact ⟨a4,f1,_,a1,_,_,.inl ⟨rfl,rfl⟩⟩
  ·exact ⟨a5,f2,a2.has⟩
 item:=fun {i z g s d Q E} S b hd hQ=>by
  refine gk fun Ω κ=>?_;obtain ⟨S,r1,f1,f2⟩:=S;obtain ⟨x,y,hx,hy,rfl⟩:=Qh0 hd;obtain ⟨v2,hv2,rv2⟩:=r1.get hy;rw [Qly]at hx;refine κ ?_;split at hx
  ·obtain rfl:=Option.some.inj hx;refine Qyr S b.zin hv2 fun h' t S' hT k=>⟨_,rfl,Yev (s:={ s with heap:=h',toks:=s.toks+1 }) S' fun h'' S'' hs=>?_⟩
   refine gk fun Ω κ=>?_;obtain ⟨old,he⟩:=S.en;have hzo:s.heap.objs.size≠e:=Nat.ne_of_gt (Heap.lt_size he);obtain ⟨hb,hst⟩:=Yhm (t:=s.toks+1) b (fun a o ha q=>(hs.2 _ (fun q=>ha (q▸mI 0 rfl))).trans (k a o ha q):∀a o,a∉[e,it]→s.heap.get? a=some o→h''.get? a=some o) (fa S.ze (fa S.zi f0)) (fa f1 (fa f2 f0)) ((hs.2 _ hzo).trans hT:h''.get? s.heap.objs.size=some (Qae [.int i t,v2] 0)) (Qe _);have zl:=Z.le_add (o:=Qae [.int i t,v2] 0) (Ql b.zin (Qe s.heap));refine κ ?_;refine hQ _ _ _ hb hst ⟨?_,r1.le zl,f1,f2⟩ (.tup (Z.add_self ..) (.cons (by simpa using Rd.int (i:Int) t) (.cons (rv2.le zl) .nil)));refine gk fun Ω κ=>?_;obtain ⟨a1,a2,a3,a4,a5⟩:=S'';obtain ⟨oi,ei,_⟩:=S.a.has;refine κ ?_;refine ⟨a1,a2.at zl fun Y q=>q,a3,?_,?_⟩
   ·unfold Z.add;rw [if_neg (Ne.symm hzo)];exact a4
   ·unfold Z.add;rw [if_neg (Nat.ne_of_lt (Heap.lt_size ei))];exact a5
  ·exact nomatch hx
 done:=fun {z g s Q E} S b hQ=>by
  obtain ⟨S,r1,f1,f2⟩:=S;have hlen:(Qav [Qbk 0 as.length,as]).length=xs.length:=List.length_zipWith.trans (by simp [Qbk,r1.length]);rw [hlen]at S;refine Ya6 hh S b.zin (Nat.le_refl _) fun h' k=>?_;exact hQ _ (b.mut k (fa S.ze (fa S.zi f0)) (fa f1 (fa f2 f0))) (.mut k)
 self:=fun S hQ=>by
  obtain ⟨old,he⟩:=S.1.en;exact wpAny_pyIter_enum he hQ
end
section
variable {sc:Scope}
@[elab_as_elim] theorem Qf6 (h0:isE sc nm .none e'=true) (g:∀k p,M (.Constant .none k p)):M e':=Qng h0 fun Y k p h=>dK (M:=fun c=>M (.Constant c k p)) h (g k p)
@[elab_as_elim] theorem Qlh {b} (h0:isE sc nm (.bool b) e'=true) (g:∀k p,M (.Constant (.bool b) k p)):M e':=Qng h0 fun Y k p h=>dK (M:=fun c=>M (.Constant c k p)) h (g k p)
@[elab_as_elim] theorem Qp9 {i} (h0:isE sc nm (.int i) e'=true) (g1:∀k p,M (.Constant (.int i) k p)) (g2:∀j k p q,i=-j→M (.UnaryOp .USub (.Constant (.int j) k p) q)):M e':=
 ((Bool.or_eq_true _ _).mp h0).elim (fun h=>Qng h fun Y k p h=>dK (M:=fun c=>M (.Constant c k p)) h (g1 k p))
  fun h=>Ydr h fun op x q h=>dK (M:=fun op=>M (.UnaryOp op x q)) (ba1 h) (Qng (M:=fun x=>M (.UnaryOp .USub x q)) (ba2 h) fun Y k p h=>dK (M:=fun c=>M (.UnaryOp .USub (.Constant c k p) q)) h (g2 _ k p q (Int.neg_neg i).symm))
@[elab_as_elim] theorem Qp2 {x} (h0:isE sc nm (.str x) e'=true) (g:∀k p,M (.Constant (.str (Str.ofString x)) k p)):M e':=Qng h0 fun Y k p h=>dK (M:=fun c=>M (.Constant c k p)) h (g k p)
@[elab_as_elim] theorem Qfe {i} {y:Str} {N:Str→Prop} (h:Qi9 nm i y=true) (g:∀x,nm[i]?=some x→(Str.ofString x==("__debug__":Str))=false→N (Str.ofString x)):N y:=by
 unfold Qi9 at h
 revert h g
 cases nm[i]? with
 |none=>exact fun h Y=>ff h
 |some x=>exact fun h g=>dK' (M:=fun y=>(y==("__debug__":Str))=false→N y) (ba1 h) (g x rfl) (bn (ba2 h))
@[elab_as_elim] theorem Qja {i} (h0:isE sc nm (.var i) e'=true) (g:∀x p,nm[i]?=some x→(Str.ofString x==("__debug__":Str))=false→M (.Name (Str.ofString x) p)):M e':=Qmo h0 fun Y p h=>Qfe (N:=fun y=>M (.Name y p)) h fun x=>g x p
theorem Yd6 {f}{y:Str}(h:Q6 sc f y=true):y=Str.ofString f∧sc.names.lookup (Str.ofString f)=some .globalImplicit∧(Str.ofString f==("__debug__":Str))=false:=by
 obtain rfl:=of_decide_eq_true (ba1 (ba1 h));exact ⟨rfl,of_decide_eq_true (ba2 (ba1 h)),bn (ba2 h)⟩
@[elab_as_elim] theorem Qml {f} (h0:isE sc nm (.glob f) e'=true) (g:∀y p,Q6 sc f y=true→M (.Name y p)):M e':=Qmo h0 g
@[elab_as_elim] theorem Qka {o l r} (h0:isE sc nm (.bin o l r) e'=true) (g:∀l' o' r' p,Qxu o o'=true→isE sc nm l l'=true→isE sc nm r r'=true→M (.BinOp l' o' r' p)):M e':=
 Ycr h0 fun l' o' r' p h=>g l' o' r' p (ba1 (ba1 h)) (ba2 (ba1 h)) (ba2 h)
@[elab_as_elim] theorem Qpe {o l r} (h0:isE sc nm (.cmp o l r) e'=true) (g:∀l' o' r' p,Qeh o o'=true→isE sc nm l l'=true→isE sc nm r r'=true→behindInMarks o' r'=false→M (.Compare l' [o'] [r'] p)):M e':=
 Qmz h0 fun l' Y rs p h=>m1K (M:=fun os=>M (.Compare l' os rs p)) h fun o' h=>m1K (M:=fun rs=>M (.Compare l' _ rs p)) (ba2 h) fun r' h2=>g l' o' r' p (ba1 h) (ba1 (ba1 h2)) (ba2 (ba1 h2)) (bn (ba2 h2))
@[elab_as_elim] theorem Qlq {o₁ o₂ l m r} (h0:isE sc nm (.cmp2 o₁ o₂ l m r) e'=true) (g:∀l' o₁' o₂' m' r' p,Qeh o₁ o₁'=true→Qeh o₂ o₂'=true→isE sc nm l l'=true→isE sc nm m m'=true→isE sc nm r r'=true→behindInMarks o₂' r'=false→M (.Compare l' [o₁',o₂'] [m',r'] p)):M e':=
 Qmz h0 fun l' Y rs p h=>m2K (M:=fun os=>M (.Compare l' os rs p)) h fun o o' h=>m2K (M:=fun rs=>M (.Compare l' _ rs p)) (ba2 h) fun m' r' h2=>g l' o o' m' r' p (ba1 (ba1 h)) (ba2 (ba1 h)) (ba1 (ba1 (ba1 h2))) (ba2 (ba1 (ba1 h2))) (ba2 (ba1 h2)) (bn (ba2 h2))
@[elab_as_elim] theorem Qrq {b e} (h0:isE sc nm (.isN b e) e'=true) (g:∀l' k p q,isE sc nm e l'=true→M (.Compare l' [cond b .IsNot .Is] [.Constant .none k p] q)):M e':=
 Qmz h0 fun l' os rs q h=>dK (M:=fun os=>M (.Compare l' os rs q)) (ba1 (ba1 h)) (m1K (M:=fun rs=>M (.Compare l' _ rs q)) (ba2 (ba1 h)) fun r h2=>Qng (M:=fun r=>M (.Compare l' _ [r] q)) h2 fun Y k p h2=>dK (M:=fun c=>M (.Compare l' _ [.Constant c k p] q)) h2 (g l' k p q (ba2 h)))
@[elab_as_elim] theorem Qo7 {l r} (h0:isE sc nm (.inE l r) e'=true) (g:∀l' r' p,isE sc nm l l'=true→isE sc nm r r'=true→behindInMarks .In r'=false→M (.Compare l' [.In] [r'] p)):M e':=
 Qmz h0 fun l' os rs p h=>dK (M:=fun os=>M (.Compare l' os rs p)) (ba1 h) (m1K (M:=fun rs=>M (.Compare l' _ rs p)) (ba2 h) fun r' h2=>g l' r' p (ba1 (ba1 h2)) (ba2 (ba1 h2)) (bn (ba2 h2)))
@[elab_as_elim] theorem Qog {e} (h0:isE sc nm (.not e) e'=true) (g:∀x p,isE sc nm e x=true→M (.UnaryOp .Not x p)):M e':=Ydr h0 fun op x p h=>dK (M:=fun op=>M (.UnaryOp op x p)) (ba1 h) (g x p (ba2 h))
@[elab_as_elim] theorem Qpw {b x y} (h0:isE sc nm (.bop b x y) e'=true) (g:∀x' y' p,isE sc nm x x'=true→isE sc nm y y'=true→M (.BoolOp (cond b .And .Or) [x',y'] p)):M e':=
 Ygw h0 fun o vs p h=>dK (M:=fun o=>M (.BoolOp o vs p)) (ba1 h) (m2K (M:=fun vs=>M (.BoolOp _ vs p)) (ba2 h) fun x' y' h2=>g x' y' p (ba1 h2) (ba2 h2))
@[elab_as_elim] theorem Qkz {b x y u} (h0:isE sc nm (.bop3 b x y u) e'=true) (g:∀x' y' u' p,isE sc nm x x'=true→isE sc nm y y'=true→isE sc nm u u'=true→M (.BoolOp (cond b .And .Or) [x',y',u'] p)):M e':=
 Ygw h0 fun o vs p h=>dK (M:=fun o=>M (.BoolOp o vs p)) (ba1 h) (m3K (M:=fun vs=>M (.BoolOp _ vs p)) (ba2 h) fun x' y' u' h2=>g x' y' u' p (ba1 (ba1 h2)) (ba2 (ba1 h2)) (ba2 h2))
@[elab_as_elim] theorem Qpv {t a b} (h0:isE sc nm (.ite t a b) e'=true) (g:∀t' a' b' p,isE sc nm t t'=true→isE sc nm a a'=true→isE sc nm b b'=true→M (.IfExp t' a' b' p)):M e':=Yhw h0 fun t' a' b' p h=>g t' a' b' p (ba1 (ba1 h)) (ba2 (ba1 h)) (ba2 h)
@[elab_as_elim] theorem Qp1 {es} (h0:isE sc nm (.tup es) e'=true) (g:∀es' k p,J0 sc nm es es'=true→M (.Tuple es' k p)):M e':=Qyj h0 g
@[elab_as_elim] theorem Qkk {es} (h0:isE sc nm (.lst es) e'=true) (g:∀es' p,J0 sc nm es es'=true→M (.List es' p)):M e':=Qy1 h0 g
@[elab_as_elim] theorem Qn6 {e i} (h0:isE sc nm (.idx e i) e'=true) (g:∀x i' p,isE sc nm e x=true→isE sc nm i i'=true→Jf i'=true→M (.Subscript x i' p)):M e':=Qjh h0 fun x i' p h=>g x i' p (ba1 (ba1 h)) (ba2 (ba1 h)) (ba2 h)
@[elab_as_elim] theorem Qlf {e k} (h0:isE sc nm (.upto e k) e'=true) (g:∀x c p q r,isE sc nm e x=true→M (.Subscript x (.Slice none (some (.Constant (.int (k:Int)) c p)) none q) r)):M e':=
 Qjh h0 fun x Y r h=>Yhx (M:=fun i=>M (.Subscript x i r)) (ba2 h) fun lo up st q h2=>mNK (M:=fun lo=>M (.Subscript x (.Slice lo up st q) r)) (ba1 (ba1 h2)) (mNK (M:=fun st=>M (.Subscript x (.Slice _ up st q) r)) (ba2 (ba1 h2))
  (mSK (M:=fun up=>M (.Subscript x (.Slice _ up _ q) r)) (ba2 h2) fun u h3=>Qng (M:=fun u=>M (.Subscript x (.Slice _ (some u) _ q) r)) h3 fun Y c p h3=>dK (M:=fun v=>M (.Subscript x (.Slice _ (some (.Constant v c p)) _ q) r)) h3 (g x c p q r (ba1 h))))
@[elab_as_elim] theorem Qu4 {f es} (h0:isE sc nm (.fn f es) e'=true) (g:∀y np es' p,Q6 sc f y=true→J0 sc nm es es'=true→M (.Call (.Name y np) es' [] p)):M e':=mFK h0 fun y np es' p h=>g y np es' p (ba1 h) (ba2 h)
@[elab_as_elim] theorem Qlx {e a} (h0:isE sc nm (.attr e a) e'=true) (g:∀f r fn as k2 p2 a1 p,e=.fn f r→isE sc nm e (.Call fn (a1::as) k2 p2)=true→M (.Attribute (.Call fn (a1::as) k2 p2) (Str.ofString (Qhx a)) p)):M e':=
 Yek h0 fun x n p h=>dK (M:=fun n=>M (.Attribute x n p)) (ba2 h) (mFK (M:=fun x=>isE sc nm e x=true→M (.Attribute x _ p)) (ba2 (ba1 h)) (fun y q as p2 h2=>mCK (M:=fun as=>isE sc nm e (.Call (.Name y q) as [] p2)=true→M (.Attribute (.Call (.Name y q) as [] p2) _ p)) h2 fun a1 as Y hx=>
  Yiw (M:=fun e0=>e=e0→M _) (ba2 (ba1 (ba1 h))) (fun f r Y q0=>g f r _ as _ p2 a1 p q0 hx) rfl) (ba1 (ba1 (ba1 h))))
@[elab_as_elim] theorem Qo6 {hh a} (h0:isE sc nm (.obj hh a) e'=true) (g:∀i x np ap a' p,Qi9 nm i x=true→isE sc nm a a'=true→(ap.endLine==p.line)=true→hh=.var i→M (.Call (.Attribute (.Name x np) (Str.ofString "object") ap) [a'] [] p)):M e':=
 mMK h0 fun b ap as p h1 h2=>Qmo (M:=fun b=>M (.Call (.Attribute b _ ap) as [] p)) (ba1 h2) fun x np h3=>m1K (M:=fun as=>M (.Call (.Attribute (.Name x np) _ ap) as [] p)) (ba2 h2) fun a' h4=>Yh4 (M:=fun h'=>hh=h'→M _) h3 (fun i h5 q=>g i x np ap a' p h5 h4 h1 q) rfl
@[elab_as_elim] theorem Qkw {elt t it ifs nm' cap} (h0:isE sc nm (.comp elt t it ifs nm' cap) e'=true) (g:∀elt' t' it' ifs' sc' p,Qtl it t=true→isE sc' nm' elt elt'=true→isT nm' t t'=true→isI sc nm it it'=true→J0 sc' nm' ifs ifs'=true→Qgy sc nm sc' nm' cap=true→Qcn nm' cap sc'=true→M (.ListComp elt' [⟨t',it',ifs',0⟩] sc' p)):M e':=
 Ydj h0 fun elt' Y sc' p h=>m1K (M:=fun gs=>M (.ListComp elt' gs sc' p)) h fun ⟨t',it',ifs',a⟩ h=>baK h fun h1 c1=>baK h1 fun h2 c2=>baK h2 fun h3 c3=>baK h3 fun h4 c4=>baK h4 fun h5 c5=>baK h5 fun h6 c6=>baK h6 fun h7 c7=>
  dK (M:=fun a=>M (.ListComp elt' [⟨t',it',ifs',a⟩] sc' p)) h7 (g elt' t' it' ifs' sc' p c7 c6 c5 c4 c3 c2 c1)
@[elab_as_elim] theorem Qh1 {elt t₁ it₁ t₂ it₂ nm' cap} (h0:isE sc nm (.comp2 elt t₁ it₁ t₂ it₂ nm' cap) e'=true) (g:∀elt' t₁' it₁' t₂' it₂' sc' p,Qtl it₁ t₁=true→Qtl it₂ t₂=true→isE sc' nm' elt elt'=true→isT nm' t₁ t₁'=true→isI sc nm it₁ it₁'=true→isT nm' t₂ t₂'=true→isI sc' nm' it₂ it₂'=true→Qgy sc nm sc' nm' cap=true→Qcn nm' cap sc'=true →
  M (.ListComp elt' [⟨t₁',it₁',[],0⟩,⟨t₂',it₂',[],0⟩] sc' p)):M e':=
 Ydj h0 fun elt' Y sc' p h=>m2K (M:=fun gs=>M (.ListComp elt' gs sc' p)) h fun ⟨t',it',ifs',a⟩ ⟨t2,it2,ifs2,a2⟩ h=>baK h fun h1 c1=>baK h1 fun h2 c2=>baK h2 fun h3 c3=>baK h3 fun h4 c4=>baK h4 fun h5 c5=>baK h5 fun h6 c6=>baK h6 fun h7 c7=>baK h7 fun h8 c8=>baK h8 fun h9 c9=>baK h9 fun h10 c10=>baK h10 fun h11 c11=>baK h11 fun h12 c12=>
  dK (M:=fun a=>M (.ListComp elt' [⟨t',it',ifs',a⟩,⟨t2,it2,ifs2,a2⟩] sc' p)) h12 (mEK (M:=fun i=>M (.ListComp elt' [⟨t',it',i,0⟩,⟨t2,it2,ifs2,a2⟩] sc' p)) c12 (dK (M:=fun a=>M (.ListComp elt' [⟨t',it',[],0⟩,⟨t2,it2,ifs2,a⟩] sc' p)) c11 (mEK (M:=fun i=>M (.ListComp elt' [⟨t',it',[],0⟩,⟨t2,it2,i,0⟩] sc' p)) c10
  (g elt' t' it' t2 it2 sc' p c9 c8 c7 c6 c5 c4 c3 c2 c1))))
@[elab_as_elim] theorem Qcm {es'} {N:List Expr→Prop} (h0:J0 sc nm .nil es'=true) (g:N []):N es':=mEK h0 g
@[elab_as_elim] theorem Jy {e r es'} {N:List Expr→Prop} (h0:J0 sc nm (.cons e r) es'=true) (g:∀x xs,isE sc nm e x=true→J0 sc nm r xs=true→N (x::xs)):N es':=mCK h0 fun x xs h=>g x xs (ba1 h) (ba2 h)
@[elab_as_elim] theorem es1 {es a} {N:CEs→Prop} (h:J0 sc nm es [a]=true) (g:∀e,isE sc nm e a=true→N (.cons e .nil)):N es:=by
 cases es with
 |nil=>exact ff h
 |cons e r=>cases r with
  |nil=>exact g e (ba1 h)
  |cons e2 r=>exact ff (ba2 h)
@[elab_as_elim] theorem es2 {es a b} {N:CEs→Prop} (h:J0 sc nm es [a,b]=true) (g:∀e f,isE sc nm e a=true→isE sc nm f b=true→N (.cons e (.cons f .nil))):N es:=by
 cases es with
 |nil=>exact ff h
 |cons e r=>exact es1 (N:=fun r=>N (.cons e r)) (ba2 h) fun f h2=>g e f (ba1 h) h2
theorem Ql2 {e a}(h:isE sc nm e a=true):J0 sc nm (.cons e .nil) [a]=true:=Bool.and_eq_true_iff.mpr ⟨h,rfl⟩
theorem Yb6 {e f a b}(h:isE sc nm e a=true) (h2:isE sc nm f b=true):J0 sc nm (.cons e (.cons f .nil)) [a,b]=true:=Bool.and_eq_true_iff.mpr ⟨h,Ql2 h2⟩
@[elab_as_elim] theorem Qvb {k es} {N:Bi→CEs→Expr→Prop} (h0:isE sc nm (.bi k es) e'=true) (g1:∀e x y np nq a' p,Q6 sc "isinstance" x=true→Q6 sc "int" y=true→isE sc nm e a'=true→N .isInt (.cons e .nil) (.Call (.Name x np) [a',.Name y nq] [] p))
  (g2:∀a b x y np nq a' b' p q,Q6 sc "list" x=true→Q6 sc "range" y=true→isE sc nm a a'=true→isE sc nm b b'=true→N .listR (.cons a (.cons b .nil)) (.Call (.Name x np) [.Call (.Name y nq) [a',b'] [] q] [] p))
  (g3:∀k e x np a' p,k≠.isInt∧k≠.listR→Q6 sc (Ydw k) x=true→isE sc nm e a'=true→N k (.cons e .nil) (.Call (.Name x np) [a'] [] p)):N k es e':=
 mFK (M:=N k es) h0 fun x np as p h=>by
  have gen:∀k,k≠.isInt∧k≠.listR→m1 (fun a=>Q6 sc (Ydw k) x&&J0 sc nm es [a]) as=true→N k es (Expr.Call (.Name x np) as [] p):=fun k n1 h=>
   m1K (M:=fun as=>N k es (.Call (.Name x np) as [] p)) h fun a h=>es1 (N:=fun es=>N k es _) (ba2 h) fun e h2=>g3 k e x np a p n1 (ba1 h) h2
  cases k<;>first|exact gen _ ⟨Bi.noConfusion,Bi.noConfusion⟩ h|skip
  ·exact m2K (M:=fun as=>N _ es (.Call (.Name x np) as [] p)) h fun a b h=>Qmo (M:=fun b=>N _ es (.Call (.Name x np) [a,b] [] p)) (ba2 (ba1 h)) fun y q h2=>es1 (N:=fun es=>N _ es _) (ba2 h) fun e h3=>g1 e x y np q a p (ba1 (ba1 h)) h2 h3
  ·exact m1K (M:=fun as=>N _ es (.Call (.Name x np) as [] p)) h fun a h=>mFK (M:=fun a=>N _ es (.Call (.Name x np) [a] [] p)) (ba2 h) fun y q as r h2=>m2K (M:=fun as=>N _ es (.Call (.Name x np) [.Call (.Name y q) as [] r] [] p)) h2 fun b c h2=>
    es2 (N:=fun es=>N _ es _) (ba2 h2) fun e f h3 h4=>g2 e f x y np q b c p r (ba1 h) (ba1 h2) h3 h4
theorem Quh {e}(h0:isI sc nm (.over e) e'=true):isE sc nm e e'=true:=h0
@[elab_as_elim] theorem Qxt {a b} (h0:isI sc nm (.rng a b) e'=true) (g:∀x np a' b' p,Q6 sc "range" x=true→isE sc nm a a'=true→isE sc nm b b'=true→M (.Call (.Name x np) [a',b'] [] p)):M e':=
 mFK h0 fun x np as p h=>m2K (M:=fun as=>M (.Call (.Name x np) as [] p)) (ba2 h) fun a' b' h2=>g x np a' b' p (ba1 h) (ba1 h2) (ba2 h2)
@[elab_as_elim] theorem Qt5 {b} (h0:isI sc nm (.rng1 b) e'=true) (g:∀x np b' p,Q6 sc "range" x=true→isE sc nm b b'=true→M (.Call (.Name x np) [b'] [] p)):M e':=
 mFK h0 fun x np as p h=>m1K (M:=fun as=>M (.Call (.Name x np) as [] p)) (ba2 h) fun b' h2=>g x np b' p (ba1 h) h2
@[elab_as_elim] theorem Qyf {es} (h0:isI sc nm (.zip es) e'=true) (g:∀x np es' p,Q6 sc "zip" x=true→J0 sc nm es es'=true→M (.Call (.Name x np) es' [] p)):M e':=mFK h0 fun x np es' p h=>g x np es' p (ba1 h) (ba2 h)
@[elab_as_elim] theorem Qs7 {b} (h0:isI sc nm (.enum b) e'=true) (g:∀x np b' p,Q6 sc "enumerate" x=true→isE sc nm b b'=true→M (.Call (.Name x np) [b'] [] p)):M e':=
 mFK h0 fun x np as p h=>m1K (M:=fun as=>M (.Call (.Name x np) as [] p)) (ba2 h) fun b' h2=>g x np b' p (ba1 h) h2
theorem qCn {k}(h:mCn k e'=true):e'.ctorIdx=19:=mmK h fun q Y=>q
theorem qNm {k}(h:mNm k e'=true):e'.ctorIdx=23:=mmK h fun q Y=>q
theorem Yhr {k}(h:Yda k e'=true):e'.ctorIdx=2:=mmK h fun q Y=>q
theorem Yiz {k}(h:Qu5 k e'=true):e'.ctorIdx=15:=mmK h fun q Y=>q
theorem qUn {k}(h:mUn k e'=true):e'.ctorIdx=3:=mmK h fun q Y=>q
theorem qBl {k}(h:mBl k e'=true):e'.ctorIdx=0:=mmK h fun q Y=>q
theorem qIf {k}(h:mIf k e'=true):e'.ctorIdx=5:=mmK h fun q Y=>q
theorem qTu {k}(h:mTu k e'=true):e'.ctorIdx=25:=mmK h fun q Y=>q
theorem qLs {k}(h:mLs k e'=true):e'.ctorIdx=24:=mmK h fun q Y=>q
theorem Yio {k}(h:Qr9 k e'=true):e'.ctorIdx=21:=mmK h fun q Y=>q
theorem qCl {k}(h:mCl k e'=true):e'.ctorIdx=16:=mmK h fun q Y=>q
theorem qAt {k}(h:mAt k e'=true):e'.ctorIdx=20:=mmK h fun q Y=>q
theorem qLC {k}(h:mLC k e'=true):e'.ctorIdx=8:=mmK h fun q Y=>q
theorem qF {k}(h:mF k e'=true):e'.ctorIdx=16:=qCl h
theorem qM {n k}(h:mM n k e'=true):e'.ctorIdx=16:=qCl h
noncomputable def Yeg (i:Nat):Nat:=if 23≤i then 8 else [19,19,19,19,23,23,2,15,15,15,15,3,0,0,5,25,24,21,21,16,16,20,16].getD i 0
noncomputable def Yde (e:CE):Nat:=Yeg e.ctorIdx
theorem Qox {e}(h:isE sc nm e e'=true):e'.ctorIdx=Yde e∨e'.ctorIdx=3:=by
 cases e<;>first|exact .inl (qCn h)|exact .inl (qNm h)|exact .inl (Yhr h)|exact .inl (Yiz h)|exact .inl (qUn h)|exact .inl (qBl h)|exact .inl (qIf h)|exact .inl (qTu h)|exact .inl (qLs h)|exact .inl (Yio h)|exact .inl (qF h)|exact .inl (qM h)|exact .inl (qAt h)|exact .inl (qLC h)|skip
 exact ((Bool.or_eq_true _ _).mp h).imp (fun h=>qCn h) fun h=>qUn h
noncomputable def Qx1 (n:Nat):Bool:=[0,2,3,5,8,15,16,19,20,21,23,24,25].contains n
theorem Qz2 (e:CE):Qx1 (Yde e)=true:=by
 delta Yde Yeg
 by_cases q:23≤e.ctorIdx
 ·refine eqR (if_pos q) ?_;rfl
 ·refine eqR (if_neg q) ?_;exact (by decide:∀i,i<23→Qx1 ([19,19,19,19,23,23,2,15,15,15,15,3,0,0,5,25,24,21,21,16,16,20,16].getD i 0)=true) _ (Nat.not_le.mp q)
theorem Qko {e n}(h:isE sc nm e e'=true) (hn:Qx1 n=false):e'.ctorIdx≠n:=fun q=>by
 subst q;rcases Qox h with q|q
 ·rw [q,Qz2]at hn;exact nomatch hn
 ·rw [q]at hn;exact nomatch hn
theorem Yet {e}(h:isE sc nm e e'=true) (hn:Qs e=false):e'.ctorIdx≠8:=fun q=>by
 rcases Qox h with p|p<;>rw [q]at p
 ·have hn:=of_decide_eq_false hn;unfold Yde Yeg at p;rw [if_neg hn]at p;exact (by decide:∀i,i<23→¬8=[19,19,19,19,23,23,2,15,15,15,15,3,0,0,5,25,24,21,21,16,16,20,16].getD i 0) _ (Nat.not_le.mp hn) p
 ·exact nomatch p
theorem Qb5 {e}(h:isE sc nm e e'=true) (env:Env) (xs:List Expr):starEach (e'::xs) env=(false,eval e' env)::starEach xs env:=by
 have t:e'.ctorIdx≠22:=Qko h rfl;clear h;cases e'<;>first|rfl|exact absurd rfl t
end
section
theorem Qj8 {slice:Expr}(hs:Jf slice=true)
  (h:wpAny (model P w) A (eval value env) (fun o s₁=>wpAny (model P w) A (eval slice env) (fun i s₂=>X2 fun T id=>A3 (typeLookup (.type T) (Str.ofString "__getitem__")=pure (some (.builtin id))) (s₂.TypeIs o T) (wpAny (model P w) A (getItem o i) Q E s₂)) E s₁) E s) :
  wpAny (model P w) A (eval (.Subscript value slice pos) env) Q E s:=by
 rw [eval_Subscript];refine wpAny_bind (wpAny_mono h (fun o s₁ h₁=>wpAny_bind (wpAny_holding (wpAny_mono h₁ (fun i s₂ h₂=>wpAny_bind (wpAny_standAt ?_)) fun Y Y x=>x))) fun Y Y x=>x);obtain ⟨T,id,hl,hT,hg⟩:=h₂;refine wpAny_bind ?_;refine eqR (getitemInPython_of_ne hT.not_modules) ?_;refine wpAny_bind (wpAny_specialOf hT hl ?_);have e:subscripted slice false o i=operate [o,i] (getItem o i):=by cases slice<;>first|rfl|exact Bool.noConfusion hs
 have fin:wpAny (model P w) A (subscripted slice false o i) (fun r s₃=>wpAny (model P w) A (letTemporaryGo value o r >>= fun Y=>pure r) Q E s₃) E s₂:=by
  refine eqR (e) ?_;exact wpAny_operating (wpAny_mono hg (fun r s₃ h₃=>wpAny_bind (wpAny_letTemporaryGo (wpAny_pure h₃))) fun Y Y x=>x)
 first
  |exact wpAny_pure (wpAny_bind fin)
  |exact wpAny_bind (wpAny_pure (wpAny_bind fin))
  |exact wpAny_bind fin
theorem Qph {lower upper:Option Expr}{p:Pos}
  (h:wpAny (model P w) A (eval value env) (fun o s₁=>wpAny (model P w) A (eval (.Slice lower upper none p) env) (fun i s₂=>X2 fun T id=>A3 (typeLookup (.type T) (Str.ofString "__getitem__")=pure (some (.builtin id))) (s₂.TypeIs o T) (wpAny (model P w) A (getItem o i) Q E s₂)) E s₁) E s) :
  wpAny (model P w) A (eval (.Subscript value (.Slice lower upper none p) pos) env) Q E s:=by
 rw [eval_Subscript];refine wpAny_bind (wpAny_mono h (fun o s₁ h₁=>wpAny_bind (wpAny_holding (wpAny_mono h₁ (fun i s₂ h₂=>wpAny_bind (wpAny_standAt ?_)) fun Y Y x=>x))) fun Y Y x=>x);obtain ⟨T,id,hl,hT,hg⟩:=h₂;refine wpAny_bind ?_;refine eqR (getitemInPython_of_ne hT.not_modules) ?_;refine wpAny_bind (wpAny_specialOf hT hl ?_);have fin:wpAny (model P w) A (operate [i,o] (getItem o i)) (fun r s₃=>wpAny (model P w) A (letTemporaryGo value o r >>= fun Y=>pure r) Q E s₃) E s₂:=
  wpAny_operating (wpAny_mono hg (fun r s₃ h₃=>wpAny_bind (wpAny_letTemporaryGo (wpAny_pure h₃))) fun Y Y x=>x)
 first
  |exact wpAny_pure (wpAny_bind fin)
  |exact wpAny_bind (wpAny_pure (wpAny_bind fin))
  |exact wpAny_bind fin
theorem Qk0 (b:Base P w hB Γ z g s) {r:D}(h:Rd P w Γ z v d) (hi:Qde g d y=some r) (k:∀T id,typeLookup (.type T) (Str.ofString "__getitem__")=pure (some (.builtin id))→s.TypeIs v T→G):G:=
 Qvv (M:=fun d Y=>Rd P w Γ z v d→G) hi (fun xs i Y h=>by
   obtain ⟨_,_,_,rfl,e,_⟩:=Jx h;exact k _ _ slot_tuple_getitem.lookup ⟨_,b.zin _ _ e,rfl⟩)
  (fun xs i Y h=>by
   obtain ⟨_,_,_,rfl,e,_⟩:=Qc5 h;exact k _ _ F.slot_list_getitem.lookup ⟨_,b.zin _ _ e,rfl⟩)
  (fun es q Y h=>by
   obtain ⟨_,_,_,rfl,⟨o,es,ep,h1,h2,_⟩,_⟩:=Qqi h;exact k _ _ F.slot_dict_getitem.lookup ⟨_,b.zin _ _ h1,h2.1⟩)
  (fun i Y h=>by
   obtain ⟨rfl,hk⟩:=Qlg h;obtain ⟨vs,n,e,_⟩:=b.flds hk;exact k _ _ F.slot_list_getitem.lookup ⟨_,e,rfl⟩)
  (fun i Y h=>by
   obtain ⟨rfl,hk⟩:=Qlg h;obtain ⟨t,u,n,e⟩:=b.pen hk;exact k _ _ F.slot_list_getitem.lookup ⟨_,e,rfl⟩) h
theorem Qjx (k n:Nat) (ha:k≤n):Builtin.Slice.sliceAdjust none (some (k:Int)) 1 (n:Int)=(0,(k:Int)):=by
 unfold Builtin.Slice.sliceAdjust;have h2:¬((k:Int)<0):=(Z10 330297)
 simp only [(by decide:¬((1:Int)<0)),h2,if_false]
 congr 1
 omega
theorem Qkb (k:Nat):Builtin.Slice.slicePlaces 0 (k:Int) 1=k:=by
 unfold Builtin.Slice.slicePlaces;simp only [(by decide:(1:Int) > 0),if_true,Int.ediv_one];split<;>omega
theorem Qcg {u:Tok}{Q:Int×Int×Nat→Shared→Prop}(hs:s.heap.IsSliceOf sl .none (.int k u) .none) (ha:k≤n) (h:Q (0,1,k) s) :
  wpAny (model P w) A (Builtin.Slice.sliceApplied (.ref sl) (pure (n:Int))) Q E s:=by
 refine gk fun Ω κ=>?_;obtain ⟨os,hos,hcs,hds⟩:=id hs;refine κ ?_
 delta Builtin.Slice.sliceApplied Builtin.Slice.sliceFields
 refine wpAny_bind (wpAny_bind (wpAny_field hos hds (x:=.none) rfl (wpAny_bind (wpAny_field hos hds (x:=.int k u) rfl (wpAny_bind (wpAny_field hos hds (x:=.none) rfl (wpAny_pure ?_)))))));refine wpAny_bind (slicePart_none ?_);refine (?_:wpAny _ _ (if ((1:Int)==0)=true then _ else _) _ _ s);refine aN (by decide) ?_;refine wpAny_bind (slicePart_none (wpAny_bind (slicePart_int (wpAny_bind (wpAny_pure ?_)))));refine (?_:wpAny _ _ (match Builtin.Slice.sliceAdjust none (some (k:Int)) 1 (n:Int) with|(lo,hi)=>pure (lo,(1:Int),Builtin.Slice.slicePlaces lo hi 1)) _ _ s);refine eqR (Qjx k n ha) ?_;refine (?_:wpAny _ _ (pure ((0:Int),(1:Int),Builtin.Slice.slicePlaces 0 (k:Int) 1)) _ _ s);refine eqR (Qkb k) ?_;exact wpAny_pure h
theorem Qpi (xs:List Value) (k:Nat):((List.range k).filterMap fun (j:Nat)=>xs.toArray[((0:Int)+(j:Int)*1).toNat]?).toArray=(xs.take k).toArray:=by
 have e:(fun (j:Nat)=>xs.toArray[((0:Int)+(j:Int)*1).toNat]?)=fun j=>xs[j]?:=by
  funext j
  have:((0:Int)+(j:Int)*1).toNat=j:=by omega
  refine eqR (this) ?_;simp
 refine eqR (e) ?_
 congr 1
 induction k with
 |zero=>dsimp
 |succ k ih=>
  refine eqR (List.range_succ) ?_;refine eqR (List.filterMap_append) ?_;refine eqR (ih) ?_;refine eqR (List.take_add_one) ?_;cases q:xs[k]?<;>simp [q]
theorem Qcf {t:Addr}{u:Tok}(ht:s.heap.get? t=some (Qae vs n)) (hs:s.heap.IsSliceOf sl .none (.int k u) .none) (h1:1≤k) (ha:k<vs.length) (hsz:vs.length≤1048576)
  (h:Q (.ref s.heap.objs.size) { s with heap:=s.heap.push { cls:=.type "tuple",data:=.seq (vs.take k).toArray } }):wpAny (model P w) A (getItem (.ref t) (.ref sl)) Q E s:=by
 refine gk fun Ω κ=>?_;have htt:PyProof.Rows.IsTup s.heap t vs.toArray:=⟨_,ht,rfl,n,rfl⟩
 have hok:sizeOk (.seq (vs.take k).toArray):=by
  refine (?_:(vs.take k).toArray.size≤sizeLine);refine eqR (List.size_toArray) ?_;refine eqR (List.length_take) ?_;refine eqR (sizeLine_eq) ?_;exact (Z20 0x10000007601c110000066016) hsz
 obtain ⟨os,hos,hcs,hds⟩:=id hs;refine κ ?_;unfold getItem
 try with_reducible refine wpAny_holding ?_
 first|refine wpAny_bind (wpAny_pure ?_)|skip
 refine wpAny_bind (wpAny_sequenceKey htt.typeIs (by decide) ?_);refine wpAny_bind (wpAny_callSpecial?_slot (name:=Str.ofString "__getitem__") htt.typeIs slot_tuple_getitem
  (wpAny_call_entry slot_tuple_getitem htt.typeIs entry_tuple_getitem ?_ (args_tuple_getitem _ _)))
 refine (?_:wpAny _ _ (Builtin.Tuple.tupleItemsOf (.ref t) >>= _) _ _ s);refine wpAny_bind (tupleItemsOf_ htt ?_);refine wpAny_bind (wpAny_typeOf (⟨os,hos,hcs⟩:s.TypeIs (.ref sl) "slice") ?_);refine aP (by decide) ?_;refine wpAny_bind (Qcg hs (by simp;exact (Z20 16846854) ha) ?_);have hno:¬(((0:Int)==0&&(1:Int)==1&&k==vs.toArray.size)=true):=by
  simp;exact (Z20 271126534) ha
 refine (?_:wpAny _ _ (if ((0:Int)==0&&(1:Int)==1&&k==vs.toArray.size)=true then _ else _) _ _ s);refine eqR (if_neg hno) ?_;refine eqR (Qpi vs k) ?_
 first
  |exact wpAny_bind (m:=Builtin.Tuple.tupleExact _) (wpAny_newObj_type (wpAny_pure ⟨_,rfl,wpAny_pure h⟩) hok)
  |exact wpAny_bind (m:=Builtin.Tuple.tupleExact _) (wpAny_newObj_type (wpAny_bind (wpAny_pure (wpAny_pure ⟨_,rfl,wpAny_pure h⟩))) hok)
  |exact wpAny_bind (wpAny_bind (m:=Builtin.Tuple.tupleExact _) (wpAny_newObj_type (wpAny_pure (wpAny_pure ⟨_,rfl,wpAny_pure h⟩)) hok))
  |exact wpAny_bind (wpAny_bind (m:=Builtin.Tuple.tupleExact _) (wpAny_newObj_type (wpAny_pure ⟨_,rfl,wpAny_pure h⟩) hok))
theorem Quf {l m r:Expr}
  (h:wpAny (model P w) A (eval l env) (fun a s₁=>wpAny (model P w) A (eval m env) (fun b s₂=>wpAny (model P w) A (compareOp o₁ a b) (fun c s₃=>∃t,c=.bool t∧if t=true then wpAny (model P w) A (eval r env) (fun d s₄=>wpAny (model P w) A (compareOp o₂ b d) Q E s₄) E s₃ else Q (.bool false) s₃) E s₂) E s₁) E s) (hm:behindInMarks o₂ r=false) :
  wpAny (model P w) A (eval (.Compare l [o₁,o₂] [m,r] pos) env) Q E s:=by
 refine (?_:wpAny _ _ (do compareChain pos (←eval l env) [o₁,o₂] [eval m env,markedBehindIn o₂ r (eval r env)]) _ _ _);refine eqR (markedBehindIn_of_false hm) ?_;refine wpAny_bind (wpAny_mono h (fun a s₁ h₁=>?_) fun Y Y x=>x);refine (?_:wpAny _ _ (do
  let rv ←holding [a] (eval m env)
  standAt pos
  let c ←holding [a,rv] (compareOp o₁ a rv)
  release [a,rv] [c]
  if ←holding [c,rv] (truthy c) then compareChain pos rv [o₂] [eval r env] else pure c) _ _ _)
 refine wpAny_bind (wpAny_holding (wpAny_mono h₁ (fun bv s₂ h₂=>?_) fun Y Y x=>x));refine wpAny_bind (wpAny_standAt (wpAny_bind (wpAny_holding (wpAny_mono h₂ (fun c s₃ h₃=>?_) fun Y Y x=>x))));obtain ⟨t,rfl,h₃⟩:=h₃;refine wpAny_bind (wpAny_release (wpAny_bind (wpAny_holding (wpAny_truthy_bool ?_))));cases t
 ·exact wpAny_pure h₃
 ·refine (?_:wpAny _ _ (do
   let rv ←holding [bv] (eval r env)
   standAt pos
   operate [bv,rv] (compareOp o₂ bv rv)) _ _ _)
  exact wpAny_bind (wpAny_holding (wpAny_mono h₃ (fun d s₄ h₄=>wpAny_bind (wpAny_standAt (wpAny_operateT h₄))) fun Y Y x=>x))
theorem Qwq {l r:Expr}{o:CmpOp}{Q:Bool→Shared→Prop}
  (h:wpAny (model P w) A (eval l env) (fun a s₁=>wpAny (model P w) A (eval r env) (fun b s₂=>wpAny (model P w) A (compareOp o a b) (fun c s₃=>∃t,c=.bool t∧Q t s₃) E s₂) E s₁) E s) (hm:behindInMarks o r=false) :
  wpAny (model P w) A (PySem.isTrue (.Compare l [o] [r] pos) env whole) Q E s:=by
 refine (?_:wpAny _ _ (do testChain pos (←eval l env) [o] [markedBehindIn o r (eval r env)]) _ _ _);refine eqR (markedBehindIn_of_false hm) ?_;refine wpAny_bind (wpAny_mono h (fun a s₁ h₁=>?_) fun Y Y x=>x);refine (?_:wpAny _ _ (do
  let rv ←holding [a] (eval r env)
  standAt pos
  let c ←operate [a,rv] (compareOp o a rv)
  holding [c] (truthy c)) _ _ _)
 refine wpAny_bind (wpAny_holding (wpAny_mono h₁ (fun bv s₂ h₂=>?_) fun Y Y x=>x));refine wpAny_bind (wpAny_standAt (wpAny_bind (wpAny_operateT (wpAny_mono h₂ (fun c s₃ h₃=>?_) fun Y Y x=>x))));obtain ⟨t,rfl,h₃⟩:=h₃;exact wpAny_holding (wpAny_truthy_bool h₃)
theorem Yai {l m r:Expr}{Q:Bool→Shared→Prop}
  (h:wpAny (model P w) A (eval l env) (fun a s₁=>wpAny (model P w) A (eval m env) (fun b s₂=>wpAny (model P w) A (compareOp o₁ a b) (fun c s₃=>∃t,c=.bool t∧if t=true then wpAny (model P w) A (eval r env) (fun d s₄=>wpAny (model P w) A (compareOp o₂ b d) (fun c s₅=>∃t,c=.bool t∧Q t s₅) E s₄) E s₃ else Q false s₃) E s₂) E s₁) E s) (hm:behindInMarks o₂ r=false) :
  wpAny (model P w) A (PySem.isTrue (.Compare l [o₁,o₂] [m,r] pos) env whole) Q E s:=by
 refine (?_:wpAny _ _ (do testChain pos (←eval l env) [o₁,o₂] [eval m env,markedBehindIn o₂ r (eval r env)]) _ _ _);refine eqR (markedBehindIn_of_false hm) ?_;refine wpAny_bind (wpAny_mono h (fun a s₁ h₁=>?_) fun Y Y x=>x);refine (?_:wpAny _ _ (do
  let rv ←holding [a] (eval m env)
  standAt pos
  let c ←holding [a,rv] (compareOp o₁ a rv)
  release [a,rv] [c]
  if ←holding [c,rv] (truthy c) then testChain pos rv [o₂] [eval r env] else pure false) _ _ _)
 refine wpAny_bind (wpAny_holding (wpAny_mono h₁ (fun bv s₂ h₂=>?_) fun Y Y x=>x));refine wpAny_bind (wpAny_standAt (wpAny_bind (wpAny_holding (wpAny_mono h₂ (fun c s₃ h₃=>?_) fun Y Y x=>x))));obtain ⟨t,rfl,h₃⟩:=h₃;refine wpAny_bind (wpAny_release (wpAny_bind (wpAny_holding (wpAny_truthy_bool ?_))));cases t
 ·exact wpAny_pure h₃
 ·refine (?_:wpAny _ _ (do
   let rv ←holding [bv] (eval r env)
   standAt pos
   let c ←operate [bv,rv] (compareOp o₂ bv rv)
   holding [c] (truthy c)) _ _ _)
  refine wpAny_bind (wpAny_holding (wpAny_mono h₃ (fun d s₄ h₄=>wpAny_bind (wpAny_standAt (wpAny_bind (wpAny_operateT (wpAny_mono h₄ (fun c s₅ h₅=>?_) fun Y Y x=>x))))) fun Y Y x=>x));obtain ⟨t,rfl,h₅⟩:=h₅;exact wpAny_holding (wpAny_truthy_bool h₅)
structure ScOk (sc:Scope) (env:Env):Prop where
 gi:∀x,sc.names.lookup x=some .globalImplicit→env.kindOf x=some .globalImplicit
 ce:∀x,sc.names.lookup x=some .cell→env.kindOf x=some .cell
 lo:∀x,sc.names.lookup x=some .local→env.kindOf x=some .local
theorem Qg (b:Base P w hB Γ z g s):∀a o,hB.get? a=some o→s.heap.get? a=some o:=fun a o e=>b.zin _ _ (b.zB _ _ e)
theorem Yf {M:Model}{sc:Scope}{y:Str}{p:Pos}(W:Wd hB Γ mg mb) (b:Base P w hB Γ z g s) (fn:env.scope.kind=.function) (gl:env.globals=mainGlobals) (bi:env.builtins=builtinsNs) (S:ScOk sc env) (hg:Q6 sc f y=true)
  (hv:mg (Str.ofString f)=some v∨(mg (Str.ofString f)=none∧mb (Str.ofString f)=some v)) (hQ:Q v s):wpAny M A (eval (.Name y p) env) Q E s:=by
 obtain ⟨rfl,h1,h2⟩:=Yd6 hg;have k:=Qg b;refine Calls.Name_function_global fn (S.gi _ h1) ?_ h2;rcases hv with hv|⟨hv,hv'⟩
 ·exact loadGlobal_global (mg:=mg) (gl▸W.g.keeps k) hv hQ
 ·exact loadGlobal_builtin (mg:=mg) (mb:=mb) (gl▸W.g.keeps k) hv (bi▸W.b.keeps k) hv' hQ
end
section
variable (P:Program) (w:World) (hB:Heap) (Γ:Gm) (mg mb:Str→Option Value)
structure OrcOk (n:Nat) (O:Orc):Prop where
 fn:∀f xs g d g',O.fn f xs g=some (d,g')→xs≠[]∧X3 fun a o fd=>A4 (mg (Str.ofString f)=some (.ref a)) (hB.get? a=some o) (o.data=.func fd) (∀vs z s A (R:Result→Shared→Prop),AOk n A→Base P w hB Γ z g s→Rds P w Γ z vs xs→(∀v z' s',Base P w hB Γ z' g' s'→Step Γ z s z' s'→Rd P w Γ z' v d→R (.ok (.ret v)) s')→codeAny (model P w) A (.call (.ref a) ⟨vs,[]⟩) R s)
 glob:∀x d,O.glob x=some d→∃v,mg (Str.ofString x)=some v∧∀z,(∀a o,hB.get? a=some o→z a=some o)→Rd P w Γ z v d
 sort:Qfp P w O.sort
 att:∀a d A z g s (Q E:Value→Shared→Prop),(a=.sizes∧d=.tup O.szs)∨(a=.fields∧d=.hnd .flds)→Γ.two=true→Base P w hB Γ z g s→Jb P w hB Γ z s g d Q→wpAny (model P w) A (getAttr (.ref Γ.tA) (Str.ofString (Qhx a)) true) Q E s
 obj:Γ.two=true→X3 fun f o fd=>A4 (hB.get? f=some o) (o.data=.func fd) (∀A z g s pl (Q:Value×List Value→Shared→Prop) (E:Value→Shared→Prop),Base P w hB Γ z g s→Q (.ref f,[.ref Γ.hA]) s→wpAny (model P w) A (getMethod (.ref Γ.hA) (Str.ofString "object") pl) Q E s) (∀v z g s A (R:Result→Shared→Prop),AOk n A→Base P w hB Γ z g s→Rd P w Γ z v (.int 0)→(∀v z' s',Base P w hB Γ z' g s'→Step Γ z s z' s'→Rd P w Γ z' v (.hnd .thing)→R (.ok (.ret v)) s')→codeAny (model P w) A (.call (.ref f) ⟨[.ref Γ.hA,v],[]⟩) R s)
variable (n:Nat) (O:Orc)
noncomputable def SE (e:CE):Prop:=∀sc nm e' env ρ m K z g s A d g' (Q E:Value→Shared→Prop),isE sc nm e e'=true→ScOk sc env→AOk n A→Base P w hB Γ z g s→Fro P w Γ K z s.heap env nm ρ m→Qb O e ρ g=some (d,g')→Jb P w hB Γ z s g' d Q →
 wpAny (model P w) A (eval e' env) Q E s
noncomputable def ST (e:CE):Prop:=∀sc nm e' env ρ m K z g s A t g' (Q:Bool→Shared→Prop) (E:Value→Shared→Prop),isE sc nm e e'=true→ScOk sc env→AOk n A→Base P w hB Γ z g s→Fro P w Γ K z s.heap env nm ρ m→Qb O e ρ g=some (.bool t,g') →
 (∀z' s',Base P w hB Γ z' g' s'→Step Γ z s z' s'→Q t s')→wpAny (model P w) A (PySem.isTrue e' env (eval e' env)) Q E s
noncomputable def SEs (es:CEs):Prop:=∀sc nm es' env ρ m K z g s A ds g' pos (Q:List Value→Shared→Prop) (E:Value→Shared→Prop),J0 sc nm es es'=true→ScOk sc env→AOk n A→Base P w hB Γ z g s→Fro P w Γ K z s.heap env nm ρ m→Yd O es ρ g=some (ds,g') →
 (∀vs z' s',Base P w hB Γ z' g' s'→Step Γ z s z' s'→Rds P w Γ z' vs ds→Q vs s')→wpAny (model P w) A (spliced (backTo pos (starEach es' env))) Q E s
noncomputable def Yfs:CI→Expr→Prop
 |.zip _,e=>X3 fun es k p=>e=.Tuple es k p
 |.enum _,e=>X3 fun es k p=>e=.Tuple es k p
 |_,_=>True
noncomputable def SIt (it:CI):Prop:=∀sc nm it' te env ρ m K z g s A ds g' (Q E:Value→Shared→Prop),isI sc nm it it'=true→Yfs it te→ScOk sc env→AOk n A→Base P w hB Γ z g s→Fro P w Γ K z s.heap env nm ρ m→Jm O it ρ g=some (ds,g') →
 (∀i W St z' s',Base P w hB Γ z' g' s'→Step Γ z s z' s'→Turns P w hB Γ A te i W ds St→St 0 z' s'.heap→(∀a∈W,s.heap.get? a=none)→Q i s') →
 wpAny (model P w) A (eval it' env) (fun x s₁=>wpAny (model P w) A (pyIter x) Q E s₁) E s
end
section
theorem Vt {b:Bool}(h:Rd P w Γ z v (.bool b)):v=.bool b:=by cases h;rfl
theorem Qps (h:Rd P w Γ z v d):(v==.none)=isNone d:=by cases h<;>rfl
theorem Rds.szl (r:Rds P w Γ z vs ds) (h:Qm ds.length=true):vs.length≤sizeLine:=by
 rw [r.length,sizeLine_eq];exact Nat.le_trans (of_decide_eq_true h) (by decide)
theorem Qw4:SE P w hB Γ n O .none:=fun sc nm e' env ρ m K z g s A d g' Q E hi S hA b F h p=>Qf6 hi fun k q=>eqK h (fun p=>wpAny_Constant_none (p.here b .none)) p
theorem Qyz (t:Bool):SE P w hB Γ n O (.bool t):=fun sc nm e' env ρ m K z g s A d g' Q E hi S hA b F h p=>Qlh hi fun k q=>eqK h (fun p=>wpAny_Constant_bool (p.here b (.bool _))) p
theorem Qut (i:Int):SE P w hB Γ n O (.int i):=fun sc nm e' env ρ m K z g s A d g' Q E hi S hA b F h p=>
 Qp9 hi (fun k q=>eqK h (fun p=>wpAny_Constant_int (p.same b _ (.int _ _))) p)
  fun j k q q' e=>eqK h (fun p=>wpAny_UnaryOp (wpAny_Constant_int (neg_int (e▸p.same b _ (.int _ _))))) p
theorem Yao (x:String):SE P w hB Γ n O (.str x):=fun sc nm e' env ρ m K z g s A d g' Q E hi S hA b F h p=>Qp2 hi fun k q=>eqK h (fun p=>wpAny_Constant_str (p.same b _ (.str _ _))) p
theorem Qic (i:Nat):SE P w hB Γ n O (.var i):=fun sc nm e' env ρ m K z g s A d g' Q E hi S hA b F h p=>Qja hi fun x q h1 h2=>
 Yg8 (M:=fun o=>ρ[i]?=o→_) h (fun d1 bb hd h hb=>eqK h (fun p=>by
  obtain ⟨v,cu,hh⟩:=F.curHeld h1 hb;refine wpAny_Name (Qca F.fn F.ns cu (p.here b ?_)) h2;rcases hd with rfl|rfl<;>exact hh) p) rfl
theorem Qwj (W:Wd hB Γ mg mb) (hO:OrcOk P w hB Γ mg n O) (x:String):SE P w hB Γ n O (.glob x):=fun sc nm e' env ρ m K z g s A d g' Q E hi S hA b F h p=>Qml hi fun y q hg=>
 Qnr h (fun h1 p=>by
  refine gk fun Ω κ=>?_;obtain ⟨v,h2,h3⟩:=hO.glob x d h1;refine κ ?_;exact Yf W b F.fn F.gl F.bi S hg (.inl h2) (p.here b (h3 z b.zB))) p
theorem Qie {l r:CE}(hl:SE P w hB Γ n O l) (hr:SE P w hB Γ n O r) {sc nm l' r' env ρ m K z g s A g'}{f:Value→Value→Sem Value}{fa:D→D→Option D}
  (il:isE sc nm l l'=true) (ir:isE sc nm r r'=true) (S:ScOk sc env) (hA:AOk n A) (b:Base P w hB Γ z g s) (F:Fro P w Γ K z s.heap env nm ρ m)
  (h:(bnd (Qb O l ρ g) fun a g=>bnd (Qb O r ρ g) fun b g=>Qbl (fa a b) g)=some (d,g')) (p:Jb P w hB Γ z s g' d Q)
  (op:∀v u da db z' s',Base P w hB Γ z' g' s'→Rd P w Γ z' v da→Rd P w Γ z' u db→fa da db=some d→Jb P w hB Γ z' s' g' d Q→wpAny (model P w) A (f v u) Q E s') :
  wpAny (model P w) A (eval l' env) (fun a s₁=>wpAny (model P w) A (eval r' env) (fun b s₂=>wpAny (model P w) A (f a b) Q E s₂) E s₁) E s:=
 Y8 h fun a Y h1 h=>Y8 h fun c Y h2 h=>Qpg h h2 fun h3 h2=>hl _ _ _ _ _ _ _ _ _ _ _ _ _ _ _ il S hA b F h1 fun v Y Y b1 st1 r1=>hr _ _ _ _ _ _ _ _ _ _ _ _ _ _ _ ir S hA b1 (F.step b b1 st1) h2 fun u z2 s2 b2 st2 r2=>
  op v u a c z2 s2 b2 (r1.le st2.le) r2 h3 (p.step (st1.trans st2))
theorem Qzs {o l r}(hl:SE P w hB Γ n O l) (hr:SE P w hB Γ n O r):SE P w hB Γ n O (.bin o l r):=fun sc nm e' env ρ m K z g s A d g' Q E hi S hA b F h p=>Qka hi fun l' o' r' q ho il ir=>
 wpAny_BinOp (Qie hl hr il ir S hA b F h p fun v u da db z' s' b' ra rb hf p'=>Ybb hA b' ho ra rb hf p')
@[elab_as_elim] theorem Yfz {f:α→β} {x:Option α} {d:β} {M:β→Prop} (h:x.map f=some d) (k:∀t,x=some t→M (f t)):M d:=by
 cases x with
 |none=>cases h
 |some t=>cases h;exact k t rfl
theorem Yab {o l r}(hl:SE P w hB Γ n O l) (hr:SE P w hB Γ n O r):SE P w hB Γ n O (.cmp o l r):=fun sc nm e' env ρ m K z g s A d g' Q E hi S hA b F h p=>Qpe hi fun l' o' r' q ho il ir hm=>
 wpAny_Compare1 (Qie (fa:=fun a b=>(Vw o a b).map .bool) hl hr il ir S hA b F h p fun v u da db z' s' b' ra rb hf p'=>Yfz hf (fun t h1 p'=>Qc0 hA b' ho ra rb h1 p') p') hm
theorem Qzt {l r}(hl:SE P w hB Γ n O l) (hr:SE P w hB Γ n O r):SE P w hB Γ n O (.inE l r):=fun sc nm e' env ρ m K z g s A d g' Q E hi S hA b F h p=>Qo7 hi fun l' r' q il ir hm=>
 wpAny_Compare1 (Qie (fa:=fun a b=>(ain a b).map .bool) hl hr il ir S hA b F h p fun v u da db z' s' b' ra rb hf p'=>Yfz hf (fun t h1 p'=>Ybg hA b' ra rb h1 p') p') hm
theorem Ycz {t e}(he:SE P w hB Γ n O e):SE P w hB Γ n O (.isN t e):=fun sc nm e' env ρ m K z g s A d g' Q E hi S hA b F h p=>Qrq hi fun l' k q q' il=>Y8 h fun a g1 h1 h=>eqK h (fun p=>by
 refine wpAny_Compare1 (he _ _ _ _ _ _ _ _ _ _ _ _ _ _ _ il S hA b F h1 fun v z1 s1 b1 st1 r1=>wpAny_Constant_none ?_) (by cases t<;>rfl);have hn:=Qps r1;cases t
 ·exact is_none (hn.symm▸p _ _ _ b1 st1 (.bool _))
 ·exact isNot_none (hn.symm▸p _ _ _ b1 st1 (.bool _))) p
theorem Ya1 {e}(he:SE P w hB Γ n O e):SE P w hB Γ n O (.not e):=fun sc nm e' env ρ m K z g s A d g' Q E hi S hA b F h p=>Qog hi fun x q il=>bBK h fun t g1 h1 h=>eqK h (fun p=>
 wpAny_UnaryOp (he _ _ _ _ _ _ _ _ _ _ _ _ _ _ _ il S hA b F h1 fun v z1 s1 b1 st1 r1=>(Vt r1).symm▸not_value (wpAny_truthy_bool (p _ _ _ b1 st1 (.bool _))))) p
noncomputable def Qyq:BoolOp→Bool
 |.And=>true
 |.Or=>false
theorem J8 (c:Bool):Qyq (cond c .And .Or)=c:=by cases c<;>rfl
theorem Qd5 {M:Model}{x y:Sem Value}{rest:List (Sem Value)}{t:Bool}
  (h:wpAny M A x (fun v s₁=>A3 (v=.bool t) (t=Qyq op→wpAny M A (boolOp pos op (y::rest)) Q E s₁) (¬t=Qyq op→Q (.bool t) s₁)) E s):wpAny M A (boolOp pos op (x::y::rest)) Q E s:=by
 refine wpAny_bind (wpAny_mono h (fun v s₁ h₁=>?_) fun Y Y x=>x);obtain ⟨rfl,h₁,h₂⟩:=h₁;refine wpAny_bind (wpAny_standAt (wpAny_bind (wpAny_holding (wpAny_truthy_bool ?_))));cases op<;>cases t<;>first|exact wpAny_pure (h₂ (by decide))|exact h₁ rfl
theorem all_cons {M:Model}{x:Expr}{rest:List Expr}{Q:Bool→Shared→Prop}
  (h:wpAny M A (PySem.isTrue x env (eval x env)) (fun t s₁=>(t=Qyq op→wpAny M A (allTrue op rest env) Q E s₁)∧(¬t=Qyq op→Q t s₁)) E s):wpAny M A (allTrue op (x::rest) env) Q E s:=by
 cases op
 ·refine wpAny_allTrue_And_cons (wpAny_mono h (fun t s₁ h₁=>?_) fun Y Y x=>x);cases t
  ·exact h₁.2 (by decide)
  ·exact h₁.1 rfl
 ·refine wpAny_allTrue_Or_cons (wpAny_mono h (fun t s₁ h₁=>?_) fun Y Y x=>x);cases t
  ·exact h₁.1 rfl
  ·exact h₁.2 (by decide)
theorem Qy3 {c:Prop}{d:Decidable c}{x y:α}{r:α}(h:@ite _ c d x y=r) (q:c):x=r:=(if_pos q).symm.trans h
theorem Qy2 {c:Prop}{d:Decidable c}{x y:α}{r:α}(h:@ite _ c d x y=r) (q:¬c):y=r:=(if_neg q).symm.trans h
theorem Qzw {c x y}(hx:SE P w hB Γ n O x) (hy:SE P w hB Γ n O y):SE P w hB Γ n O (.bop c x y):=fun sc nm e' env ρ m K z g s A d g' Q E hi S hA b F h p=>Qpw hi fun x' y' q ix iy=>bBK h fun t g1 h1 h=>
 Qd5 (hx _ _ _ _ _ _ _ _ _ _ _ _ _ _ _ ix S hA b F h1 fun v z1 s1 b1 st1 r1=>⟨Vt r1,fun ht=>bBK (Qy3 h (ht.trans (J8 c))) fun u g2 h2 h=>eqK h (fun p=>
  hy _ _ _ _ _ _ _ _ _ _ _ _ _ _ _ iy S hA b1 (F.step b b1 st1) h2 (p.step st1)) p,
  fun ht=>eqK (Qy2 h fun q=>ht (q.trans (J8 c).symm)) (fun p=>p _ _ _ b1 st1 (.bool _)) p⟩)
theorem Qxh {c x y u}(hx:SE P w hB Γ n O x) (hy:SE P w hB Γ n O y) (hu:SE P w hB Γ n O u):SE P w hB Γ n O (.bop3 c x y u):=fun sc nm e' env ρ m K z g s A d g' Q E hi S hA b F h p=>Qkz hi fun x' y' u' q ix iy iu=>bBK h fun t g1 h1 h=>
 Qd5 (hx _ _ _ _ _ _ _ _ _ _ _ _ _ _ _ ix S hA b F h1 fun v z1 s1 b1 st1 r1=>⟨Vt r1,fun ht=>bBK (Qy3 h (ht.trans (J8 c))) fun t2 g2 h2 h=>
  Qd5 (hy _ _ _ _ _ _ _ _ _ _ _ _ _ _ _ iy S hA b1 (F.step b b1 st1) h2 fun v z2 s2 b2 st2 r2=>⟨Vt r2,fun ht2=>bBK (Qy3 h (ht2.trans (J8 c))) fun u g3 h3 h=>eqK h (fun p=>
   hu _ _ _ _ _ _ _ _ _ _ _ _ _ _ _ iu S hA b2 ((F.step b b1 st1).step b1 b2 st2) h3 (p.step (st1.trans st2))) p,
   fun ht2=>eqK (Qy2 h fun q=>ht2 (q.trans (J8 c).symm)) (fun p=>p _ _ _ b2 (st1.trans st2) (.bool _)) p⟩),
  fun ht=>eqK (Qy2 h fun q=>ht (q.trans (J8 c).symm)) (fun p=>p _ _ _ b1 st1 (.bool _)) p⟩)
theorem Qwi {o₁ o₂ l m' r}(hl:SE P w hB Γ n O l) (hm:SE P w hB Γ n O m') (hr:SE P w hB Γ n O r):SE P w hB Γ n O (.cmp2 o₁ o₂ l m' r):=fun sc nm e' env ρ m K z g s A d g' Q E hi S hA b F h p=>Qlq hi fun l' o₁' o₂' mm r' q ho1 ho2 il im ir hb=>
 Y8 h fun a g1 h1 h=>Y8 h fun c g2 h2 h=>Quf (hl _ _ _ _ _ _ _ _ _ _ _ _ _ _ _ il S hA b F h1 fun v z1 s1 b1 st1 r1=>hm _ _ _ _ _ _ _ _ _ _ _ _ _ _ _ im S hA b1 (F.step b b1 st1) h2 fun u z2 s2 b2 st2 r2=>Qcj h fun t hc h=>
  Qc0 hA b2 ho1 (r1.le st2.le) r2 hc fun tv z3 s3 b3 st3 r3=>⟨t,Vt r3,by
   cases t
   ·exact eqK h (fun p=>p _ _ _ b3 ((st1.trans st2).trans st3) (.bool _)) p
   ·exact Y8 h fun x g3 h3 h=>Qpg h h3 fun h4 h3=>Yfz h4 (fun t h5 p=>hr _ _ _ _ _ _ _ _ _ _ _ _ _ _ _ ir S hA b3 (((F.step b b1 st1).step b1 b2 st2).step b2 b3 st3) h3 fun x z4 s4 b4 st4 r4=>
     Qc0 hA b4 ho2 ((r2.le st3.le).le st4.le) r4 h5 (p.step (((st1.trans st2).trans st3).trans st4))) p⟩) hb
theorem Qzp {t x y}(ht:ST P w hB Γ n O t) (hx:SE P w hB Γ n O x) (hy:SE P w hB Γ n O y):SE P w hB Γ n O (.ite t x y):=fun sc nm e' env ρ m K z g s A d g' Q E hi S hA b F h p=>Qpv hi fun t' x' y' q it ix iy=>bBK h fun c g1 h1 h=>
 wpAny_IfExp (ht _ _ _ _ _ _ _ _ _ _ _ _ _ _ _ it S hA b F h1 fun z1 s1 b1 st1=>by
  cases c
  ·exact hy _ _ _ _ _ _ _ _ _ _ _ _ _ _ _ iy S hA b1 (F.step b b1 st1) h (p.step st1)
  ·exact hx _ _ _ _ _ _ _ _ _ _ _ _ _ _ _ ix S hA b1 (F.step b b1 st1) h (p.step st1))
theorem Qf9:SEs P w hB Γ n O .nil:=fun sc nm es' env ρ m K z g s A ds g' pos Q E hi S hA b F h p=>Qcm hi
 (eqK h (fun p=>wpAny_items_nil (p _ _ _ b (Step.refl ..) .nil)) p)
theorem Qbw {e r}(he:SE P w hB Γ n O e) (hr:SEs P w hB Γ n O r):SEs P w hB Γ n O (.cons e r):=fun sc nm es' env ρ m K z g s A ds g' pos Q E hi S hA b F h p=>Jy hi fun x xs ix ir=>
 Y8 h fun a g1 h1 h=>Y8 h fun c g2 h2 h=>eqK h (fun p=>
  wpAny_items_cons (he _ _ _ _ _ _ _ _ _ _ _ _ _ _ _ ix S hA b F h1 fun v z1 s1 b1 st1 r1=>hr _ _ _ _ _ _ _ _ _ _ _ _ _ _ _ _ ir S hA b1 (F.step b b1 st1) h2 fun vs z2 s2 b2 st2 r2=>p _ _ _ b2 (st1.trans st2) (.cons (r1.le st2.le) r2)) (Qb5 ix _ _)) p
theorem Qzj {es}(he:SEs P w hB Γ n O es):SE P w hB Γ n O (.tup es):=fun sc nm e' env ρ m K z g s A d g' Q E hi S hA b F h p=>Qp1 hi fun es' k q ie=>Y8 h fun ds g1 h1 h=>gdK h fun hl h=>eqK h (fun p=>
 wpAny_Tuple (he _ _ _ _ _ _ _ _ _ _ _ _ _ _ _ _ ie S hA b F h1 fun vs z1 s1 b1 st1 r1=>⟨r1.szl hl,(p.step st1).newTup b1 _ r1⟩)) p
theorem Qzk {es}(he:SEs P w hB Γ n O es):SE P w hB Γ n O (.lst es):=fun sc nm e' env ρ m K z g s A d g' Q E hi S hA b F h p=>Qkk hi fun es' q ie=>Y8 h fun ds g1 h1 h=>gdK h fun hl h=>eqK h (fun p=>
 wpAny_List (he _ _ _ _ _ _ _ _ _ _ _ _ _ _ _ _ ie S hA b F h1 fun vs z1 s1 b1 st1 r1=>⟨r1.szl hl,(p.step st1).newLst b1 _ r1⟩)) p
theorem Ybn {e i}(he:SE P w hB Γ n O e) (hi:SE P w hB Γ n O i):SE P w hB Γ n O (.idx e i):=fun sc nm e' env ρ m K z g s A d g' Q E hii S hA b F h p=>Qn6 hii fun x i' q ix ii hs=>Y8 h fun a g1 h1 h=>Y8 h fun c g2 h2 h=>Qnr h (fun h3 p=>
 Qj8 hs (he _ _ _ _ _ _ _ _ _ _ _ _ _ _ _ ix S hA b F h1 fun v z1 s1 b1 st1 r1=>hi _ _ _ _ _ _ _ _ _ _ _ _ _ _ _ ii S hA b1 (F.step b b1 st1) h2 fun u z2 s2 b2 st2 r2=>Qk0 b2 (r1.le st2.le) h3 fun T id hl hT=>⟨T,id,hl,hT,Qqa hA b2 (r1.le st2.le) r2 h3 (p.step (st1.trans st2))⟩)) p
theorem Qyy {e k}(he:SE P w hB Γ n O e):SE P w hB Γ n O (.upto e k):=fun sc nm e' env ρ m K z g s A d g' Q E hii S hA b F h p=>Qlf hii fun x c q1 q2 q3 ix=>Ygl h fun xs g1 h1 h=>gdK h fun hc h=>eqK h (fun p=>by
 refine Qph (he _ _ _ _ _ _ _ _ _ _ _ _ _ _ _ ix S hA b F h1 fun v z1 s1 b1 st1 r1=>?_);obtain ⟨t,vs,nn,rfl,e1,r2⟩:=Jx r1;refine wpAny_Slice (wpAny_pure (wpAny_Constant_int (k:=c) (pos:=q1) (wpAny_pure ?_)));have ht:∀o,(s1.heap.push o).get? t=some (Qae vs nn):=fun o=>Heap.get?_push_of_some _ (b1.zin _ _ e1);refine ⟨_,_,slot_tuple_getitem.lookup,⟨_,ht _,rfl⟩,?_⟩;have l:=r2.length;refine Qcf (ht _) (Heap.IsSliceOf.new ..) (of_decide_eq_true (ba2 hc)) (l▸(of_decide_eq_true (ba2 (ba1 hc)))) (l▸(of_decide_eq_true (ba1 (ba1 hc)))) ?_;exact (p.step st1).tup b1 (fun a o e=>Heap.get?_push_of_some _ (Heap.get?_push_of_some _ e)) (Qn (by show s1.heap.objs.size≤(s1.heap.push _).objs.size;rw [Heap.size_push];exact Nat.le_succ _)) (Heap.get?_push_size _ rfl) (r2.take _)) p
end
theorem Vl {sc:Scope}{nm:List String}{env:Env}{pos:Pos}:∀{es:CEs}{es':List Expr},J0 sc nm es es'=true→(backTo pos (starEach es' env)).any (·.1)=false
 |.nil,_,h=>Qcm h rfl
 |.cons e r,_,h=>Jy h fun x xs ix ir=>by
  rw [Qb5 ix];exact Vl (es:=r) ir
section
theorem Qu {f:Value}{Q:Args→Shared→Prop}(hs:args.any (·.1)=false)
  (h:wpAny (model P w) A (spliced args) (fun vs s'=>Q ⟨vs,[]⟩ s') E s):wpAny (model P w) A (evalArgs f true args []) Q E s:=by
 cases args with
 |cons a r=>
  obtain ⟨b,x⟩:=a;have:b=false:=by cases b<;>simp at hs ⊢
  subst this;exact Calls.evalArgs_plain h
 |nil=>
  unfold evalArgs;refine (?_:wpAny _ A (spliced [] >>= _) Q E s);refine wpAny_bind (wpAny_mono h (fun vs s' h'=>?_) fun Y Y x=>x);refine wpAny_holding ?_;exact wpAny_bind (wpAny_pure (wpAny_bind (wpAny_pure (wpAny_pure h'))))
theorem Yl (hv:(∃id,v=.builtin id)∨∃T,v=.type T) (hs:args.any (·.1)=false)
  (h:wpAny (model P w) A (spliced args) (fun vs s₁=>wpAny (model P w) A (call v vs) Q E s₁) E s):wpAny (model P w) A (callWith pos v [] args []) Q E s:=by
 rcases hv with ⟨id,rfl⟩|⟨T,rfl⟩
 ·exact Calls.callWith_builtin hs (Qu hs h)
 ·exact PySem.callWith_type hs (Qu hs h)
theorem Qv0 (h:Qr5 x=some v):(∃id,v=.builtin id)∨∃T,v=.type T:=by
 obtain ⟨p,q,rfl⟩:=Option.map_eq_some_iff.mp h;have:=List.all_eq_true.mp (show (Qv5.all fun p=>Yfh p.2)=true by decide) p (List.mem_of_find?_eq_some q);generalize p.2=v at this ⊢;cases v<;>first|exact .inl ⟨_,rfl⟩|exact .inr ⟨_,rfl⟩|exact ff this
theorem Qdv {sc:Scope}{m K}{y:Str}{np:Pos}{es:CEs}{es':List Expr}(W:Wd hB Γ mg mb) (he:SEs P w hB Γ n O es) (hv:Qr5 f=some v)
  (ie:J0 sc nm es es'=true) (hg:Q6 sc f y=true) (S:ScOk sc env) (hA:AOk n A) (b:Base P w hB Γ z g s) (F:Fro P w Γ K z s.heap env nm ρ m) (h:Yd O es ρ g=some (ds,g'))
  (hQ:∀vs z' s',Base P w hB Γ z' g' s'→Step Γ z s z' s'→Rds P w Γ z' vs ds→wpAny (model P w) A (call v vs) Q E s'):wpAny (model P w) A (eval (.Call (.Name y np) es' [] pos) env) Q E s:=by
 refine wpAny_Call_ofName (Yf W b F.fn F.gl F.bi S hg (.inr (W.bu _ _ hv)) ?_);exact Yl (Qv0 hv) (Vl ie) (he _ _ _ _ _ _ _ _ _ _ _ _ _ _ _ _ ie S hA b F h hQ)
theorem Yf5 (W:Wd hB Γ mg mb) (hO:OrcOk P w hB Γ mg n O) {es:CEs}(he:SEs P w hB Γ n O es):SE P w hB Γ n O (.fn f es):=fun sc nm e' env ρ m K z g s A d g' Q E hi S hA b F h p=>Qu4 hi fun y np es' pos hg ie=>Y8 h fun ds g1 h1 h=>by
 obtain ⟨hne,a,o,fd,m1,m2,m3,k⟩:=hO.fn f ds g1 d g' h;exact wpAny_Call_ofName (Yf W b F.fn F.gl F.bi S hg (.inl m1) (Calls.callWith_function (o:=o) (fd:=fd) (Qu (Vl ie) (he _ _ _ _ _ _ _ _ _ _ _ _ _ _ _ _ ie S hA b F h1 fun vs z1 s1 b1 st1 r1=>⟨⟨Qg b1 _ _ m2,m3⟩,
  wpAny_call (k vs z1 s1 A _ hA b1 r1 fun v z2 s2 b2 st2 r2=>p _ _ _ b2 (st1.trans st2) r2)⟩))))
@[elab_as_elim] theorem Qq5 {M:List D→Prop} (h:Yd O (.cons e .nil) ρ g=some (ds,g')) (k:∀c,Qb O e ρ g=some (c,g')→M [c]):M ds:=Y8 h fun c g1 h1 h=>eqK (M:=fun ds g'=>(∀c,Qb O e ρ g=some (c,g')→M [c])→M ds) h (fun k=>k c h1) k
@[elab_as_elim] theorem Qx8 {f:CE} {M:List D→Prop} (h:Yd O (.cons e (.cons f .nil)) ρ g=some (ds,g')) (k:∀c d g1,Qb O e ρ g=some (c,g1)→Qb O f ρ g1=some (d,g')→M [c,d]):M ds:=
 Y8 h fun c g1 h1 h=>Y8 h fun cs g2 h2 h=>eqK (M:=fun ds g'=>(∀c d g1,Qb O e ρ g=some (c,g1)→Qb O f ρ g1=some (d,g')→M [c,d])→M ds) h (fun k=>Qq5 (M:=fun cs=>M (c::cs)) h2 fun d h3=>k c d g1 h1 h3) k
theorem Yfq {a:D}(h:Qb O e ρ g=some (a,g1)):Yd O (.cons e .nil) ρ g=some ([a],g1):=by
 show bnd (Qb O e ρ g) _=_;rw [h];rfl
theorem Yil {f:CE}{a:D}(h:Qb O e ρ g=some (a,g1)) (h2:Qb O f ρ g1=some (b,g2)):Yd O (.cons e (.cons f .nil)) ρ g=some ([a,b],g2):=by
 refine (?_:bnd (Qb O e ρ g) _=_);refine eqR (h) ?_;refine (?_:bnd (Yd O (.cons f .nil) ρ g1) _=_);refine eqR (Yfq h2) ?_;rfl
theorem Qn4 (h:abi O .isInt [c]=some d):∃r,((∃i,c=.int i∧r=true)∨((c=.none∨∃xs,c=.tup xs)∧r=false))∧d=.bool r:=by
 cases c<;>first|exact ns h|skip
 ·cases h;exact ⟨_,.inr ⟨.inl rfl,rfl⟩,rfl⟩
 ·cases h;exact ⟨_,.inl ⟨_,rfl,rfl⟩,rfl⟩
 ·cases h;exact ⟨_,.inr ⟨.inr ⟨_,rfl⟩,rfl⟩,rfl⟩
@[elab_as_elim] theorem iiK {f:Int→Int→Option D} {a:D} {M:D→D→Prop} (h:ii f a b=some d) (k:∀i j,f i j=some d→M (.int i) (.int j)):M a b:=by
 cases a<;>first|exact ns h|skip
 cases b<;>first|exact ns h|exact k _ _ h
@[elab_as_elim] theorem Qnf {M:D→D→D→Prop} (h:abi O .listR [c,c']=some d) (k:∀i j:Int,(Q2 i&&0≤j-i&&j-i≤1048576)=true→M (.int i) (.int j) (.lst (Qbk i (j-i).toNat))):M c c' d:=
 iiK (M:=fun c c'=>M c c' d) h fun i j h=>by
  obtain ⟨q,h⟩:=Q5 h;obtain rfl:=Option.some.inj h;exact k i j q
theorem Yey (W:Wd hB Γ mg mb) (hS:Qfp P w O.sort) {k:Bi}{es:CEs}(he:SEs P w hB Γ n O es) (he2:∀a b,es=.cons a (.cons b .nil)→SE P w hB Γ n O a∧SE P w hB Γ n O b) (he1:∀a,es=.cons a .nil→SE P w hB Γ n O a):SE P w hB Γ n O (.bi k es):=fun sc nm e' env ρ m K z g s A d g' Q E hi S hA b F h p=>
 Y8 h fun ds g1 h1 h=>Qnr h (fun h2 p=>Qvb (N:=fun k es e'=>SEs P w hB Γ n O es→(∀a b,es=.cons a (.cons b .nil)→SE P w hB Γ n O a∧SE P w hB Γ n O b)→(∀a,es=.cons a .nil→SE P w hB Γ n O a)→Yd O es ρ g=some (ds,g1)→abi O k ds=some d→wpAny (model P w) A (eval e' env) Q E s) hi
  (fun e x y np nq a' pos hx hy ie Y Y he1 h1 h2=>Qq5 (M:=fun ds=>abi O .isInt ds=some d→_) h1 (fun c h3 h2=>by
   refine wpAny_Call_ofName (Yf W b F.fn F.gl F.bi S hx (.inr (W.bu _ _ rfl)) ?_);refine Yl (.inl ⟨_,rfl⟩) (by rw [Qb5 ie];rfl:(backTo pos (starEach [a',Expr.Name y nq] env)).any (·.1)=false) ?_;refine wpAny_items_cons (he1 _ rfl _ _ _ _ _ _ _ _ _ _ _ _ _ _ _ ie S hA b F h3 fun v z1 s1 b1 st1 r1=>?_) (Qb5 ie _ _);have F1:=F.step b b1 st1;refine wpAny_items_cons (Yf W b1 F1.fn F1.gl F1.bi S hy (.inr (W.bu _ _ rfl)) (wpAny_items_nil ?_)) rfl;obtain ⟨r,q,rfl⟩:=Qn4 h2;exact Qtw hA b1 r1 q (p.step st1)) h2)
  (fun ea eb x y np nq a' b' pos q hx hy ia ib Y he2 Y h1 h2=>Qx8 (M:=fun ds=>abi O .listR ds=some d→_) h1 (fun c c3 g2 h3 h5 h2=>Qnf (M:=fun c c3 d=>Qb O ea ρ g=some (c,g2)→Qb O eb ρ g2=some (c3,g1)→Jb P w hB Γ z s g1 d Q→_) h2 (fun i j hc h3 h5 p=>by
   refine wpAny_Call_ofName (Yf W b F.fn F.gl F.bi S hx (.inr (W.bu _ _ rfl)) (Yl (.inr ⟨_,rfl⟩) rfl (wpAny_items_cons (wpAny_Call_ofName (Yf W b F.fn F.gl F.bi S hy (.inr (W.bu _ _ rfl)) ?_)) rfl)));refine Yl (.inr ⟨_,rfl⟩) (by rw [Qb5 ia,Qb5 ib];rfl:(backTo q (starEach [a',b'] env)).any (·.1)=false) ?_;refine wpAny_items_cons ((he2 _ _ rfl).1 _ _ _ _ _ _ _ _ _ _ _ _ _ _ _ ia S hA b F h3 fun v z1 s1 b1 st1 r1=>?_) (Qb5 ia _ _);refine wpAny_items_cons ((he2 _ _ rfl).2 _ _ _ _ _ _ _ _ _ _ _ _ _ _ _ ib S hA b1 (F.step b b1 st1) h5 fun u z2 s2 b2 st2 r2=>wpAny_items_nil (V4 r1 fun t1=>V4 r2 fun t2=>Qeo (wpAny_items_nil ?_))) (Qb5 ib _ _);have k3:=Qv s2.heap { cls:=.type "range",data:=.fields #[.int i t1,.int j t2,.int 1 s2.toks] };exact Qur hA (b2.grown k3) (Heap.get?_push_size _ rfl) (ba1 (ba1 hc)) (of_decide_eq_true (ba2 (ba1 hc))) (of_decide_eq_true (ba2 hc)) (p.step ((st1.trans st2).trans (Step.grown b2 k3)))) h3 h5 p) h2)
  (fun k e x np a' pos hk hx ie he Y Y h1 h2=>Qdv W he (show Qr5 (Ydw k)=some (Qzu k) by cases k<;>first|rfl|exact absurd rfl hk.1|exact absurd rfl hk.2) (Ql2 ie) hx S hA b F h1 fun vs z1 s1 b1 st1 r1=>Yd3 hS hA b1 W.low hk r1 h2 (p.step st1)) he he2 he1 h1 h2) p
set_option tactic.hygienic true in
@[elab_as_elim] theorem Yc4 {a:At} {M:D→Prop} (h:Yaf O c a=some d) (k:(a=.sizes∧d=.tup O.szs)∨(a=.fields∧d=.hnd .flds)→M (.hnd .thing)):M c:=by
 cases c<;>first|exact ns h|skip
 rename_i q;cases q<;>first|exact ns h|skip
 cases a
 ·cases h;exact k (.inl ⟨rfl,rfl⟩)
 ·cases h;exact k (.inr ⟨rfl,rfl⟩)
set_option tactic.hygienic true in
@[elab_as_elim] theorem Yex {M:D→D→D→Prop} (h:Ygi c c'=some d) (k:M (.hnd .heap) (.int 0) (.hnd .thing)):M c c' d:=by
 cases c<;>first|exact ns h|skip
 rename_i q;cases q<;>first|exact ns h|skip
 cases c'<;>first|exact ns h|skip
 obtain ⟨rfl,h⟩:=Q5 h;obtain rfl:=Option.some.inj h;exact k
theorem Qx5 (hO:OrcOk P w hB Γ mg n O) {a:At}(he:SE P w hB Γ n O e):SE P w hB Γ n O (.attr e a):=fun sc nm e' env ρ m K z g s A d g' Q E hi S hA b F h p=>Qlx hi fun f r fn as k2 p2 a1 q Y ix=>Y8 h fun c g1 h1 h=>Qnr h (fun h2 p=>
 Attribute_any_ (he _ _ _ _ _ _ _ _ _ _ _ _ _ _ _ ix S hA b F h1 fun v z1 s1 b1 st1 r1=>Yc4 (M:=fun c=>Rd P w Γ z1 v c→_) h2 (fun ha r1=>Qdu r1 fun h3=>hO.att a d A z1 _ s1 Q E ha h3 b1 (p.step st1)) r1) (by cases fn<;>rfl)) p
theorem Yco (hO:OrcOk P w hB Γ mg n O) {hh a:CE}(hh1:SE P w hB Γ n O hh) (ha:SE P w hB Γ n O a):SE P w hB Γ n O (.obj hh a):=fun sc nm e' env ρ m K z g s A d g' Q E hi S hA b F h p=>Qo6 hi fun i x np ap a' pos hx ia hl e0=>
 Y8 h fun c g1 h1 h=>Y8 h fun c2 g2 h2 h=>Qnr h (fun h4 p=>Yex (M:=fun c c2 d=>Qb O hh ρ g=some (c,g1)→Qb O a ρ g1=some (c2,g2)→Jb P w hB Γ z s g2 d Q→_) h4 (fun h1 h2 p=>by
  refine (?_:wpAny _ _ (do
   let ov ←eval (.Name x np) env
   standAt ap.atName
   methodCall (.Name x np) (Str.ofString "object") ap pos env ov 1 (backTo pos (starEach [a'] env)) []) _ _ _)
  refine wpAny_bind (hh1 _ _ _ _ _ _ _ _ _ _ _ _ _ _ _ (e0.symm▸hx:isE sc nm hh (.Name x np)=true) S hA b F h1 fun v z1 s1 b1 st1 r1=>wpAny_bind (wpAny_standAt (Qdu r1 fun h3=>?_)));obtain ⟨f,o,fd,f1,f2,gm,cl⟩:=hO.obj h3;have hp:methodCallPos true (.Name x np) env ap pos=pure pos:=by
   unfold methodCallPos;refine eqR (show (!true||ap.endLine==pos.line)=true by rw [hl];rfl) ?_;rfl
  unfold methodCall;refine eqR ((by rw [Qb5 ia];rfl:methodCallForm 1 (backTo pos (starEach [a'] env)) []=true)) ?_;refine wpAny_bind (wpAny_holding (gm A z1 g1 s1 _ _ _ b1 ?_));refine eqR (hp) ?_;refine wpAny_bind (wpAny_pure (Calls.callWith_function (o:=o) (fd:=fd) (Qu (by rw [Qb5 ia];rfl:(backTo pos (starEach [a'] env)).any (·.1)=false) ?_)));refine wpAny_items_cons (ha _ _ _ _ _ _ _ _ _ _ _ _ _ _ _ ia S hA b1 (F.step b b1 st1) h2 fun v z2 s2 b2 st2 r2=>wpAny_items_nil ⟨⟨Qg b2 _ _ f1,f2⟩,?_⟩) (Qb5 ia _ _);exact wpAny_call (cl v z2 _ s2 A _ hA b2 r2 fun v z3 s3 b3 st3 r3=>p _ _ _ b3 ((st1.trans st2).trans st3) r3)) h1 h2 p) p
end
section
theorem Ybi (he:SE P w hB Γ n O e) (hf:∀sc nm e',isE sc nm e e'=true→∀env whole,PySem.isTrue e' env whole=(do let v ←whole;standAt e'.pos;holding [v] (truthy v))):ST P w hB Γ n O e:=
 fun sc nm e' env ρ m K z g s A t g' Q E hi S hA b F h p=>(hf _ _ _ hi _ _).symm▸wpAny_bind (he _ _ _ _ _ _ _ _ _ _ _ _ _ _ _ hi S hA b F h fun v z1 s1 b1 st1 r1=>Qs9 r1 (wpAny_bind (wpAny_standAt (wpAny_holding (wpAny_truthy_bool (p _ _ b1 st1))))))
theorem Ybt (he:ST P w hB Γ n O e):ST P w hB Γ n O (.not e):=fun sc nm e' env ρ m K z g s A t g' Q E hi S hA b F h p=>Qog hi fun x q il=>bBK h fun u g1 h1 h=>eqB h (fun p=>wpAny_isTrue_Not (he _ _ _ _ _ _ _ _ _ _ _ _ _ _ _ il S hA b F h1 p)) p
theorem Qqd {c u:Bool}{M:Model}{Q:Bool→Shared→Prop}(q:Q u s):(u=Qyq (cond c .And .Or)→wpAny M A (allTrue (cond c .And .Or) [] env) Q E s)∧(¬u=Qyq (cond c .And .Or)→Q u s):=
 ⟨fun h=>by subst h;cases c<;>exact wpAny_pure q,fun Y=>q⟩
theorem Ybo {c x y}(hx:ST P w hB Γ n O x) (hy:ST P w hB Γ n O y):ST P w hB Γ n O (.bop c x y):=fun sc nm e' env ρ m K z g s A d g' Q E hi S hA b F h p=>Qpw hi fun x' y' q ix iy=>bBK h fun t g1 h1 h=>
 wpAny_isTrue_BoolOp (all_cons (hx _ _ _ _ _ _ _ _ _ _ _ _ _ _ _ ix S hA b F h1 fun z1 s1 b1 st1=>⟨fun ht=>bBK (Qy3 h (ht.trans (J8 c))) fun u g2 h2 h=>eqB h (fun p=>
  all_cons (hy _ _ _ _ _ _ _ _ _ _ _ _ _ _ _ iy S hA b1 (F.step b b1 st1) h2 fun z2 s2 b2 st2=>Qqd (p z2 s2 b2 (st1.trans st2)))) p,
  fun ht=>eqB (Qy2 h fun q=>ht (q.trans (J8 c).symm)) (fun p=>p _ _ b1 st1) p⟩))
theorem Qxn {c x y u}(hx:ST P w hB Γ n O x) (hy:ST P w hB Γ n O y) (hu:ST P w hB Γ n O u):ST P w hB Γ n O (.bop3 c x y u):=fun sc nm e' env ρ m K z g s A d g' Q E hi S hA b F h p=>Qkz hi fun x' y' u' q ix iy iu=>bBK h fun t g1 h1 h=>
 wpAny_isTrue_BoolOp (all_cons (hx _ _ _ _ _ _ _ _ _ _ _ _ _ _ _ ix S hA b F h1 fun z1 s1 b1 st1=>⟨fun ht=>bBK (Qy3 h (ht.trans (J8 c))) fun t2 g2 h2 h=>
  all_cons (hy _ _ _ _ _ _ _ _ _ _ _ _ _ _ _ iy S hA b1 (F.step b b1 st1) h2 fun z2 s2 b2 st2=>⟨fun ht2=>bBK (Qy3 h (ht2.trans (J8 c))) fun t3 g3 h3 h=>eqB h (fun p=>
   all_cons (hu _ _ _ _ _ _ _ _ _ _ _ _ _ _ _ iu S hA b2 ((F.step b b1 st1).step b1 b2 st2) h3 fun z3 s3 b3 st3=>Qqd (p z3 s3 b3 ((st1.trans st2).trans st3)))) p,
   fun ht2=>eqB (Qy2 h fun q=>ht2 (q.trans (J8 c).symm)) (fun p=>p _ _ b2 (st1.trans st2)) p⟩),
  fun ht=>eqB (Qy2 h fun q=>ht (q.trans (J8 c).symm)) (fun p=>p _ _ b1 st1) p⟩))
theorem Qzd {t x y}(ht:ST P w hB Γ n O t) (hx:ST P w hB Γ n O x) (hy:ST P w hB Γ n O y):ST P w hB Γ n O (.ite t x y):=fun sc nm e' env ρ m K z g s A d g' Q E hi S hA b F h p=>Qpv hi fun t' x' y' q it ix iy=>bBK h fun c g1 h1 h=>
 wpAny_bind (m:=PySem.isTrue t' env (eval t' env)) (f:=fun c=>if c then PySem.isTrue x' env (eval x' env) else PySem.isTrue y' env (eval y' env)) (ht _ _ _ _ _ _ _ _ _ _ _ _ _ _ _ it S hA b F h1 fun z1 s1 b1 st1=>by
  cases c
  ·exact aN (by decide) (hy _ _ _ _ _ _ _ _ _ _ _ _ _ _ _ iy S hA b1 (F.step b b1 st1) h fun z2 s2 b2 st2=>p _ _ b2 (st1.trans st2))
  ·exact aP rfl (hx _ _ _ _ _ _ _ _ _ _ _ _ _ _ _ ix S hA b1 (F.step b b1 st1) h fun z2 s2 b2 st2=>p _ _ b2 (st1.trans st2)))
theorem Yf2 {x:Option Bool}{t:Bool}(h:x.map D.bool=some (.bool t)):x=some t:=by
 cases x with
 |none=>cases h
 |some t=>cases h;rfl
theorem Ybu {o l r}(hl:SE P w hB Γ n O l) (hr:SE P w hB Γ n O r):ST P w hB Γ n O (.cmp o l r):=fun sc nm e' env ρ m K z g s A d g' Q E hi S hA b F h p=>Qpe hi fun l' o' r' q ho il ir hm=>
 Qwq (Qie (fa:=fun a b=>(Vw o a b).map .bool) hl hr il ir S hA b F h (Q:=fun c s₃=>∃t,c=.bool t∧Q t s₃) (fun v z' s' b' st' r'=>⟨_,Vt r',p _ _ b' st'⟩) fun v u da db z' s' b' ra rb hf p'=>Qc0 hA b' ho ra rb (Yf2 hf) p') hm
theorem Yaj {l r}(hl:SE P w hB Γ n O l) (hr:SE P w hB Γ n O r):ST P w hB Γ n O (.inE l r):=fun sc nm e' env ρ m K z g s A d g' Q E hi S hA b F h p=>Qo7 hi fun l' r' q il ir hm=>
 Qwq (Qie (fa:=fun a b=>(ain a b).map .bool) hl hr il ir S hA b F h (Q:=fun c s₃=>∃t,c=.bool t∧Q t s₃) (fun v z' s' b' st' r'=>⟨_,Vt r',p _ _ b' st'⟩) fun v u da db z' s' b' ra rb hf p'=>Ybg hA b' ra rb (Yf2 hf) p') hm
theorem Ya7 {t e}(he:SE P w hB Γ n O e):ST P w hB Γ n O (.isN t e):=fun sc nm e' env ρ m K z g s A d g' Q E hi S hA b F h p=>Qrq hi fun l' k q q' il=>Y8 h fun a g1 h1 h=>eqB h (fun p=>by
 refine Qwq (he _ _ _ _ _ _ _ _ _ _ _ _ _ _ _ il S hA b F h1 fun v z1 s1 b1 st1 r1=>wpAny_Constant_none ?_) (by cases t<;>rfl);have hn:=Qps r1;cases t
 ·exact is_none ⟨_,rfl,hn.symm▸p _ _ b1 st1⟩
 ·exact isNot_none ⟨_,rfl,hn.symm▸p _ _ b1 st1⟩) p
theorem Qyu {o₁ o₂ l m' r}(hl:SE P w hB Γ n O l) (hm:SE P w hB Γ n O m') (hr:SE P w hB Γ n O r):ST P w hB Γ n O (.cmp2 o₁ o₂ l m' r):=fun sc nm e' env ρ m K z g s A d g' Q E hi S hA b F h p=>Qlq hi fun l' o₁' o₂' mm r' q ho1 ho2 il im ir hb=>
 Y8 h fun a g1 h1 h=>Y8 h fun c g2 h2 h=>Yai (hl _ _ _ _ _ _ _ _ _ _ _ _ _ _ _ il S hA b F h1 fun v z1 s1 b1 st1 r1=>hm _ _ _ _ _ _ _ _ _ _ _ _ _ _ _ im S hA b1 (F.step b b1 st1) h2 fun u z2 s2 b2 st2 r2=>Qcj h fun t hc h=>
  Qc0 hA b2 ho1 (r1.le st2.le) r2 hc fun tv z3 s3 b3 st3 r3=>⟨t,Vt r3,by
   cases t
   ·exact eqB h (fun p=>p _ _ b3 ((st1.trans st2).trans st3)) p
   ·exact Y8 h fun x g3 h3 h=>Qpg h h3 fun h4 h3=>hr _ _ _ _ _ _ _ _ _ _ _ _ _ _ _ ir S hA b3 (((F.step b b1 st1).step b1 b2 st2).step b2 b3 st3) h3 fun x z4 s4 b4 st4 r4=>
     Qc0 hA b4 ho2 ((r2.le st3.le).le st4.le) r4 (Yf2 h4) fun v z5 s5 b5 st5 r5=>⟨_,Vt r5,p _ _ b5 ((((st1.trans st2).trans st3).trans st4).trans st5)⟩⟩) hb
theorem Qgm (_b:Base P w hB Γ z g s) (st:Step Γ z s z' s') (h:s'.heap.get? a=none) (b':Base P w hB Γ z' g' s'):s.heap.get? a=none:=by
 cases q:s.heap.get? a with
 |none=>rfl
 |some o=>
  by_cases hf:Γ.free a
  ·rw [st.keep a o hf q]at h;exact nomatch h
  ·exact absurd (Vc b' h) hf
@[elab_as_elim] theorem Qws {x:D} {M:Value→Prop} (r:Rd P w Γ z v x) (h:Qji x=some xs) (k:∀l vs k,z l=some (Vs vs k)∨z l=some (Qae vs k)→Rds P w Γ z vs xs→xs.length≤1048576→M (.ref l)):M v:=by
 cases x<;>first|exact ns h|skip
 ·exact Qj7 r fun a vs n e r=>by
   obtain ⟨hl,h⟩:=Q5 h;cases h;exact k a vs n (.inr e) r (of_decide_eq_true hl)
 ·exact Qq9 r fun a vs n e r=>by
   obtain ⟨hl,h⟩:=Q5 h;cases h;exact k a vs n (.inl e) r (of_decide_eq_true hl)
theorem Qdo (b:Base P w hB Γ z g s) (st:Step Γ z s z' s') (h:s'.heap.get? a=none) (b':Base P w hB Γ z' g' s'):∀c∈[a],s.heap.get? c=none:=fun c hc=>List.mem_singleton.mp hc▸Qgm b st h b'
theorem Qxa {e}(he:SE P w hB Γ n O e):SIt P w hB Γ n O (.over e):=fun sc nm it' te env ρ m K z g s A ds g' Q E hi hte S hA b F h p=>Y8 h fun x g1 h1 h=>Qpg h h1 fun h2 h1=>
 he _ _ _ _ _ _ _ _ _ _ _ _ _ _ _ (Quh hi) S hA b F h1 fun v z1 s1 b1 st1 r1=>Qws r1 h2 fun l vs k ho r Y=>SI.make b1.zin ho fun o hsi=>
  p (.ref s1.heap.objs.size) [s1.heap.objs.size] _ z1 _ (b1.grown (h':=s1.heap.push o) (t:=s1.toks) (Qv _ _)) (st1.trans (Step.grown b1 (Qv _ _))) (Turns.seq hA.hh te s1.heap.objs.size vs ds) ⟨hsi,r,Ql b1.zin (Qe _),Vc b1 (Qe _)⟩ (Qdo b st1 (Qe _) b1)
theorem Qkl {a c:Int}{r:Addr}{t u v:Tok}(hh:A.handled=none) (b1:Base P w hB Γ z1 g1 s1) (hr:IsRange s1.heap r a c 1 t u v) (h:Q2 a=true) (h0:0≤c-a) (h1:c-a≤1048576)
  (p:∀I St s',Base P w hB Γ z1 g1 s'→Step Γ z1 s1 z1 s'→Turns P w hB Γ A te (.ref I) [I] (Qbk a (c-a).toNat) St→St 0 z1 s'.heap→s1.heap.get? I=none→Q (.ref I) s'):wpAny (model P w) A (pyIter (.ref r)) Q E s1:=by
 obtain ⟨e1,e2⟩:=Qh4 h h0 h1;refine wpAny_pyIter_range hr e1 ?_;refine eqR (e2) ?_;refine p s1.heap.objs.size _ _ (b1.grown (h':=s1.heap.push { cls:=.type "range_iterator",data:=.fields #[rawInt a,rawInt (((c-a).toNat:Nat):Int),rawInt 1] }) (t:=s1.toks) (Qv _ _)) (Step.grown b1 (h':=s1.heap.push { cls:=.type "range_iterator",data:=.fields #[rawInt a,rawInt (((c-a).toNat:Nat):Int),rawInt 1] }) (t:=s1.toks) (Qv _ _)) (Turns.range hh te s1.heap.objs.size a (c-a).toNat) ⟨?_,Ql b1.zin (Qe _),Vc b1 (Qe _)⟩ (Qe _);refine (?_:(s1.heap.push _).get? s1.heap.objs.size=_);refine eqR (Heap.get?_push_size _ rfl) ?_;simp
theorem Ybc (W:Wd hB Γ mg mb) {e f}(he:SE P w hB Γ n O e) (hf:SE P w hB Γ n O f):SIt P w hB Γ n O (.rng e f):=fun sc nm it' te env ρ m K z g s A ds g' Q E hi hte S hA b F h p=>Qxt hi fun x np a' b' pos hx ia ib=>bIK h fun i g1 h1 h=>bIK h fun j g2 h2 h=>gdK h fun hc h=>eqK h (fun p=>by
 refine Qdv W (Qbw he (Qbw hf Qf9)) (v:=.type "range") rfl (Yb6 ia ib) hx S hA b F (Yil h1 h2) fun vs z1 s1 b1 st1 r1=>Qse r1 fun Y Y r1 r2=>V4 r1 fun t1=>V4 r2 fun t2=>Qeo ?_;have k3:=Qv s1.heap { cls:=.type "range",data:=.fields #[.int i t1,.int j t2,.int 1 s1.toks] };have b3:=b1.grown (t:=s1.toks+1) k3;have st3:=st1.trans (Step.grown b1 (t:=s1.toks+1) k3);exact Qkl hA.hh b3 (Heap.get?_push_size _ rfl) (ba1 (ba1 hc)) (of_decide_eq_true (ba2 (ba1 hc))) (of_decide_eq_true (ba2 hc)) fun I St s' b4 st4 T hst hn=>p _ _ _ _ _ b4 (st3.trans st4) T hst (Qdo b st3 hn b3)) p
theorem Qx6 (W:Wd hB Γ mg mb) {f}(hf:SE P w hB Γ n O f):SIt P w hB Γ n O (.rng1 f):=fun sc nm it' te env ρ m K z g s A ds g' Q E hi hte S hA b F h p=>Qt5 hi fun x np b' pos hx ib=>bIK h fun j g2 h2 h=>gdK h fun hc h=>eqK h (fun p=>by
 refine Qdv W (Qbw hf Qf9) (v:=.type "range") rfl (Ql2 ib) hx S hA b F (Yfq h2) fun vs z1 s1 b1 st1 r1=>Qtu r1 fun Y r2=>V4 r2 fun t2=>call_range_1 ?_;have k3:=Qv s1.heap { cls:=.type "range",data:=.fields #[.int 0 s1.toks,.int j t2,.int 1 (s1.toks+1)] };have b3:=b1.grown (t:=s1.toks+1+1) k3;have st3:=st1.trans (Step.grown b1 (t:=s1.toks+1+1) k3);have e:j-0=j:=Int.sub_zero j;exact Qkl hA.hh b3 (Heap.get?_push_size _ rfl) (by decide) (e.symm▸of_decide_eq_true (ba1 hc)) (e.symm▸of_decide_eq_true (ba2 hc)) fun I St s' b4 st4 T hst hn=>p _ _ _ _ _ b4 (st3.trans st4) (e▸T) hst (Qdo b st3 hn b3)) p
end
section
theorem Qpa {xs ys:List Value}{k1:Nat}(b:Base P w hB Γ z g s) (h1:z l1=some (sqO t1 xs k1)) (h2:z l2=some (sqO t2 ys k2))
  (h:∀h' N,s.heap.objs.size=N→ZipN z h' (N+4) (N+2) (N+3) [N,N+1] 0 [xs,ys] .none→(∀c o,s.heap.get? c=some o→h'.get? c=some o)→Q (.ref (N+4)) { s with heap:=h' }) :
  wpAny (model P w) A (call (.type "zip") [.ref l1,.ref l2]) Q E s:=by
 refine callType_new F.called_zip (by decide) (F.typeCall_zip_2 _ _) (F.newCall_zip_2 _ _) (fun obj=>F.args_object_init_3 obj _ _) F.entry_zip_new
  (Qnu t1 t2 l1 l2 xs ys k1 k2) ⟨b.zin _ _ h1,b.zin _ _ h2,?_⟩
 have z1:(s.heap.push (Yn t1 l1)).objs.size=s.heap.objs.size+1:=Heap.size_push ..;have z2:((s.heap.push (Yn t1 l1)).push (Yn t2 l2)).objs.size=s.heap.objs.size+2:=by rw [Heap.size_push,z1]
 have z3:(zp3 s.heap t1 t2 l1 l2).objs.size=s.heap.objs.size+3:=by rw [Heap.size_push,z2]
 have z4:(zp4 s.heap t1 t2 l1 l2).objs.size=s.heap.objs.size+4:=by rw [Heap.size_push,z3]
 have g5:(zp5 s.heap t1 t2 l1 l2).get? (zp4 s.heap t1 t2 l1 l2).objs.size=some _:=Heap.get?_push_size _ rfl;have g4:(zp5 s.heap t1 t2 l1 l2).get? (zp3 s.heap t1 t2 l1 l2).objs.size=some _:=Heap.get?_push_of_some _ (Heap.get?_push_size _ rfl);have g3:(zp5 s.heap t1 t2 l1 l2).get? ((s.heap.push (Yn t1 l1)).push (Yn t2 l2)).objs.size=some _:=Heap.get?_push_of_some _ (Heap.get?_push_of_some _ (Heap.get?_push_size _ rfl));have g2:(zp5 s.heap t1 t2 l1 l2).get? (s.heap.push (Yn t1 l1)).objs.size=some (Yn t2 l2):=Heap.get?_push_of_some _ (Heap.get?_push_of_some _ (Heap.get?_push_of_some _ (Heap.get?_push_size _ rfl)));refine (?_:_∧_);rw [z2,z3,z4]at g5;rw [z1,z2]at g3;rw [z3]at g4;rw [z1]at g2;refine eqR (z4) ?_;refine ⟨⟨_,g5,rfl⟩,h _ _ rfl ⟨g5,g3,⟨[_,_],rfl,g4⟩,.cons (SI.of h1 (Heap.get?_push_of_some _ (Heap.get?_push_of_some _ (Heap.get?_push_of_some _ (Heap.get?_push_of_some _ (Heap.get?_push_size _ rfl)))):(zp5 s.heap t1 t2 l1 l2).get? s.heap.objs.size=some (Yn t1 l1))) (.cons (SI.of h2 g2) .nil),?_,?_,(by decide:2≤8),nofun⟩ fun c o x=>
  Heap.get?_push_of_some _ (Heap.get?_push_of_some _ (Heap.get?_push_of_some _ (Heap.get?_push_of_some _ (Heap.get?_push_of_some _ x))))⟩
 ·generalize s.heap.objs.size=N;simp
 ·intro c hc;refine Ql b.zin (Qn ?_);simp at hc;rcases hc with rfl|rfl|rfl|rfl|rfl<;>first|exact Nat.le_refl _|exact Nat.le_add_right _ _
theorem Qov {l3:Addr}{t3:Bool}{xs ys:List Value}{k1 k3:Nat}(b:Base P w hB Γ z g s) (h1:z l1=some (sqO t1 xs k1)) (h2:z l2=some (sqO t2 ys k2)) (h3:z l3=some (sqO t3 us k3))
  (h:∀h' N,s.heap.objs.size=N→ZipN z h' (N+5) (N+3) (N+4) [N,N+1,N+2] 0 [xs,ys,us] .none→(∀c o,s.heap.get? c=some o→h'.get? c=some o)→Q (.ref (N+5)) { s with heap:=h' }) :
  wpAny (model P w) A (call (.type "zip") [.ref l1,.ref l2,.ref l3]) Q E s:=by
 refine callType_new F.called_zip (by decide) (Qe8 _ _ _) (Qg0 _ _ _) (fun obj=>Qbu obj _ _ _) F.entry_zip_new
  (Qm2 t1 t2 t3 l1 l2 l3 xs ys us k1 k2 k3) ⟨b.zin _ _ h1,b.zin _ _ h2,b.zin _ _ h3,?_⟩
 have z1:(s.heap.push (Yn t1 l1)).objs.size=s.heap.objs.size+1:=Heap.size_push ..;have z2:((s.heap.push (Yn t1 l1)).push (Yn t2 l2)).objs.size=s.heap.objs.size+2:=by rw [Heap.size_push,z1]
 have z3:(zq3 s.heap t1 t2 t3 l1 l2 l3).objs.size=s.heap.objs.size+3:=by rw [Heap.size_push,z2]
 have z4:(zq4 s.heap t1 t2 t3 l1 l2 l3).objs.size=s.heap.objs.size+4:=by rw [Heap.size_push,z3]
 have z5:(zq5 s.heap t1 t2 t3 l1 l2 l3).objs.size=s.heap.objs.size+5:=by rw [Heap.size_push,z4]
 have g6:(zq6 s.heap t1 t2 t3 l1 l2 l3).get? (zq5 s.heap t1 t2 t3 l1 l2 l3).objs.size=some _:=Heap.get?_push_size _ rfl;have g5:(zq6 s.heap t1 t2 t3 l1 l2 l3).get? (zq4 s.heap t1 t2 t3 l1 l2 l3).objs.size=some _:=Heap.get?_push_of_some _ (Heap.get?_push_size _ rfl);have g4:(zq6 s.heap t1 t2 t3 l1 l2 l3).get? (zq3 s.heap t1 t2 t3 l1 l2 l3).objs.size=some _:=Heap.get?_push_of_some _ (Heap.get?_push_of_some _ (Heap.get?_push_size _ rfl));have g3:(zq6 s.heap t1 t2 t3 l1 l2 l3).get? ((s.heap.push (Yn t1 l1)).push (Yn t2 l2)).objs.size=some (Yn t3 l3):=Heap.get?_push_of_some _ (Heap.get?_push_of_some _ (Heap.get?_push_of_some _ (Heap.get?_push_size _ rfl)));have g2:(zq6 s.heap t1 t2 t3 l1 l2 l3).get? (s.heap.push (Yn t1 l1)).objs.size=some (Yn t2 l2):=Heap.get?_push_of_some _ (Heap.get?_push_of_some _ (Heap.get?_push_of_some _ (Heap.get?_push_of_some _ (Heap.get?_push_size _ rfl))));refine (?_:_∧_);rw [z3,z4,z5]at g6;rw [z1,z2,z3]at g4;rw [z4]at g5;rw [z2]at g3;rw [z1]at g2;refine eqR (z5) ?_;refine ⟨⟨_,g6,rfl⟩,h _ _ rfl ⟨g6,g4,⟨[_,_,_],rfl,g5⟩,.cons (SI.of h1 (Heap.get?_push_of_some _ (Heap.get?_push_of_some _ (Heap.get?_push_of_some _ (Heap.get?_push_of_some _ (Heap.get?_push_of_some _ (Heap.get?_push_size _ rfl))))):(zq6 s.heap t1 t2 t3 l1 l2 l3).get? s.heap.objs.size=some (Yn t1 l1))) (.cons (SI.of h2 g2) (.cons (SI.of h3 g3) .nil)),?_,?_,(by decide:3≤8),nofun⟩ fun c o x=>
  Heap.get?_push_of_some _ (Heap.get?_push_of_some _ (Heap.get?_push_of_some _ (Heap.get?_push_of_some _ (Heap.get?_push_of_some _ (Heap.get?_push_of_some _ x)))))⟩
 ·generalize s.heap.objs.size=N;simp
 ·intro c hc;refine Ql b.zin (Qn ?_);simp at hc;rcases hc with rfl|rfl|rfl|rfl|rfl|rfl<;>first|exact Nat.le_refl _|exact Nat.le_add_right _ _
theorem Qoi {l:Addr}{t:Bool}{xs:List Value}(b:Base P w hB Γ z g s) (h1:z l=some (sqO t xs k))
  (h:∀h' N,s.heap.objs.size=N→En z h' (N+1) N 0 xs→(∀c o,s.heap.get? c=some o→h'.get? c=some o)→Q (.ref (N+1)) { s with heap:=h' }) :
  wpAny (model P w) A (call (.type "enumerate") [.ref l]) Q E s:=by
 refine callType_new F.called_enumerate (by decide) (F.typeCall_enumerate_1 _) (F.newCall_enumerate_1 _) (fun obj=>F.args_object_init_2 obj _) F.entry_enumerate_new
  (Qnm t l xs k) ⟨b.zin _ _ h1,?_⟩
 have hz:(s.heap.push (Yn t l)).objs.size=s.heap.objs.size+1:=Heap.size_push ..;refine (?_:_∧_);refine eqR (hz) ?_;have he:IsEnum ((s.heap.push (Yn t l)).push { cls:=.type "enumerate",data:=.fields #[.none,.bool false,.ref s.heap.objs.size,rawInt 0,.none,.none] }) (s.heap.objs.size+1) s.heap.objs.size 0 .none:=by
  have:=Heap.get?_push_size (s.heap.push (Yn t l)) (o:={ cls:=.type "enumerate",data:=.fields #[.none,.bool false,.ref s.heap.objs.size,rawInt 0,.none,.none] }) rfl;rw [hz]at this;exact this
 refine ⟨⟨_,he,rfl⟩,h _ _ rfl ⟨⟨_,by simpa using he⟩,SI.of h1 (Heap.get?_push_of_some _ (Heap.get?_push_size _ rfl)),Nat.succ_ne_self _,Ql b.zin (Qn (Nat.le_succ _)),Ql b.zin (Qe _)⟩ fun c o x=>Heap.get?_push_of_some _ (Heap.get?_push_of_some _ x)⟩
theorem Qus {N a:Nat}{l:List Nat}(h:a∈l.map (N+·)):N≤a:=by
 obtain ⟨k,_,rfl⟩:=List.mem_map.mp h;exact Nat.le_add_right _ _
theorem Qcs (b:Base P w hB Γ z g s) (st:Step Γ z s z' s') (b':Base P w hB Γ z' g' s') (l:List Nat):∀c∈l.map (s'.heap.objs.size+·),s.heap.get? c=none:=fun c hc=>Qgm b st (Qn (Qus hc)) b'
theorem Qh3 (b':Base P w hB Γ z' g' s') (l:List Nat):∀c∈l.map (s'.heap.objs.size+·),Γ.free c:=fun c hc=>Vc b' (Qn (Qus hc))
theorem Qxq (W:Wd hB Γ mg mb) {f}(hf:SE P w hB Γ n O f):SIt P w hB Γ n O (.enum f):=fun sc nm it' te env ρ m K z g s A ds g' Q E hi hte S hA b F h p=>Qs7 hi fun x np b' pos hx ib=>Y8 h fun j g2 h2 h=>Qcj h fun as has h=>eqK h (fun p=>by
 refine gk fun Ω κ=>?_;obtain ⟨elts,kk,pp,rfl⟩:=hte;refine κ ?_;refine Qdv W (Qbw hf Qf9) (v:=.type "enumerate") rfl (Ql2 ib) hx S hA b F (Yfq h2) fun vs z1 s1 b1 st1 r1=>Qtu r1 fun Y r2=>Qws r2 has fun l vs k ho r Y=>?_;obtain ⟨t,ho⟩:=Qns ho;refine Qoi b1 ho fun h' N hN en k'=>?_;subst hN;obtain ⟨old,he⟩:=en.en;refine wpAny_pyIter_enum he (p _ _ _ z1 _ (b1.grown (t:=s1.toks) k') (st1.trans (Step.grown b1 k')) (Turns.enum hA.hh elts kk pp _ _ vs as) ⟨en,r,Vc b1 (Qn (Nat.le_succ _)),Vc b1 (Qe _)⟩ (Qcs b st1 b1 [1,0]))) p
theorem Qzl (W:Wd hB Γ mg mb) {es}(hes:SEs P w hB Γ n O es):SIt P w hB Γ n O (.zip es):=fun sc nm it' te env ρ m K z g s A ds g' Q E hi hte S hA b F h p=>Qyf hi fun x np es' pos hx ie=>Y8 h fun xs g2 h2 h=>Qcj h fun ls hls h=>gdK h fun hok h=>eqK h (fun p=>by
 obtain ⟨elts,kk,pp,rfl⟩:=hte;refine Qdv W hes (v:=.type "zip") rfl ie hx S hA b F h2 fun vs z1 s1 b1 st1 r1=>Ycg (N:=fun ls=>Quj xs=some ls→(∀i W St z' s',Base P w hB Γ z' g2 s'→Step Γ z s z' s'→Turns P w hB Γ A _ i W (Qav ls) St→St 0 z' s'.heap→(∀a∈W,s.heap.get? a=none)→Q i s')→_) hok
  (fun a c h1 h3 hls p=>Qif (N:=fun xs=>Rds P w Γ z1 vs xs→_) hls (fun x1 r ha hls=>Qif (N:=fun r=>Rds P w Γ z1 vs (x1::r)→_) hls fun x2 r hc hls=>Qvo (N:=fun r=>Rds P w Γ z1 vs (x1::x2::r)→_) hls fun r1=>Qse r1 fun Y Y r1 r2=>
   Qws r1 ha fun l1 v1 k1 ho1 q1 Y=>Qws r2 hc fun l2 v2 k2 ho2 q2 Y=>?_) r1)
  (fun a c d h1 h3 h4 hls p=>Qif (N:=fun xs=>Rds P w Γ z1 vs xs→_) hls (fun x1 r ha hls=>Qif (N:=fun r=>Rds P w Γ z1 vs (x1::r)→_) hls fun x2 r hc hls=>Qif (N:=fun r=>Rds P w Γ z1 vs (x1::x2::r)→_) hls fun x3 r hd hls=>Qvo (N:=fun r=>Rds P w Γ z1 vs (x1::x2::x3::r)→_) hls fun r1=>Yb9 r1 fun Y Y Y r1 r2 r3=>
   Qws r1 ha fun l1 v1 k1 ho1 q1 Y=>Qws r2 hc fun l2 v2 k2 ho2 q2 Y=>Qws r3 hd fun l3 v3 k3 ho3 q3 Y=>?_) r1) hls p
 ·obtain ⟨t1,ho1⟩:=Qns ho1;obtain ⟨t2,ho2⟩:=Qns ho2;refine Qpa b1 ho1 ho2 fun h' N hN zp k'=>?_;subst hN;exact wpAny_pyIter_zip zp.zp (p _ _ _ z1 _ (b1.grown (t:=s1.toks) k') (st1.trans (Step.grown b1 k')) (Turns.zipN hA.hh elts kk pp _ _ _ [_,_] v1 [v2] _ [_] Qs0 (Qt7 h3)) ⟨zp,.cons q1 (.cons q2 .nil),Qh3 b1 [4,2,3,0,1]⟩ (Qcs b st1 b1 [4,2,3,0,1]))
 ·refine gk fun Ω κ=>?_;obtain ⟨t1,ho1⟩:=Qns ho1;obtain ⟨t2,ho2⟩:=Qns ho2;obtain ⟨t3,ho3⟩:=Qns ho3;refine κ ?_;refine Qov b1 ho1 ho2 ho3 fun h' N hN zp k'=>?_;subst hN;exact wpAny_pyIter_zip zp.zp (p _ _ _ z1 _ (b1.grown (t:=s1.toks) k') (st1.trans (Step.grown b1 k')) (Turns.zipN hA.hh elts kk pp _ _ _ [_,_,_] v1 [v2,v3] _ [_,_] Qsa (Qtc h3 h4)) ⟨zp,.cons q1 (.cons q2 (.cons q3 .nil)),Qh3 b1 [5,3,4,0,1,2]⟩ (Qcs b st1 b1 [5,3,4,0,1,2]))) p
end
section
@[elab_as_elim] theorem Qmb {i te} (h:isT nm (.nm i) te=true) (g:∀x p,nm[i]?=some x→M (.Name (Str.ofString x) p)):M te:=Qmo h fun Y p h=>Qfe (N:=fun y=>M (.Name y p)) h fun x h1 Y=>g x p h1
@[elab_as_elim] theorem Qlu {ts te} (h:isT nm (.tup ts) te=true) (g:∀es k p,Qtz nm ts es=true→M (.Tuple es k p)):M te:=Qyj h g
@[elab_as_elim] theorem Qlt {es} {M:List Expr→Prop} (h:Qtz nm .nil es=true) (g:M []):M es:=mEK h g
@[elab_as_elim] theorem Qiq {t r es} {M:List Expr→Prop} (h:Qtz nm (.cons t r) es=true) (g:∀x xs,isT nm t x=true→Qtz nm r xs=true→M (x::xs)):M es:=mCK h fun x xs h=>g x xs (ba1 h) (ba2 h)
theorem Qrt {t x env}(h:isT nm t x=true) (xs:List Expr):assignEach (x::xs) env=(false,assign x env)::assignEach xs env:=by
 cases t with
 |nm i=>exact Qmb h fun x p Y=>rfl
 |tup ts=>exact Qlu h fun es k p Y=>rfl
noncomputable def Qt3 (ts:CTs):Nat:=CTs.rec (motive_1:=fun Y=>Nat) (motive_2:=fun Y=>Nat) (fun Y=>0) (fun Y Y=>0) 0 (fun Y Y Y n=>n+1) ts
theorem Qmf {env}:∀{es:List Expr},Qtz nm ts es=true→(assignEach es env).findIdx? (·.1)=none∧(assignEach es env).length=Qt3 ts:=
 CTs.rec (motive_1:=fun Y=>True) (motive_2:=fun ts=>∀{es:List Expr},Qtz nm ts es=true→(assignEach es env).findIdx? (·.1)=none∧(assignEach es env).length=Qt3 ts) (fun Y=>trivial) (fun Y Y=>trivial) (fun h=>Qlt h ⟨rfl,rfl⟩)
  (fun t r Y ih es h=>Qiq h fun x xs h1 h2=>by
   rw [Qrt h1];refine eqR (List.findIdx?_cons) ?_;rw [List.length_cons];refine eqR ((ih h2).1) ?_;rw [(ih h2).2];exact ⟨rfl,rfl⟩) ts
theorem Qrd:∀{ρ ρ':Q8}{ds:List D},J9 ts ρ ds=some ρ'→ds.length=Qt3 ts:=
 CTs.rec (motive_1:=fun Y=>True) (motive_2:=fun ts=>∀{ρ ρ':Q8} {ds:List D},J9 ts ρ ds=some ρ'→ds.length=Qt3 ts) (fun Y=>trivial) (fun Y Y=>trivial) (fun h=>lNK h fun Y=>rfl)
  (fun t r Y ih Y Y Y h=>lCK h fun d ds h=>Qcj h fun Y Y h=>congrArg (·+1) (ih h)) ts
end
section
variable {K:Addr→Prop}
noncomputable def BT (P:Program) (w:World) (hB:Heap) (Γ:Gm) (K:Addr→Prop) (env:Env) (nm:List String) (A:Around) (E:Value→Shared→Prop) (t:CT):Prop:=∀{te:Expr} {ρ ρ':Q8} {d:D} {v:Value} {z:Z} {g:Gs} {s:Shared} {m:Str→Option Value} {Q:Unit→Shared→Prop},isT nm t te=true→Qdb t ρ d=some ρ'→Rd P w Γ z v d →
  Base P w hB Γ z g s→Kp K s.heap→Fro P w Γ K z s.heap env nm ρ m→(∀s' m',Base P w hB Γ z g s'→SStep Γ K z s z s'→Fro P w Γ K z s'.heap env nm ρ' m'→Q () s')→wpAny (model P w) A (assign te env v) Q E s
noncomputable def BTs (P:Program) (w:World) (hB:Heap) (Γ:Gm) (K:Addr→Prop) (env:Env) (nm:List String) (A:Around) (E:Value→Shared→Prop) (ts:CTs):Prop:=∀{es:List Expr} {ρ ρ':Q8} {ds:List D} {vs:List Value} {z:Z} {g:Gs} {s:Shared} {m:Str→Option Value} {Q:Unit→Shared→Prop},Qtz nm ts es=true→J9 ts ρ ds=some ρ'→Rds P w Γ z vs ds →
  Base P w hB Γ z g s→Kp K s.heap→Fro P w Γ K z s.heap env nm ρ m→(∀s' m',Base P w hB Γ z g s'→SStep Γ K z s z s'→Fro P w Γ K z s'.heap env nm ρ' m'→Q () s')→wpAny (model P w) A (assignInOrder ((assignEach es env).map (·.2)) vs) Q E s
theorem Ygh (i:Nat):BT P w hB Γ K env nm A E (.nm i):=fun ht ha r b kp F hQ=>Qmb ht fun x p hi=>gdK ha fun hw ha=>by
 obtain rfl:=Option.some.inj ha;exact wpAny_assign_Name (F.store (b':=.val _) b hi hw r (fun Y Y Y q=>by exact Bool.noConfusion q) fun h' t m' b' st F' Y=>hQ _ m' b' st F')
theorem Yay (hh:A.handled=none) (ih:BTs P w hB Γ K env nm A E ts):BT P w hB Γ K env nm A E (.tup ts):=fun {te ρ ρ' d v z g s m Q} ht ha r b kp F hQ=>Qlu ht fun es k p hs=>Qzb (M:=fun d=>Rd P w Γ z v d→_) ha (fun ds ha r=>Qj7 r fun a vs n e r=>by
 refine assign_Tuple_tuple (items:=vs.toArray) hh ⟨_,b.zin _ _ e,rfl,n,rfl⟩ (by rw [(Qmf hs).2,List.size_toArray,r.length,Qrd ha]) (Qmf hs).1 fun h' hx=>?_;have k':∀a o,s.heap.get? a=some o→h'.get? a=some o:=fun a o e=>hx a o (Nat.ne_of_lt (Heap.lt_size e)) e;have b1:=b.grown (t:=s.toks) k';have st1:=Step.grown b (t:=s.toks) k';have ss1:=st1.ss kp;exact ih hs ha r b1 (kp.ss b1 ss1) (F.step b b1 st1) fun s' m' b' st F'=>hQ s' m' b' (ss1.trans st) F') r
theorem Qv4:BTs P w hB Γ K env nm A E .nil:=fun {es ρ ρ' ds vs z g s m Q} ht ha rr b kp F hQ=>Qlt ht (lNK (M:=fun ds=>Rds P w Γ z vs ds→_) ha (fun ha Y=>by
 obtain rfl:=Option.some.inj ha;exact assignInOrder_nil (hQ s m b (SStep.refl ..) F)) rr)
theorem Qto {t:CT}{r:CTs}(ht1:BT P w hB Γ K env nm A E t) (ih:BTs P w hB Γ K env nm A E r):BTs P w hB Γ K env nm A E (.cons t r):=fun {es ρ ρ' ds vs z g s m Q} ht ha rr b kp F hQ=>Qiq ht fun x xs h1 h2=>lCK (M:=fun ds=>Rds P w Γ z vs ds→_) ha (fun d ds ha rr=>Qcj ha fun ρ₁ h3 ha=>Qt2 rr fun v us r1 r2=>by
 rw [Qrt h1];exact assignInOrder_cons (ht1 h1 h3 r1 b kp F fun s1 m1 b1 st1 F1=>ih h2 ha r2 b1 (kp.ss b1 st1) F1 fun s' m' b' st F'=>hQ s' m' b' (st1.trans st) F')) rr
theorem Qiw (hh:A.handled=none) (t:CT):BT P w hB Γ K env nm A E t:=CT.rec (motive_1:=BT P w hB Γ K env nm A E) (motive_2:=BTs P w hB Γ K env nm A E) Ygh (fun Y ih=>Yay hh ih) Qv4 (fun Y Y a b=>Qto a b) t
theorem Qcy.mono {x:Str}{bb:Option B}(no:∀{a:Addr},¬K a→(∃o,h.get? a=some o)→¬K' a) (S:Qcy P w Γ K z h env m x bb):Qcy P w Γ K' z h env m x bb:=by
 have wr:Wr K z h env x→Wr K' z h env x:=fun hw=>hw.imp id fun ⟨k,c,v,l,hc,zc,kc⟩=>⟨k,c,v,l,hc,zc,no kc (let ⟨o,e,_⟩:=hc;⟨o,e⟩)⟩
 cases bb with
 |none=>exact wr S
 |some bb=>
  obtain ⟨S1,v,S2,S3⟩:=S;refine ⟨fun q=>wr (S1 q),v,S2,?_⟩;cases bb with
  |val d=>exact S3
  |cap d=>exact S3
  |own xs=>
   obtain ⟨a,e,h1,h4,h5⟩:=S3;exact ⟨a,e,h1,h4,no h5 (let ⟨_,_,g1,_,_⟩:=h1;⟨_,g1⟩)⟩
  |ownD es=>
   obtain ⟨a,e,h1,h4,h5,h6,h7⟩:=S3;exact ⟨a,e,h1,h4,no h5 (by obtain ⟨xs,ys,⟨o,e1,e2,g1,_⟩,_⟩:=h1;exact ⟨o,g1⟩),h6,h7⟩
theorem Fro.widen (F:Fro P w Γ K z s.heap env nm ρ m) (h:∀a,K' a→K a∨s.heap.get? a=none) (_:∀a,K a→K' a):Fro P w Γ K' z s.heap env nm ρ m:=by
 have no:∀{a:Addr},¬K a→(∃o,s.heap.get? a=some o)→¬K' a:=fun {a} k ⟨o,e⟩ q=>(h a q).elim k fun h=>nomatch h.symm.trans e;exact ⟨F.fn,F.gl,F.bi,F.len,F.nd,F.ns,F.zl,no F.kl (let ⟨lo,_,_,l1,_⟩:=F.ns;⟨lo,l1⟩),fun i x bb hi hb=>(F.slot i x bb hi hb).mono no,F.inj,F.cinj⟩
theorem Fro.narrow (F:Fro P w Γ K z h env nm ρ m) (h':∀a,K' a→K a):Fro P w Γ K' z h env nm ρ m:=
 ⟨F.fn,F.gl,F.bi,F.len,F.nd,F.ns,F.zl,fun q=>F.kl (h' _ q),fun i x bb hi hb=>(F.slot i x bb hi hb).mono fun k Y q=>k (h' _ q),F.inj,F.cinj⟩
noncomputable def Qmq (ρ₁ ρ:Q8):Prop:=ρ₁.length=ρ.length∧∀i,ρ[i]?=ρ₁[i]?∨(ρ[i]?=some none∧Qa7 ρ₁ i=true)
theorem Qmq.refl (ρ:Q8):Qmq ρ ρ:=⟨rfl,fun Y=>.inl rfl⟩
theorem Fro.back (F:Fro P w Γ K z s.heap env nm ρ₁ m) (h:Qmq ρ₁ ρ):Fro P w Γ K z s.heap env nm ρ m:=by
 refine ⟨F.fn,F.gl,F.bi,h.1▸F.len,F.nd,F.ns,F.zl,F.kl,fun i x bb hi hb=>?_,fun i j x y a hi hj oi oj=>?_,F.cinj⟩
 ·rcases h.2 i with q|⟨q,hw⟩
  ·exact F.slot i x bb hi (q▸hb)
  ·rw [q]at hb;obtain rfl:=Option.some.inj hb;exact Qss F hi hw
 ·have up:∀{i},Y7 ρ i→Y7 ρ₁ i:=fun {i} o=>by
   rcases h.2 i with q|⟨q,hw⟩
   ·unfold Y7 at o ⊢;rwa [q]at o
   ·rcases o with ⟨_,e⟩|⟨_,e⟩<;>rw [q]at e<;>exact nomatch e
  exact F.inj i j x y a hi hj (up oi) (up oj)
theorem Qmq.set {ρ₁ ρ:Q8}(h:Qmq ρ₁ ρ) {i:Nat}{d:D}(hi:ρ[i]?=some none):Qmq (ρ₁.set i (some (.val d))) ρ:=by
 refine ⟨by rw [List.length_set];exact h.1,fun j=>?_⟩;by_cases hj:j=i
 ·subst hj;refine .inr ⟨hi,?_⟩;unfold Qa7;refine eqR (List.getElem?_set_self (by rw [h.1];exact (List.getElem?_eq_some_iff.mp hi).1)) ?_;rfl
 ·rcases h.2 j with q|⟨q,hw⟩
  ·exact .inl (by rw [List.getElem?_set_ne (Ne.symm hj)];exact q)
  ·refine .inr ⟨q,?_⟩;unfold Qa7 at hw ⊢
   rwa [List.getElem?_set_ne (Ne.symm hj)]
noncomputable def KBt (t:CT):Prop:=∀{ρ₀ ρ ρ':Q8} {d:D},Qqk t ρ₀=true→Qmq ρ ρ₀→Qdb t ρ d=some ρ'→Qmq ρ' ρ₀
noncomputable def Yin (ts:CTs):Prop:=∀{ρ₀ ρ ρ':Q8} {ds:List D},Qjz ts ρ₀=true→Qmq ρ ρ₀→J9 ts ρ ds=some ρ'→Qmq ρ' ρ₀
theorem Qqq (t:CT):KBt t:=CT.rec (motive_1:=KBt) (motive_2:=Yin) (fun i ρ₀ ρ ρ' d hf hb h=>gdK h fun Y h=>by
  obtain rfl:=Option.some.inj h;exact hb.set (Qwm hf)) (fun ts ih ρ₀ ρ ρ' d hf hb h=>Qzb h fun xs h=>ih hf hb h)
 (fun {ρ₀ ρ ρ' ds} hf hb h=>lNK h fun h=>by cases h;exact hb)
 (fun t r iht ih {ρ₀ ρ ρ' ds} hf hb h=>lCK h fun d ds h=>Qcj h fun ρ₁ h1 h=>ih (ba2 hf) (iht (ba1 hf) hb h1) h) t
theorem Qes {t:CT}(h:Qai t ρ d=some ρ'):Qdb t ρ d=some ρ'∧Qmq ρ' ρ:=gdK h fun hf h=>⟨h,Qqq t hf (Qmq.refl ρ) h⟩
end
set_option tactic.hygienic true in
noncomputable def Qc3 (te itE:Expr) (ifs:List Expr) (it:Value) (env:Env) (body:Sem Unit) (c:Code):Sem Fin:=do
 standAt itE.pos
 match ←pyNext it with
 |none=>pure (.done .next)
 |some v=>
  letOwnedTupleGo te it v
  assign te env v
  let mut ok:=true
  for c in ifs do
   if ok then ok ←isTrue c env (eval c env)
  if ok then
   body
  again c
theorem Yf8 (elt te itE:Expr) (ifs:List Expr) (sc:Scope) (pos:Pos) (it acc:Value) (env:Env) :
  compTurn (.ListComp elt [⟨te,itE,ifs,0⟩] sc pos) 0 it acc env=Qc3 te itE ifs it env (do let _ ←call (.builtin "list.append") [acc,←eval elt env]) (.compLoop (.ListComp elt [⟨te,itE,ifs,0⟩] sc pos) 0 it acc env):=by rfl
set_option tactic.hygienic true in
noncomputable def Qrm (te itE:Expr) (ifs:List Expr) (it:Value) (env:Env) (body:Sem Fin→Sem Fin) (c:Code):Sem Fin:=do
 standAt itE.pos
 match ←pyNext it with
 |none=>pure (.done .next)
 |some v=>
  letOwnedTupleGo te it v
  assign te env v
  let mut ok:=true
  for c in ifs do
   if ok then ok ←isTrue c env (eval c env)
  if ok then body (again c) else again c
theorem Qmt {te itE ifs it env c}{body:Sem Fin→Sem Fin}{m:Sem Unit}(h:∀k,body k=m >>= fun Y=>k):Qrm te itE ifs it env body c=Qc3 te itE ifs it env m c:=by
 delta Qrm Qc3
 simp only [h]
noncomputable def Qq0 (e:Expr) (itE2:Expr) (acc:Value) (env:Env):Sem Unit:=do
 let x ←eval itE2 env
 standAt itE2.pos
 let x ←foldedSetIterable itE2 env x
 let _ ←runOwn (.compStart e 1 (←holding [x] (pyIter x)) acc env) env
theorem Qzh (elt te itE te2 itE2:Expr) (sc:Scope) (pos:Pos) (it acc:Value) (env:Env) :
  compTurn (.ListComp elt [⟨te,itE,[],0⟩,⟨te2,itE2,[],0⟩] sc pos) 0 it acc env=Qc3 te itE [] it env (Qq0 (.ListComp elt [⟨te,itE,[],0⟩,⟨te2,itE2,[],0⟩] sc pos) itE2 acc env) (.compLoop (.ListComp elt [⟨te,itE,[],0⟩,⟨te2,itE2,[],0⟩] sc pos) 0 it acc env):=by
 rw [←Qmt (body:=fun k=>do
   let x ←eval itE2 env
   standAt itE2.pos
   let x ←foldedSetIterable itE2 env x
   let _ ←runOwn (.compStart (.ListComp elt [⟨te,itE,[],0⟩,⟨te2,itE2,[],0⟩] sc pos) 1 (←holding [x] (pyIter x)) acc env) env
   k)]
 ·rfl
 ·intro k;unfold Qq0;simp only [bind_assoc,pure_bind]
theorem Ya3 (elt te itE te2 itE2:Expr) (sc:Scope) (pos:Pos) (it acc:Value) (env:Env) :
  compTurn (.ListComp elt [⟨te,itE,[],0⟩,⟨te2,itE2,[],0⟩] sc pos) 1 it acc env=Qc3 te2 itE2 [] it env (do let _ ←call (.builtin "list.append") [acc,←eval elt env]) (.compLoop (.ListComp elt [⟨te,itE,[],0⟩,⟨te2,itE2,[],0⟩] sc pos) 1 it acc env):=by rfl
section
theorem Qfz {e:Expr}{gs sc pos}{elt}(he:e=.ListComp elt gs sc pos) {te itE ifs}(hg:gs[dep]?=some ⟨te,itE,ifs,0⟩) {it acc:Value}
  (h0:codeAny (model P w) A (.compLoop e dep it acc env) R s)
  (h:∀E':Value→Shared→Prop,wpAny (model P w) A (pyIter it) (fun it' s'=>codeAny (model P w) A (.compLoop e dep it' acc env) R s') E' s) :
  codeAny (model P w) A (.compStart e dep it acc env) R s:=by
 subst he;refine codeAny_of_tree ?_;refine (?_:wpAny _ _ ((compStart (.ListComp elt gs sc pos) dep it acc env).onRaise (fun x=>do noteFrame x env;standAt theWindowsPlace)) _ _ s);refine wpAny_notedAt ?_;unfold compStart;have e1:clausesOf (.ListComp elt gs sc pos)=gs:=rfl;refine eqR (e1) ?_;refine eqR (hg) ?_;refine (?_:wpAny _ _ (ask >>= _) _ _ s);refine wpAny_bind (wpAny_askSetting (wpAny_ite ?_));split
 ·first
   |exact wpAny_bind (wpAny_pure (wpAny_pure (And.intro rfl h0)))
   |exact wpAny_pure (And.intro rfl h0)
 ·first
   |exact wpAny_bind (wpAny_rule (wpAny_bind (wpAny_standAt (wpAny_bind (wpAny_mono (h _) (fun it' s' h'=>wpAny_pure (And.intro rfl h')) fun Y Y x=>x)))))
   |(refine wpAny_bind (wpAny_rule ?_);show wpAny _ _ (standAt itE.pos >>= _) _ _ s;exact wpAny_bind (wpAny_standAt (wpAny_bind (wpAny_mono (h _) (fun it' s' h'=>wpAny_pure (And.intro rfl h')) fun Y Y x=>x))))
set_option tactic.hygienic true in
theorem Qhs {e:Expr}{elt gs sc pos}(he:e=.ListComp elt gs sc pos) {ifs:List Expr}{it acc:Value}{body:Sem Unit}
  (hturn:compTurn e dep it acc env=Qc3 te itE ifs it env body (.compLoop e dep it acc env))    (T:Turns P w hB Γ A te it W ds St)
  (J:Nat→Z→Gs→Shared→Prop) (hJ:∀i z g s,J i z g s→Base P w hB Γ z g s∧St i z s.heap)
  (hstep:∀i z g s d v z1 s1 (E':Value→Shared→Prop),J i z g s→ds[i]?=some d→Base P w hB Γ z1 g s1→StepW Γ W z s z1 s1→St (i+1) z1 s1.heap→Rd P w Γ z1 v d →
   wpAny (model P w) A (assign te env v) (fun Y s2=>wpAny (model P w) A (forIn ifs true fun c r=>if r=true then do let ok ←isTrue c env (eval c env);pure (ForInStep.yield ok) else pure (ForInStep.yield r)) (fun ok s3=>
    if ok=true then wpAny (model P w) A body (fun Y s4=>X2 fun z4 g4=>J (i+1) z4 g4 s4) E' s3 else X2 fun z4 g4=>J (i+1) z4 g4 s3) E' s2) E' s1)
  (hend:∀z g s s1,J ds.length z g s→Base P w hB Γ z g s1→StepW Γ W z s z s1→R (.ok .next) s1)    (hs:J 0 z g s) :
  codeAny (model P w) A (.compLoop e dep it acc env) R s:=by
 subst he;refine codeAny_loop rfl (fun k s=>X3 fun i z g=>A3 (J i z g s) (i≤ds.length) (k=ds.length-i)) (fun k s hI=>?_) ds.length ⟨0,z,g,hs,Nat.zero_le _,rfl⟩;obtain ⟨i,z,g,hj,hi,rfl⟩:=hI;obtain ⟨b,st⟩:=hJ _ _ _ _ hj;refine (?_:wpAny _ A ((compTurn (.ListComp elt gs sc pos) dep it acc env).onRaise (fun x=>do noteFrame x env;theTreesLotGoes x)) _ _ s);refine wpAny_noted ?_;refine eqR (hturn) ?_;unfold Qc3;refine wpAny_bind (wpAny_standAt (wpAny_bind ?_));by_cases hlt:i<ds.length
 ·have hd:ds[i]?=some ds[i]:=by simp [hlt]
  refine wpAny_mono (T.item (Q:=fun v s1=>∃z1,A4 (Base P w hB Γ z1 g s1) (StepW Γ W z s z1 s1) (St (i+1) z1 s1.heap) (Rd P w Γ z1 v ds[i])) (E:=notedBy (model P w) A env fun e s'=>R (.error e) s') st b hd (fun v z' s' b' sw st' r=>⟨z',b',sw,st',r⟩)) (fun r s₁ h₁=>?_) fun Y Y h'=>h';obtain ⟨v,rfl,h₁⟩:=h₁;refine wpAny_bind (wpAny_mono h₁ (fun Y s₂ h₂=>?_) fun Y Y h'=>h');refine gk fun Ω κ=>?_;obtain ⟨z1,b1,sw,st1,r⟩:=h₂;refine κ ?_;refine wpAny_bind (wpAny_mono (hstep i z g s _ v z1 s₂ _ hj hd b1 sw st1 r) (fun Y s₃ h₃=>?_) fun Y Y h'=>h');refine wpAny_bind (wpAny_mono h₃ (fun ok s₄ h₄=>?_) fun Y Y h'=>h');have fin:∀{s5:Shared},(X2 fun z4 g4=>J (i+1) z4 g4 s5)→∃m,m<ds.length-i∧X3 fun i z g=>A3 (J i z g s5) (i≤ds.length) (m=ds.length-i):=fun ⟨z4,g4,h⟩=>⟨ds.length-(i+1),(Z20 0x1815071801006) hlt,i+1,z4,g4,h,hlt,rfl⟩
  cases ok with
  |false=>exact wpAny_pure ⟨rfl,fin h₄⟩
  |true=>exact wpAny_bind (wpAny_mono h₄ (fun Y s₅ h₅=>wpAny_pure ⟨rfl,fin h₅⟩) fun Y Y h'=>h')
 ·have hi':i=ds.length:=(Z20 0x102100961016) hi hlt;subst hi';refine T.done st b fun s' b' sw=>?_;exact wpAny_pure (hend z g s s' hj b' sw)
theorem StepW.ss {K:Addr→Prop}(x:StepW Γ W z s z' s') (kp:Kp K s.heap) (h:∀a,K a→a∉W):SStep Γ K z s z' s' where
 eq:=x.eq
 keep:=fun a o ka f e=>x.keep a o (h a ka) f e
 le:=x.le
 fresh:=fun a ka f=>let ⟨o,e⟩:=kp a ka;x.fresh a o f e
theorem Fro.stepW {K:Addr→Prop}(F:Fro P w Γ K z s.heap env nm ρ m) (b:Base P w hB Γ z g s) (b':Base P w hB Γ z' g' s') (x:StepW Γ W z s z' s')
  (h:∀a∈W,∃o,s.heap.get? a=some o∧IF o):Fro P w Γ K z' s'.heap env nm ρ m:=
 F.mv b b'.zin x.le (fun a o f hn e=>x.keep a o (fun hw=>by obtain ⟨o',e',hi⟩:=h a hw;rw [e]at e';cases e';exact hn hi) f e) fun a o f Y e=>x.fresh a o f e
theorem Fro.butC {K:Addr→Prop}(F:Fro P w Γ K z s.heap env nm ρ m) (b:Base P w hB Γ z g s) (hs:Heap.SameBut a s.heap h') (za:z a=none) (hl:env.locals≠a) (hcell:∀{c u},s.heap.IsCell c u→c≠a)
  (hown:∀(i:Nat) (x:String) b' a',nm[i]?=some x→ρ[i]?=some (some b')→Yv b'=true→Cur s.heap env m (Str.ofString x) (.ref a')→a'≠a):Fro P w Γ K z h' env nm ρ m:=by
 refine gk fun Ω κ=>?_;obtain ⟨lo,le,lp,l1,l2,lr⟩:=id F.ns;have bk:∀{x v u},Cur h' env m x v→Cur s.heap env m x u→Cur s.heap env m x v:=fun {x v u} c' c=>(c.mv fun c u hc o e=>(hs.2 c (hcell hc)).trans e).uniq c'▸c;have own_cur:∀{i x},nm[i]?=some x→Y7 ρ i→∃u,Cur s.heap env m (Str.ofString x) u:=fun hi oi=>by
  obtain ⟨b',q⟩:∃b',ρ[_]?=some (some b'):=oi.elim (fun ⟨_,q⟩=>⟨_,q⟩) fun ⟨_,q⟩=>⟨_,q⟩
  obtain ⟨_,v,c,_⟩:=F.slot _ _ _ hi q;exact ⟨v,c⟩
 refine κ ?_;refine ⟨F.fn,F.gl,F.bi,F.len,F.nd,⟨lo,le,lp,(hs.2 _ hl).trans l1,l2,lr⟩,F.zl,F.kl,fun i x bb hi hb=>(F.slot i x bb hi hb).but hs (b.zin.but hs za) (fun Y=>rfl) (fun c' u Y Y hcc=>hcell hcc) fun a' hx cu=>?_,fun i j x y a hi hj oi oj ci cj=>?_,F.cinj⟩
 ·obtain ⟨b',hb',ho⟩:=hx;exact hown i x b' a' hi (hb'▸hb) ho cu
 ·obtain ⟨u,cu⟩:=own_cur hi oi;obtain ⟨u',cu'⟩:=own_cur hj oj;exact F.inj i j x y a hi hj oi oj (bk ci cu) (bk cj cu')
theorem Fro.butG {K:Addr→Prop}(F:Fro P w Γ K z s.heap env nm ρ m) (b:Base P w hB Γ z g s) (hs:Heap.SameBut a s.heap h') (za:z a=none) (ha:K a) (hnc:∀u,¬s.heap.IsCell a u):Fro P w Γ K z h' env nm ρ m:=
 F.butC b hs za (fun q=>F.kl (q▸ha)) (fun hc q=>hnc _ (q▸hc)) fun i x b' a' hi hb ho cu q=>(Qdy F hi ((Qbf hb).mpr ⟨b',rfl,ho⟩) cu).2.1 (q▸ha)
theorem Fro.butK {K:Addr→Prop}{vs n}(F:Fro P w Γ K z s.heap env nm ρ m) (b:Base P w hB Γ z g s) (hs:Heap.SameBut a s.heap h') (za:z a=none) (ha:K a)
  (e:s.heap.get? a=some (Vs vs n)):Fro P w Γ K z h' env nm ρ m:=F.butG b hs za ha fun u ⟨o,e',d⟩=>by rw [e]at e';cases e';cases d
end
noncomputable def Ycx (env:Env) (n:Str) (k:NameKind):NameKind:=if (k==.free&&env.scope.kind==.function&&env.kindOf n==some .cell)=true then .cell else k
theorem Qdq  [BEq α] [LawfulBEq α] {a:α}{b:β}{r:List (α×β)}{x:α}{v:β}(h:List.lookup x ((a,b)::r)=some v):(x=a∧b=v)∨((x==a)=false∧r.lookup x=some v):=by
 cases hx:x==a with
 |true=>
  rw [List.lookup_cons,hx]at h;obtain rfl:=Option.some.inj h;exact .inl ⟨beq_iff_eq.mp hx,rfl⟩
 |false=>
  rw [List.lookup_cons,hx]at h;exact .inr ⟨rfl,h⟩
theorem Qex {x:Str}{k:NameKind}:names.lookup x=some k →
  (names.map fun (n,k)=>if (k==NameKind.free&&env.scope.kind==.function&&env.kindOf n==some .cell) then (n,NameKind.cell) else (n,k)).lookup x=some (Ycx env x k):=by
 induction names with
 |nil=>exact fun h=>nomatch h
 |cons p r ih=>
  intro h;have e:(if (p.2==NameKind.free&&env.scope.kind==.function&&env.kindOf p.1==some .cell)=true then (p.1,NameKind.cell) else (p.1,p.2))=(p.1,Ycx env p.1 p.2):=by
   unfold Ycx;split<;>rfl
  show List.lookup x ((if _ then _ else _)::_)=_;refine eqR (e) ?_;refine eqR (List.lookup_cons) ?_;rcases Qdq h with ⟨rfl,rfl⟩|⟨hx,h⟩
  ·rw [beq_self_eq_true]
  ·refine eqR (hx) ?_;exact ih h
noncomputable def clF (env:Env) (x:Str×NameKind) (cs:List (Str×Addr)):Sem (ForInStep (List (Str×Addr))):=if (x.2==NameKind.free)=true then do let a ←cellOf env x.1;pure (ForInStep.yield ((x.1,a)::cs)) else pure (ForInStep.yield cs)
noncomputable def ClI (env:Env) (names:List (Str×NameKind)) (cs cl:List (Str×Addr)):Prop:=A4 (forIn names cs (clF env)=pure cl) (∀x c,cl.lookup x=some c→env.cells.lookup x=some c) (∀y∈names,y.2=.free→∃c,cl.lookup y.1=some c) (∀x c,cs.lookup x=some c→∃c,cl.lookup x=some c)
theorem Qnc:∀{cs:List (Str×Addr)},(∀y∈names,y.2=.free→∃c,env.cells.lookup y.1=some c)→(∀x c,cs.lookup x=some c→env.cells.lookup x=some c)→∃cl,ClI env names cs cl:=by
 induction names with
 |nil=>exact fun {cs} Y h=>⟨cs,⟨rfl,h,fun Y h=>(List.not_mem_nil h).elim,fun x c e=>⟨c,e⟩⟩⟩
 |cons p r ih=>
  intro cs hf h;by_cases hk:p.2=.free
  ·obtain ⟨c,hc⟩:=hf _ (.head _) hk;obtain ⟨cl,h1,h2,h3,h4⟩:=ih (cs:=(p.1,c)::cs) (fun y hy=>hf y (.tail _ hy)) fun x c' e=>(Qdq e).elim (fun ⟨q,q2⟩=>q▸q2▸hc) fun ⟨_,e⟩=>h x c' e;have e1:clF env p cs=pure (ForInStep.yield ((p.1,c)::cs)):=by
    delta clF cellOf
    refine eqR (hk) ?_;refine eqR (hc) ?_;rfl
   refine ⟨cl,?_,h2,fun y hy e=>?_,fun x c' e=>?_⟩
   ·rw [List.forIn_cons];refine eqR (e1) ?_;exact h1
   ·rcases List.mem_cons.mp hy with rfl|hy
    ·exact h4 _ c (by rw [List.lookup_cons,beq_self_eq_true])
    ·exact h3 y hy e
   ·cases hx:x==p.1 with
    |true=>exact h4 x c (by rw [List.lookup_cons,hx])
    |false=>exact h4 x c' (by rw [List.lookup_cons,hx];exact e)
  ·refine gk fun Ω κ=>?_;obtain ⟨cl,h1,h2,h3,h4⟩:=ih (cs:=cs) (fun y hy=>hf y (.tail _ hy)) h;have e1:clF env p cs=pure (ForInStep.yield cs):=by
    unfold clF;refine eqR (if_neg fun q=>hk (eq_of_beq q)) ?_;rfl
   refine κ ?_;refine ⟨cl,?_,h2,fun y hy e=>?_,h4⟩
   ·rw [List.forIn_cons,e1];exact h1
   ·rcases List.mem_cons.mp hy with rfl|hy
    ·exact absurd e hk
    ·exact h3 y hy e
theorem Qnp {scope:Scope}(hf:∀y∈scope.names,y.2=.free→∃c,env.cells.lookup y.1=some c) :
  ∃cl,A3 (closureFor scope env=pure cl) (∀x c,cl.lookup x=some c→env.cells.lookup x=some c) (∀y∈scope.names,y.2=.free→∃c,cl.lookup y.1=some c):=by
 refine gk fun Ω κ=>?_;obtain ⟨cl,h1,h2,h3,_⟩:=Qnc (env:=env) (cs:=[]) hf fun Y Y h=>nomatch h;refine κ ?_;refine ⟨cl,?_,h2,h3⟩;exact (congrArg (· >>= fun s=>pure s) h1).trans (pure_bind _ _)
section
variable {K:Addr→Prop}{sc:Scope}
noncomputable def Ygo (sc:Scope) (nm:List String) (sc':Scope) (ρ:Q8) (x:String) (b:Option B):Option Nat→Prop
 |none=>b=none∧sc'.names.lookup (Str.ofString x)=some .local
 |some k=>∃d,A5 (b=some (.cap d)) (sc'.names.lookup (Str.ofString x)=some .free) (nm[k]?=some x) (sc.names.lookup (Str.ofString x)=some .cell) (ρ[k]?=some (some (.val d))∨ρ[k]?=some (some (.cap d)))
theorem Yid {c:Option Nat}{b:Option B}(h1:Qvs sc nm sc' x c=true) (h2:Yhl ρ c=some b):Ygo sc nm sc' ρ x b c:=by
 cases c with
 |none=>cases h2;exact ⟨rfl,of_decide_eq_true h1⟩
 |some k=>exact Yg8 (M:=fun o=>ρ[k]?=o→_) h2 (fun d bb hd h e=>by
   obtain rfl:=Option.some.inj h;exact ⟨d,rfl,of_decide_eq_true (ba1 (ba1 h1)),of_decide_eq_true (ba2 (ba1 h1)),of_decide_eq_true (ba2 h1),by rcases hd with rfl|rfl;exact .inl e;exact .inr e⟩) rfl
theorem Qkv:∀{cap:List (Option Nat)}{ρ':Q8},Qgy sc nm sc' nm' cap=true→Qaq ρ cap=some ρ'→ρ'.length=nm'.length∧∀(i:Nat) (x:String),nm'[i]?=some x→X2 fun c b=>A3 (cap[i]?=some c) (ρ'[i]?=some b) (Ygo sc nm sc' ρ x b c):=by
 induction nm' with
 |nil=>exact fun h1 h2=>mEK h1 (fun h2=>by cases h2;exact ⟨rfl,fun i x h=>nomatch h⟩) h2
 |cons x r ih=>exact fun h1 h2=>mCK h1 (fun c cs h1 h2=>Qcj h2 fun b h3 h2=>Qcj h2 fun ρ2 h4 h2=>by
   obtain rfl:=Option.some.inj h2;obtain ⟨l,ih⟩:=ih (ba2 h1) h4;refine ⟨congrArg (·+1) l,fun i y hi=>?_⟩;cases i with
   |zero=>cases hi;exact ⟨c,b,rfl,rfl,Yid (ba1 h1) h3⟩
   |succ i=>exact ih i y hi) h2
structure ScP (nm':List String) (cap:List (Option Nat)) (sc:Scope):Prop where
 kind:sc.kind=.function
 cell:∀y∈sc.names,y.2≠.cell
 loc:∀y∈sc.names,y.2=.local→sc.names.lookup y.1=some .local
 free:∀y∈sc.names,y.2=.free→X3 fun (i:Nat) (x:String) (k:Nat)=>A3 (nm'[i]?=some x) (cap[i]?=some (some k)) (Str.ofString x=y.1)
 nd:(nm'.map Str.ofString).Nodup
theorem Qy7 {x y:Bool}(h:(!x||y)=true) (q:x=true):y=true:=by subst q;exact h
theorem Ybj (h:Qcn nm' cap sc=true):ScP nm' cap sc:=
 baK h fun h h5=>baK h fun h h4=>baK h fun h h3=>baK h fun h1 h2=>⟨of_decide_eq_true h1,fun y hy=>of_decide_eq_true (List.all_eq_true.mp h2 y hy),fun y hy e=>of_decide_eq_true (Qy7 (List.all_eq_true.mp h3 y hy) (decide_eq_true e)),fun y hy e=>by
  refine gk fun Ω κ=>?_;obtain ⟨⟨x,c⟩,hm,h6⟩:=List.any_eq_true.mp (Qy7 (List.all_eq_true.mp h4 y hy) (decide_eq_true e));obtain ⟨i,hi⟩:=List.mem_iff_getElem?.mp hm;obtain ⟨ha,hb⟩:=List.getElem?_zip_eq_some.mp hi;refine κ ?_;cases c with
  |none=>exact ff (ba2 h6)
  |some k=>exact ⟨i,x,k,ha,hb,of_decide_eq_true (ba1 h6)⟩,of_decide_eq_true h5⟩
theorem Jt  [BEq α] [LawfulBEq α] {l:List (α×β)}{x:α}{v:β}:l.lookup x=some v→(x,v)∈l:=by
 induction l with
 |nil=>exact fun h=>nomatch h
 |cons p r ih=>exact fun h=>(Qdq h).elim (fun ⟨q,q2⟩=>q▸q2▸.head _) fun ⟨_,h⟩=>.tail _ (ih h)
theorem Qrh (F:Fro P w Γ K z h env nm ρ m) (S:ScOk sc env) (hc:Qgy sc nm sc' nm' cap=true) (O:ScP nm' cap sc') (he:Qaq ρ cap=some ρ'):∀y∈sc'.names,y.2=.free→∃c,env.cells.lookup y.1=some c:=fun y hy e=>by
 refine gk fun Ω κ=>?_;obtain ⟨i,x,k,h1,h2,h3⟩:=O.free y hy e;obtain ⟨c,b,q1,_,q2⟩:=(Qkv hc he).2 i x h1;refine κ ?_;cases h2.symm.trans q1;refine gk fun Ω κ=>?_;obtain ⟨d,_,_,q4,q5,q6⟩:=q2;obtain ⟨b,hb⟩:∃b,ρ[k]?=some (some b):=q6.elim (fun q=>⟨_,q⟩) fun q=>⟨_,q⟩
 obtain ⟨_,v,cu,_⟩:=F.slot k x _ q4 hb;have hk:=S.ce _ q5;refine κ ?_;rcases cu with ⟨k1,_⟩|⟨_,c,l,_⟩
 ·rw [hk]at k1;exact nomatch k1
 ·exact ⟨c,h3▸l⟩
noncomputable def Qcz (sc':Scope) (env:Env) (cl:List (Str×Addr)) (C:Addr):Env:={ newEnv sc' C env.globals cl env.qual none .none (some env) builtinsNs with scope:=relabel sc' env }
theorem Qbp {x:Str}{k:NameKind}{cl C}(h:sc'.names.lookup x=some k):(Qcz sc' env cl C).kindOf x=some (Ycx env x k):=Qex h
theorem Qt4 {cl:List (Str×Addr)}(F:Fro P w Γ K z h env nm ρ m) (S:ScOk sc env) (hc:Qgy sc nm sc' nm' cap=true) (O:ScP nm' cap sc') (he:Qaq ρ cap=some ρ') (h1:∀x c,cl.lookup x=some c→env.cells.lookup x=some c)
  (h2:∀y∈sc'.names,y.2=.free→∃c,cl.lookup y.1=some c) (ns:h.Ns C fun Y=>none) (zC:z C=none) (kC:¬Kc C):Fro P w Γ Kc z h (Qcz sc' env cl C) nm' ρ' fun Y=>none where
 fn:=O.kind
 gl:=F.gl
 bi:=F.bi
 len:=(Qkv hc he).1
 nd:=O.nd
 ns:=ns
 zl:=zC
 kl:=kC
 slot:=fun i x b hi hb=>by
  obtain ⟨c,b',q1,q2,q3⟩:=(Qkv hc he).2 i x hi;cases hb.symm.trans q2;cases c with
  |none=>
   obtain ⟨rfl,q3⟩:=q3;exact .inl (Qbp (env:=env) (cl:=cl) (C:=C) q3)
  |some k'=>
   obtain ⟨d,rfl,q3,q4,q5,q6⟩:=q3;refine ⟨fun q=>Bool.noConfusion q,?_⟩;have hk:=S.ce _ q5;have kk:(Qcz sc' env cl C).kindOf (Str.ofString x)=some .cell:=by
    rw [Qbp q3];unfold Ycx;rw [if_pos (by rw [F.fn,hk];decide)]
   have hx:∀b,ρ[k']?=some (some b)→b=.val d∨b=.cap d→∃v,Cur h (Qcz sc' env cl C) (fun Y=>none) (Str.ofString x) v∧Rd P w Γ z v d:=fun b hb q=>by
    obtain ⟨_,v,cu,hh⟩:=F.slot k' x _ q4 hb;refine ⟨v,?_,by rcases q with rfl|rfl<;>exact hh⟩;rcases cu with ⟨k1,_⟩|⟨_,c,l,hcc⟩
    ·rw [hk]at k1;exact nomatch k1
    ·obtain ⟨c',hc'⟩:=h2 _ (Jt q3) rfl;cases l.symm.trans (h1 _ _ hc');exact .inr ⟨.inl kk,c,hc',hcc⟩
   exact q6.elim (fun q=>hx _ q (.inl rfl)) fun q=>hx _ q (.inr rfl)
 inj:=fun i j x y a hi hj oi oj=>by
  refine gk fun Ω κ=>?_;obtain ⟨c,b,_,q2,q3⟩:=(Qkv hc he).2 i x hi;refine κ ?_;cases c with
  |none=>
   obtain ⟨rfl,_⟩:=q3;rcases oi with ⟨_,e⟩|⟨_,e⟩<;>cases e.symm.trans q2
  |some k=>
   obtain ⟨d,rfl,_⟩:=q3;rcases oi with ⟨_,e⟩|⟨_,e⟩<;>cases e.symm.trans q2
 cinj:=fun x y c e1 e2=>F.cinj x y c (h1 _ _ e1) (h1 _ _ e2)
theorem Qvz {cl C}(O:ScP nm' cap sc'):ScOk sc' (Qcz sc' env cl C) where
 gi:=fun x h=>Qbp (env:=env) (cl:=cl) (C:=C) h
 ce:=fun x h=>absurd rfl (O.cell _ (Jt h))
 lo:=fun x h=>Qbp (env:=env) (cl:=cl) (C:=C) h
end
section
variable (P:Program) (w:World) (hB:Heap) (Γ:Gm) (n:Nat) (O:Orc)
noncomputable def STs (ifs:CEs):Prop:=∀sc nm ifs' env ρ m K z g s A ok g' (Q:Bool→Shared→Prop) (E:Value→Shared→Prop),J0 sc nm ifs ifs'=true→ScOk sc env→AOk n A→Base P w hB Γ z g s→Fro P w Γ K z s.heap env nm ρ m→Qfi O ifs ρ g=some (ok,g') →
 (∀z' s',Base P w hB Γ z' g' s'→Step Γ z s z' s'→Q ok s')→wpAny (model P w) A (forIn ifs' true fun c r=>if r=true then do let ok ←isTrue c env (eval c env);pure (ForInStep.yield ok) else pure (ForInStep.yield r)) Q E s
structure Mid (K₀:Addr→Prop) (z₀:Z) (s₀:Shared) (Kc:Addr→Prop) (env:Env) (nm:List String) (a:Addr) (ρ:Q8) (done:List D) (z:Z) (g:Gs) (s:Shared):Prop where
 b:Base P w hB Γ z g s
 ss:SStep Γ K₀ z₀ s₀ z s
 kp:Kp Kc s.heap
 F:∃m,Fro P w Γ Kc z s.heap env nm ρ m
 acc:X2 fun vs k=>s.heap.get? a=some (Vs vs k)∧Rds P w Γ z vs done
 za:z a=none
end
section
variable {K₀:Addr→Prop}{z₀:Z}{s₀:Shared}{done:List D}
theorem Qo2:STs P w hB Γ n O .nil:=fun sc nm ifs' env ρ m K z g s A ok g' Q E hi S hA b F h p=>Qcm hi (eqK h (fun p=>wpAny_tests_nil (p _ _ b (Step.refl ..))) p)
theorem Qyh (he:ST P w hB Γ n O e):STs P w hB Γ n O (.cons e .nil):=fun sc nm ifs' env ρ m K z g s A ok g' Q E hi S hA b F h p=>Jy hi fun x xs ix ir=>Qcm ir (bBK h fun t g1 h1 h=>eqK h (fun p=>wpAny_tests_one (he _ _ _ _ _ _ _ _ _ _ _ _ _ _ _ ix S hA b F h1 p)) p)
theorem Qt8 {e f r}:STs P w hB Γ n O (.cons e (.cons f r)):=fun sc nm ifs' env ρ m K z g s A ok g' Q E hi S hA b F h p=>ns h
theorem Mid.step (M:Mid P w hB Γ K₀ z₀ s₀ Kc env nm a ρ done z g s) (h0:∀a,K₀ a→Kc a) (fa:Γ.free a) (b':Base P w hB Γ z' g' s') (st:Step Γ z s z' s'):Mid P w hB Γ K₀ z₀ s₀ Kc env nm a ρ done z' g' s':=by
 refine gk fun Ω κ=>?_;obtain ⟨m,F⟩:=M.F;obtain ⟨vs,k,e,r⟩:=M.acc;refine κ ?_;exact ⟨b',M.ss.trans (st.ss fun c hc=>M.kp c (h0 c hc)),M.kp.ss b' (st.ss M.kp),⟨m,F.step M.b b' st⟩,⟨vs,k,st.keep _ _ fa e,r.le st.le⟩,(st.fresh _ _ fa e).trans M.za⟩
theorem Mid.sstep {ρ'}(M:Mid P w hB Γ K₀ z₀ s₀ Kc env nm a ρ done z g s) (h0:∀a,K₀ a→Kc a) (fa:Γ.free a) (ka:Kc a) (b':Base P w hB Γ z' g' s') (st:SStep Γ Kc z s z' s') {m'}(F':Fro P w Γ Kc z' s'.heap env nm ρ' m'):Mid P w hB Γ K₀ z₀ s₀ Kc env nm a ρ' done z' g' s':=by
 obtain ⟨vs,k,e,r⟩:=M.acc;exact ⟨b',M.ss.trans (st.sub h0),M.kp.ss b' st,⟨m',F'⟩,⟨vs,k,st.keep _ _ ka fa e,r.le st.le⟩,(st.fresh _ ka fa).trans M.za⟩
theorem Mid.stepW {W:List Addr}(M:Mid P w hB Γ K₀ z₀ s₀ Kc env nm a ρ done z g s) (h0:∀a,K₀ a→Kc a) (fa:Γ.free a) (aW:a∉W) (hW:∀c,K₀ c→c∉W) (b':Base P w hB Γ z' g' s') (st:StepW Γ W z s z' s')
  (hif:∀a∈W,∃o,s.heap.get? a=some o∧IF o) (hif':∀a∈W,∃o,s'.heap.get? a=some o):Mid P w hB Γ K₀ z₀ s₀ Kc env nm a ρ done z' g' s':=by
 obtain ⟨m,F⟩:=M.F;obtain ⟨vs,k,e,r⟩:=M.acc;refine ⟨b',M.ss.trans (st.ss (fun c hc=>M.kp c (h0 c hc)) hW),fun c hc=>?_,⟨m,F.stepW M.b b' st hif⟩,⟨vs,k,st.keep _ _ aW fa e,r.le st.le⟩,(st.fresh _ _ fa e).trans M.za⟩;by_cases hw:c∈W
 ·exact hif' c hw
 ·have:Kp (fun x=>Kc x∧x∉W) s.heap:=fun x hx=>M.kp x hx.1;exact this.ss b' (st.ss this fun x hx=>hx.2) c ⟨hc,hw⟩
theorem Mid.narrow {K':Addr→Prop}(M:Mid P w hB Γ K₀ z₀ s₀ Kc env nm a ρ done z g s) (h:∀a,K' a→Kc a):Mid P w hB Γ K₀ z₀ s₀ K' env nm a ρ done z g s:=
 ⟨M.b,M.ss,fun c hc=>M.kp c (h c hc),let ⟨m,F⟩:=M.F;⟨m,F.narrow h⟩,M.acc,M.za⟩
theorem Mid.endW (M:Mid P w hB Γ K₀ z₀ s₀ Kc env nm a ρ done z g s) (h0:∀a,K₀ a→Kc a) (fa:Γ.free a) (aW:a∉W) (hW:∀c,K₀ c→c∉W) (b':Base P w hB Γ z' g' s') (st:StepW Γ W z s z' s')
  (hif:∀a∈W,∃o,s.heap.get? a=some o∧IF o):Mid P w hB Γ K₀ z₀ s₀ (fun c=>Kc c∧c∉W) env nm a ρ done z' g' s':=by
 obtain ⟨m,F⟩:=M.F;obtain ⟨vs,k,e,r⟩:=M.acc;have kp:Kp (fun x=>Kc x∧x∉W) s.heap:=fun x hx=>M.kp x hx.1;exact ⟨b',M.ss.trans (st.ss (fun c hc=>M.kp c (h0 c hc)) hW),kp.ss b' (st.ss kp fun x hx=>hx.2),⟨m,(F.stepW M.b b' st hif).narrow fun c hc=>hc.1⟩,⟨vs,k,st.keep _ _ aW fa e,r.le st.le⟩,(st.fresh _ _ fa e).trans M.za⟩
theorem Mid.back (M:Mid P w hB Γ K₀ z₀ s₀ Kc env nm a ρ done z g s) (h:Qmq ρ ρ'):Mid P w hB Γ K₀ z₀ s₀ Kc env nm a ρ' done z g s:=
 ⟨M.b,M.ss,M.kp,let ⟨m,F⟩:=M.F;⟨m,F.back h⟩,M.acc,M.za⟩
theorem Mid.app (M:Mid P w hB Γ K₀ z₀ s₀ Kc env nm a ρ done z g s) (hz0:¬K₀ a) (fa:Γ.free a) (ka:Kc a) (r:Rd P w Γ z v d) (hl:done.length≤1048576)
  (hQ:∀s',Mid P w hB Γ K₀ z₀ s₀ Kc env nm a ρ (done++[d]) z g s'→(∀c o,c≠a→s.heap.get? c=some o→s'.heap.get? c=some o)→Q .none s'):wpAny (model P w) A (call (.builtin "list.append") [.ref a,v]) Q E s:=by
 obtain ⟨m,F⟩:=M.F;obtain ⟨vs,k,e,rs⟩:=M.acc;refine wpAny_list_append_plain (items:=vs.toArray) ⟨k,e⟩ (fun h' hp hs=>?_) (by rw [List.size_toArray,sizeLine_eq];exact (Z20 0x10000007611012610000066016) hl rs.length);obtain ⟨k',e'⟩:=hp;have e2:vs.toArray.push v=(vs++[v]).toArray:=by simp
 rw [e2]at e';refine hQ _ ⟨(M.b.but (t:=s.toks) hs M.za fa),M.ss.trans (.but hs hz0),fun c hc=>?_,⟨m,F.butK M.b hs M.za ka e⟩,⟨_,k',e',rs.append (.one r)⟩,M.za⟩ fun c o hne q=>(hs.2 _ hne).trans q;by_cases q:c=a
 ·exact ⟨_,q▸e'⟩
 ·obtain ⟨o,ho⟩:=M.kp c hc;exact ⟨o,(hs.2 _ q).trans ho⟩
@[elab_as_elim] theorem Yas {f:D→Gs→Option (Option D×Gs)} {r:List D} {M:List D→Prop} (h:Qx f (d::r) g=some (ys,g')) (k:∀o g1 zs,f d g=some (o,g1)→Qx f r g1=some (zs,g')→M (o.toList++zs)):M ys:=
 Y8 h fun o g1 h1 h=>Y8 h fun zs g2 h2 h=>eqK (M:=fun ys g'=>(∀o g1 zs,f d g=some (o,g1)→Qx f r g1=some (zs,g')→M (o.toList++zs))→M ys) h (fun k=>k o g1 zs h1 h2) k
@[elab_as_elim] theorem Yby {f:D→Gs→Option (Option D×Gs)} {M:List D→Gs→Prop} (h:Qx f [] g=some (ys,g')) (k:M [] g):M ys g':=eqK h k
noncomputable def trn (O:Orc) (elt:CE) (t:CT) (ifs:CEs) (ρ:Q8) (d:D) (g:Gs):Option (Option D×Gs):=opt (Qai t ρ d) fun ρ₁=>bnd (Qfi O ifs ρ₁ g) fun ok g=>cond ok (bnd (Qb O elt ρ₁ g) fun y g=>some (some y,g)) (some (none,g))
theorem Qkg {l:List D}(h:l[i]?=some d):l.drop i=d::l.drop (i+1):=by
 obtain ⟨hl,e⟩:=List.getElem?_eq_some_iff.mp h;rw [List.drop_eq_getElem_cons hl,e]
theorem Turns.stp {it:Value}(T:Turns P w hB Γ A te it W ds St) (st:St i z s.heap) (b':Base P w hB Γ z' g' s') (x:Step Γ z s z' s'):St i z' s'.heap:=
 T.frame st x.le b'.zin (fun c hc=>let ⟨_,f,o,e,_⟩:=T.has st c hc;x.fresh c o f e) fun c hc o e=>x.keep c o (T.has st c hc).2.1 e
structure TJ (P:Program) (w:World) (hB:Heap) (Γ:Gm) (K₀:Addr→Prop) (z₀:Z) (s₀:Shared) (Kc:Addr→Prop) (env:Env) (nm:List String) (a:Addr) (ρ:Q8) (done:List D) (f:List D→Gs→Option (List D×Gs)) (ds ys:List D) (g':Gs) (i:Nat) (z1:Z) (g1:Gs) (s1:Shared) (d1 rest:List D):Prop where
 M:Mid P w hB Γ K₀ z₀ s₀ Kc env nm a ρ (done++d1) z1 g1 s1
 h:d1++rest=ys
 f:f (ds.drop i) g1=some (rest,g')
set_option tactic.hygienic true in
theorem Qhr {t:CT}(he:SE P w hB Γ n O elt) (hifs:STs P w hB Γ n O ifs) {e:Expr}{elt0 gs sc0 pos}(hee:e=.ListComp elt0 gs sc0 pos) {it:Value}{sc:Scope}
  (hturn:compTurn e dep it (.ref a) env=Qc3 te itE ifs' it env (do let _ ←call (.builtin "list.append") [.ref a,←eval elt' env]) (.compLoop e dep it (.ref a) env))
  (T:Turns P w hB Γ A te it W ds St) (ie:isE sc nm elt elt'=true) (iif:J0 sc nm ifs ifs'=true) (itt:isT nm t te=true) (S:ScOk sc env) (hA:AOk n A) (h0:∀a,K₀ a→Kc a) (fa:Γ.free a) (ka:Kc a) (hz0:¬K₀ a) (aW:a∉W) (hW:∀c,K₀ c→c∉W) (hKW:∀c∈W,Kc c)
   (hf:Qx (trn O elt t ifs ρ) ds g=some (ys,g')) (hlen:done.length+ys.length≤1048576)
  (M:Mid P w hB Γ K₀ z₀ s₀ Kc env nm a ρ done z g s) (hst:St 0 z s.heap) (Kx:Addr→Prop) (kx:∀c,Kx c→Kc c∧c≠a∧c∉W)
  (hend:∀z' s',Mid P w hB Γ K₀ z₀ s₀ (fun c=>Kc c∧c∉W) env nm a ρ (done++ys) z' g' s'→SStep Γ Kx z s z' s'→R (.ok .next) s'):codeAny (model P w) A (.compLoop e dep it (.ref a) env) R s:=by
 refine Qhs hee hturn T (fun i z1 g1 s1=>A3 (St i z1 s1.heap) (SStep Γ Kx z s z1 s1) (X2 (TJ P w hB Γ K₀ z₀ s₀ Kc env nm a ρ done (Qx (trn O elt t ifs ρ)) ds ys g' i z1 g1 s1))) (fun i z1 g1 s1 hj=>by obtain ⟨h1,_,_,_,J⟩:=hj;exact ⟨J.M.b,h1⟩) (fun i z1 g1 s1 d v z2 s2 E' hj hd b2 sw st2 r=>?_) (fun z1 g1 s1 s2 hj b2 sw=>?_) ⟨hst,SStep.refl ..,[],ys,(List.append_nil done).symm▸M,rfl,hf⟩
 ·refine gk fun Ω κ=>?_;obtain ⟨st1,ssx,d1,rest,M1,hys,hf1⟩:=hj;rw [Qkg hd]at hf1;have has2:=T.has st2;have M2:=M1.stepW h0 fa aW hW b2 sw (fun c hc=>let ⟨_,_,o,e,i⟩:=(T.has st1) c hc;⟨o,e,i⟩) (fun c hc=>let ⟨_,_,o,e,_⟩:=has2 c hc;⟨o,e⟩);refine κ ?_;refine Yas hf1 (fun o gg zs h1 h2 hys=>Qcj h1 fun ρ₁ hb h1=>Y8 h1 fun ok g2 h3 h1=>?_) hys;obtain ⟨hb1,hb2⟩:=Qes hb;obtain ⟨m2,F2⟩:=M2.F;refine Qiw hA.hh t itt hb1 r M2.b M2.kp F2 fun s3 m3 b3 ss3 F3=>?_;have M3:=M2.sstep h0 fa ka b3 ss3 F3;refine hifs _ _ _ _ _ _ _ _ _ _ _ _ _ _ _ iif S hA b3 F3 h3 fun z4 s4 b4 st4=>?_;have M4:=M3.step h0 fa b4 st4;have ssx4:=((ssx.trans (sw.ss (K:=Kx) (fun c hc=>M1.kp c (kx c hc).1) fun c hc=>(kx c hc).2.2)).trans (ss3.sub fun c hc=>(kx c hc).1)).trans (st4.ss (K:=Kx) fun c hc=>M3.kp c (kx c hc).1);have hS4:=T.stp (T.frame st2 (ZLe.refl _) b3.zin (fun Y Y=>rfl) fun c hc o e=>ss3.keep c o (hKW c hc) (has2 c hc).2.1 e:St (i+1) z2 s3.heap) b4 st4;cases ok with
  |false=>exact eqK (M:=fun o gg=>d1++(o.toList++zs)=ys→Qx (trn O elt t ifs ρ) (ds.drop (i+1)) gg=some (zs,g')→_) h1 (fun hys h2=>⟨z4,g2,hS4,ssx4,d1,zs,M4.back hb2,hys,h2⟩) hys h2
  |true=>exact Y8 h1 fun y g3 h4 h1=>eqK (M:=fun o gg=>d1++(o.toList++zs)=ys→Qx (trn O elt t ifs ρ) (ds.drop (i+1)) gg=some (zs,g')→_) h1 (fun hys h2=>by
    obtain ⟨m4,F4⟩:=M4.F;refine wpAny_bind (he _ _ _ _ _ _ _ _ _ _ _ _ _ _ _ ie S hA b4 F4 h4 fun u z5 s5 b5 st5 r5=>?_);have M5:=M4.step h0 fa b5 st5;have hys':(d1++[y])++zs=ys:=(List.append_assoc ..).trans hys;refine wpAny_bind (M5.app hz0 fa ka r5 ?_ fun s6 M6 k6=>wpAny_pure ⟨z5,g3,?_,?_,d1++[y],zs,List.append_assoc done d1 [y]▸M6.back hb2,hys',h2⟩)
    ·refine Nat.le_trans ?_ hlen;refine eqL (hys') ?_;rw [List.append_assoc,List.length_append,List.length_append,←Nat.add_assoc];exact Nat.le_add_right _ _
    ·exact T.frame (T.stp hS4 b5 st5) (ZLe.refl _) M6.b.zin (fun Y Y=>rfl) fun c hc o e=>k6 c o (fun q=>aW (q▸hc)) e
    ·refine (ssx4.trans (st5.ss (K:=Kx) fun c hc=>M4.kp c (kx c hc).1)).trans ⟨?_,fun c o hc f e=>k6 c o (kx c hc).2.1 e,ZLe.refl _,fun Y Y Y=>rfl⟩;obtain ⟨h5,t5,q5⟩:=M5.ss.eq;obtain ⟨h6,t6,q6⟩:=M6.ss.eq;exact ⟨h6,t6,by rw [q6,q5]⟩) hys h2
 ·obtain ⟨st1,ssx,d1,rest,M1,hys,hf1⟩:=hj;rw [List.drop_length]at hf1;exact Yby (M:=fun rest g'=>d1++rest=ys→(∀z' s',Mid P w hB Γ K₀ z₀ s₀ (fun c=>Kc c∧c∉W) env nm a ρ (done++ys) z' g' s'→SStep Γ Kx z s z' s'→R (.ok .next) s')→_) hf1 (fun hys hend=>hend z1 s2 (hys▸(List.append_nil d1).symm▸(M1.endW h0 fa aW hW b2 sw fun c hc=>let ⟨_,_,o,e,i⟩:=T.has st1 c hc;⟨o,e,i⟩)) (ssx.trans (sw.ss (K:=Kx) (fun c hc=>M1.kp c (kx c hc).1) fun c hc=>(kx c hc).2.2))) hys hend
end
noncomputable def Qi (h:Heap) (a:Addr):Prop:=∃o,h.get? a=some o
section
theorem Qjq {sc:Scope}{it:CI}(h:isI sc nm it it'=true) (x:Value):foldedSetIterable it' env x=pure x:=by
 have:it'.ctorIdx≠7:=fun q=>by
  cases it<;>first|exact (show (16:Nat)≠7 by decide) ((qF h).symm.trans q)|exact Qko (n:=7) h rfl q
 cases it'<;>first|rfl|exact absurd rfl this
theorem Qiz {it:CI}(hit:SIt P w hB Γ n O it) {elt0:Expr}{sc:Scope}{pos':Pos}{K:Addr→Prop}
   (ii:isI sc nm it it'=true) (hte:Yfs it te) (S:ScOk sc env) (hA:AOk n A) (b:Base P w hB Γ z g s) (F:Fro P w Γ K z s.heap env nm ρ m) (h:Jm O it ρ g=some (ds,g1))
  (hc:Qgy sc nm sc' nm' cap=true) (ho:Qcn nm' cap sc'=true) (he:Qaq ρ cap=some ρ')
  (k:∀i W St a cenv z1 s1,Turns P w hB Γ A te i W ds St→St 0 z1 s1.heap→ScOk sc' cenv→Γ.free a→¬Qi s.heap a→a∉W→(∀c,Qi s.heap c→c∉W)→¬Qi s.heap cenv.locals→cenv.locals≠a →
   Mid P w hB Γ (Qi s.heap) z s (fun x=>Qi s.heap x∨x=a∨x∈W) cenv nm' a ρ' [] z1 g1 s1 →
   codeAny (model P w) A (.compLoop (.ListComp elt0 (⟨te,it',ifs',0⟩::gs) sc' pos) 0 i (.ref a) cenv) (compPost (model P w) A E use Q (.ref a) cenv.locals) s1) :
  wpAny (model P w) A (comprehension (.ListComp elt0 (⟨te,it',ifs',0⟩::gs) sc' pos) sc' env pos' (newList []) false (eval it' env) use) Q E s:=by
 refine gk fun Ω κ=>?_;have OK:=Ybj ho;obtain ⟨cl,hcl,h1,h2⟩:=Qnp (Qrh F S hc OK he);refine κ ?_;refine wpAny_comprehension_free (g:=⟨te,it',ifs',0⟩) (gs:=gs) rfl (Qjq ii) hcl OK.kind OK.loc ?_;refine hit _ _ _ te _ _ _ _ _ _ _ _ _ _ _ _ ii hte S hA b F h fun i W St z1 s1 b1 st1 T hst hW=>?_;refine wpAny_newList ?_;refine wpAny_newFunctionEnv OK.cell (by intro y hy;simp at hy) (fun h' hn hs=>?_) OK.kind;dsimp only at hn hs;generalize hC:(s1.heap.push { cls:=.type "list",data:=.seq ([]:List Value).toArray }).objs.size=C at hn hs;have hCe:C=s1.heap.objs.size+1:=by rw [←hC,Heap.size_push]
 have keep:∀c o,s1.heap.get? c=some o→h'.get? c=some o:=fun c o e=>by
  have:c≠C:=by rw [hCe];exact Nat.ne_of_lt (Nat.lt_succ_of_lt (Heap.lt_size e))
  exact (hs.2 c this).trans (Heap.get?_push_of_some _ (Heap.get?_push_of_some _ e))
 have b2:=b1.grown (t:=s1.toks+0) keep;have st2:=Step.grown b1 (t:=s1.toks+0) keep;have no:∀{c},s1.heap.objs.size≤c→¬Qi s.heap c:=fun hc' ⟨o,e⟩=>by
  have:=Qgm b st1 (Qn hc') b1;rw [this]at e;exact nomatch e
 have hW2:∀c∈W,c<s1.heap.objs.size:=fun c hc'=>let ⟨_,_,o,e,_⟩:=T.has hst c hc';Heap.lt_size e;have hCC:s1.heap.objs.size≤C:=by rw [hCe];exact Nat.le_succ _
 have hne:C≠s1.heap.objs.size:=by rw [hCe];exact Nat.succ_ne_self _
 have hacc:h'.get? s1.heap.objs.size=some (Vs [] 0):=(hs.2 _ hne.symm).trans (Heap.get?_push_of_some _ (Heap.get?_push_size _ rfl));have F3:Fro P w Γ (fun x=>Qi s.heap x∨x=s1.heap.objs.size∨x∈W) z1 h' (Qcz sc' env cl C) nm' ρ' fun Y=>none:=
  Qt4 ((F.step b b1 st1).step b1 b2 st2) S hc OK he h1 h2 (by simpa using hn) (Ql b1.zin (Qn hCC):z1 C=none) (fun q=>by rcases q with q|q|q;exact no hCC q;exact hne q;exact (fun q=>absurd (hW2 _ q) (Nat.not_lt.mpr hCC):C∉W) q)
 have stx:=st1.trans st2;have hst2:St 0 z1 h':=T.frame hst (ZLe.refl _) b2.zin (fun Y Y=>rfl) fun c hc' o e=>keep c o e;have K0:Kp (Qi s.heap) s.heap:=fun c hc'=>hc';have M:Mid P w hB Γ (Qi s.heap) z s (fun x=>Qi s.heap x∨x=s1.heap.objs.size∨x∈W) (Qcz sc' env cl C) nm' s1.heap.objs.size ρ' [] z1 g1 { s1 with heap:=h',toks:=s1.toks+0 }:=by
  refine ⟨b2,stx.ss K0,fun c hc'=>?_,⟨_,F3⟩,⟨[],0,hacc,.nil⟩,(Ql b1.zin (Qe _):z1 s1.heap.objs.size=none)⟩;rcases hc' with hc'|rfl|hc'
  ·exact K0.ss b2 (stx.ss K0) c hc'
  ·exact ⟨_,hacc⟩
  ·obtain ⟨_,_,o,e,_⟩:=T.has hst c hc';exact ⟨o,keep c o e⟩
 have loop:=k i W St s1.heap.objs.size (Qcz sc' env cl C) z1 { s1 with heap:=h',toks:=s1.toks+0 } T hst2 (Qvz OK) (Vc b1 (Qe _):Γ.free s1.heap.objs.size) (no (Nat.le_refl _)) (fun q=>Nat.lt_irrefl _ (hW2 _ q):s1.heap.objs.size∉W) (fun c ⟨o,e⟩ hc'=>by rw [hW c hc']at e;exact nomatch e) (no hCC) hne M;exact Qfz rfl (dep:=0) (te:=te) (itE:=it') (ifs:=ifs') rfl loop fun E'=>T.self hst2 loop
set_option tactic.hygienic true in
theorem Qf4 {cenv:Env}(p:Jb P w hB Γ z s g' (.lst ys) Q) (fa:Γ.free a) (ha:¬Qi s.heap a) (hC:¬Qi s.heap cenv.locals) (hne:cenv.locals≠a)
  (M:Mid P w hB Γ (Qi s.heap) z s K' cenv nm' a ρ' ys z' g' s'):compPost (model P w) A E none Q (.ref a) cenv.locals (.ok .next) s':=by
 refine gk fun Ω κ=>?_;obtain ⟨m,F⟩:=M.F;obtain ⟨vs,k,e,r⟩:=M.acc;refine κ ?_;refine ⟨m,F.ns,fun h' hs=>?_⟩;have st:=M.ss.step;refine p (.ref a) (z'.add a (Vs vs k)) _ ((M.b.but (t:=s'.toks) hs F.zl (Y2 M.b F.ns)).freeze ((hs.2 _ hne.symm).trans e:h'.get? a=some (Vs vs k)) M.za fa) ⟨?_,fun c o f q=>(hs.2 c (by intro x;exact hC ⟨o,x▸q⟩)).trans (st.keep c o f q),st.le.trans (Z.le_add M.za),fun c o f q=>?_⟩ (.lst (Z.add_self ..) (r.le (Z.le_add M.za)))
 ·obtain ⟨h2,t2,q⟩:=st.eq;exact ⟨h',t2,by rw [q]⟩
 ·unfold Z.add;refine eqR (if_neg (by intro x;exact ha ⟨o,x▸q⟩)) ?_;exact st.fresh c o f q
theorem Qhc {it:CI}{t:CT}(h:Qtl it t=true) (ht:isT nm t te=true):Yfs it te:=by
 cases it<;>first|trivial|skip
 all_goals
  cases t with
  |nm i=>exact ff h
  |tup ts=>exact Qlu ht fun es k p Y=>⟨es,k,p,rfl⟩
set_option tactic.hygienic true in
theorem Qme {t:CT}{it:CI}(hel:SE P w hB Γ n O elt) (hit:SIt P w hB Γ n O it) (hifs:STs P w hB Γ n O ifs) {sc:Scope}{m K}
   (hi:isE sc nm (.comp elt t it ifs nm' cap) e'=true) (S:ScOk sc env) (hA:AOk n A) (b:Base P w hB Γ z g s) (F:Fro P w Γ K z s.heap env nm ρ m) (h:Qb O (.comp elt t it ifs nm' cap) ρ g=some (d,g'))
  (k:∀ys a cenv ρ' K' z' s',d=.lst ys→Γ.free a→¬Qi s.heap a→¬Qi s.heap cenv.locals→cenv.locals≠a→Mid P w hB Γ (Qi s.heap) z s K' cenv nm' a ρ' ys z' g' s'→compPost (model P w) A E use Q (.ref a) cenv.locals (.ok .next) s')
  (kM:∀elt' gs sc' p,wpAny (model P w) A (comprehension (.ListComp elt' gs sc' p) sc' env (firstIterPos gs p) (newList []) (firstAsync gs) (firstIter gs env) use) Q E s→M (.ListComp elt' gs sc' p)):M e':=
 Qkw hi fun elt' t' it' ifs' sc' p ok1 ie itt ii iif hc ho=>kM _ _ _ _ (Y8 h fun ds g1 h1 h=>Qcj h fun ρ' hcap h=>Y8 h fun ys g2 h2 h=>gdK h fun hl h=>eqK h (fun k=>
  Qiz hit ii (Qhc ok1 itt) S hA b F h1 hc ho hcap fun i W St a cenv z1 s1 T hst S' fa ha aW hKW hC hne M=>
   Qhr hel hifs rfl (Yf8 ..) T ie iif itt S' hA (fun c hc=>.inl hc) fa (.inr (.inl rfl)) ha aW hKW (fun c hc=>.inr (.inr hc)) h2 ((Nat.zero_add _).symm▸of_decide_eq_true hl) M hst (fun Y=>False) (fun Y h=>h.elim) fun z' s' M' Y=>k ys a cenv ρ' _ z' s' rfl fa ha hC hne M') k)
theorem Qv8 {t:CT}{it:CI}(hel:SE P w hB Γ n O elt) (hit:SIt P w hB Γ n O it) (hifs:STs P w hB Γ n O ifs):SE P w hB Γ n O (.comp elt t it ifs nm' cap):=fun sc nm e' env ρ m K z g s A d g' Q E hi S hA b F h p=>
 Qme (M:=fun e'=>wpAny (model P w) A (eval e' env) Q E s) (use:=none) hel hit hifs hi S hA b F h (fun ys a cenv ρ' K' z' s' hd fa ha hC hne M=>Qf4 (hd▸p) fa ha hC hne M) fun Y Y Y Y h=>h
end
section
@[elab_as_elim] theorem Ycw {f:D→Gs→Option (List D×Gs)} {r:List D} {M:List D→Prop} (h:V0 f (d::r) g=some (ys,g')) (k:∀xs g1 zs,f d g=some (xs,g1)→V0 f r g1=some (zs,g')→M (xs++zs)):M ys:=
 Y8 h fun o g1 h1 h=>Y8 h fun zs g2 h2 h=>eqK (M:=fun ys g'=>(∀xs g1 zs,f d g=some (xs,g1)→V0 f r g1=some (zs,g')→M (xs++zs))→M ys) h (fun k=>k o g1 zs h1 h2) k
@[elab_as_elim] theorem Qzc {f:D→Gs→Option (List D×Gs)} {M:List D→Gs→Prop} (h:V0 f [] g=some (ys,g')) (k:M [] g):M ys g':=eqK h k
theorem Yh6 {d1:List D}(h:d1++(xs++zs)=ys):d1.length+xs.length≤ys.length:=by
 rw [←h,List.length_append,List.length_append,←Nat.add_assoc];exact Nat.le_add_right _ _
noncomputable def Yga (O:Orc) (elt:CE) (t₁ t₂:CT) (it₂:CI) (ρ:Q8) (d:D) (g:Gs):Option (List D×Gs):=opt (Qai t₁ ρ d) fun ρ₁=>bnd (Jm O it₂ ρ₁ g) fun es g=>Qx (trn O elt t₂ .nil ρ₁) es g
set_option tactic.hygienic true in
theorem Qi6 (hel:SE P w hB Γ n O elt) (hit:SIt P w hB Γ n O it₁) (hit2:SIt P w hB Γ n O it₂) {sc:Scope}{m K}
   (hi:isE sc nm (.comp2 elt t₁ it₁ t₂ it₂ nm' cap) e'=true) (S:ScOk sc env) (hA:AOk n A) (b:Base P w hB Γ z g s) (F:Fro P w Γ K z s.heap env nm ρ m) (h:Qb O (.comp2 elt t₁ it₁ t₂ it₂ nm' cap) ρ g=some (d,g'))
  (k:∀ys a cenv ρ' K' z' s',d=.lst ys→Γ.free a→¬Qi s.heap a→¬Qi s.heap cenv.locals→cenv.locals≠a→Mid P w hB Γ (Qi s.heap) z s K' cenv nm' a ρ' ys z' g' s'→compPost (model P w) A E use Q (.ref a) cenv.locals (.ok .next) s')
  (kM:∀elt' gs sc' p,wpAny (model P w) A (comprehension (.ListComp elt' gs sc' p) sc' env (firstIterPos gs p) (newList []) (firstAsync gs) (firstIter gs env) use) Q E s→M (.ListComp elt' gs sc' p)):M e':=
 Qh1 hi fun elt' t₁' it₁' t₂' it₂' sc' p ok1 ok2 ie it1 ii it2 ii2 hc ho=>kM _ _ _ _ (Y8 h fun ds g1 h1 h=>Qcj h fun ρ' hcap h=>Y8 h fun ys g2 h2 h=>gdK h fun hl h=>eqK h (fun k=>by
  have hl:=of_decide_eq_true hl;have h2:V0 (Yga O elt t₁ t₂ it₂ ρ') ds g1=some (ys,g2):=h2;refine Qiz hit ii (Qhc ok1 it1) S hA b F h1 hc ho hcap fun i W St a cenv z1 s1 T hst S' fa ha aW hKW hC hne M=>?_;refine Qhs rfl (Qzh ..) T (fun i z1 g1 s1=>St i z1 s1.heap∧X2 (TJ P w hB Γ (Qi s.heap) z s (fun x=>Qi s.heap x∨x=a∨x∈W) cenv nm' a ρ' [] (V0 (Yga O elt t₁ t₂ it₂ ρ')) ds ys g2 i z1 g1 s1)) (fun i z1 g1 s1 hj=>⟨by obtain ⟨_,_,J⟩:=hj.2;exact J.M.b,hj.1⟩) (fun i z1 g1 s1 d v z2 s2 E' hj hd b2 sw st2 r=>?_) (fun z1 g1 s1 s2 hj b2 sw=>?_) ⟨hst,[],ys,M,rfl,h2⟩
  ·refine gk fun Ω κ=>?_;obtain ⟨st1,d1,rest,M1,hys,hf1⟩:=hj;rw [Qkg hd]at hf1;have has:=T.has st1;have has2:=T.has st2;have M2:=M1.stepW (fun c hc=>.inl hc) fa aW hKW b2 sw (fun c hc=>let ⟨_,_,o,e,i⟩:=has c hc;⟨o,e,i⟩) (fun c hc=>let ⟨_,_,o,e,_⟩:=has2 c hc;⟨o,e⟩);refine κ ?_;refine Ycw hf1 (fun xs gg zs h3 h4 hys=>Qcj h3 fun ρ₁ hb h3=>Y8 h3 fun es g3 h5 h6=>?_) hys;obtain ⟨hb1,hb2⟩:=Qes hb;obtain ⟨m2,F2⟩:=M2.F;refine Qiw hA.hh t₁ it1 hb1 r M2.b M2.kp F2 fun s3 m3 b3 ss3 F3=>?_;have M3:=M2.sstep (fun c hc=>.inl hc) fa (.inr (.inl rfl)) b3 ss3 F3;refine wpAny_tests_nil ?_;refine eqR (if_pos rfl) ?_;unfold Qq0;refine wpAny_bind (wpAny_mono (hit2 _ _ _ t₂' _ _ _ _ _ _ _ _ _ _ (fun i s'=>X3 fun W2 St2 z4=>A5 (Base P w hB Γ z4 g3 s') (Step Γ z2 s3 z4 s') (Turns P w hB Γ A t₂' i W2 es St2) (St2 0 z4 s'.heap) (∀a∈W2,s3.heap.get? a=none)) _ ii2 (Qhc ok2 it2) S' hA b3 F3 h5 fun i W2 St2 z4 s4 b4 st4 T2 hst2 hW2=>⟨W2,St2,z4,b4,st4,T2,hst2,hW2⟩) (fun x s₁ hx=>wpAny_bind (wpAny_standAt ?_)) fun Y Y h=>h);rw [Qjq ii2];refine wpAny_bind (wpAny_pure (wpAny_bind (wpAny_holding (wpAny_mono hx (fun i2 s4 h4'=>?_) fun Y Y h=>h))));obtain ⟨W2,St2,z4,b4,st4,T2,hst2,hW2⟩:=h4';have M4:=M3.step (fun c hc=>.inl hc) fa b4 st4;have hS4:=T.stp (T.frame st2 (ZLe.refl _) b3.zin (fun Y Y=>rfl) fun c hc o e=>ss3.keep c o (.inr (.inr hc)) (has2 c hc).2.1 e:St (i+1) z2 s3.heap) b4 st4;have nW2:∀{c},Qi s3.heap c→c∉W2:=fun ⟨o,e⟩ q=>nomatch (hW2 _ q).symm.trans e;have M5:Mid P w hB Γ (Qi s.heap) z s (fun x=>(Qi s.heap x∨x=a∨x∈W)∨x∈W2) cenv nm' a ρ₁ ([]++d1) z4 g3 s4:=
    ⟨M4.b,M4.ss,fun c hc=>hc.elim (M4.kp c) fun hc=>let ⟨_,_,o,e,_⟩:=T2.has hst2 c hc;⟨o,e⟩,⟨_,(F3.widen (fun x hx=>hx.imp id (hW2 x)) fun x hx=>.inl hx).step b3 b4 st4⟩,M4.acc,M4.za⟩
   refine wpAny_bind (wpAny_runOwn (h:=none) ?_ (by intro q;cases q));rw [Around.mark_none];have inner:∀(R:Result→Shared→Prop),(∀z' s',Mid P w hB Γ (Qi s.heap) z s (fun c=>((Qi s.heap c∨c=a∨c∈W)∨c∈W2)∧c∉W2) cenv nm' a ρ₁ (([]++d1)++xs) z' gg s'→SStep Γ (fun c=>c∈W) z4 s4 z' s'→R (.ok .next) s') →
     codeAny (model P w) A (.compLoop (.ListComp elt' [⟨t₁',it₁',[],0⟩,⟨t₂',it₂',[],0⟩] sc' p) 1 i2 (.ref a) cenv) R s4:=fun R hR=>
    Qhr hel Qo2 rfl (Ya3 ..) T2 ie rfl it2 S' hA (fun c hc=>.inl (.inl hc)) fa (.inl (.inr (.inl rfl))) ha (nW2 (M3.kp a (.inr (.inl rfl)))) (fun c hc=>nW2 (M3.kp c (.inl hc))) (fun c hc=>.inr hc) h6 (Nat.le_trans (Yh6 hys) hl) M5 hst2 (fun c=>c∈W)
     (fun c hc=>⟨.inl (.inr (.inr hc)),fun q=>aW (q▸hc),nW2 (M3.kp c (.inr (.inr hc)))⟩) hR
   refine (fun fin=>Qfz rfl (dep:=1) (te:=t₂') (itE:=it₂') (ifs:=[]) rfl fin fun E''=>T2.self hst2 fin) (inner _ fun z' s' M6 ss6=>?_);exact wpAny_pure ⟨z',gg,T.frame hS4 ss6.le M6.b.zin (fun c hc=>ss6.fresh c hc (T.has hS4 c hc).2.1) fun c hc o e=>ss6.keep c o hc (T.has hS4 c hc).2.1 e,d1++xs,zs,(M6.narrow fun c hc=>⟨.inl hc,nW2 (M3.kp c hc)⟩).back hb2,(List.append_assoc ..).trans hys,h4⟩
  ·obtain ⟨st1,d1,rest,M1,hys,hf1⟩:=hj;rw [List.drop_length]at hf1;exact Qzc hf1 (fun hys k=>k ys a cenv ρ' _ z1 s2 rfl fa ha hC hne (hys▸(List.append_nil d1).symm▸(M1.endW (fun c hc=>.inl hc) fa aW hKW b2 sw fun c hc=>let ⟨_,_,o,e,i⟩:=T.has st1 c hc;⟨o,e,i⟩))) hys k) k)
theorem Qun (hel:SE P w hB Γ n O elt) (hit:SIt P w hB Γ n O it₁) (hit2:SIt P w hB Γ n O it₂):SE P w hB Γ n O (.comp2 elt t₁ it₁ t₂ it₂ nm' cap):=fun sc nm e' env ρ m K z g s A d g' Q E hi S hA b F h p=>
 Qi6 (M:=fun e'=>wpAny (model P w) A (eval e' env) Q E s) (use:=none) hel hit hit2 hi S hA b F h (fun ys a cenv ρ' K' z' s' hd fa ha hC hne M=>Qf4 (hd▸p) fa ha hC hne M) fun Y Y Y Y h=>h
end
section
noncomputable def Yfp (P:Program) (w:World) (hB:Heap) (Γ:Gm) (n:Nat) (O:Orc) (es:CEs):Prop:=CEs.rec (motive_1:=fun Y=>Prop) (motive_2:=fun Y=>Prop) (motive_3:=fun Y=>Prop) True (fun Y=>True) (fun Y=>True) (fun Y=>True) (fun Y=>True) (fun Y=>True) (fun Y Y Y Y Y=>True) (fun Y Y Y Y Y=>True) (fun Y Y Y Y Y Y Y Y=>True) (fun Y Y Y=>True) (fun Y Y Y Y=>True) (fun Y Y=>True) (fun Y Y Y Y Y=>True) (fun Y Y Y Y Y Y Y=>True) (fun Y Y Y Y Y Y=>True)
 (fun Y Y=>True) (fun Y Y=>True) (fun Y Y Y Y=>True) (fun Y Y Y=>True) (fun Y Y Y=>True) (fun Y Y Y=>True) (fun Y Y Y=>True) (fun Y Y Y Y=>True) (fun Y Y Y Y Y Y Y Y Y=>True) (fun Y Y Y Y Y Y Y Y Y Y=>True) True (fun e Y Y r=>(SE P w hB Γ n O e∧ST P w hB Γ n O e)∧r) (fun Y Y=>True) (fun Y Y Y Y=>True) (fun Y Y=>True) (fun Y Y=>True) (fun Y Y=>True) es
theorem Qqs {es:CEs}(h:Yfp P w hB Γ n O es):STs P w hB Γ n O es:=by
 cases es with
 |nil=>exact Qo2
 |cons e r=>cases r with
  |nil=>exact Qyh h.1.2
  |cons f r=>exact Qt8
noncomputable def SB (P:Program) (w:World) (hB:Heap) (Γ:Gm) (n:Nat) (O:Orc) (e:CE):Prop:=SE P w hB Γ n O e∧ST P w hB Γ n O e
noncomputable def SBs (P:Program) (w:World) (hB:Heap) (Γ:Gm) (n:Nat) (O:Orc) (es:CEs):Prop:=SEs P w hB Γ n O es∧Yfp P w hB Γ n O es
theorem sbV (he:SE P w hB Γ n O e) (hf:∀sc nm e',isE sc nm e e'=true→∀env whole,PySem.isTrue e' env whole=(do let v ←whole;standAt e'.pos;holding [v] (truthy v))):SB P w hB Γ n O e:=⟨he,Ybi he hf⟩
theorem Yed (W:Wd hB Γ mg mb) (hO:OrcOk P w hB Γ mg n O) {k:Bi}{es:CEs}(h:SBs P w hB Γ n O es):SB P w hB Γ n O (.bi k es):=
 sbV (Yey W hO.sort h.1 (fun a b e=>by subst e;exact ⟨h.2.1.1,h.2.2.1.1⟩) fun a e=>by subst e;exact h.2.1.1) fun sc nm e' h env whole=>Qvb (N:=fun Y Y e'=>PySem.isTrue e' env whole=(do let v ←whole;standAt e'.pos;holding [v] (truthy v))) h (fun Y Y Y Y Y Y Y Y Y Y=>rfl) (fun Y Y Y Y Y Y Y Y Y Y Y Y Y Y=>rfl) fun Y Y Y Y Y Y Y Y Y=>rfl
theorem Qj3 (W:Wd hB Γ mg mb) (hO:OrcOk P w hB Γ mg n O):(∀e,SB P w hB Γ n O e)∧(∀es,SBs P w hB Γ n O es)∧∀it,SIt P w hB Γ n O it:=by
 have rc:=fun (A:∀{M1:CE→Prop} {M2:CEs→Prop} {M3:CI→Prop},M1=SB P w hB Γ n O→M2=SBs P w hB Γ n O→M3=SIt P w hB Γ n O→(∀e,M1 e)∧(∀es,M2 es)∧∀it,M3 it)=>A rfl rfl rfl;refine rc fun {M1 M2 M3} q1 q2 q3=>?_;have c1:M1 .none:=q1▸sbV Qw4 fun sc nm e' h env whole=>Qf6 h fun Y Y=>rfl;have c2:∀b,M1 (.bool b):=fun b=>q1▸sbV (Qyz b) fun sc nm e' h env whole=>Qlh h fun Y Y=>rfl;have c3:∀i,M1 (.int i):=fun i=>q1▸sbV (Qut i) fun sc nm e' h env whole=>Qp9 h (fun Y Y=>rfl) fun Y Y Y Y Y=>rfl;have c4:∀x,M1 (.str x):=fun x=>q1▸sbV (Yao x) fun sc nm e' h env whole=>Qp2 h fun Y Y=>rfl;have c5:∀i,M1 (.var i):=fun i=>q1▸sbV (Qic i) fun sc nm e' h env whole=>Qja h fun Y Y Y Y=>rfl;have c6:∀x,M1 (.glob x):=fun x=>q1▸sbV (Qwj W hO x) fun sc nm e' h env whole=>Qml h fun Y Y Y=>rfl;have c7:∀o l r,M1 l→M1 r→M1 (.bin o l r):=q1▸fun o l r a b=>sbV (Qzs a.1 b.1) fun sc nm e' h env whole=>Qka h fun Y Y Y Y Y Y Y=>rfl;have c8:∀o l r,M1 l→M1 r→M1 (.cmp o l r):=q1▸fun o l r a b=>⟨Yab a.1 b.1,Ybu a.1 b.1⟩
 have c9:∀o₁ o₂ l m r,M1 l→M1 m→M1 r→M1 (.cmp2 o₁ o₂ l m r):=q1▸fun Y Y l m r a b c=>⟨Qwi a.1 b.1 c.1,Qyu a.1 b.1 c.1⟩
 have c10:∀t e,M1 e→M1 (.isN t e):=q1▸fun t e a=>⟨Ycz a.1,Ya7 a.1⟩
 have c11:∀l r,M1 l→M1 r→M1 (.inE l r):=q1▸fun l r a b=>⟨Qzt a.1 b.1,Yaj a.1 b.1⟩
 have c12:∀e,M1 e→M1 (.not e):=q1▸fun e a=>⟨Ya1 a.1,Ybt a.2⟩
 have c13:∀c x y,M1 x→M1 y→M1 (.bop c x y):=q1▸fun c x y a b=>⟨Qzw a.1 b.1,Ybo a.2 b.2⟩
 have c14:∀c x y u,M1 x→M1 y→M1 u→M1 (.bop3 c x y u):=q1▸fun c x y u a b d=>⟨Qxh a.1 b.1 d.1,Qxn a.2 b.2 d.2⟩
 have c15:∀t x y,M1 t→M1 x→M1 y→M1 (.ite t x y):=q1▸fun t x y a b c=>⟨Qzp a.2 b.1 c.1,Qzd a.2 b.2 c.2⟩
 have c16:∀es,M2 es→M1 (.tup es):=q1▸q2▸fun es a=>sbV (Qzj a.1) fun sc nm e' h env whole=>Qp1 h fun Y Y Y Y=>rfl;have c17:∀es,M2 es→M1 (.lst es):=q1▸q2▸fun es a=>sbV (Qzk a.1) fun sc nm e' h env whole=>Qkk h fun Y Y Y=>rfl;have c18:∀e i,M1 e→M1 i→M1 (.idx e i):=q1▸fun e i a b=>sbV (Ybn a.1 b.1) fun sc nm e' h env whole=>Qn6 h fun Y Y Y Y Y Y=>rfl;have c19:∀e k,M1 e→M1 (.upto e k):=q1▸fun e k a=>sbV (Qyy a.1) fun sc nm e' h env whole=>Qlf h fun Y Y Y Y Y Y=>rfl;have c20:∀f es,M2 es→M1 (.fn f es):=q1▸q2▸fun f es a=>sbV (Yf5 W hO a.1) fun sc nm e' h env whole=>Qu4 h fun Y Y Y Y Y Y=>rfl;have c21:∀k es,M2 es→M1 (.bi k es):=q1▸q2▸fun k es a=>Yed W hO a;have c22:∀e a,M1 e→M1 (.attr e a):=q1▸fun e a h=>sbV (Qx5 hO h.1) fun sc nm e' h env whole=>Qlx h fun Y Y Y Y Y Y Y Y Y Y=>rfl;have c23:∀x a,M1 x→M1 a→M1 (.obj x a):=q1▸fun x a b c=>sbV (Yco hO b.1 c.1) fun sc nm e' h env whole=>Qo6 h fun Y Y Y Y Y Y Y Y Y Y=>rfl;have c24:∀elt t it ifs nm cap,M1 elt→M3 it→M2 ifs→M1 (.comp elt t it ifs nm cap):=q1▸q2▸q3▸fun elt t it ifs nm cap a b c=>sbV (Qv8 a.1 b (Qqs c.2)) fun sc nm e' h env whole=>Qkw h fun Y Y Y Y Y Y Y Y Y Y Y Y Y=>rfl;have c25:∀elt t₁ it₁ t₂ it₂ nm cap,M1 elt→M3 it₁→M3 it₂→M1 (.comp2 elt t₁ it₁ t₂ it₂ nm cap):=q1▸q3▸fun elt t it t2 it2 nm cap a b c=>sbV (Qun a.1 b c) fun sc nm e' h env whole=>Qh1 h fun Y Y Y Y Y Y Y Y Y Y Y Y Y Y Y Y=>rfl;have d1:M2 .nil:=q2▸⟨Qf9,trivial⟩;have d2:∀e r,M1 e→M2 r→M2 (.cons e r):=q1▸q2▸fun e r a b=>⟨Qbw a.1 b.1,a,b.2⟩
 have f1:∀e,M1 e→M3 (.over e):=q1▸q3▸fun e a=>Qxa a.1;have f2:∀a b,M1 a→M1 b→M3 (.rng a b):=q1▸q3▸fun Y Y a b=>Ybc W a.1 b.1;have f3:∀b,M1 b→M3 (.rng1 b):=q1▸q3▸fun Y a=>Qx6 W a.1;have f4:∀es,M2 es→M3 (.zip es):=q2▸q3▸fun Y a=>Qzl W a.1;have f5:∀e,M1 e→M3 (.enum e):=q1▸q3▸fun Y a=>Qxq W a.1;clear q1 q2 q3;exact ⟨fun e=>CE.rec (motive_1:=M1) (motive_2:=M2) (motive_3:=M3) c1 c2 c3 c4 c5 c6 c7 c8 c9 c10 c11 c12 c13 c14 c15 c16 c17 c18 c19 c20 c21 c22 c23 c24 c25 d1 d2 f1 f2 f3 f4 f5 e,
  fun e=>CEs.rec (motive_1:=M1) (motive_2:=M2) (motive_3:=M3) c1 c2 c3 c4 c5 c6 c7 c8 c9 c10 c11 c12 c13 c14 c15 c16 c17 c18 c19 c20 c21 c22 c23 c24 c25 d1 d2 f1 f2 f3 f4 f5 e,
  fun e=>CI.rec (motive_1:=M1) (motive_2:=M2) (motive_3:=M3) c1 c2 c3 c4 c5 c6 c7 c8 c9 c10 c11 c12 c13 c14 c15 c16 c17 c18 c19 c20 c21 c22 c23 c24 c25 d1 d2 f1 f2 f3 f4 f5 e⟩
theorem Qxe (W:Wd hB Γ mg mb) (hO:OrcOk P w hB Γ mg n O) (e:CE):SE P w hB Γ n O e∧ST P w hB Γ n O e:=(Qj3 W hO).1 e
theorem Qbm (W:Wd hB Γ mg mb) (hO:OrcOk P w hB Γ mg n O) (es:CEs):SEs P w hB Γ n O es∧Yfp P w hB Γ n O es:=(Qj3 W hO).2.1 es
theorem Yar (W:Wd hB Γ mg mb) (hO:OrcOk P w hB Γ mg n O) (it:CI):SIt P w hB Γ n O it:=(Qj3 W hO).2.2 it
end
section
variable {K:Addr→Prop}
theorem Qcq (F:Fro P w Γ K z s.heap env nm ρ m) (b:Base P w hB Γ z g s) (st:Step Γ z s z1 s1) (ha:¬Qi s.heap a) {y:String}(hj:nm[j]?=some y) (oj:Y7 ρ j):¬Cur s1.heap env m (Str.ofString y) (.ref a):=fun cu=>by
 have mv:∀{v},Cur s.heap env m (Str.ofString y) v→Cur s1.heap env m (Str.ofString y) v:=fun c=>c.mv fun c u hc o e=>st.keep c o (Yp b hc) e;rcases oj with ⟨xs,q⟩|⟨es,q⟩
 ·obtain ⟨_,v,c2,S⟩:=F.slot j y _ hj q;obtain ⟨a',e,⟨vs,k,h1,_⟩,_⟩:=S;have:=(mv c2).uniq cu;rw [e]at this;cases this;exact ha ⟨_,h1⟩
 ·obtain ⟨_,v,c2,S⟩:=F.slot j y _ hj q;obtain ⟨a',e,⟨xs,ys,⟨o,e1,e2,g1,_⟩,_⟩,_⟩:=S;have:=(mv c2).uniq cu;rw [e]at this;cases this;exact ha ⟨_,g1⟩
noncomputable def Ybd (b':B) (ys:List D):Prop:=b'=.val (.lst ys)∨b'=.own ys
set_option tactic.hygienic true in
theorem Qlz {q p:Pos}{Q:Flow→Shared→Prop}(b:Base P w hB Γ z g s) (F:Fro P w Γ K z s.heap env nm ρ m) (kp:Kp K s.heap)
  (hi:nm[i]?=some x) (hw:Qa7 ρ i=true) (hb:Ybd b' ys)
  (cr:∀(use:Option (Value→Sem Unit)) (Q E:Value→Shared→Prop),(∀a cenv nm' ρ' K' z' s',Γ.free a→¬Qi s.heap a→¬Qi s.heap cenv.locals→cenv.locals≠a→Mid P w hB Γ (Qi s.heap) z s K' cenv nm' a ρ' ys z' g' s'→compPost (model P w) A E use Q (.ref a) cenv.locals (.ok .next) s') →
   wpAny (model P w) A (comprehension (.ListComp elt' gs sc' q) sc' env (firstIterPos gs q) (newList []) (firstAsync gs) (firstIter gs env) use) Q E s)
  (hQ:∀z' s' m',Base P w hB Γ z' g' s'→SStep Γ K z s z' s'→Fro P w Γ K z' s'.heap env nm (ρ.set i (some b')) m'→Q .next s') :
  wpAny (model P w) A (exec (.Assign [.Name (Str.ofString x) p] (.ListComp elt' gs sc' q) pos) env) Q E s:=by
 have mid:∀{a:Addr} {cenv:Env} {nm' ρ' K' z' s'},Γ.free a→¬Qi s.heap a→¬Qi s.heap cenv.locals→cenv.locals≠a→Mid P w hB Γ (Qi s.heap) z s K' cenv nm' a ρ' ys z' g' s' →
   X2 fun z1 m1=>A7 (Base P w hB Γ z1 g' s') (Step Γ z s z1 s') (Qip P w Γ (fun c=>K c∨c=cenv.locals) z1 s'.heap env b' (.ref a)) (z1 cenv.locals=none) (Fro P w Γ (fun c=>K c∨c=cenv.locals) z1 s'.heap env nm ρ m) (s'.heap.Ns cenv.locals m1) (X2 fun vs k=>s'.heap.get? a=some (Vs vs k)):=by
  intro a cenv nm' ρ' K' z' s' fa ha hC hne M;obtain ⟨m1,F'⟩:=M.F;obtain ⟨vs,k,e,r⟩:=M.acc;have st:=M.ss.step;have Fw:=F.widen (K':=fun c=>K c∨c=cenv.locals) (fun c hc=>by
   rcases hc with hc|rfl
   ·exact .inl hc
   ·exact .inr (by cases hx:s.heap.get? cenv.locals with
     |none=>rfl
     |some o=>exact absurd ⟨o,hx⟩ hC)) fun c hc=>.inl hc
  rcases hb with rfl|rfl
  ·have st1:Step Γ z s (z'.add a (Vs vs k)) s':=⟨st.eq,st.keep,st.le.trans (Z.le_add M.za),fun c o f e'=>by
    unfold Z.add;refine eqR (if_neg (by intro hx;exact ha ⟨o,hx▸e'⟩)) ?_;exact st.fresh c o f e'⟩
   have b1:=M.b.freeze e M.za fa;refine ⟨_,m1,b1,st1,.lst (Z.add_self ..) (r.le (Z.le_add M.za)),?_,Fw.step b b1 st1,F'.ns,vs,k,e⟩;unfold Z.add;refine eqR (if_neg hne) ?_;exact F'.zl
  ·refine ⟨z',m1,M.b,st,⟨a,rfl,⟨vs,k,e,r,fa⟩,M.za,fun hc=>?_⟩,F'.zl,Fw.step b M.b st,F'.ns,vs,k,e⟩;rcases hc with hc|hc
   ·exact ha (kp a hc)
   ·exact hne hc.symm
 have nC:∀{C:Addr},¬Qi s.heap C→¬K C:=fun hC hk=>hC (kp _ hk);have ns_nc:∀{h:Heap} {C:Addr} {m1},h.Ns C m1→∀u,¬h.IsCell C u:=fun ⟨o,es,ep,e,d,_⟩ u ⟨o',e',d'⟩=>by rw [e]at e';cases e';rw [d]at d';cases d'
 rw [exec_Assign_arm];refine wpAny_bind (wpAny_standAt ?_);have hsw:∃t,swapsWithSole [.Name (Str.ofString x) p] (.ListComp elt' gs sc' q) pos.line env=pure t:=⟨_,rfl⟩
 obtain ⟨t,hsw⟩:=hsw;refine eqR (hsw) ?_;refine wpAny_bind (wpAny_pure ?_);cases t
 ·refine aN (by decide) ?_;refine wpAny_bind ?_;refine (?_:wpAny _ A (comprehension (.ListComp elt' gs sc' q) sc' env (firstIterPos gs q) (newList []) (firstAsync gs) (firstIter gs env) none) _ _ _);refine cr none _ _ fun a cenv nm' ρ' K' z' s' fa ha hC hne M=>?_;obtain ⟨z1,m1,b1,st1,hh,zC,F1,ns,vs,k,e⟩:=mid fa ha hC hne M;refine ⟨m1,ns,fun h' hs=>?_⟩;have fC:=Y2 b1 ns;have b2:=b1.but (t:=s'.toks) hs zC fC;have F2:=F1.butG b1 hs zC (.inr rfl) (ns_nc ns);have hh2:Qip P w Γ (fun c=>K c∨c=cenv.locals) z1 h' env b' (.ref a):=by
   rcases hb with rfl|rfl
   ·exact hh
   ·obtain ⟨a',q,⟨vs,k,h1,h2,h3⟩,h4,h5⟩:=hh;cases q;exact ⟨a,rfl,⟨vs,k,(hs.2 _ hne.symm).trans h1,h2,h3⟩,h4,h5⟩
  refine eqR ((rfl:swappedStores [.Name (Str.ofString x) p] (.ListComp elt' gs sc' q) env=pure none)) ?_;refine wpAny_bind (wpAny_pure ?_);refine (?_:wpAny _ A (do assignAll (.ref a) [assign (.Name (Str.ofString x) p) env];pure Flow.next) _ _ _);refine wpAny_bind ?_;refine (?_:wpAny _ A (assign (.Name (Str.ofString x) p) env (.ref a)) _ _ _);refine wpAny_assign_Name (F2.store (s:={ s' with heap:=h' }) b2 hi hw hh2 (fun a' j y hown hv hj hij oj cu=>?_) fun h3 t3 m3 b3 ss3 F3 Y=>wpAny_pure ?_)
  ·cases hv;have st2:Step Γ z s z1 { s' with heap:=h' }:=⟨let ⟨h,t,e⟩:=st1.eq;⟨h',t,by rw [e]⟩,fun c o f e'=>(hs.2 c (by intro hx;exact hC ⟨o,hx▸e'⟩)).trans (st1.keep c o f e'),st1.le,st1.fresh⟩
   exact Qcq F b st2 ha hj oj cu
  ·refine hQ z1 _ m3 b3 ?_ (F3.narrow fun c hc=>.inl hc);exact ((st1.ss kp).trans (.but hs (nC hC))).trans (ss3.sub fun c hc=>.inl hc)
 ·refine aP rfl ?_;refine wpAny_bind ?_;refine (?_:wpAny _ A (do let _ ←comprehension (.ListComp elt' gs sc' q) sc' env (firstIterPos gs q) (newList []) (firstAsync gs) (firstIter gs env) (some fun v=>assignAll v [assign (.Name (Str.ofString x) p) env])) _ _ _);refine wpAny_bind (cr (some _) _ _ fun a cenv nm' ρ' K' z' s' fa ha hC hne M=>?_);obtain ⟨z1,m1,b1,st1,hh,zC,F1,ns,vs,k,e⟩:=mid fa ha hC hne M;refine wpAny_assign_Name (F1.store b1 hi hw hh (fun a' j y hown hv hj hij oj cu=>?_) fun h3 t3 m3 b3 ss3 F3 k3=>?_)
  ·cases hv;exact Qcq F b st1 ha hj oj cu
  ·have ns3:h3.Ns cenv.locals m1:=by
    obtain ⟨o,es,ep,e1,e2,e3⟩:=id ns;refine ⟨o,es,ep,k3 _ _ e1 (fun hx=>?_) (ns_nc ns),e2,e3⟩;obtain ⟨lo,le,lp,l1,_⟩:=id F.ns;exact hC ⟨lo,hx▸l1⟩
   refine ⟨m1,ns3,fun h4 hs4=>wpAny_pure (wpAny_pure ?_)⟩;refine hQ z1 _ m3 (b3.but (t:=t3) hs4 zC (Y2 b3 ns3)) ?_ ((F3.butG b3 hs4 zC (.inr rfl) (ns_nc ns3)).narrow fun c hc=>.inl hc);exact ((st1.ss kp).trans (ss3.sub fun c hc=>.inl hc)).trans (.but hs4 (nC hC))
end
theorem Qbn {sc:Scope}(h:isE sc nm e e'=true) (hn:Qs e=false) (t:Option Expr) (l:Nat) (env:Env):swapsWith e' t l env=pure false:=by
 have t8:=Yet h hn;have t9:e'.ctorIdx≠9:=Qko h rfl;have t10:e'.ctorIdx≠10:=Qko h rfl;clear h hn;cases e'<;>first|rfl|exact absurd rfl t8|exact absurd rfl t9|exact absurd rfl t10
section
variable {sc:Scope}{st':Stmt}
variable {M:Stmt→Prop}
@[elab_as_elim] theorem Qv6 {t e} (h0:isS sc nm (.asg t e) st'=true) (g:∀t' e' p,isT nm t t'=true→isE sc nm e e'=true→(Qf2 t'&&(Qf2 e'||Qs e))=false→M (.Assign [t'] e' p)):M st':=
 Qoq h0 fun Y e' p h=>m1K (M:=fun ts=>M (.Assign ts e' p)) h fun t' h=>g t' e' p (ba1 (ba1 h)) (ba2 (ba1 h)) (bn (ba2 h))
@[elab_as_elim] theorem Qn5 {i ts} {N:List Expr→Prop} (h0:m1 (mNm fun x Y=>Qi9 nm i x) ts=true) (g:∀x q,nm[i]?=some x→(Str.ofString x==("__debug__":Str))=false→N [.Name (Str.ofString x) q]):N ts:=m1K h0 fun a h=>Qmo (M:=fun a=>N [a]) h fun Y q h=>Qfe (N:=fun y=>N [.Name y q]) h fun x=>g x q
@[elab_as_elim] theorem Qso {i} (h0:isS sc nm (.ownL i) st'=true) (g:∀x q q' p,nm[i]?=some x→M (.Assign [.Name (Str.ofString x) q] (.List [] q') p)):M st':=
 Qoq h0 fun Y e' p h=>Qn5 (N:=fun ts=>M (.Assign ts e' p)) (ba1 h) fun x q h1 Y=>Qy1 (M:=fun e'=>M (.Assign _ e' p)) (ba2 h) fun es q' h=>mEK (M:=fun es=>M (.Assign _ (.List es q') p)) h (g x q q' p h1)
@[elab_as_elim] theorem Qsi {i} (h0:isS sc nm (.ownD i) st'=true) (g:∀x q q' p,nm[i]?=some x→M (.Assign [.Name (Str.ofString x) q] (.Dict [] [] q') p)):M st':=
 Qoq h0 fun Y e' p h=>Qn5 (N:=fun ts=>M (.Assign ts e' p)) (ba1 h) fun x q h1 Y=>Yht (M:=fun e'=>M (.Assign _ e' p)) (ba2 h) fun ks vs q' h=>mEK (M:=fun ks=>M (.Assign _ (.Dict ks vs q') p)) (ba1 h) (mEK (M:=fun vs=>M (.Assign _ (.Dict [] vs q') p)) (ba2 h) (g x q q' p h1))
@[elab_as_elim] theorem Qtg {i e} (h0:isS sc nm (.ownE i e) st'=true) (g:∀x q e' p,nm[i]?=some x→isE sc nm e e'=true→(Qs e||Qei e)=true→M (.Assign [.Name (Str.ofString x) q] e' p)):M st':=
 Qoq h0 fun Y e' p h=>Qn5 (N:=fun ts=>M (.Assign ts e' p)) (ba1 (ba1 h)) fun x q h1 Y=>g x q e' p h1 (ba2 (ba1 h)) (ba2 h)
@[elab_as_elim] theorem Qr4 {i b} {N:Expr→Prop} (h0:mNm (fun x Y=>Qi9 nm i x) b=true) (g:∀x q,nm[i]?=some x→(Str.ofString x==("__debug__":Str))=false→N (.Name (Str.ofString x) q)):N b:=Qmo h0 fun Y q h=>Qfe (N:=fun y=>N (.Name y q)) h fun x=>g x q
@[elab_as_elim] theorem Qv3 {i e} (h0:isS sc nm (.app i e) st'=true) (g:∀x q ap e' p r,nm[i]?=some x→(Str.ofString x==("__debug__":Str))=false→isE sc nm e e'=true→(ap.endLine==p.line)=true→M (.Expr (.Call (.Attribute (.Name (Str.ofString x) q) (Str.ofString "append") ap) [e'] [] p) r)):M st':=
 Qy6 h0 fun v r h=>mMK (M:=fun v=>M (.Expr v r)) h fun b ap as p h1 h=>Qr4 (N:=fun b=>M (.Expr (.Call (.Attribute b _ ap) as [] p) r)) (ba1 h) fun x q h3 h4=>m1K (M:=fun as=>M (.Expr (.Call (.Attribute _ _ ap) as [] p) r)) (ba2 h) fun e' h5=>g x q ap e' p r h3 h4 h5 h1
@[elab_as_elim] theorem Qk2 {i k v} (h0:isS sc nm (.setL i k v) st'=true) (g:∀x q k' q' v' p,nm[i]?=some x→(Str.ofString x==("__debug__":Str))=false→isE sc nm k k'=true→isE sc nm v v'=true→Qs v=false→M (.Assign [.Subscript (.Name (Str.ofString x) q) k' q'] v' p)):M st':=
 Qoq h0 fun Y v' p h=>m1K (M:=fun ts=>M (.Assign ts v' p)) h fun t h=>Qjh (M:=fun t=>M (.Assign [t] v' p)) h fun b k' q' h=>Qr4 (N:=fun b=>M (.Assign [.Subscript b k' q'] v' p)) (ba1 (ba1 (ba1 (ba1 h)))) fun x q h1 h2=>g x q k' q' v' p h1 h2 (ba2 (ba1 (ba1 (ba1 h)))) (ba2 (ba1 (ba1 h))) (bn (ba2 h))
@[elab_as_elim] theorem Quq {i k v} (h0:isS sc nm (.setD i k v) st'=true) (g:∀x q k' q' v' p,nm[i]?=some x→(Str.ofString x==("__debug__":Str))=false→isE sc nm k k'=true→isE sc nm v v'=true→Qs v=false→M (.Assign [.Subscript (.Name (Str.ofString x) q) k' q'] v' p)):M st':=Qk2 (M:=M) (show isS sc nm (.setL i k v) st'=true from h0) g
@[elab_as_elim] theorem Qte {b k v} (h0:isS sc nm (.setH b k v) st'=true) (g:∀b' k' q' v' p,isE sc nm b b'=true→isE sc nm k k'=true→isE sc nm v v'=true→Qs v=false→M (.Assign [.Subscript b' k' q'] v' p)):M st':=
 Qoq h0 fun Y v' p h=>m1K (M:=fun ts=>M (.Assign ts v' p)) h fun t h=>Qjh (M:=fun t=>M (.Assign [t] v' p)) h fun b' k' q' h=>g b' k' q' v' p (ba1 (ba1 (ba1 (ba1 h)))) (ba2 (ba1 (ba1 (ba1 h)))) (ba2 (ba1 (ba1 h))) (bn (ba2 h))
@[elab_as_elim] theorem Yc6 {e} (h0:isS sc nm (.ex e) st'=true) (g:∀e' p,isE sc nm e e'=true→Qs e=false→M (.Expr e' p)):M st':=Qy6 h0 fun e' p h=>g e' p (ba1 h) (bn (ba2 h))
@[elab_as_elim] theorem Yb4 {t a b} (h0:isS sc nm (.ifS t a b) st'=true) (g:∀t' a' b' p,isE sc nm t t'=true→Qbj sc nm a a'=true→Qbj sc nm b b'=true→M (.If t' a' b' p)):M st':=Ydv h0 fun t' a' b' p h=>g t' a' b' p (ba1 (ba1 h)) (ba2 (ba1 h)) (ba2 h)
@[elab_as_elim] theorem Qwx {t it b} (h0:isS sc nm (.forS t it b) st'=true) (g:∀t' it' b' p,Qtl it t=true→isT nm t t'=true→isI sc nm it it'=true→Qbj sc nm b b'=true→M (.For t' it' b' [] p)):M st':=
 Yh7 h0 fun t' it' b' o p h=>mEK (M:=fun o=>M (.For t' it' b' o p)) (ba1 (ba1 (ba1 (ba1 h)))) (g t' it' b' p (ba2 (ba1 (ba1 (ba1 h)))) (ba2 (ba1 (ba1 h))) (ba2 (ba1 h)) (ba2 h))
@[elab_as_elim] theorem Qyt {e} (h0:isS sc nm (.ret e) st'=true) (g:∀e' p,isE sc nm e e'=true→M (.Return (some e') p)):M st':=Ydh h0 fun Y p h=>mSK (M:=fun v=>M (.Return v p)) h fun e' h=>g e' p h
@[elab_as_elim] theorem Qx4 {i j a b} (h0:isS sc nm (.two i j a b) st'=true) (g:∀x y q1 q2 k q3 a' b' k2 q4 p,nm[i]?=some x→nm[j]?=some y→isO sc nm a a'=true→isO sc nm b b'=true→((constantsAlone 8 a'&&constantsAlone 8 b')||(foldedForSure 8 a'&&foldedForSure 8 b'))=false→Str.ofString x≠Str.ofString y →
  M (.Assign [.Tuple [.Name (Str.ofString x) q1,.Name (Str.ofString y) q2] k q3] (.Tuple [a',b'] k2 q4) p)):M st':=
 Qoq h0 fun ts v p h=>by
  have h1:=ba1 h;have h2:=ba2 h;clear h;refine Qyj h2 fun vs k2 q4 h2=>m2K h2 fun a' b' h2=>m1K h1 fun t h3=>Qyj h3 fun es k q3 h3=>m2K h3 fun n₁ n₂ h3=>Qmo h3 fun x' q1 h3=>Qmo h3 fun y' q2 h3=>?_;exact Qfe (ba1 (ba1 h3)) (fun x h7 Y h9=>Qfe (ba2 (ba1 h3)) (fun y h8 Y h9=>g x y q1 q2 k q3 a' b' k2 q4 p h7 h8 (ba1 (ba1 h2)) (ba2 (ba1 h2)) (bn (ba2 h2)) (of_decide_eq_false h9)) h9) (bn (ba2 h3))
@[elab_as_elim] theorem Qru {ss} {N:List Stmt→Prop} (h:Qbj sc nm .nil ss=true) (g:N []):N ss:=mEK h g
@[elab_as_elim] theorem Qm5 {s r ss} {N:CS→List Stmt→Prop} (h:Qbj sc nm (.cons s r) ss=true) (g1:∀i ss,Qbj sc nm r ss=true→N (.frz i) ss) (g2:∀s' r',isS sc nm s s'=true→Qbj sc nm r r'=true→N s (s'::r')):N s ss:=by
 have h:cond (Qx9 s) (Qbj sc nm r ss) (mC (fun s' r'=>isS sc nm s s'&&Qbj sc nm r r') ss)=true:=h;cases q:Qx9 s with
 |true=>
  rw [q]at h;exact CS.frz.elim (motive_1:=fun s=>N s ss) s (eq_of_beq q) fun i=>g1 i ss h
 |false=>
  rw [q]at h;exact mCK h fun s' r' h=>g2 s' r' (ba1 h) (ba2 h)
end
section
variable (P:Program) (w:World) (hB:Heap) (Γ:Gm) (n:Nat) (O:Orc)
structure Ends (K:Addr→Prop) (z:Z) (s:Shared) (env:Env) (nm:List String) (fl:Fl) (ρ':Q8) (g':Gs) (Q:Flow→Shared→Prop):Prop where
 nxt:∀z' s' m',fl=.nxt→Base P w hB Γ z' g' s'→SStep Γ K z s z' s'→Fro P w Γ K z' s'.heap env nm ρ' m'→Q .next s'
 ret:∀d v z' s',fl=.ret d→Base P w hB Γ z' g' s'→SStep Γ K z s z' s'→Rd P w Γ z' v d→Q (.ret v) s'
noncomputable def SS (st:CS):Prop:=∀sc nm st' env ρ m K z g s A fl ρ' g' (Q:Flow→Shared→Prop) (E:Value→Shared→Prop),isS sc nm st st'=true→ScOk sc env→AOk n A→Base P w hB Γ z g s→Kp K s.heap→Fro P w Γ K z s.heap env nm ρ m→Vy O st ρ g=some (fl,ρ',g') →
 Ends P w hB Γ K z s env nm fl ρ' g' Q→wpAny (model P w) A (exec st' env) Q E s
noncomputable def SSs (ss:CSs):Prop:=∀sc nm ss' env ρ m K z g s A fl ρ' g' (Q:Flow→Shared→Prop) (E:Value→Shared→Prop),Qbj sc nm ss ss'=true→ScOk sc env→AOk n A→Base P w hB Γ z g s→Kp K s.heap→Fro P w Γ K z s.heap env nm ρ m→Yj O ss ρ g=some (fl,ρ',g') →
 Ends P w hB Γ K z s env nm fl ρ' g' Q→wpAny (model P w) A (execs ss' env) Q E s
end
section
variable {K:Addr→Prop}{Q:Flow→Shared→Prop}
theorem Ends.step (e:Ends P w hB Γ K z s env nm fl ρ' g' Q) (st:SStep Γ K z s z' s'):Ends P w hB Γ K z' s' env nm fl ρ' g' Q where
 nxt:=fun z2 s2 m2 hf b2 ss F=>e.nxt z2 s2 m2 hf b2 (st.trans ss) F
 ret:=fun d v z2 s2 hf b2 ss r=>e.ret d v z2 s2 hf b2 (st.trans ss) r
theorem Qvf {e}(he:SE P w hB Γ n O e):SS P w hB Γ n O (.ret e):=fun sc nm st' env ρ m K z g s A fl ρ' g' Q E hi S hA b kp F h k=>Qyt hi fun e' p ie=>Y8 h fun d g1 h1 h=>Qle h (fun k=>
 wpAny_Return_some (he _ _ _ _ _ _ _ _ _ _ _ _ _ _ _ ie S hA b F h1 fun v z1 s1 b1 st1 r1=>k.ret d v z1 s1 rfl b1 (st1.ss kp) r1)) k
theorem Qu7:SS P w hB Γ n O .bad:=fun sc nm st' env ρ m K z g s A fl ρ' g' Q E hi S hA b kp F h k=>ns h
theorem Qvp (i:Nat):SS P w hB Γ n O (.frz i):=fun sc nm st' env ρ m K z g s A fl ρ' g' Q E hi S hA b kp F h k=>ff hi
theorem Qsf (h:isNone d=true):d=.none:=by
 cases d<;>first|rfl|exact ff h
theorem Yb7 {e}(he:SE P w hB Γ n O e):SS P w hB Γ n O (.ex e):=fun sc nm st' env ρ m K z g s A fl ρ' g' Q E hi S hA b kp F h k=>Yc6 hi fun e' p ie hn=>Y8 h fun d g1 h1 h=>gdK h fun hd h=>Qle h (fun k=>
 wpAny_Expr (he _ _ _ _ _ _ _ _ _ _ _ _ _ _ _ ie S hA b F h1 fun v z1 s1 b1 st1 r1=>have r2:Rd P w Γ z1 v .none:=Qsf hd▸r1;Qoz r2 (k.nxt z1 s1 m rfl b1 (st1.ss kp) (F.step b b1 st1))) (by unfold interactive;rw [F.fn];rfl) (Qbn ie hn _ _ _)) k
theorem Ya8 {t x y}(ht:ST P w hB Γ n O t) (hx:SSs P w hB Γ n O x) (hy:SSs P w hB Γ n O y):SS P w hB Γ n O (.ifS t x y):=fun sc nm st' env ρ m K z g s A fl ρ' g' Q E hi S hA b kp F h k=>Yb4 hi fun t' x' y' p it ix iy=>bBK h fun v g1 h1 h=>
 wpAny_If (ht _ _ _ _ _ _ _ _ _ _ _ _ _ _ _ it S hA b F h1 fun z1 s1 b1 st1=>by
  have ss1:=st1.ss kp;cases v
  ·exact hy _ _ _ _ _ _ _ _ _ _ _ _ _ _ _ _ iy S hA b1 (kp.ss b1 ss1) (F.step b b1 st1) h (k.step ss1)
  ·exact hx _ _ _ _ _ _ _ _ _ _ _ _ _ _ _ _ ix S hA b1 (kp.ss b1 ss1) (F.step b b1 st1) h (k.step ss1))
set_option tactic.hygienic true in
theorem Qqy {sc:Scope}{p:Pos}(ie:isE sc nm e e'=true) (hn:Qs e=false) (hs:swappedStores [te] e' env=pure none) (he:(assignEach [te] env).map (·.2)=[assign te env])
  (h:wpAny (model P w) A (eval e' env) (fun v s₁=>wpAny (model P w) A (assign te env v) (fun Y s₂=>Q .next s₂) E s₁) E s):wpAny (model P w) A (exec (.Assign [te] e' p) env) Q E s:=
 wpAny_Assign_stores (wpAny_mono h (fun v s₁ h₁=>he.symm▸h₁) fun Y Y x=>x) (Qbn ie hn _ _ _) hs
theorem Qig {t:CT}(it:isT nm t te=true) (h:(Qf2 te&&Qf2 e')=false):swappedStores [te] e' env=pure none:=by
 cases t with
 |nm i=>exact Qmb it fun x p Y=>rfl
 |tup ts=>exact Qlu it (fun es k p Y h=>by cases e'<;>first|rfl|exact Bool.noConfusion h) h
set_option tactic.hygienic true in
noncomputable def Yh8 (P:Program) (w:World) (hB:Heap) (Γ:Gm) (env:Env) (z:Z) (s:Shared) (A:Around) (g':Gs) (d:D) (e':Expr):Prop:=∀M:D→Expr→Prop,(∀ys elt' gs sc' q,(∀(use:Option (Value→Sem Unit)) (Q E:Value→Shared→Prop),(∀a cenv nm' ρ' K' z' s',Γ.free a→¬Qi s.heap a→¬Qi s.heap cenv.locals→cenv.locals≠a→Mid P w hB Γ (Qi s.heap) z s K' cenv nm' a ρ' ys z' g' s'→compPost (model P w) A E use Q (.ref a) cenv.locals (.ok .next) s') →
   wpAny (model P w) A (comprehension (.ListComp elt' gs sc' q) sc' env (firstIterPos gs q) (newList []) (firstAsync gs) (firstIter gs env) use) Q E s)→M (.lst ys) (.ListComp elt' gs sc' q))→M d e'
noncomputable def CR0 (P:Program) (w:World) (hB:Heap) (Γ:Gm) (n:Nat) (O:Orc) (e:CE):Prop:=∀sc nm e' env ρ m K z g s A d g',isE sc nm e e'=true→ScOk sc env→AOk n A→Base P w hB Γ z g s→Fro P w Γ K z s.heap env nm ρ m→Qb O e ρ g=some (d,g')→Yh8 P w hB Γ env z s A g' d e'
noncomputable def CRs (P:Program) (w:World) (hB:Heap) (Γ:Gm) (n:Nat) (O:Orc) (e:CE):Prop:=Qs e=true→CR0 P w hB Γ n O e
theorem Qvw {t e}(he:SE P w hB Γ n O e) (hcr:CRs P w hB Γ n O e):SS P w hB Γ n O (.asg t e):=fun sc nm st' env ρ m K z g s A fl ρ' g' Q E hi S hA b kp F h k=>Qv6 hi fun te e' p it ie hx=>Y8 h fun d g1 h1 h=>Qcj h fun ρ1 h2 h=>Qle h (fun k=>by
 cases hc:Qs e with
 |true=>
  rw [hc,Bool.or_true,Bool.and_true]at hx;exact hcr hc _ _ _ _ _ _ _ _ _ _ _ _ _ ie S hA b F h1 (fun d e'=>Qdb t ρ d=some ρ1→wpAny (model P w) A (exec (.Assign [te] e' p) env) Q E s) (fun ys elt' gs sc' q cr h2=>by
   cases t with
   |tup ts=>exact ff (hx.symm.trans (beq_iff_eq.mpr (qTu it)))
   |nm i=>
    refine Qmb it fun x pp hin=>gdK h2 fun hw h2=>?_;obtain rfl:=Option.some.inj h2;exact Qlz b F kp hin hw (.inl rfl) cr fun z' s' m' b' ss F'=>k.nxt z' s' m' rfl b' ss F') h2
 |false=>
  rw [hc,Bool.or_false]at hx;refine Qqy ie hc (Qig it hx) (congrArg (List.map (·.2)) (Qrt it [])) (he _ _ _ _ _ _ _ _ _ _ _ _ _ _ _ ie S hA b F h1 fun v z1 s1 b1 st1 r1=>?_)
  ·have ss1:=st1.ss kp;exact Qiw hA.hh t it h2 r1 b1 (kp.ss b1 ss1) (F.step b b1 st1) fun s2 m2 b2 ss2 F2=>k.nxt z1 s2 m2 rfl b2 (ss1.trans ss2) F2) k
theorem Qpn {Q:Unit→Shared→Prop}(b:Base P w hB Γ z g s) (kp:Kp K s.heap) (F:Fro P w Γ K z s.heap env nm ρ m) (hi:nm[i]?=some x) (hw:Qa7 ρ i=true) (r:Rds P w Γ z vs ds)
  (hQ:∀s' m',Base P w hB Γ z g s'→SStep Γ K z s z s'→Fro P w Γ K z s'.heap env nm (ρ.set i (some (.own ds))) m'→Q () s') (t:Nat) :
  wpAny (model P w) A (storeName env (Str.ofString x) (.ref s.heap.objs.size)) Q E { s with heap:=s.heap.push { cls:=.type "list",data:=.seq vs.toArray },toks:=t }:=by
 have k1:=Qv s.heap { cls:=.type "list",data:=.seq vs.toArray };have b1:=b.grown (t:=t) k1;have st1:=Step.grown b (t:=t) k1;have hno:¬Qi s.heap s.heap.objs.size:=fun ⟨o,e⟩=>by rw [Qe]at e;exact nomatch e
 refine (F.step b b1 st1).store (b':=.own ds) b1 hi hw ⟨_,rfl,⟨vs,0,Heap.get?_push_size _ rfl,r,Vc b (Qe _)⟩,(Ql b.zin (Qe _):z s.heap.objs.size=none),fun hk=>hno (kp _ hk)⟩ (fun a j y Y hv hj hij oj=>?_) fun h' t' m' b' ss F' Y=>hQ _ m' b' ((st1.ss kp).trans ss) F';cases hv;exact Qcq F b st1 hno hj oj
theorem Qou (i:Nat):SS P w hB Γ n O (.ownL i):=fun sc nm st' env ρ m K z g s A fl ρ' g' Q E hi S hA b kp F h k=>Qso hi fun x q q' p hin=>gdK h fun hw h=>Qle h (fun k=>
 wpAny_Assign_Name (wpAny_List (wpAny_items_nil ⟨Nat.zero_le _,Qpn b kp F hin hw .nil (fun s' m' b' ss F'=>k.nxt z s' m' rfl b' ss F') s.toks⟩)) rfl) k
theorem Qqw {mg mb}(W:Wd hB Γ mg mb) (i:Nat):SS P w hB Γ n O (.ownD i):=fun sc nm st' env ρ m K z g s A fl ρ' g' Q E hi S hA b kp F h k=>Qsi hi fun x q q' p hin=>gdK h fun hw h=>Qle h (fun k=>wpAny_Assign_Name (wpAny_Dict_empty (by
 have k1:=Qv s.heap { cls:=.type "dict",data:=.dict #[] };have b1:=b.grown (t:=s.toks) k1;have st1:=Step.grown b (t:=s.toks) k1;have hno:¬Qi s.heap s.heap.objs.size:=fun ⟨o,e⟩=>by rw [Qe]at e;exact nomatch e
 refine (F.step b b1 st1).store (b':=.ownD []) b1 hin hw ⟨_,rfl,Qfn.nil (Heap.get?_push_size _ rfl),(Ql b.zin (Qe _):z s.heap.objs.size=none),fun hk=>hno (kp _ hk),fun q=>?_,b.lowSize W.low⟩ (fun a j y Y hv hj hij oj=>?_) fun h' t' m' b' ss F' Y=>k.nxt z _ m' rfl b' ((st1.ss kp).trans ss) F'
 ·obtain ⟨lo,_,_,l1,_⟩:=id F.ns;exact hno ⟨lo,q▸l1⟩
 ·cases hv;exact Qcq F b st1 hno hj oj)) rfl) k
end
section
variable {K:Addr→Prop}{Q:Flow→Shared→Prop}
theorem J1 {l:Addr}{n0:Nat}{k:Int}{t:Tok}{Q:Unit→Shared→Prop}(ho:s.heap.get? l=some (Vs vs n0))
  (h0:0≤k) (hfit:k<2 ^ 63) (hn:k<vs.length)
  (hQ:∀h' n',h'.get? l=some (Vs (vs.set k.toNat v) n')→Heap.SameBut l s.heap h'→Q () { s with heap:=h' }) :
  wpAny (model P w) A (setItem (.ref l) (.int k t) v) Q E s:=by
 have hl:s.heap.IsList l vs.toArray:=⟨_,ho,rfl,n0,rfl⟩
 unfold setItem
 try with_reducible refine wpAny_holding ?_
 first|refine wpAny_bind (wpAny_pure ?_)|skip
 refine wpAny_bind (wpAny_sequenceKey hl.typeIs (by decide) ?_);refine wpAny_bind (wpAny_callSpecial?_slot (name:=Str.ofString "__setitem__") hl.typeIs slot_list_setitem
  (wpAny_call_entry slot_list_setitem hl.typeIs entry_list_setitem ?_ (args_list_setitem _ _ _)))
 refine (?_:wpAny _ _ (Builtin.List.listSubscript? (.int k t) >>= _) _ _ s);refine wpAny_bind (wpAny_listSubscript_int (fitsIndex_of h0 hfit) ?_);clear hfit;obtain ⟨j,rfl⟩:=Int.eq_ofNat_of_zero_le h0;have hj:j<vs.toArray.size:=by simp;exact (Z20 4296673846) hn
 refine (?_:wpAny _ _ ((seqItemAt l j >>= fun r=>pure (r.map (j,·))) >>= _) _ _ s);refine wpAny_bind (wpAny_bind (wpAny_seqItemAt ho rfl (wpAny_pure ?_)));refine eqR ((Array.getElem?_eq_getElem hj:vs.toArray[j]?=some vs.toArray[j])) ?_;refine (?_:wpAny _ _ (setSeqItemAt l j v >>= _) _ _ s);have hfin:∃n',(s.heap.update l (Obj.mapSeq (·.setIfInBounds j v))).get? l=some (Vs (vs.set j v) n'):=by
  refine eqR (Heap.get?_update_self _ ho rfl) ?_;exact ⟨_,congrArg some (by simp [Obj.mapSeq]:Obj.mapSeq (·.setIfInBounds j v) (Vs vs n0)=Vs (vs.set j v) (match (Obj.mapSeq (·.setIfInBounds j v) (Vs vs n0)).data with|.seq _ n=>n|_=>0))⟩
 obtain ⟨n',hfin⟩:=hfin;refine wpAny_bind (wpAny_setSeqItemAt ho rfl ?_)
 first
  |exact wpAny_bind (wpAny_pure (wpAny_pure ⟨.none,rfl,wpAny_pure (hQ _ n' hfin (Heap.SameBut.update ..))⟩))
  |exact wpAny_pure ⟨.none,rfl,wpAny_pure (hQ _ n' hfin (Heap.SameBut.update ..))⟩
theorem Qjg {t:Nat}(F:Fro P w Γ K z s.heap env nm ρ m) (b:Base P w hB Γ z g s) (hi:nm[i]?=some x) (hρ:ρ[i]?=some (some b0)) (hb0:Yv b0=true) (cu:Cur s.heap env m (Str.ofString x) (.ref a))
  (hs:Heap.SameBut a s.heap h') (fa:Γ.free a) (hh:Qip P w Γ K z h' env b' (.ref a)):Base P w hB Γ z g { s with heap:=h',toks:=t }∧SStep Γ K z s z { s with heap:=h',toks:=t }∧Fro P w Γ K z h' env nm (ρ.set i (some b')) m:=by
 refine gk fun Ω κ=>?_;have oi:=(Qbf hρ).mpr ⟨b0,rfl,hb0⟩;obtain ⟨za,ka,hl,hnc⟩:=Qdy F hi oi cu;obtain ⟨lo,le,lp,l1,l2,lr⟩:=id F.ns;refine κ ?_;refine ⟨b.but hs za fa,.but hs ka,F.upd (v:=.ref a) hs (b.zin.but hs za) ⟨lo,le,lp,(hs.2 _ hl.symm).trans l1,l2,lr⟩ hi (fun Y Y Y Y=>rfl) (fun j y c' u Y Y Y Y hcc q=>hnc u (q▸hcc)) (fun j y a' hij hj oj cj q=>?_) ?_ ?_ hh (fun a' j y Y hv hj hij oj cj=>?_)⟩
 ·subst q;exact hij (F.inj j i y x a' hj hi oj oi cj cu)
 ·rcases Qss F hi (by unfold Qa7;rw [hρ];cases b0<;>first|rfl|exact Bool.noConfusion hb0) with k|⟨k,c,v,l,hcc,zc,kc⟩
  ·exact .inl k
  ·have:c≠a:=fun q=>hnc _ (q▸hcc);obtain ⟨o,e,d⟩:=hcc;exact .inr ⟨k,c,v,l,⟨o,(hs.2 _ this).trans e,d⟩,zc,kc⟩
 ·rcases cu with cu|⟨k,c,l,hcc⟩
  ·exact .inl cu
  ·have:c≠a:=fun q=>hnc _ (q▸hcc);obtain ⟨o,e,d⟩:=hcc;exact .inr ⟨k,c,l,o,(hs.2 _ this).trans e,d⟩
 ·cases hv;exact hij (F.inj j i y x a hj hi oj oi cj cu)
theorem Qvi (he:SE P w hB Γ n O e):SS P w hB Γ n O (.app i e):=fun sc nm st' env ρ m K z g s A fl ρ' g' Q E hi S hA b kp F h k=>Qv3 hi fun x q ap e' p r hin hdb ie hl=>Ygu (M:=fun o=>ρ[i]?=o→_) h (fun xs h hρ=>Y8 h fun d g1 h1 h=>gdK h fun hlen h=>Qle h (fun k=>by
 have hns:=Qb5 ie;refine wpAny_Expr ?_ (by unfold interactive;rw [F.fn];rfl) rfl;refine gk fun Ω κ=>?_;obtain ⟨v,cu,a,rfl,⟨vs,kk,ha,rs,fa⟩,za,ka⟩:=F.curHeld hin hρ;refine κ ?_;refine (?_:wpAny _ _ (do
  let ov ←eval (.Name (Str.ofString x) q) env
  standAt ap.atName
  methodCall (.Name (Str.ofString x) q) (Str.ofString "append") ap p env ov 1 (backTo p (starEach [e'] env)) []) _ _ _)
 refine wpAny_bind (wpAny_Name (Qca F.fn F.ns cu (wpAny_bind (wpAny_standAt ?_))) hdb);unfold methodCall;have hany:(backTo p (starEach [e'] env)).any (·.1)=false:=by rw [hns];rfl
 refine eqR ((by rw [hns];rfl:methodCallForm 1 (backTo p (starEach [e'] env)) []=true)) ?_;refine wpAny_bind (wpAny_holding (getMethod_list_append ha rfl rfl ?_));have hp:methodCallPos true (.Name (Str.ofString x) q) env ap p=pure p:=by
  unfold methodCallPos;refine eqR (show (!true||ap.endLine==p.line)=true by rw [hl];rfl) ?_;rfl
 refine eqR (hp) ?_;refine wpAny_bind (wpAny_pure ?_);refine Calls.callWith_builtin hany (Qu hany ?_);refine wpAny_items_cons (he _ _ _ _ _ _ _ _ _ _ _ _ _ _ _ ie S hA b F h1 fun u z1 s1 b1 st1 r1=>wpAny_items_nil ?_) (hns _ _);have ha1:=st1.keep _ _ fa ha;have cu1:Cur s1.heap env m (Str.ofString x) (.ref a):=cu.mv fun c u hc o e=>st1.keep c o (Yp b hc) e;refine wpAny_list_append_plain (items:=vs.toArray) ⟨kk,ha1⟩ (fun h' hp hs=>?_) (List.size_toArray ..▸rs.szl hlen);obtain ⟨k2,e2⟩:=hp;rw [List.push_toArray]at e2;obtain ⟨b2,ss2,F2⟩:=Qjg (t:=s1.toks) (b':=.own (xs++[d])) (F.step b b1 st1) b1 hin hρ rfl cu1 hs fa ⟨a,rfl,⟨_,k2,e2,(rs.le st1.le).append (.one r1),fa⟩,(st1.fresh _ _ fa ha).trans za,ka⟩;exact k.nxt z1 _ m rfl b2 ((st1.ss kp).trans ss2) F2) k) rfl
theorem Qrs {v:CE}(hv:SE P w hB Γ n O v) (hk:SE P w hB Γ n O kx):SS P w hB Γ n O (.setL i kx v):=fun sc nm st' env ρ m K z g s A fl ρ' g' Q E hi S hA b kp F h k=>Qk2 hi fun x q k' q' v' p hin hdb ik iv hn=>Y8 h fun d g1 h1 h=>Ygu (M:=fun o=>ρ[i]?=o→_) h (fun xs h hρ=>bIK h fun j g2 h2 h=>gdK h fun hc h=>Qle h (fun k=>by
 refine wpAny_Assign_Subscript (hv _ _ _ _ _ _ _ _ _ _ _ _ _ _ _ iv S hA b F h1 fun vv z1 s1 b1 st1 r1=>?_) (Qbn iv hn _ _ _);refine gk fun Ω κ=>?_;have F1:=F.step b b1 st1;have ss1:=st1.ss kp;obtain ⟨u,cu,a,rfl,⟨vs,kk,ha,rs,fa⟩,za,ka⟩:=F1.curHeld hin hρ;refine κ ?_;refine wpAny_Name (Qca F1.fn F1.ns cu ?_) hdb;refine hk _ _ _ _ _ _ _ _ _ _ _ _ _ _ _ ik S hA b1 F1 h2 fun iv z2 s2 b2 st2 r2=>V4 r2 fun t=>?_;have hj:=of_decide_eq_true (ba2 (ba1 hc));have hl:=of_decide_eq_true (ba2 hc);refine J1 (st2.keep _ _ fa ha) (of_decide_eq_true (ba1 (ba1 hc))) (by omega) (rs.length.symm▸hj) fun h' k2 ho hs=>?_;obtain ⟨b3,ss3,F3⟩:=Qjg (t:=s2.toks) (b':=.own (xs.set j.toNat d)) (F1.step b1 b2 st2) b2 hin hρ rfl (cu.mv fun c u hc o e=>st2.keep c o (Yp b1 hc) e:Cur s2.heap env m (Str.ofString x) (.ref a)) hs fa ⟨a,rfl,⟨_,k2,ho,(rs.le st2.le).set _ (r1.le st2.le),fa⟩,(st2.fresh _ _ fa ha).trans za,ka⟩;exact k.nxt z2 _ m rfl b3 ((ss1.trans (st2.ss (kp.ss b1 ss1))).trans ss3) F3) k) rfl
theorem Qpz {v:CE}(hv:SE P w hB Γ n O v) (hk:SE P w hB Γ n O kx):SS P w hB Γ n O (.setD i kx v):=fun sc nm st' env ρ m K z g s A fl ρ' g' Q E hi S hA b kp F h k=>Quq hi fun x q k' q' v' p hin hdb ik iv hn=>Y8 h fun d g1 h1 h=>Yh0 (M:=fun o=>ρ[i]?=o→_) h (fun es h hρ=>Ygl h fun ks g2 h2 h=>Qcj h fun ns hns h=>gdK h fun hc h=>Qle h (fun k=>by
 replace hc:=of_decide_eq_true hc
 have hks:=Qd0 hns;subst hks;refine wpAny_Assign_Subscript (hv _ _ _ _ _ _ _ _ _ _ _ _ _ _ _ iv S hA b F h1 fun vv z1 s1 b1 st1 r1=>?_) (Qbn iv hn _ _ _);have F1:=F.step b b1 st1;have ss1:=st1.ss kp;obtain ⟨u,cu,a,rfl,hD0,za,ka,hl,hlow⟩:=F1.curHeld hin hρ;have fa:=Qak b1 hD0;refine wpAny_Name (Qca F1.fn F1.ns cu ?_) hdb;refine hk _ _ _ _ _ _ _ _ _ _ _ _ _ _ _ ik S hA b1 F1 h2 fun iv z2 s2 b2 st2 r2=>?_;refine gk fun Ω κ=>?_;have hst:∃o,s1.heap.get? a=some o:=by obtain ⟨xs,ys,⟨o,e1,e2,g1,_⟩,_⟩:=hD0;exact ⟨o,g1⟩
 obtain ⟨o0,ho0⟩:=hst;obtain ⟨_,_,_,rfl,ek,rk⟩:=Jx r2;have hkey:=Rds.keyItems rk;obtain ⟨xs,ys,hDH,hks,hvs,hes⟩:=((hD0.le st2.le).at b2.zin fun o q=>st2.keep a o fa q)
 have hxl:xs.length≤sizeLine:=by
  have:=Qa8 hvs;rw [hes]at hc;simp only [List.length_zip,List.length_map]at hc;refine eqR (sizeLine_eq) ?_;exact (Z20 0x100000076011000006610c161026) this hc
 refine κ ?_;refine wpAny_setItem_heap (by have:=hA.uni;show A.units+1<cLine;exact (Z30 0x2150702c82614e07706) this:(tk P w).room A.in1) ⟨_,_,_,b2.zin _ _ ek,rfl,rfl,hkey⟩ hDH (fun h' hD2 hs=>?_) hxl;obtain ⟨b3,ss3,F3⟩:=Qjg (t:=s2.toks+(tk P w).draws ns) (b':=.ownD (Qn3 es ns d)) (F1.step b1 b2 st2) b2 hin hρ rfl (cu.mv fun c u hc o e=>st2.keep c o (Yp b1 hc) e:Cur s2.heap env m (Str.ofString x) (.ref a)) hs fa ⟨a,rfl,(Qfn.put hks hvs hes ek hkey (r1.le st2.le) hD2),(st2.fresh _ _ fa ho0).trans za,ka,hl,hlow⟩;exact k.nxt z2 _ m rfl b3 ((ss1.trans (st2.ss (kp.ss b1 ss1))).trans ss3) F3) k) rfl
end
section
variable {K:Addr→Prop}{Q:Flow→Shared→Prop}
theorem Fro.butM {c:Addr}(F:Fro P w Γ K z s.heap env nm ρ m) (b:Base P w hB Γ z g s) (hs:Heap.SameBut c s.heap h') (zc:z c=none) (hnf:¬Γ.free c):Fro P w Γ K z h' env nm ρ m:=
 F.butC b hs zc (fun q=>hnf (q▸Y2 b F.ns)) (fun hc q=>hnf (q▸Yp b hc)) fun i x b' a' hi hb ho cu q=>by
  obtain ⟨_,v,c2,S⟩:=F.slot i x _ hi hb;cases b'<;>first|exact ff ho|skip
  ·obtain ⟨a2,e,⟨vs,n,h1,h2,h3⟩,_⟩:=S;cases (c2.uniq cu).symm.trans e;exact hnf (q▸h3)
  ·refine gk fun Ω κ=>?_;obtain ⟨a2,e,h1,_⟩:=S;refine κ ?_;cases (c2.uniq cu).symm.trans e;exact hnf (q▸Qak b h1)
theorem SStep.butM {c:Addr}{t:Nat}(hs:Heap.SameBut c s.heap h') (hnf:¬Γ.free c):SStep Γ K z s z { s with heap:=h',toks:=t }:=
 ⟨⟨h',t,rfl⟩,fun a o Y f e=>(hs.2 a (fun q=>hnf (q▸f))).trans e,ZLe.refl z,fun Y Y Y=>rfl⟩
set_option tactic.hygienic true in
theorem Qpl (hap:Γ.has=true→Γ.two=true→Γ.pA≠Γ.fA) {bb v:CE}(hv:SE P w hB Γ n O v) (hb:SE P w hB Γ n O bb) (hk:SE P w hB Γ n O kx):SS P w hB Γ n O (.setH bb kx v):=fun sc nm st' env ρ m K z g s A fl ρ' g' Q E hi S hA b kp F h k=>Qte hi fun b' k' q' v' p ib ik iv hn=>
 Y8 h fun d g1 h1 h=>Y8 h fun hd g2 h2 h=>wpAny_Assign_Subscript (hv _ _ _ _ _ _ _ _ _ _ _ _ _ _ _ iv S hA b F h1 fun vv z1 s1 b1 st1 r1=>hb _ _ _ _ _ _ _ _ _ _ _ _ _ _ _ ib S hA b1 (F.step b b1 st1) h2 fun bv z2 s2 b2 st2 r2=>by
  have ss1:=st1.ss kp;have F2:=(F.step b b1 st1).step b1 b2 st2;have ss2:=ss1.trans (st2.ss (kp.ss b1 ss1));refine Ycb (M:=fun hd=>Rd P w Γ z2 bv hd→_) h (fun h r2=>bIK h fun j g3 h3 h=>sIK (M:=fun d=>Rd P w Γ z1 vv d→_) h (fun x h r1=>Qdu r2 fun hkk=>?_) r1) (fun h r2=>bIK h fun j g3 h3 h=>gdK h fun hc h=>Qdu r2 fun h2t=>?_) r2
  ·refine hk _ _ _ _ _ _ _ _ _ _ _ _ _ _ _ ik S hA b2 F2 h3 fun iv z3 s3 b3 st3 r3=>V4 r3 fun t=>V4 r1 fun t1=>?_;have ss3:=ss2.trans (st3.ss (kp.ss b2 ss2));obtain ⟨ta,tb,nn,e⟩:=b3.pen hkk;have hnf:¬Γ.free Γ.pA:=fun f=>f.1 hkk rfl;have fin:∀(g4:Gs),g4.flds=g3.flds→∀h' n',Heap.SameBut Γ.pA s3.heap h'→(X2 fun ta tb=>h'.get? Γ.pA=some (Vs [.int g4.p0 ta,.int g4.p1 tb] n'))→some (Fl.nxt,ρ,g4)=some (fl,ρ',g')→Q .next { s3 with heap:=h' }:=fun g4 hg h' n' hs he h=>by
    obtain ⟨ta,tb,he⟩:=he;exact Qle h (fun k=>k.nxt z3 _ m rfl ⟨b3.zin.but hs (b3.zpen hkk),b3.zB,fun Y=>⟨_,_,_,he⟩,b3.zpen,fun h2=>let ⟨vs,n,e,r⟩:=b3.flds h2;⟨vs,n,(hs.2 _ (hap hkk h2).symm).trans e,hg.symm▸r⟩,b3.zflds⟩ (ss3.trans (.butM (t:=s3.toks) hs hnf)) ((F2.step b2 b3 st3).butM b3 hs (b3.zpen hkk) hnf)) k
   refine Yci h (fun hj h=>?_) fun hj h=>?_
   ·subst hj;exact J1 e (by decide) (by decide) (show (0:Int)<2 by decide) fun h' n' he hs=>fin { g3 with p0:=x } rfl h' n' hs ⟨_,_,he⟩ h
   ·subst hj;exact J1 e (by decide) (by decide) (show (1:Int)<2 by decide) fun h' n' he hs=>fin { g3 with p1:=x } rfl h' n' hs ⟨_,_,he⟩ h
  ·refine hk _ _ _ _ _ _ _ _ _ _ _ _ _ _ _ ik S hA b2 F2 h3 fun iv z3 s3 b3 st3 r3=>V4 r3 fun t=>Qle h (fun k=>?_) k;have F3:=F2.step b2 b3 st3;have ss3:=ss2.trans (st3.ss (kp.ss b2 ss2));obtain ⟨vs,nn,e,r⟩:=b3.flds h2t;have hnf:¬Γ.free Γ.fA:=fun f=>f.2 h2t rfl;have hj:=of_decide_eq_true (ba2 (ba1 hc));have hl:=of_decide_eq_true (ba2 hc);refine J1 e (of_decide_eq_true (ba1 (ba1 hc))) (by omega) (r.length.symm▸hj) fun h' n' he hs=>?_;exact k.nxt z3 _ m rfl ⟨b3.zin.but hs (b3.zflds h2t),b3.zB,fun h=>let ⟨t,u,n,e⟩:=b3.pen h;⟨t,u,n,(hs.2 _ (hap h h2t)).trans e⟩,b3.zpen,fun Y=>⟨_,n',he,r.set _ ((r1.le st2.le).le st3.le)⟩,b3.zflds⟩ (ss3.trans (.butM (t:=s3.toks) hs hnf)) (F3.butM b3 hs (b3.zflds h2t) hnf)) (Qbn iv hn _ _ _)
theorem Fro.frz (F:Fro P w Γ K z s.heap env nm ρ m) (b:Base P w hB Γ z g s) (hi:nm[i]?=some x) (hρ:ρ[i]?=some (some b0)) (hb0:Yv b0=true) (cu:Cur s.heap env m (Str.ofString x) (.ref a))
  (e:s.heap.get? a=some o) (fa:Γ.free a) (r:Rd P w Γ (z.add a o) (.ref a) d):Base P w hB Γ (z.add a o) g s∧SStep Γ K z s (z.add a o) s∧Fro P w Γ K (z.add a o) s.heap env nm (ρ.set i (some (.val d))) m:=by
 have oi:=(Qbf hρ).mpr ⟨b0,rfl,hb0⟩;obtain ⟨za,ka,hl,hnc⟩:=Qdy F hi oi cu;have zl:ZLe z (z.add a o):=Z.le_add za;have ne:∀{c},c≠a→z.add a o c=z c:=fun {c} h=>by unfold Z.add;rw [if_neg h]
 have hset:(ρ.set i (some (B.val d)))[i]?=some (some (.val d)):=by rw [List.getElem?_set_self (by rw [F.len];exact (List.getElem?_eq_some_iff.mp hi).1:i<ρ.length)]
 refine ⟨b.freeze e za fa,⟨⟨s.heap,s.toks,rfl⟩,fun Y Y Y Y e=>e,zl,fun c kc Y=>ne (fun q=>ka (q▸kc))⟩,?_⟩;have wr:∀{x},Wr K z s.heap env x→Wr K (z.add a o) s.heap env x:=fun hw=>by
  rcases hw with k|⟨k,c,v,l,hcc,zc,kc⟩
  ·exact .inl k
  ·exact .inr ⟨k,c,v,l,hcc,(ne (fun q=>hnc _ (q▸hcc))).trans zc,kc⟩
 refine ⟨F.fn,F.gl,F.bi,by rw [List.length_set];exact F.len,F.nd,F.ns,(ne hl.symm).trans F.zl,F.kl,fun j y bb hj hb=>?_,fun j j' y y' a' hj hj' oj oj' cj cj'=>?_,F.cinj⟩
 ·by_cases hij:j=i
  ·subst hij;rw [hset]at hb;obtain rfl:=Option.some.inj hb;rw [hi]at hj;obtain rfl:=Option.some.inj hj;exact ⟨fun Y=>wr (Qss F hi (by unfold Qa7;rw [hρ];cases b0<;>first|rfl|exact Bool.noConfusion hb0)),.ref a,cu,r⟩
  ·rw [List.getElem?_set_ne (Ne.symm hij)]at hb;have S:=F.slot j y bb hj hb;cases bb with
   |none=>exact wr S
   |some bb=>
    obtain ⟨S1,v,S2,S3⟩:=S;refine ⟨fun q=>wr (S1 q),v,S2,?_⟩;cases bb with
    |val d=>exact Rd.le zl S3
    |cap d=>exact Rd.le zl S3
    |own xs=>
     obtain ⟨a',e',⟨vs,n,h1,h2,h3⟩,h4,h5⟩:=S3;have:a'≠a:=fun q=>by
      subst q;exact hij (F.inj j i y x a' hj hi (.inl ⟨_,hb⟩) oi (e'▸S2) cu)
     exact ⟨a',e',⟨vs,n,h1,h2.le zl,h3⟩,(ne this).trans h4,h5⟩
    |ownD es=>
     obtain ⟨a',e',h1,h4,h5,h6,h7⟩:=S3;have:a'≠a:=fun q=>by
      subst q;exact hij (F.inj j i y x a' hj hi (.inr ⟨_,hb⟩) oi (e'▸S2) cu)
     exact ⟨a',e',h1.le zl,(ne this).trans h4,h5,h6,h7⟩
 ·have no:∀{j},Y7 (ρ.set i (some (B.val d))) j→j≠i:=fun oj q=>by
   subst q;rcases oj with ⟨_,q⟩|⟨_,q⟩<;>rw [hset]at q<;>exact nomatch q
  exact F.inj j j' y y' a' hj hj' (Yu oj (no oj)) (Yu oj' (no oj')) cj cj'
theorem Qoe:SSs P w hB Γ n O .nil:=fun sc nm ss' env ρ m K z g s A fl ρ' g' Q E hi S hA b kp F h k=>Qru hi (Qle h (fun k=>wpAny_execs_nil (k.nxt z s m rfl b (SStep.refl ..) F)) k)
theorem Qls {st r}(hs:SS P w hB Γ n O st) (hr:SSs P w hB Γ n O r):SSs P w hB Γ n O (.cons st r):=fun sc nm ss' env ρ m K z g s A fl ρ' g' Q E hi S hA b kp F h k=>Qm5 (N:=fun st ss'=>SS P w hB Γ n O st→Yj O (.cons st r) ρ g=some (fl,ρ',g')→wpAny _ _ (execs ss' env) _ _ _) hi
 (fun i ss' ir Y h=>Qw6 h (fun ρ1 g1 h1 h=>Qcj h1 fun d hd h1=>by
  have hρ:∃b,ρ[i]?=some b:=by
   cases q:ρ[i]? with
   |none=>rw [q]at hd;exact ns hd
   |some b=>exact ⟨b,rfl⟩
  obtain ⟨b0,hρ⟩:=hρ;have hlt:i<nm.length:=by rw [←F.len];exact (List.getElem?_eq_some_iff.mp hρ).1
  have hin:=List.getElem?_eq_getElem hlt;generalize nm[i]=x at hin;cases h1;have fin:∀{b0:B} {a o},ρ[i]?=some (some b0)→Yv b0=true→Cur s.heap env m (Str.ofString x) (.ref a)→s.heap.get? a=some o→Γ.free a→Rd P w Γ (z.add a o) (.ref a) d→wpAny (model P w) A (execs ss' env) Q E s:=fun hρ h0 cu ho fa rd=>by
   obtain ⟨b1,ss1,F1⟩:=F.frz b hin hρ h0 cu ho fa rd;exact hr _ _ _ _ _ _ _ _ _ _ _ _ _ _ _ _ ir S hA b1 kp F1 h (k.step ss1)
  exact Yhu (M:=fun o d=>ρ[i]?=o→(∀{b0:B} {a o},ρ[i]?=some (some b0)→Yv b0=true→Cur s.heap env m (Str.ofString x) (.ref a)→s.heap.get? a=some o→Γ.free a→Rd P w Γ (z.add a o) (.ref a) d→wpAny (model P w) A (execs ss' env) Q E s)→_) hd (fun xs hρ fin=>by
    obtain ⟨v,cu,a,rfl,⟨vs,kk,ha,rs,fa⟩,za,ka⟩:=F.curHeld hin hρ;exact fin hρ rfl cu ha fa (.lst (Z.add_self ..) (rs.le (Z.le_add za))))
   (fun es hρ fin=>by
    obtain ⟨v,cu,a,rfl,hD,za,ka,hl,hlow⟩:=F.curHeld hin hρ;obtain ⟨o,ho,hrd⟩:=hD.frz hlow za;exact fin hρ rfl cu ho (Qak b hD) hrd) rfl fin) fun d hf h1=>Qcj h1 fun d hd h1=>by cases h1;cases hf)
 (fun s' r' is ir hs h=>wpAny_execs_cons (Qw6 h (fun ρ1 g1 h1 h=>hs _ _ _ _ _ _ _ _ _ _ _ _ _ _ _ _ is S hA b kp F h1 ⟨fun z1 s1 m1 Y b1 ss1 F1=>hr _ _ _ _ _ _ _ _ _ _ _ _ _ _ _ _ ir S hA b1 (kp.ss b1 ss1) F1 h (k.step ss1),fun d v z1 s1 hf=>nomatch hf⟩)
  fun d hf h=>hs _ _ _ _ _ _ _ _ _ _ _ _ _ _ _ _ is S hA b kp F h ⟨fun z1 s1 m1 hf2=>(nomatch hf.symm.trans hf2),fun d v z1 s1 hf b1 ss1 r1=>k.ret d v z1 s1 hf b1 ss1 r1⟩)) hs h
end
section
variable {K:Addr→Prop}{Q:Flow→Shared→Prop}
noncomputable def Yhp (O:Orc) (t:CT) (body:CSs) (d:D) (ρ:Q8) (g:Gs):Option (Fl×Q8×Gs):=opt (Qdb t ρ d) fun ρ'=>Yj O body ρ' g
structure FJ (P:Program) (w:World) (hB:Heap) (Γ:Gm) (K:Addr→Prop) (W:List Addr) (env:Env) (nm:List String) (z:Z) (s:Shared) (f:D→Q8→Gs→Option (Fl×Q8×Gs)) (ds:List D) (r:Fl×Q8×Gs) (i:Nat) (s':Shared) (z2:Z) (g2:Gs) (ρ2:Q8) (m2:Str→Option Value):Prop where
 b:Base P w hB Γ z2 g2 s'
 F:Fro P w Γ (fun c=>K c∨c∈W) z2 s'.heap env nm ρ2 m2
 kp:Kp (fun c=>K c∨c∈W) s'.heap
 ss:SStep Γ K z s z2 s'
 h:J4 f (ds.drop i) ρ2 g2=some r
theorem Qvk {t:CT}{it:CI}{body:CSs}(hit:SIt P w hB Γ n O it) (hb:SSs P w hB Γ n O body):SS P w hB Γ n O (.forS t it body):=fun sc nm st' env ρ m K z g s A fl ρ' g' Q E hi S hA b kp F h k=>Qwx hi fun te it' b' p hok itt ii ib=>Y8 h fun ds g1 h1 h=>by
 refine wpAny_For ?_ (Qjq ii);refine hit _ _ _ te _ _ _ _ _ _ _ _ _ _ _ _ ii (Qhc hok itt) S hA b F h1 fun i W St z1 s1 b1 st1 T hst hW=>?_;have nKW:∀c,K c→c∉W:=fun c hc=>(fun ⟨o,e⟩ q=>nomatch (hW _ q).symm.trans e:∀{c},Qi s.heap c→c∉W) (kp c hc)
 have ss1:=st1.ss kp;have kpW:∀{s':Shared} {i z'},Kp K s'.heap→St i z' s'.heap→Kp (fun c=>K c∨c∈W) s'.heap:=fun kp hst c hc=>hc.elim (kp c) fun hc=>let ⟨_,_,o,e,_⟩:=T.has hst c hc;⟨o,e⟩;refine codeAny_forLoop_any (fun k s'=>X5 fun i z2 g2 ρ2 m2=>A4 (St i z2 s'.heap) (FJ P w hB Γ K W env nm z s (Yhp O t body) ds (fl,ρ',g') i s' z2 g2 ρ2 m2) (i≤ds.length) (k=ds.length-i)) (fun k2 s2 hI=>?_) ds.length ⟨0,z1,g1,ρ,m,hst,⟨b1,(F.widen (fun c hc=>hc.imp id (hW c)) fun c hc=>.inl hc).step b b1 st1,kpW (kp.ss b1 ss1) hst,ss1,h⟩,Nat.zero_le _,rfl⟩;obtain ⟨i,z2,g2,ρ2,m2,st2,J,hle,rfl⟩:=hI;have has:=T.has st2;have kpK:Kp K s2.heap:=fun c hc=>J.kp c (.inl hc);have hl:=J.h;by_cases hlt:i<ds.length
 ·have hd:=List.getElem?_eq_getElem hlt;generalize ds[i]=di at hd;rw [Qkg hd]at hl;refine wpAny_mono (T.item (Q:=fun v s3=>∃z3,A4 (Base P w hB Γ z3 g2 s3) (StepW Γ W z2 s2 z3 s3) (St (i+1) z3 s3.heap) (Rd P w Γ z3 v di)) st2 J.b hd fun v z' s' b' sw st' r=>⟨z',b',sw,st',r⟩) (fun r s3 h3=>?_) fun Y Y h=>h;obtain ⟨v,rfl,h3⟩:=h3;refine wpAny_mono h3 (fun Y s4 h4=>?_) fun Y Y h=>h;refine gk fun Ω κ=>?_;obtain ⟨z4,b4,sw,st4,r⟩:=h4;have F4:=J.F.stepW J.b b4 sw fun c hc=>let ⟨_,_,o,e,i⟩:=has c hc;⟨o,e,i⟩;have ssK:=sw.ss kpK nKW;have kp4:=kpW (kpK.ss b4 ssK) st4;refine κ ?_;refine Qw6 hl (fun ρ6 g6 hx hl=>Qcj hx fun ρ4 hbd hex=>?_) fun d hf hx=>Qcj hx fun ρ4 hbd hex=>?_
  ·refine Qiw hA.hh t itt hbd r b4 kp4 F4 fun s5 m5 b5 ss5 F5=>hb _ _ _ _ _ _ _ _ _ _ _ _ _ _ _ _ ib S hA b5 (kp4.ss b5 ss5) F5 hex ⟨fun z6 s6 m6 Y b6 ss6 F6=>?_,fun d v z6 s6 hf=>(nomatch hf)⟩;have ss56:=ss5.trans ss6;exact ⟨ds.length-(i+1),(Z20 0x1815071801006) hlt,i+1,z6,g6,ρ6,m6,(fun st b6 ss=>T.frame st ss.le b6.zin (fun c hc=>ss.fresh c (.inr hc) (T.has st c hc).2.1) fun c hc o e=>ss.keep c o (.inr hc) (T.has st c hc).2.1 e) st4 b6 ss56,⟨b6,F6,kp4.ss b6 ss56,(J.ss.trans ssK).trans (ss56.sub fun c hc=>.inl hc),hl⟩,hlt,rfl⟩
  ·refine Qiw hA.hh t itt hbd r b4 kp4 F4 fun s5 m5 b5 ss5 F5=>hb _ _ _ _ _ _ _ _ _ _ _ _ _ _ _ _ ib S hA b5 (kp4.ss b5 ss5) F5 hex ⟨fun z6 s6 m6 hf2=>(nomatch hf.symm.trans hf2),fun d v z6 s6 hf b6 ss6 r6=>k.ret d v z6 s6 hf b6 ((J.ss.trans ssK).trans ((ss5.trans ss6).sub fun c hc=>.inl hc)) r6⟩
 ·have hi':i=ds.length:=(Z20 0x102100961016) hle hlt;subst hi';rw [List.drop_length]at hl;exact T.done st2 J.b fun s3 b3 sw=>wpAny_execs_nil (Qle hl (fun k=>k.nxt z2 s3 m2 rfl b3 (J.ss.trans (sw.ss kpK nKW)) ((J.F.stepW J.b b3 sw fun c hc=>let ⟨_,_,o,e,i⟩:=has c hc;⟨o,e,i⟩).narrow fun c hc=>.inl hc)) k)
theorem Qn8 (hcr:CRs P w hB Γ n O e) (hm:∀r,e=.bin .mul (.lst (.cons .none .nil)) r→SE P w hB Γ n O r):SS P w hB Γ n O (.ownE i e):=fun sc nm st' env ρ m K z g s A fl ρ' g' Q E hi S hA b kp F h k=>Qtg hi fun x q e' p hin ie hx=>gdK h fun hw h=>Yig h fun xs g1 h1 h=>Qle h (fun k=>by
 cases hc:Qs e with
 |true=>exact hcr hc _ _ _ _ _ _ _ _ _ _ _ _ _ ie S hA b F h1 (fun d e'=>d=.lst xs→wpAny (model P w) A (exec (.Assign [.Name (Str.ofString x) q] e' p) env) Q E s) (fun ys elt' gs sc' q2 cr hys=>by
   cases hys;exact Qlz b F kp hin hw (.inr rfl) cr fun z' s' m' b' ss F'=>k.nxt z' s' m' rfl b' ss F') rfl
 |false=>
  rw [hc,Bool.false_or]at hx;refine Qnb (M:=fun e=>isE sc nm e e'=true→Qb O e ρ g=some (.lst xs,g1)→(∀r,e=.bin .mul (.lst (.cons .none .nil)) r→SE P w hB Γ n O r)→Qs e=false→_) hx (fun r ie h1 hm hc=>?_) ie h1 hm hc;have ie0:=ie;refine Qka ie (fun l' o' r' q2 ho il ir=>Qkk il (fun es' q3 il=>Jy il (fun x1 xs1 ix ir1=>Qcm ir1 (Qf6 ix fun k1 q4=>dK ho fun ie0=>?_)))) ie0;refine Y8 (show (bnd (Qb O r ρ g) fun b g=>Qbl (Qc9 .mul (D.lst [.none]) b) g)=some (.lst xs,g1) from h1) fun c g2 h2 h1=>Qpg h1 h2 fun h3 h2=>?_;refine gk fun Ω κ=>?_;obtain ⟨j,rfl,hj0,hj1,h6⟩:=Qq4 h3;refine κ ?_;cases h6;refine Qqy (e:=.bin .mul (.lst (.cons .none .nil)) r) ie0 hc rfl rfl (wpAny_BinOp (wpAny_List (wpAny_items_cons (wpAny_Constant_none (wpAny_items_nil ⟨by rw [sizeLine_eq];decide,?_⟩)) rfl)));have k1:=Qv s.heap { cls:=.type "list",data:=.seq [Value.none].toArray };have b1:=b.grown (t:=s.toks) k1;have st1:=Step.grown b (t:=s.toks) k1;have F1:=F.step b b1 st1;refine hm r rfl _ _ _ _ _ _ _ _ _ _ _ _ _ _ _ ir S hA b1 F1 h2 fun u z2 s2 b2 st2 r2=>V4 r2 fun t=>?_;have ss2:=(st1.trans st2).ss kp;refine Qhz (st2.keep _ _ (Vc b (Qe _):Γ.free s.heap.objs.size) (Heap.get?_push_size _ rfl)) (by omega) (by omega) (by simp;exact (Z01 0x1000000760410000066046) hj1) ?_;refine eqR (if_neg (by decide)) ?_;rw [Qeu,Array.empty_append];exact wpAny_assign_Name (Qpn b2 (kp.ss b2 ss2) (F1.step b1 b2 st2) hin hw (Rds.rep .none _) (fun s' m' b' ss F'=>k.nxt z2 s' m' rfl b' (ss2.trans ss) F') s2.toks)) k
end
theorem Yfx {c:Prop}{d:Decidable c}{a y r:α}(h:¬c→y=a∨y=r):@ite _ c d a y=a∨@ite _ c d a y=r:=by
 cases d with
 |isTrue=>exact .inl rfl
 |isFalse q=>exact h q
theorem Qd8 {x y:Str}{q3 q4:Pos}{a b:Expr}(hc:((constantsAlone 8 a&&constantsAlone 8 b)||(foldedForSure 8 a&&foldedForSure 8 b))=false) :
  swappedStores [.Tuple [.Name x q1,.Name y q2] k q3] (.Tuple [a,b] k2 q4) env=pure none∨swappedStores [.Tuple [.Name x q1,.Name y q2] k q3] (.Tuple [a,b] k2 q4) env=pure (some [x,y]):=by
 delta swappedStores
 dsimp only;rw [(by simpa [List.all] using (by cases h:(constantsAlone 8 a&&constantsAlone 8 b)<;>simp [h]at hc ⊢:(constantsAlone 8 a&&constantsAlone 8 b)=false):([a,b].all (constantsAlone 8))=false),(by simpa [List.all] using (by cases h:(foldedForSure 8 a&&foldedForSure 8 b)<;>simp [h]at hc ⊢:(foldedForSure 8 a&&foldedForSure 8 b)=false):([a,b].all (foldedForSure 8))=false)];refine Yfx fun Y=>Yfx fun Y=>Yfx fun hn=>.inr ?_;rw [if_neg Bool.false_ne_true,if_neg Bool.false_ne_true];dsimp only [List.filterMap_cons,List.filterMap_nil]at hn ⊢;generalize (env.kindOf x==some NameKind.local&&q1.line==(Option.map (fun x=>x.pos.line) [Expr.Name x q1,Expr.Name y q2].head?).getD 0)=p1 at hn ⊢;generalize (env.kindOf y==some NameKind.local&&q2.line==(Option.map (fun x=>x.pos.line) [Expr.Name x q1,Expr.Name y q2].head?).getD 0)=p2 at hn ⊢;cases p1<;>cases p2<;>first|rfl|(exfalso;apply hn;rfl)
section
variable {K:Addr→Prop}{Q:Flow→Shared→Prop}
theorem Qip.step (hh:Qip P w Γ K z s.heap env b' v) (b:Base P w hB Γ z g s) (b2:Base P w hB Γ z' g' s') (st:Step Γ z s z' s'):Qip P w Γ K z' s'.heap env b' v:=by
 cases b' with
 |val d=>exact Rd.le st.le hh
 |cap d=>exact Rd.le st.le hh
 |own xs=>
  obtain ⟨a,e,⟨vs,k,h1,h2,h3⟩,h4,h5⟩:=hh;exact ⟨a,e,⟨vs,k,st.keep _ _ h3 h1,h2.le st.le,h3⟩,(st.fresh _ _ h3 h1).trans h4,h5⟩
 |ownD es=>
  obtain ⟨a,e,h1,h4,h5,h6,h7⟩:=hh;have ff:=Qak b h1;have hx:∃o,s.heap.get? a=some o:=by obtain ⟨xs,ys,⟨o,e1,e2,g1,_⟩,_⟩:=h1;exact ⟨o,g1⟩
  obtain ⟨o,ho⟩:=hx;exact ⟨a,e,(h1.le st.le).at b2.zin fun o q=>st.keep a o ff q,(st.fresh _ _ ff ho).trans h4,h5,h6,h7⟩
theorem Qlo {sc:Scope}{e:Option CE}{Q:Value→Shared→Prop}(he:∀c,e=some c→SE P w hB Γ n O c) (hi:isO sc nm e e'=true) (S:ScOk sc env) (hA:AOk n A) (b:Base P w hB Γ z g s) (kp:Kp K s.heap) (F:Fro P w Γ K z s.heap env nm ρ m) (h:Qqg O e ρ g=some (b',g'))
  (hQ:∀v z1 s1,Base P w hB Γ z1 g' s1→Step Γ z s z1 s1→Qip P w Γ K z1 s1.heap env b' v→(∀a,Yv b'=true→v=.ref a→¬Qi s.heap a)→Qrj b'=false→Q v s1):wpAny (model P w) A (eval e' env) Q E s:=by
 cases e with
 |none=>exact Qy1 (M:=fun e'=>wpAny (model P w) A (eval e' env) Q E s) hi fun es p hi=>mEK hi (eqK h (fun hQ=>by
   have k1:=Qv s.heap { cls:=.type "list",data:=.seq ([]:List Value).toArray };have hno:¬Qi s.heap s.heap.objs.size:=fun ⟨o,e⟩=>by rw [Qe]at e;exact nomatch e
   exact wpAny_List (wpAny_items_nil ⟨Nat.zero_le _,hQ _ z _ (b.grown (t:=s.toks) k1) (Step.grown b k1) ⟨_,rfl,⟨[],0,Heap.get?_push_size _ rfl,.nil,Vc b (Qe _)⟩,Ql b.zin (Qe _),fun hk=>hno (kp _ hk)⟩ (fun a Y q=>by cases q;exact hno) rfl⟩)) hQ)
 |some c=>exact Y8 (show bnd (Qb O c ρ g) (fun d g=>some (B.val d,g))=some (b',g') from h) fun d g1 h1 h=>eqK h (fun hQ=>he c rfl _ _ _ _ _ _ _ _ _ _ _ _ _ _ _ hi S hA b F h1 fun v z1 s1 b1 st1 r1=>hQ v z1 s1 b1 st1 r1 (fun Y q=>by exact Bool.noConfusion q) rfl) hQ
theorem Qa0 {y:String}{b1' b2':B}{Q:Unit→Shared→Prop}(F:Fro P w Γ K z s.heap env nm ρ m) (b:Base P w hB Γ z g s) (hi:nm[i]?=some x) (hj:nm[j]?=some y) (hij:i≠j) (hw1:Qa7 ρ i=true) (hw2:Qa7 ρ j=true)
  (h1:Qip P w Γ K z s.heap env b1' v1) (h2:Qip P w Γ K z s.heap env b2' v2) (c1:Qrj b1'=false)
  (n1:∀a k u,Yv b1'=true→v1=.ref a→nm[k]?=some u→Y7 ρ k→¬Cur s.heap env m (Str.ofString u) (.ref a)) (n2:∀a k u,Yv b2'=true→v2=.ref a→nm[k]?=some u→Y7 ρ k→¬Cur s.heap env m (Str.ofString u) (.ref a)) (n12:Yv b1'=true→Yv b2'=true→v1≠v2)
  (hQ:∀s' m',Base P w hB Γ z g s'→SStep Γ K z s z s'→Fro P w Γ K z s'.heap env nm ((ρ.set i (some b1')).set j (some b2')) m'→Q () s') :
  wpAny (model P w) A (storeName env (Str.ofString x) v1) (fun Y s1=>wpAny (model P w) A (storeName env (Str.ofString y) v2) Q E s1) E s:=by
 refine F.storeC b hi hw1 h1 (fun a k u ho hv hk Y ok=>n1 a k u ho hv hk ok) fun h3 t3 m3 b3 ss3 F3 k3 cx co=>?_;have h2':Qip P w Γ K z h3 env b2' v2:=by
  cases b2' with
  |val d=>exact h2
  |cap d=>exact h2
  |own xs=>
   obtain ⟨a,e,⟨vs,k,g1,g2,g3⟩,g4,g5⟩:=h2;refine ⟨a,e,⟨vs,k,k3 _ _ g1 (fun q=>?_) (fun u ⟨o,e',d⟩=>by rw [g1]at e';cases e';cases d),g2,g3⟩,g4,g5⟩;obtain ⟨lo,le,lp,l1,l2,_⟩:=id F.ns;rw [q,l1]at g1;cases g1;cases l2
  |ownD es=>
   obtain ⟨a,e,g1,g4,g5,g6,g7⟩:=h2;obtain ⟨xs,ys,⟨o,e1,e2,p1,p2,p3,p4,p5,p6⟩,q2,q3,q4⟩:=id g1;have hk:=k3 a o p1 g6 (fun u ⟨o',e',d⟩=>by rw [p1]at e';cases e';rw [d]at p3;cases p3);exact ⟨a,e,g1.at b3.zin fun o' q=>by rw [p1]at q;cases q;exact hk,g4,g5,g6,g7⟩
 refine F3.store (s:={ s with heap:=h3,toks:=t3 }) b3 hj (by unfold Qa7 at hw2 ⊢;rwa [List.getElem?_set_ne hij]:Qa7 (ρ.set i (some b1')) j=true) h2' (fun a k u ho hv hk hkj ok cu=>?_) fun h4 t4 m4 b4 ss4 F4 Y=>hQ _ m4 b4 (ss3.trans ss4) F4;by_cases hki:k=i
 ·subst hki;rw [hi]at hk;obtain rfl:=Option.some.inj hk;have il:k<ρ.length:=by rw [F.len];exact (List.getElem?_eq_some_iff.mp hi).1
  have e:=cx.uniq cu;exact n12 (by obtain ⟨b2,e,hb⟩:=(Qbf (by rw [List.getElem?_set_self il]:(ρ.set k (some b1'))[k]?=some (some b1'))).mp ok;cases e;exact hb:Yv b1'=true) ho (e.trans hv.symm)
 ·have ok':=Yu ok hki;have hx:∃b,ρ[k]?=some (some b):=by rcases ok' with ⟨xs,q⟩|⟨es,q⟩<;>exact ⟨_,q⟩
  obtain ⟨bk,hbk⟩:=hx;obtain ⟨v',cv,_⟩:=F.curHeld hk hbk;have e:=(co k u v' hk hki cv).uniq cu;subst e;exact n2 a k u ho hv hk ok' cv
set_option tactic.hygienic true in
theorem Qu6 {ea eb:Option CE}(ha:∀c,ea=some c→SE P w hB Γ n O c) (hb:∀c,eb=some c→SE P w hB Γ n O c):SS P w hB Γ n O (.two i j ea eb):=fun sc nm st' env ρ m K z g s A fl ρ' g' Q E hi S hA b kp F h k=>by
 refine Qx4 hi fun x y q1 q2 kk q3 a' b' k2 q4 p hix hjy ia ib hc hxy=>gdK h fun hw h=>Y8 h fun B1 g1 h1 h=>Y8 h fun B2 g2 h2 h=>Qle h (fun k=>?_) k;have hij:i≠j:=bne_iff_ne.mp (ba2 hw);have hwi:=ba1 (ba1 hw);have hwj:=ba2 (ba1 hw);have nst:∀{e:Option CE} {e':Expr},isO sc nm e e'=true→∀(env:Env) xs,starEach (e'::xs) env=(false,eval e' env)::starEach xs env:=fun {e e'} h env xs=>by
  cases e with
  |none=>exact Qy1 (M:=fun e'=>starEach (e'::xs) env=(false,eval e' env)::starEach xs env) h fun es q Y=>rfl
  |some c=>exact Qb5 h env xs
 rw [exec_Assign_arm];refine wpAny_bind (wpAny_standAt ?_);have hsw:swapsWithSole [.Tuple [.Name (Str.ofString x) q1,.Name (Str.ofString y) q2] kk q3] (.Tuple [a',b'] k2 q4) p.line env=pure false:=rfl;refine eqR (hsw) ?_;refine wpAny_bind (wpAny_pure ?_);refine aN (by decide) ?_;refine wpAny_bind (wpAny_Tuple (wpAny_items_cons (Qlo ha ia S hA b kp F h1 fun v1 z1 s1 b1 st1 hh1 n1 c1=>?_) (nst ia _ _)));have F1:=F.step b b1 st1;refine wpAny_items_cons (Qlo hb ib S hA b1 (kp.ss b1 (st1.ss kp)) F1 h2 fun v2 z2 s2 b2 st2 hh2 n2 c2=>wpAny_items_nil ⟨by rw [sizeLine_eq];exact (show 2≤16777216 by decide),?_⟩) (nst ib _ _);have k3:=Qv s2.heap { cls:=.type "tuple",data:=.seq [v1,v2].toArray };have b3:=b2.grown (t:=s2.toks) k3;have st3:=Step.grown b2 (t:=s2.toks) k3;have ht3:(s2.heap.push { cls:=.type "tuple",data:=.seq [v1,v2].toArray }).get? s2.heap.objs.size=some { cls:=.type "tuple",data:=.seq [v1,v2].toArray }:=Heap.get?_push_size _ rfl;have stn:∀{c},Qi s.heap c→Qi s1.heap c:=fun {c} hcs=>by
  have:Kp (fun c=>Qi s.heap c) s.heap:=fun c hc=>hc;exact this.ss b1 (st1.ss this) c hcs
 have fin:∀s4:Shared,Base P w hB Γ z2 g2 s4→Step Γ z2 s2 z2 s4→(wpAny (model P w) A (storeName env (Str.ofString x) v1) (fun Y s1=>wpAny (model P w) A (storeName env (Str.ofString y) v2) (fun Y s'=>Q .next s') E s1) E s4) ∧
   (wpAny (model P w) A (storeName env (Str.ofString y) v2) (fun Y s1=>wpAny (model P w) A (storeName env (Str.ofString x) v1) (fun Y s'=>Q .next s') E s1) E s4):=fun s4 b4 st4=>by
  have F4:=(F1.step b1 b2 st2).step b2 b4 st4;have ssT:=(st1.trans (st2.trans st4)).ss kp;have hA1:=(hh1.step b1 b2 st2).step b2 b4 st4;have hA2:=hh2.step b2 b4 st4;have N1:∀a k u,Yv B1=true→v1=.ref a→nm[k]?=some u→Y7 ρ k→¬Cur s4.heap env m (Str.ofString u) (.ref a):=fun a k u ho hv hk ok=>Qcq F b (st1.trans (st2.trans st4)) (n1 a ho hv) hk ok;have N2:∀a k u,Yv B2=true→v2=.ref a→nm[k]?=some u→Y7 ρ k→¬Cur s4.heap env m (Str.ofString u) (.ref a):=fun a k u ho hv hk ok=>Qcq F b (st1.trans (st2.trans st4)) (fun hs=>n2 a ho hv (stn hs)) hk ok;have N12:Yv B1=true→Yv B2=true→v1≠v2:=fun o1 o2 e=>by
   have:∃a,v1=.ref a∧Qi s1.heap a:=by
    cases B1<;>first|cases o1|skip
    ·obtain ⟨a,e,⟨vs,k,g1,_⟩,_⟩:=hh1;exact ⟨a,e,_,g1⟩
    ·obtain ⟨a,e,⟨xs,ys,⟨o,e1,e2,g1,_⟩,_⟩,_⟩:=hh1;exact ⟨a,e,_,g1⟩
   obtain ⟨a,e1,hs⟩:=this;exact n2 a o2 (e▸e1) hs
  refine ⟨Qa0 F4 b4 hix hjy hij hwi hwj hA1 hA2 c1 N1 N2 N12 fun s' m' b' ss F'=>k.nxt z2 s' m' rfl b' (ssT.trans ss) F',Qa0 F4 b4 hjy hix hij.symm hwj hwi hA2 hA1 c2 N2 N1 (fun o2 o1 e=>N12 o1 o2 e.symm) fun s' m' b' ss F'=>?_⟩;refine k.nxt z2 s' m' rfl b' (ssT.trans ss) ?_
  rwa [List.set_comm _ _ hij.symm]at F'
 rcases Qd8 (x:=Str.ofString x) (y:=Str.ofString y) (q1:=q1) (q2:=q2) (q3:=q3) (q4:=q4) (k:=kk) (k2:=k2) (env:=env) hc with hsw|hsw
 ·refine eqR (hsw) ?_;refine wpAny_bind (wpAny_pure ?_);refine (?_:wpAny _ A (do assignAll (.ref s2.heap.objs.size) [assign (.Tuple [.Name (Str.ofString x) q1,.Name (Str.ofString y) q2] kk q3) env];pure Flow.next) _ _ _);refine wpAny_bind ?_;refine (?_:wpAny _ A (assign (.Tuple [.Name (Str.ofString x) q1,.Name (Str.ofString y) q2] kk q3) env (.ref s2.heap.objs.size)) _ _ _);refine assign_Tuple_tuple (items:=[v1,v2].toArray) hA.hh ⟨_,ht3,rfl,_,rfl⟩ rfl rfl fun h' hx=>?_;have k5:∀a o,s2.heap.get? a=some o→h'.get? a=some o:=fun a o e=>hx a o (Nat.ne_of_lt (Heap.lt_size (k3 _ _ e))) (k3 _ _ e);obtain ⟨f1,_⟩:=fin { s2 with heap:=h' } (b2.grown (t:=s2.toks) k5) (Step.grown b2 k5);refine assignInOrder_cons (wpAny_assign_Name (wpAny_mono f1 (fun Y s5 h5=>?_) fun Y Y h=>h));exact assignInOrder_cons (wpAny_assign_Name (wpAny_mono h5 (fun Y s6 h6=>assignInOrder_nil (wpAny_pure h6)) fun Y Y h=>h))
 ·rw [hsw];refine wpAny_bind (wpAny_pure ?_);refine (?_:wpAny _ A (do
   rule "assign.swapped-stores"
   let items ←unpackItems (.ref s2.heap.objs.size) 2 none
   assignInOrder ([Str.ofString x,Str.ofString y].reverse.map fun n=>bindName env n) items.reverse
   pure Flow.next) _ _ _)
  refine wpAny_bind (wpAny_rule ?_);refine wpAny_bind (wpAny_unpackItems_tuple (items:=[v1,v2].toArray) hA.hh ⟨_,ht3,rfl,_,rfl⟩ fun h' hx=>?_);have k5:∀a o,s2.heap.get? a=some o→h'.get? a=some o:=fun a o e=>hx a o (Nat.ne_of_lt (Heap.lt_size (k3 _ _ e))) (k3 _ _ e);obtain ⟨_,f2⟩:=fin { s2 with heap:=h' } (b2.grown (t:=s2.toks) k5) (Step.grown b2 k5);refine wpAny_bind (assignInOrder_cons (wpAny_bindName (wpAny_mono f2 (fun Y s5 h5=>?_) fun Y Y h=>h)));exact assignInOrder_cons (wpAny_bindName (wpAny_mono h5 (fun Y s6 h6=>assignInOrder_nil (wpAny_pure h6)) fun Y Y h=>h))
theorem lcK {M:CE→Prop}(h:Qs e=true) (k1:∀elt t it ifs nm cap,M (.comp elt t it ifs nm cap)) (k2:∀elt t₁ it₁ t₂ it₂ nm cap,M (.comp2 elt t₁ it₁ t₂ it₂ nm cap)):M e:=by
 cases e<;>first|exact k1 ..|exact k2 ..|exact ff h
theorem Yak {elt t it ifs nm' cap d}(h:Qb O (.comp elt t it ifs nm' cap) ρ g=some (d,g')):∃ys,d=.lst ys:=Y8 h fun Y Y Y h=>Qcj h fun Y Y h=>Y8 h fun ys Y Y h=>gdK h fun Y h=>eqK (M:=fun d Y=>∃ys,d=.lst ys) h ⟨ys,rfl⟩
theorem Qxy {elt t₁ it₁ t₂ it₂ nm' cap d}(h:Qb O (.comp2 elt t₁ it₁ t₂ it₂ nm' cap) ρ g=some (d,g')):∃ys,d=.lst ys:=Y8 h fun Y Y Y h=>Qcj h fun Y Y h=>Y8 h fun ys Y Y h=>gdK h fun Y h=>eqK (M:=fun d Y=>∃ys,d=.lst ys) h ⟨ys,rfl⟩
theorem Qsw (hAll:∀e,SE P w hB Γ n O e) (hIt:∀it,SIt P w hB Γ n O it) (hTs:∀es,STs P w hB Γ n O es) (e:CE):CRs P w hB Γ n O e:=fun hc=>lcK (M:=CR0 P w hB Γ n O) hc
 (fun elt t it ifs nm' cap sc nm e' env ρ m K z g s A d g' hi S hA b F h M kM=>Ydj (M:=fun e'=>isE sc nm (.comp elt t it ifs nm' cap) e'=true→M d e') hi (fun elt' gs sc' q Y hi=>by
  obtain ⟨ys,rfl⟩:=Yak h;exact kM ys elt' gs sc' q fun use Q E k=>Qme (M:=fun e''=>e''=.ListComp elt' gs sc' q→_) (use:=use) (hAll elt) (hIt it) (hTs ifs) hi S hA b F h (Q:=Q) (E:=E) (fun ys2 a cenv ρ' K' z' s' hd fa ha hC hne M=>by
   cases hd;exact k a cenv _ ρ' K' z' s' fa ha hC hne M) (fun Y Y Y Y hw q=>by cases q;exact hw) rfl) hi)
 (fun elt t₁ it₁ t₂ it₂ nm' cap sc nm e' env ρ m K z g s A d g' hi S hA b F h M kM=>Ydj (M:=fun e'=>isE sc nm (.comp2 elt t₁ it₁ t₂ it₂ nm' cap) e'=true→M d e') hi (fun elt' gs sc' q Y hi=>by
  obtain ⟨ys,rfl⟩:=Qxy h;exact kM ys elt' gs sc' q fun use Q E k=>Qi6 (M:=fun e''=>e''=.ListComp elt' gs sc' q→_) (use:=use) (hAll elt) (hIt it₁) (hIt it₂) hi S hA b F h (Q:=Q) (E:=E) (fun ys2 a cenv ρ' K' z' s' hd fa ha hC hne M=>by
   cases hd;exact k a cenv _ ρ' K' z' s' fa ha hC hne M) (fun Y Y Y Y hw q=>by cases q;exact hw) rfl) hi)
theorem Qza {mg mb}(W:Wd hB Γ mg mb) (hO:OrcOk P w hB Γ mg n O) (hap:Γ.has=true→Γ.two=true→Γ.pA≠Γ.fA):(∀st,SS P w hB Γ n O st)∧∀ss,SSs P w hB Γ n O ss:=by
 have E:=fun e=>(Qxe W hO e).1;have T:=fun e=>(Qxe W hO e).2;have I:=Yar W hO;have C:=Qsw E I fun es=>Qqs (Qbm W hO es).2;exact ⟨fun st=>CS.rec (motive_1:=SS P w hB Γ n O) (motive_2:=SSs P w hB Γ n O) (fun t e=>Qvw (E e) (C e)) Qou (Qqw W) (fun i e=>Qn8 (C e) fun r Y=>E r) (fun i j a b=>Qu6 (fun c Y=>E c) fun c Y=>E c) (fun i e=>Qvi (E e)) (fun i k v=>Qrs (E v) (E k)) (fun i k v=>Qpz (E v) (E k)) (fun b k v=>Qpl hap (E v) (E b) (E k)) Qvp (fun e=>Yb7 (E e)) (fun t a b h1 h2=>Ya8 (T t) h1 h2) (fun t it b h=>Qvk (I it) h) (fun e=>Qvf (E e)) Qu7 Qoe (fun s r h1 h2=>Qls h1 h2) st,
  fun st=>CSs.rec (motive_1:=SS P w hB Γ n O) (motive_2:=SSs P w hB Γ n O) (fun t e=>Qvw (E e) (C e)) Qou (Qqw W) (fun i e=>Qn8 (C e) fun r Y=>E r) (fun i j a b=>Qu6 (fun c Y=>E c) fun c Y=>E c) (fun i e=>Qvi (E e)) (fun i k v=>Qrs (E v) (E k)) (fun i k v=>Qpz (E v) (E k)) (fun b k v=>Qpl hap (E v) (E b) (E k)) Qvp (fun e=>Yb7 (E e)) (fun t a b h1 h2=>Ya8 (T t) h1 h2) (fun t it b h=>Qvk (I it) h) (fun e=>Qvf (E e)) Qu7 Qoe (fun s r h1 h2=>Qls h1 h2) st⟩
theorem Qbo {mg mb}(W:Wd hB Γ mg mb) (hO:OrcOk P w hB Γ mg n O) (hap:Γ.has=true→Γ.two=true→Γ.pA≠Γ.fA) (ss:CSs):SSs P w hB Γ n O ss:=(Qza W hO hap).2 ss
end
theorem Vk:∀{ns:List Str}{vs:List Value},ns.length=vs.length→∀n∈ns,((ns.zip vs).lookup n).isNone=false
 |[],_,_,n,h=>by simp at h
 |a::r,[],h,_,_=>by simp at h
 |a::r,v::vs,h,n,hn=>by
  refine eqR (List.zip_cons_cons) ?_;refine eqR (List.lookup_cons) ?_;by_cases e:n==a
  ·refine eqR (e) ?_;rfl
  ·simp only [e];rcases List.mem_cons.mp hn with rfl|hn
   ·simp at e
   ·exact Vk (by simpa using h) n hn
theorem Qoy:∀{ns:List Str}{vs:List Value},ns.Nodup→ns.length=vs.length→(ns.filterMap fun n=>((ns.zip vs).lookup n).map (n,·))=ns.zip vs:=by
 have key:∀(ns:List Str) (vs:List Value) (pre:List (Str×Value)),ns.Nodup→(∀p∈pre,p.1∉ns)→ns.length=vs.length→(ns.filterMap fun n=>((pre++ns.zip vs).lookup n).map (n,·))=ns.zip vs:=by
  intro ns
  induction ns with
  |nil=>intro vs pre _ _ h;rfl
  |cons a r ih=>
   intro vs pre hn hp hl;cases vs with
   |nil=>simp at hl
   |cons v vs=>
    have h0:∀(pre:List (Str×Value)) (t:List (Str×Value)),(∀p∈pre,p.1≠a)→(pre++(a,v)::t).lookup a=some v:=by
     intro pre t
     induction pre with
     |nil=>intro _;simp [List.lookup_cons]
     |cons p pre ih2=>
      intro hq;obtain ⟨x,y⟩:=p;have:(a==x)=false:=by simpa using Ne.symm (hq (x,y) (.head _))
      simp only [List.cons_append,List.lookup_cons,this];exact ih2 fun p hp=>hq p (.tail _ hp)
    refine eqR (List.filterMap_cons) ?_;refine eqR (List.zip_cons_cons) ?_;refine eqR (h0 pre _ fun p hp' q=>hp p hp' (by rw [q];exact .head _)) ?_;simp only [Option.map_some]
    congr 1
    have:=ih vs (pre++[(a,v)]) (List.nodup_cons.mp hn).2 (fun p hp'=>by
     rcases List.mem_append.mp hp' with h|h
     ·exact fun q=>hp p h (.tail _ q)
     ·simp at h;subst h;exact (List.nodup_cons.mp hn).1) (by simpa using hl)
    simpa using this
 intro ns vs hn hl;simpa using key ns vs [] hn (by simp) hl
noncomputable def Qr8 (O:Orc) (b:CSs) (N np:Nat) (xs:List D) (g:Gs):Option (D×Gs):=
 if xs.length=np∧np≠0 then match Yj O b (xs.map (fun d=>some (.val d))++List.replicate (N-np) none) g with
  |some (.ret d,_,g')=>some (d,g')
  |some (.nxt,_,g')=>some (.none,g')
  |none=>none
 else none
theorem Qdx {kindOf:Str→Option NameKind}{x:Str}:∀(bs:List (Str×Value)) (m:Str→Option Value),(∀p∈bs,p.1≠x)→bindL kindOf bs m x=m x
 |[],_,_=>rfl
 |(n,v)::r,m,h=>by
  unfold bindL;refine eqR (Qdx r _ fun p hp=>h p (.tail _ hp)) ?_;split
  ·exact if_neg (Ne.symm (h _ (.head _)))
  ·rfl
theorem Qd2 {kindOf:Str→Option NameKind}{x:Str}:∀(bs:List (Str×Value)) (m:Str→Option Value),(∀p∈bs,p.1≠x)→bindC kindOf bs m x=m x
 |[],_,_=>rfl
 |(n,v)::r,m,h=>by
  unfold bindC;refine eqR (Qd2 r _ fun p hp=>h p (.tail _ hp)) ?_;split
  ·rfl
  ·exact if_neg (Ne.symm (h _ (.head _)))
theorem Qvr {ns:List Str}{x:Str}(h:x∉ns):∀p∈ns.zip vs,p.1≠x:=fun p hp q=>h (q▸(List.of_mem_zip hp).1)
theorem Qkx {kindOf:Str→Option NameKind}{x:Str}{v:Value}(hk:kindOf x=some .local):∀{ns:List Str}{vs:List Value}{m:Str→Option Value}{i:Nat},ns.Nodup→ns[i]?=some x→vs[i]?=some v→bindL kindOf (ns.zip vs) m x=some v
 |[],_,_,i,_,h,_=>by simp at h
 |_::_,[],_,i,_,_,h=>by simp at h
 |a::r,u::vs,m,0,hn,h1,h2=>by
  simp at h1 h2;subst h1 h2;refine eqR (List.zip_cons_cons) ?_;unfold bindL;refine eqR (Qdx _ _ (Qvr (List.nodup_cons.mp hn).1)) ?_;refine eqR (if_pos hk) ?_;exact if_pos rfl
 |a::r,u::vs,m,i+1,hn,h1,h2=>by
  rw [List.zip_cons_cons];unfold bindL;exact Qkx hk (List.nodup_cons.mp hn).2 (by simpa using h1) (by simpa using h2)
theorem Qkm {kindOf:Str→Option NameKind}{x:Str}{v:Value}(hk:kindOf x≠some .local):∀{ns:List Str}{vs:List Value}{m:Str→Option Value}{i:Nat},ns.Nodup→ns[i]?=some x→vs[i]?=some v→bindC kindOf (ns.zip vs) m x=some v
 |[],_,_,i,_,h,_=>by simp at h
 |_::_,[],_,i,_,_,h=>by simp at h
 |a::r,u::vs,m,0,hn,h1,h2=>by
  simp at h1 h2;subst h1 h2;refine eqR (List.zip_cons_cons) ?_;unfold bindC;refine eqR (Qd2 _ _ (Qvr (List.nodup_cons.mp hn).1)) ?_;refine eqR (if_neg hk) ?_;exact if_pos rfl
 |a::r,u::vs,m,i+1,hn,h1,h2=>by
  rw [List.zip_cons_cons];unfold bindC;exact Qkm hk (List.nodup_cons.mp hn).2 (by simpa using h1) (by simpa using h2)
theorem Vq {x:Str}:∀(names:List (Str×NameKind)) (n:Nat) (acc:List (Str×Addr)),((acc.lookup x).isSome=true∨names.lookup x=some .cell)→((cellsFrom n names acc).lookup x).isSome=true
 |[],_,acc,h=>by
  rcases h with h|h
  ·exact h
  ·simp at h
 |(a,k)::r,n,acc,h=>by
  unfold cellsFrom;have put:∀c,((acc.lookup x).isSome=true∨x=a)→((((a,c)::acc:List (Str×Addr)).lookup x).isSome=true):=fun c h=>by
   refine eqR (List.lookup_cons) ?_;by_cases e:x==a
   ·refine eqR (e) ?_;rfl
   ·simp only [e];rcases h with h|h
    ·exact h
    ·exact absurd (beq_iff_eq.mpr h) e
  rcases h with h|h
  ·split
   ·exact Vq r _ _ (.inl (put _ (.inl h)))
   ·exact Vq r _ _ (.inl h)
  ·rw [List.lookup_cons]at h;by_cases e:x==a
   ·rw [e]at h;obtain rfl:=Option.some.inj h;refine eqR (if_pos (by rfl)) ?_;exact Vq r _ _ (.inl (put _ (.inr (beq_iff_eq.mp e))))
   ·simp only [e]at h;split
    ·exact Vq r _ _ (.inr h)
    ·exact Vq r _ _ (.inr h)
noncomputable def ivF (xs:List D) (g:Gs):Option (D×Gs):=lC (fun d r=>lN (sI' (fun i=>some (.tup [.str (Str.ofString "int"),.str (Str.ofString "Int64"),.int i],g)) d) r) xs
noncomputable def Qxv (f:String):Option (Nat×List String×CSs):=Qum.lookup f
theorem Qsh {x}(h:Qxv f=some x):(f,x)∈Qum:=by
 unfold Qxv at h;generalize Qum=l at h
 induction l with
 |nil=>cases h
 |cons e l ih=>
  obtain ⟨k,v⟩:=e;rw [List.lookup_cons]at h;cases q:f==k with
  |true=>rw [q]at h;cases h;cases eq_of_beq q;exact .head _
  |false=>rw [q]at h;exact .tail _ (ih h)
noncomputable def ins (x:Int):List Int→List Int
 |[]=>[x]
 |y::r=>if x≤y then x::y::r else y::ins x r
theorem Qqb (x:Int):ins x []=[x]:=rfl
theorem Qpj (x y:Int) (r:List Int):ins x (y::r)=if x≤y then x::y::r else y::ins x r:=rfl
noncomputable def Ja:List Int→List Int
 |[]=>[]
 |x::r=>ins x (Ja r)
theorem Qqj:Ja []=[]:=rfl
theorem Qpx (x:Int) (r:List Int):Ja (x::r)=ins x (Ja r):=rfl
noncomputable def Qr3 (r i:Nat):Nat:=@Nat.rec (fun Y=>Nat) i (fun r Y=>@Nat.rec (fun Y=>Nat) (i / 4 % 4+4*(i % 4)+16*(i / 16)) (fun Y Y=>i / 4 % 4+4*(i / 16)+16*(i % 4)) r) r
noncomputable def lst (r p:Nat):List Int:=(List.range 64).map fun i=>@Bool.rec (fun Y=>Int) (Int.ofNat (Qr3 r i)) (-5) (Nat.beq (Qr3 r i) p)
noncomputable def good (l:List Int):Bool:=(List.range 3).any fun r=>(List.range 65).any fun p=>decide (l=lst r p)
noncomputable def okS (l:List Int):Bool:=Nat.blt l.length 64||good l
noncomputable def srt (l:List Int):Option (List Int):=@Bool.rec (fun Y=>Option (List Int)) none (some (Ja l)) (okS l)
noncomputable def orc (gl:String→Option D) (sz:List D):Nat→Orc
 |0=>{ fn:=fun Y Y Y=>none,glob:=gl,szs:=sz,sort:=srt }
 |n+1=>{ glob:=gl,szs:=sz,sort:=srt,fn:=fun f xs g=>if f="int_value" then ivF xs g else match Qxv f with
   |some (np,nm,b)=>Qr8 (orc gl sz n) b nm.length np xs g
   |none=>none }
noncomputable abbrev tI (xs:List Int):D:=.tup (xs.map .int)
noncomputable abbrev lI (xs:List Int):D:=.lst (xs.map .int)
noncomputable abbrev vv (d:D):Option B:=some (.val d)
noncomputable def Ye (i:Int):D:=.tup [.str (Str.ofString "int"),.str (Str.ofString "Int64"),.int i]
noncomputable def Ji:D:=.tup [.str (Str.ofString "array"),.int 0]
noncomputable def Qdd (p:Int) (ss fs:List Int):D:=.tup [.str (Str.ofString "view"),.int 0,.int p,tI ss,tI fs]
section
variable (O:Orc) (ρ:Q8) (g:Gs)
@[simp] theorem Qat:Qb O .none ρ g=some (.none,g):=rfl
@[simp] theorem Yfk (b:Bool):Qb O (.bool b) ρ g=some (.bool b,g):=rfl
@[simp] theorem Qf (i:Int):Qb O (.int i) ρ g=some (.int i,g):=rfl
@[simp] theorem Vu (x:String):Qb O (.str x) ρ g=some (.str (Str.ofString x),g):=rfl
@[simp] theorem Ygn (o:BOp) (l r:CE):Qb O (.bin o l r) ρ g=bnd (Qb O l ρ g) fun a g=>bnd (Qb O r ρ g) fun b g=>Qbl (Qc9 o a b) g:=rfl
@[simp] theorem Ygz (o:COp) (l r:CE):Qb O (.cmp o l r) ρ g=bnd (Qb O l ρ g) fun a g=>bnd (Qb O r ρ g) fun b g=>Qbl ((Vw o a b).map .bool) g:=rfl
@[simp] theorem Ygm (n:Bool) (e:CE):Qb O (.isN n e) ρ g=bnd (Qb O e ρ g) fun a g=>some (.bool (if n then !isNone a else isNone a),g):=rfl
@[simp] theorem Ygt (l r:CE):Qb O (.inE l r) ρ g=bnd (Qb O l ρ g) fun a g=>bnd (Qb O r ρ g) fun b g=>Qbl ((ain a b).map .bool) g:=rfl
@[simp] theorem Yam (es:CEs):Qb O (.tup es) ρ g=bnd (Yd O es ρ g) fun xs g=>gd (Qm xs.length) (some (.tup xs,g)):=rfl
@[simp] theorem Ybz (es:CEs):Qb O (.lst es) ρ g=bnd (Yd O es ρ g) fun xs g=>gd (Qm xs.length) (some (.lst xs,g)):=rfl
@[simp] theorem Yg5 (e i:CE):Qb O (.idx e i) ρ g=bnd (Qb O e ρ g) fun a g=>bnd (Qb O i ρ g) fun b g=>Qbl (Qde g a b) g:=rfl
@[simp] theorem Yi0 (f:String) (es:CEs):Qb O (.fn f es) ρ g=bnd (Yd O es ρ g) fun xs g=>O.fn f xs g:=rfl
@[simp] theorem Yie (b:Bi) (es:CEs):Qb O (.bi b es) ρ g=bnd (Yd O es ρ g) fun xs g=>Qbl (abi O b xs) g:=rfl
@[simp] theorem Yg2:Yd O .nil ρ g=some ([],g):=rfl
@[simp] theorem Qaf (e:CE) (r:CEs):Yd O (.cons e r) ρ g=bnd (Qb O e ρ g) fun x g=>bnd (Yd O r ρ g) fun xs g=>some (x::xs,g):=rfl
theorem Qec (h:ρ[i]?=some (some (.val d))):Qb O (.var i) ρ g=some (d,g):=congrArg (slV _) h
theorem Qa {O:Orc}{ρ:Q8}{g:Gs} (h:ρ[i]?=some (some (.val d))):Qb O (.var i) ρ g=some (d,g):=Qec _ _ _ h
theorem Yr (h:ρ[i]?=some (some (.cap d))):Qb O (.var i) ρ g=some (d,g):=congrArg (slV _) h
theorem Vg (xs:List D) (y:D):Qde g (.lst xs) y=Qvx xs y:=rfl
theorem Ve (xs:List D) (y:D):Qde g (.tup xs) y=Qvx xs y:=rfl
theorem Vf (es:List (List Int×D)) (y:D):Qde g (.dct es) y=Yd1 es y:=rfl
@[simp] theorem Ygx (e:CE):Vy O (.ret e) ρ g=bnd (Qb O e ρ g) fun d g=>some (.ret d,ρ,g):=rfl
@[simp] theorem Qh:Yj O .nil ρ g=some (.nxt,ρ,g):=rfl
end
noncomputable abbrev Qbd (O:Orc) (t:CT) (b:CSs):D→Q8→Gs→Option (Fl×Q8×Gs):=Yhp O t b
section
theorem Qd {x:Option (α×Gs)}{a:α}{f:α→Gs→Option γ}{r:Option γ}(h:x=some (a,g)) (k:f a g=r):bnd x f=r:=by rw [h];exact k
theorem Qvn {x:Option (Fl×Q8×Gs)}{f:Q8→Gs→Option (Fl×Q8×Gs)}{r:Option (Fl×Q8×Gs)}(h:x=some (.nxt,ρ,g)) (k:f ρ g=r):Qww x f=r:=by rw [h];exact k
theorem Qwh {x:Option (Fl×Q8×Gs)}{f:Q8→Gs→Option (Fl×Q8×Gs)}(h:x=some (.ret d,ρ,g)):Qww x f=some (.ret d,ρ,g):=by rw [h];rfl
theorem Qc {s:CS}{r:CSs}{x:Option (Fl×Q8×Gs)}(h:Vy O s ρ g=some (.nxt,ρ',g')) (h2:Yj O r ρ' g'=x):Yj O (.cons s r) ρ g=x:=Qvn h h2
theorem Qj {s:CS}{r:CSs}(h:Vy O s ρ g=some (.ret d,ρ',g')):Yj O (.cons s r) ρ g=some (.ret d,ρ',g'):=Qwh h
theorem Ju {t:CT}{it:CI}{b:CSs}{x:Option (Fl×Q8×Gs)}(h:Jm O it ρ g=some (ds,g')) (h2:J4 (Qbd O t b) ds ρ g'=x):Vy O (.forS t it b) ρ g=x:=Qd h h2
theorem Qq6 {t:CT}(h:Qb O e ρ g=some (d,g')) (hb:Qdb t ρ d=some ρ'):Vy O (.asg t e) ρ g=some (.nxt,ρ',g'):=Qd h (by rw [hb];rfl)
theorem Qo (h:Qb O e ρ g=some (d,g')) (hw:Qa7 ρ i=true):Vy O (.asg (.nm i) e) ρ g=some (.nxt,ρ.set i (vv d),g'):=Qq6 h (Jl hw)
theorem J5 (h:Qb O e ρ g=some (.tup ds,g')) (hb:J9 ts ρ ds=some ρ'):Vy O (.asg (.tup ts) e) ρ g=some (.nxt,ρ',g'):=Qq6 h hb
theorem V8 {t:CE}{a b:CSs}{x:Option (Fl×Q8×Gs)}(h:Qb O t ρ g=some (.bool true,g')) (h2:Yj O a ρ g'=x):Vy O (.ifS t a b) ρ g=x:=Qd h h2
theorem Qt {t:CE}{a b:CSs}{x:Option (Fl×Q8×Gs)}(h:Qb O t ρ g=some (.bool false,g')) (h2:Yj O b ρ g'=x):Vy O (.ifS t a b) ρ g=x:=Qd h h2
theorem Qp (h:Qb O e ρ g=some (d,g')):Vy O (.ret e) ρ g=some (.ret d,ρ,g'):=Qd h rfl
theorem Qhu (hi:ρ[i]?=some (some (.own xs))) (h:Qb O e ρ g=some (d,g')) (hl:xs.length≤1048576):Vy O (.app i e) ρ g=some (.nxt,ρ.set i (some (.own (xs++[d]))),g'):=(congrArg (slO _) hi).trans (Qd h (Jl (decide_eq_true hl)))
theorem Qef (hi:ρ[i]?=some (some (.own xs))):Vy O (.frz i) ρ g=some (.nxt,ρ.set i (vv (.lst xs)),g):=congrArg (fun b=>opt (Ydi b) _) hi
theorem Qwy (hi:ρ[i]?=some (some (.ownD es))):Vy O (.frz i) ρ g=some (.nxt,ρ.set i (vv (.dct es)),g):=congrArg (fun b=>opt (Ydi b) _) hi
theorem Qo3 (hw:Qa7 ρ i=true):Vy O (.ownL i) ρ g=some (.nxt,ρ.set i (some (.own [])),g):=Jl hw
theorem Qwo (hw:Qa7 ρ i=true):Vy O (.ownD i) ρ g=some (.nxt,ρ.set i (some (.ownD [])),g):=Jl hw
theorem Qrg (hw:Qa7 ρ i=true) (h:Qb O e ρ g=some (.lst xs,g')):Vy O (.ownE i e) ρ g=some (.nxt,ρ.set i (some (.own xs)),g'):=(Jl hw).trans (Qd h rfl)
theorem Qo9 {f:D→Q8→Gs→Option (Fl×Q8×Gs)}:J4 f [] ρ g=some (.nxt,ρ,g):=rfl
theorem Yb {f:D→Q8→Gs→Option (Fl×Q8×Gs)}{r:List D}{x:Option (Fl×Q8×Gs)}(h:f d ρ g=some (.nxt,ρ',g')) (h2:J4 f r ρ' g'=x):J4 f (d::r) ρ g=x:=Qvn h h2
theorem Jn {α:Type}{e h:α→D}{f:D→Gs→Option (Option D×Gs)}:∀{xs:List α},(∀x∈xs,f (e x) g=some (some (h x),g))→Qx f (xs.map e) g=some (xs.map h,g)
 |[],_=>rfl
 |x::r,H=>Qd (H x (.head _)) (Qd (Jn fun y hy=>H y (.tail _ hy)) rfl)
theorem Jo {α:Type}{e h:α→D}{p:α→Bool}{f:D→Gs→Option (Option D×Gs)}:∀{xs:List α},(∀x∈xs,f (e x) g=some (if p x then some (h x) else none,g))→Qx f (xs.map e) g=some ((xs.filter p).map h,g)
 |[],_=>rfl
 |x::r,H=>Qd (H x (.head _)) (Qd (Jo fun y hy=>H y (.tail _ hy)) (by rw [List.filter_cons];cases p x<;>rfl))
theorem Qda {α:Type}{e:α→D}{h:α→List D}{f:D→Gs→Option (List D×Gs)}:∀{xs:List α},(∀x∈xs,f (e x) g=some (h x,g))→V0 f (xs.map e) g=some (xs.flatMap h,g)
 |[],_=>rfl
 |x::r,H=>Qd (H x (.head _)) (Qd (Qda fun y hy=>H y (.tail _ hy)) rfl)
theorem Q4 {x:Option α}{a:α}{f:α→Option γ}{r:Option γ}(h:x=some a) (k:f a=r):opt x f=r:=by rw [h];exact k
theorem Ys {e h:α→D}{t:CT}{it:CI}{xs:List α}(hit:Jm O it ρ g=some (xs.map e,g1)) (hcap:Qaq ρ cap=some ρ')
  (hf:∀x∈xs,∃ρ1,Qai t ρ' (e x)=some ρ1∧Qb O elt ρ1 g1=some (h x,g1)) (hl:xs.length≤1048576):Qb O (.comp elt t it .nil nm cap) ρ g=some (.lst (xs.map h),g1):=
 Qd hit (Q4 hcap (Qd (Jn (f:=trn O elt t .nil ρ') fun x hx=>let ⟨_,h1,h2⟩:=hf x hx;Q4 h1 (Qd (x:=Qfi O .nil _ _) rfl (Qd h2 rfl))) (Jl (decide_eq_true (by rw [List.length_map];exact hl)))))
theorem Qil {e h:α→D}{p:α→Bool}{tst:CE}{t:CT}{it:CI}{xs:List α}(hit:Jm O it ρ g=some (xs.map e,g1)) (hcap:Qaq ρ cap=some ρ')
  (hf:∀x∈xs,∃ρ1,A3 (Qai t ρ' (e x)=some ρ1) (Qb O tst ρ1 g1=some (.bool (p x),g1)) (Qb O elt ρ1 g1=some (h x,g1))) (hl:xs.length≤1048576):Qb O (.comp elt t it (.cons tst .nil) nm cap) ρ g=some (.lst ((xs.filter p).map h),g1):=
 Qd hit (Q4 hcap (Qd (Jo (f:=trn O elt t (.cons tst .nil) ρ') fun x hx=>let ⟨_,h1,h2,h3⟩:=hf x hx;Q4 h1 (Qd (Qd h2 rfl) (by
  cases p x
  ·rfl
  ·exact Qd h3 rfl))) (Jl (decide_eq_true (by rw [List.length_map];exact Nat.le_trans (List.length_filter_le _ _) hl)))))
theorem Qdj {e:α→D}{e2:α→β→D}{ys:α→List β}{h:α→β→D}{xs:List α}(hit:Jm O it₁ ρ g=some (xs.map e,g1))
  (hcap:Qaq ρ cap=some ρ') (hf:∀x∈xs,∃ρ1,A3 (Qai t₁ ρ' (e x)=some ρ1) (Jm O it₂ ρ1 g1=some ((ys x).map (e2 x),g1)) (∀y∈ys x,∃ρ2,Qai t₂ ρ1 (e2 x y)=some ρ2∧Qb O elt ρ2 g1=some (h x y,g1)))
  (hl:(xs.flatMap ys).length≤1048576):Qb O (.comp2 elt t₁ it₁ t₂ it₂ nm cap) ρ g=some (.lst (xs.flatMap fun x=>(ys x).map (h x)),g1):=
 Qd hit (Q4 hcap (Qd (Qda (f:=Yga O elt t₁ t₂ it₂ ρ') fun x hx=>let ⟨_,h1,h2,h3⟩:=hf x hx;Q4 h1 (Qd h2 (Jn (h:=h x) fun y hy=>let ⟨_,h4,h5⟩:=h3 y hy;Q4 h4 (Qd (x:=Qfi O .nil _ _) rfl (Qd h5 rfl))))) (Jl (decide_eq_true (by simpa [List.length_flatMap] using hl)))))
theorem Yc (h:Qb O e ρ g=some (.lst xs,g')∨Qb O e ρ g=some (.tup xs,g')) (hl:xs.length≤1048576):Jm O (.over e) ρ g=some (xs,g'):=
 have q:Qm xs.length=true:=decide_eq_true hl
 h.elim (fun h=>Qd h (congrArg (Qbl · _) (if_pos q))) fun h=>Qd h (congrArg (Qbl · _) (if_pos q))
end
theorem Yo {a:Int}(h:-4611686018427387904≤a∧a<4611686018427387904):Q2 a=true:=decide_eq_true h
theorem Yw (h:n≤1048576):Qm n=true:=decide_eq_true h
set_option tactic.hygienic true in
mutual
theorem Qqo:∀{d:D}{p:PyData},Qab d=some p→PyData.eqv p p=true
 |.none,_,h=>by simp [Qab]at h;subst h;rfl
 |.bool b,_,h=>by simp [Qab]at h;subst h;simp [PyData.eqv]
 |.int i,_,h=>by simp [Qab]at h;subst h;simp [PyData.eqv]
 |.str x,_,h=>by simp [Qab]at h;subst h;simp [PyData.eqv]
 |.tup xs,_,h=>by
  simp only [Qab,Option.map_eq_some_iff]at h;obtain ⟨ps,h1,rfl⟩:=h;simp only [PyData.eqv];exact Qg4 h1
 |.lst xs,_,h=>by
  simp only [Qab,Option.map_eq_some_iff]at h;obtain ⟨ps,h1,rfl⟩:=h;simp only [PyData.eqv];exact Qg4 h1
 |.dct _,_,h=>by simp [Qab]at h
 |.hnd _,_,h=>by simp [Qab]at h
theorem Qg4:∀{ds:List D}{ps:List PyData},Vz ds=some ps→PyData.eqvAll ps ps=true
 |[],_,h=>by simp [Vz]at h;subst h;rfl
 |d::r,ps,h=>by
  simp only [Vz]at h;split at h
  ·rename_i x y hx hy;obtain rfl:=Option.some.inj h;simp only [PyData.eqvAll,Qqo hx,Qg4 hy,Bool.and_self]
  ·cases h
end
theorem Qcr (xs:List Int):Vz (xs.map .int)=some (xs.map .int):=by
 induction xs with
 |nil=>rfl
 |cons x r ih=>simp [Vz,Qab,ih]
theorem Qeb (xs:List Int):PyData.canLayAll0 (xs.map .int)=true:=by
 induction xs with
 |nil=>rfl
 |cons x r ih=>simp [PyData.canLayAll0,PyData.canLay0,ih]
theorem Qfw (xs:List Int):PyData.depthAll (xs.map .int)=0∨PyData.depthAll (xs.map .int)=1:=by
 induction xs with
 |nil=>left;rfl
 |cons x r ih=>rcases ih with ih|ih<;>simp [PyData.depthAll,PyData.depth,ih]
theorem Qas (xs:List Int):SeqAt.shaped (.tuple (xs.map .int))=true:=by
 have:=Qfw xs;unfold SeqAt.shaped;rw [Bool.and_eq_true,decide_eq_true_eq];refine ⟨by simp [PyData.canLay0,Qeb],?_⟩;simp only [PyData.depth];exact (Z10 0x4026150711502050286) this
theorem Qdp (xs:List Int):SeqAt.shaped (.list (xs.map .int))=true:=by
 have:=Qfw xs;unfold SeqAt.shaped;rw [Bool.and_eq_true,decide_eq_true_eq];refine ⟨by simp [PyData.canLay0,Qeb],?_⟩;simp only [PyData.depth];exact (Z10 0x4026150711502050286) this
theorem Qmp {p:PyData}(h:Qab d=some p) (hs:SeqAt.shaped p=true):aeq d d=some true:=by
 unfold aeq;rw [h];simp only [hs,Bool.and_self,if_true,Qqo h]
theorem Qlj (xs:List Int):aeq (lI xs) (lI xs)=some true:=Qmp (p:=.list (xs.map .int)) (by simp [Qab,Qcr]) (Qdp xs)
theorem Qz6 (xs:List Int):aeq (tI xs) (tI xs)=some true:=Qmp (p:=.tuple (xs.map .int)) (by simp [Qab,Qcr]) (Qas xs)
theorem Qco (xs:List Int):aeq (tI xs) (.tup [])=some (decide (xs=[])):=by
 have h2:Qab (.tup [])=some (.tuple []):=rfl;unfold aeq;rw [(by simp [Qab,Qcr]:Qab (tI xs)=some (.tuple (xs.map .int))),h2];simp only [(Qas xs),(by decide:SeqAt.shaped (.tuple [])=true),Bool.and_self,if_true];cases xs<;>rfl
@[simp] theorem Qg1 (a b:Int):aeq (.int a) (.int b)=some (decide (a=b)):=by
 unfold aeq;dsimp only [Qab,(fun i=>by simp [SeqAt.shaped,PyData.canLay0,PyData.depth]:∀i:Int,SeqAt.shaped (.int i)=true),Bool.and_self,if_true,PyData.eqv];rfl
theorem Qb8:aeq (.str (Str.ofString "view")) (.str (Str.ofString "view"))=some true:=by decide +kernel
theorem Qa1:aeq (.str (Str.ofString "array")) (.str (Str.ofString "view"))=some false:=by decide +kernel
theorem Qn9:ain (.str (Str.ofString "array")) (.tup [.str (Str.ofString "array"),.str (Str.ofString "view")])=some true:=by decide +kernel
theorem Qtk:ain (.str (Str.ofString "view")) (.tup [.str (Str.ofString "array"),.str (Str.ofString "view")])=some true:=by decide +kernel
section
theorem Qqz (n:Nat) {b:CSs}(h:Qxv f=some (np,nm,b)) (hf:f≠"int_value") (xs:List D) (g:Gs):(orc gl sz (n+1)).fn f xs g=Qr8 (orc gl sz n) b nm.length np xs g:=by
 refine (?_:(if f="int_value" then _ else _)=_);refine eqR (if_neg hf) ?_;refine eqR (h) ?_;rfl
theorem Qyp {b:CSs}{N:Nat}(hx:xs.length=np) (h0:np≠0) (h:Yj O b (xs.map (fun d=>some (.val d))++List.replicate (N-np) none) g=some (.ret d,ρ,g')):Qr8 O b N np xs g=some (d,g'):=by
 unfold Qr8;rw [if_pos ⟨hx,h0⟩,h]
theorem Qw5 {b:CSs}{N:Nat}(hx:xs.length=np) (h0:np≠0) (h:Yj O b (xs.map (fun d=>some (.val d))++List.replicate (N-np) none) g=some (.nxt,ρ,g')):Qr8 O b N np xs g=some (.none,g'):=by
 unfold Qr8;rw [if_pos ⟨hx,h0⟩,h]
theorem Q7 (n:Nat) {b:CSs}(h:Qxv f=some (np,nm,b)) (hf:f≠"int_value") (hx:xs.length=np) (h0:np≠0) (hn:1≤n)
  (hr:Yj (orc gl sz (n-1)) b (xs.map (fun d=>some (.val d))++List.replicate (nm.length-np) none) g=some (.ret d,ρ,g')):(orc gl sz n).fn f xs g=some (d,g'):=by
 obtain ⟨m,rfl⟩:∃m,n=m+1:=⟨n-1,(Z10 0x15150870201516) hn⟩
 rw [Qqz m h hf];exact Qyp hx h0 hr
theorem Qvm (n:Nat) {b:CSs}(h:Qxv f=some (np,nm,b)) (hf:f≠"int_value") (hx:xs.length=np) (h0:np≠0) (hn:1≤n)
  (hr:Yj (orc gl sz (n-1)) b (xs.map (fun d=>some (.val d))++List.replicate (nm.length-np) none) g=some (.nxt,ρ,g')):(orc gl sz n).fn f xs g=some (.none,g'):=by
 obtain ⟨m,rfl⟩:∃m,n=m+1:=⟨n-1,(Z10 0x15150870201516) hn⟩
 rw [Qqz m h hf];exact Qw5 hx h0 hr
end
noncomputable def rg (n:Int):List Int:=(List.range n.toNat).map fun (i:Nat)=>(i:Int)
noncomputable def rg1 (n:Int):List Int:=(List.range n.toNat).map fun (i:Nat)=>1+(i:Int)
noncomputable def Ya (m:Int) (ss:List Int):Int:=ss.foldl (·*·) m
noncomputable def stf:Int→List Int→List Int
 |_,[]=>[]
 |far,s::r=>far::stf (far*s) r
theorem Qjf (m:Int):stf m []=[]:=rfl
theorem Qnq (m s:Int) (r:List Int):stf m (s::r)=m::stf (m*s) r:=rfl
noncomputable def pl:Int→List Int→List Int→Int
 |p,i::is,f::fs=>pl (p+(i-1)*f) is fs
 |p,_,_=>p
theorem Qn1 (p i f:Int) (is fs:List Int):pl p (i::is) (f::fs)=pl (p+(i-1)*f) is fs:=rfl
theorem Qn0 (p:Int) (fs:List Int):pl p [] fs=p:=rfl
theorem Qn2 (p i:Int) (is:List Int):pl p (i::is) []=p:=rfl
noncomputable def plc:List Int→List Int→List Int→List Int
 |fd,s::ss,f::fs=>plc ((rg s).flatMap fun at'=>fd.map fun p=>p+f*at') ss fs
 |fd,_,_=>fd
theorem Qis (fd:List Int) (s f:Int) (ss fs:List Int):plc fd (s::ss) (f::fs)=plc ((rg s).flatMap fun at'=>fd.map fun p=>p+f*at') ss fs:=rfl
theorem Qh2 (fd fs:List Int):plc fd [] fs=fd:=rfl
theorem Qht (fd:List Int) (s:Int) (ss:List Int):plc fd (s::ss) []=fd:=rfl
noncomputable def grd:List (List Int)→List Int→List (List Int)
 |fd,[]=>fd
 |fd,s::ss=>grd ((rg1 s).flatMap fun i=>fd.map fun r=>r++[i]) ss
theorem Qhn (fd:List (List Int)):grd fd []=fd:=rfl
theorem Qiv (fd:List (List Int)) (s:Int) (ss:List Int):grd fd (s::ss)=grd ((rg1 s).flatMap fun i=>fd.map fun r=>r++[i]) ss:=rfl
noncomputable def idx:List Int→Int→List Int
 |[],_=>[]
 |s::ss,o=>(Int.fmod o s+1)::idx ss (Int.fdiv o s)
theorem Qub (o:Int):idx [] o=[]:=rfl
theorem Qwe (s o:Int) (ss:List Int):idx (s::ss) o=(Int.fmod o s+1)::idx ss (Int.fdiv o s):=rfl
noncomputable def Vd:List Int→List Int→Prop
 |[],[]=>True
 |i::is,s::ss=>1≤i∧i≤s∧Vd is ss
 |_,_=>False
theorem Qen {n i:Int}:i∈rg n↔0≤i∧i<n:=by
 unfold rg;simp only [List.mem_map,List.mem_range];constructor
 ·rintro ⟨a,h,rfl⟩;exact (Z11 0xa30a05470b006) h
 ·rintro ⟨h1,h2⟩;exact ⟨i.toNat,(Z02 0x1b0b0103600546) h1 h2,(Z01 0xba500546) h1⟩
theorem Qjl {n i:Int}:i∈rg1 n↔1≤i∧i≤n:=by
 unfold rg1;simp only [List.mem_map,List.mem_range];constructor
 ·rintro ⟨a,h,rfl⟩;exact (Z11 0xa15740a15715470b006) h
 ·rintro ⟨h1,h2⟩;exact ⟨(i-1).toNat,(Z02 0x1b1508b0104601546) h1 h2,(Z01 0x1508ba157501546) h1⟩
theorem Q9 (n:Int):(rg n).length=n.toNat:=by simp [rg]
theorem Jq (n:Int):(rg1 n).length=n.toNat:=by simp [rg1]
theorem Qtv (n:Int):(rg n).Nodup:=by
 unfold rg;refine List.pairwise_map.mpr (List.Pairwise.imp ?_ List.nodup_range);intro a b h e;exact h ((Z20 4330228310) e)
theorem Qos {r:List Int}(i f:Int):∀{p:Int},r.length=fs.length→pl p (r++[i]) (fs++[f])=pl p r fs+(i-1)*f:=by
 induction r generalizing fs with
 |nil=>intro p h;cases fs with
  |nil=>rfl
  |cons a l=>simp at h
 |cons a r ih=>intro p h;cases fs with
  |nil=>simp at h
  |cons b l=>dsimp only [List.cons_append,Qn1,Qn0,Qn2];exact ih (by simpa using h)
theorem Qpr {p:Int}:∀(ss fs:List Int),fs.length=ss.length→∀(rows:List (List Int)) (fs0:List Int),(∀r∈rows,r.length=fs0.length) →
  plc (rows.map fun r=>pl p r fs0) ss fs=(grd rows ss).map fun r=>pl p r (fs0++fs)
 |[],[],_,rows,fs0,_=>by simp [Qis,Qh2,Qht,Qhn,Qiv]
 |[],_::_,h,_,_,_=>by simp at h
 |_::_,[],h,_,_,_=>by simp at h
 |s::ss,f::fs,h,rows,fs0,hr=>by
  simp only [Qis,Qh2,Qht,Qhn,Qiv];have ih:=Qpr (p:=p) ss fs (by simpa using h) ((rg1 s).flatMap fun i=>rows.map fun r=>r++[i]) (fs0++[f]) (fun r hm=>by
   simp only [List.mem_flatMap,List.mem_map]at hm;obtain ⟨i,_,r0,h0,rfl⟩:=hm;simp [hr r0 h0])
  rw [List.append_assoc]at ih;refine eqL (show ([f]:List Int)++fs=f::fs from rfl) ?_;refine eqL (ih) ?_
  congr 1
  refine eqR (List.map_flatMap) ?_;rw [rg,rg1,List.flatMap_map,List.flatMap_map]
  congr 1
  funext i
  refine eqR (List.map_map) ?_;refine eqR (List.map_map) ?_;refine List.map_congr_left fun r hm=>?_;refine (?_:pl p r fs0+f*(i:Int)=pl p (r++[1+(i:Int)]) (fs0++[f]));refine eqR (Qos _ _ (hr r hm)) ?_;have:(1+(i:Int)-1)=i:=(Z10 0xa150a15785)
  refine eqR (this) ?_;rw [Int.mul_comm]
theorem V6 (p:Int) (ss fs:List Int) (h:fs.length=ss.length):plc [p] ss fs=(grd [[]] ss).map fun r=>pl p r fs:=by
 have:=Qpr (p:=p) ss fs h [[]] [] (by decide);simpa [Qn1,Qn0,Qn2] using this
theorem Qvd (M:Nat):∀s:Nat,((List.range s).flatMap fun (k:Nat)=>(List.range M).map fun (i:Nat)=>((i:Int)+(M:Int)*(k:Int)))=(List.range (M*s)).map fun (i:Nat)=>(i:Int)
 |0=>by rfl
 |s+1=>by
  refine eqR (List.range_succ) ?_;rw [List.flatMap_append,Qvd M s,Nat.mul_succ,List.range_add,List.map_append]
  congr 1
  simp only [List.flatMap_cons,List.flatMap_nil,List.append_nil,List.map_map];refine List.map_congr_left fun i Y=>?_;simp only [Function.comp,Int.natCast_add,Int.natCast_mul];exact (Z11 0xa0700a75)
theorem Qeg:∀(ss:List Int) (M:Int),0≤M→(∀s∈ss,0≤s)→plc (rg M) ss (stf M ss)=rg (Ya M ss)
 |[],M,_,_=>rfl
 |s::ss,M,hM,hs=>by
  dsimp only [Qjf,Qnq,Qis,Qh2,Qht];have h0:=hs s (.head _);have e:((rg s).flatMap fun at'=>(rg M).map fun p=>p+M*at')=rg (M*s):=by
   obtain ⟨m,rfl⟩:∃m:Nat,M=m:=⟨M.toNat,(Z01 0xba0500546) hM⟩
   obtain ⟨t,rfl⟩:∃m:Nat,s=m:=⟨s.toNat,(Z01 0xba0500546) h0⟩
   have:=Qvd m t;simp only [rg,Int.toNat_natCast,List.flatMap_map,List.map_map,Function.comp];refine eqR (show ((m:Int)*(t:Int)).toNat=m*t by rw [←Int.natCast_mul];rfl) ?_;exact this
  refine eqR (e) ?_;exact Qeg ss (M*s) (Int.mul_nonneg hM h0) fun x hx=>hs x (.tail _ hx)
theorem Y4:∀(ss:List Int) (M:Int),(stf M ss).length=ss.length
 |[],_=>rfl
 |s::ss,M=>by simp [Qjf,Qnq,Y4 ss]
theorem Vp (ss:List Int) (hs:∀s∈ss,0≤s):((grd [[]] ss).map fun r=>pl 0 r (stf 1 ss))=rg (Ya 1 ss):=by
 rw [←V6 0 ss (stf 1 ss) (Y4 ss 1)];exact Qeg ss 1 (by decide) hs
theorem Js (ss:List Int) (hs:∀s∈ss,0≤s):(grd [[]] ss).length=(Ya 1 ss).toNat:=by
 have:=congrArg List.length (Vp ss hs);simpa [Q9] using this
theorem Qh6 (ss:List Int) (hs:∀s∈ss,0≤s):(grd [[]] ss).Nodup:=by
 have h:=Qtv (Ya 1 ss);rw [←Vp ss hs]at h;exact (List.pairwise_map.mp h).imp fun h e=>h (by rw [e])
theorem Qa5:∀(ss:List Int) (rows:List (List Int)) (r:List Int),r∈grd rows ss↔∃r0∈rows,∃t,r=r0++t∧Vd t ss
 |[],rows,r=>by
  simp only [Qhn,Qiv];constructor
  ·intro h;exact ⟨r,h,[],by simp,trivial⟩
  ·rintro ⟨r0,h,t,rfl,ht⟩;cases t with
   |nil=>simpa using h
   |cons a l=>cases ht
 |s::ss,rows,r=>by
  simp only [Qhn,Qiv];rw [Qa5 ss];constructor
  ·rintro ⟨r0,h,t,rfl,ht⟩;simp only [List.mem_flatMap,List.mem_map]at h;obtain ⟨i,hi,r1,h1,rfl⟩:=h;have:=Qjl.mp hi;exact ⟨r1,h1,i::t,by simp,this.1,this.2,ht⟩
  ·rintro ⟨r0,h,t,rfl,ht⟩;cases t with
   |nil=>cases ht
   |cons i t=>
    obtain ⟨h1,h2,h3⟩:=ht;refine ⟨r0++[i],?_,t,by simp,h3⟩;simp only [List.mem_flatMap,List.mem_map];exact ⟨i,Qjl.mpr ⟨h1,h2⟩,r0,h,rfl⟩
theorem Qau {ss r:List Int}:r∈grd [[]] ss↔Vd r ss:=by
 rw [Qa5];constructor
 ·rintro ⟨r0,h,t,rfl,ht⟩;simp at h;subst h;simpa using ht
 ·intro h;exact ⟨[],by simp,r,by simp,h⟩
theorem Vd.length:∀{r ss:List Int},Vd r ss→r.length=ss.length
 |[],[],_=>rfl
 |_::_,_::_,h=>by simp [Vd.length h.2.2]
 |[],_::_,h=>h.elim
 |_::_,[],h=>h.elim
theorem Qb3:∀(r fs:List Int) (p:Int),pl p r fs=p+pl 0 r fs
 |[],_,p=>by simp [Qn1,Qn0,Qn2]
 |_::_,[],p=>by simp [Qn1,Qn0,Qn2]
 |i::is,f::fs,p=>by
  simp only [Qn1,Qn0,Qn2];refine eqR (Qb3 is fs (p+(i-1)*f)) ?_;refine eqR (Qb3 is fs (0+(i-1)*f)) ?_;exact (Z03 0x21057707210775)
theorem Qmk:∀(r ss:List Int) (c f:Int),pl 0 r (stf (c*f) ss)=c*pl 0 r (stf f ss)
 |[],_,c,f=>by simp [Qn1,Qn0,Qn2]
 |_::_,[],c,f=>by simp [Qn1,Qn0,Qn2,Qjf,Qnq]
 |i::is,s::ss,c,f=>by
  dsimp only [Qjf,Qnq,Qn1,Qn0,Qn2];refine eqR (Qb3 is _ (0+(i-1)*(c*f))) ?_;rw [Qb3 is _ (0+(i-1)*f),Int.mul_assoc c f s,Qmk is ss c (f*s),Int.mul_add]
  congr 1
  simp only [Int.zero_add];rw [Int.mul_left_comm]
theorem Qer (i s:Int) (is ss:List Int):pl 0 (i::is) (stf 1 (s::ss))=(i-1)+s*pl 0 is (stf 1 ss):=by
 dsimp only [Qjf,Qnq,Qn1,Qn0,Qn2];rw [Qb3,Int.one_mul];have:=Qmk is ss s 1;rw [Int.mul_one]at this;refine eqR (this) ?_;omega
theorem Qq7:∀{r ss:List Int},Vd r ss→idx ss (pl 0 r (stf 1 ss))=r
 |[],[],_=>rfl
 |i::is,s::ss,h=>by
  obtain ⟨h1,h2,h3⟩:=h;rw [Qer];have hs:0<s:=(Z02 0x1053104601546) h1 h2;simp only [Qub,Qwe];rw [Int.fmod_eq_emod_of_nonneg _ (by exact (Z01 88081718) hs),Int.fdiv_eq_ediv_of_nonneg _ (by exact (Z01 88081718) hs),Int.add_mul_emod_self_left,Int.emod_eq_of_lt (by exact (Z01 0x150805401546) h1) (by exact (Z02 74365210694) h2),
   Int.add_mul_ediv_left _ _ (by exact (Z01 0x505900536) hs),Int.ediv_eq_zero_of_lt (by exact (Z01 0x150805401546) h1) (by exact (Z02 74365210694) h2),Int.zero_add,Qq7 h3]
  congr 1;exact (Z01 353699957)
 |[],_::_,h=>h.elim
 |_::_,[],h=>h.elim
theorem Vd.nonneg:∀{r ss:List Int},Vd r ss→∀s∈ss,0≤s
 |[],[],_,s,h=>by cases h
 |_::_,_::_,h,s,hm=>by
  rcases List.mem_cons.mp hm with rfl|hm
  ·have:=h.1;have:=h.2.1;exact (Z02 0x1054104601546) ‹_› this
  ·exact Vd.nonneg h.2.2 s hm
 |[],_::_,h,_,_=>h.elim
 |_::_,[],h,_,_=>h.elim
theorem Qi5 {r ss:List Int}(h:Vd r ss):0≤pl 0 r (stf 1 ss)∧pl 0 r (stf 1 ss)<Ya 1 ss:=by
 have:pl 0 r (stf 1 ss)∈rg (Ya 1 ss):=by
  rw [←Vp ss h.nonneg];exact List.mem_map.mpr ⟨r,Qau.mpr h,rfl⟩
 exact Qen.mp this
noncomputable def NC (c:Option B):Prop:=c=none∨∃d,c=vv d
theorem NC.none:NC none:=.inl rfl
theorem NC.vv (d:D):NC (vv d):=.inr ⟨d,rfl⟩
theorem Vb {c:Option B}(h:ρ[i]?=some c) (hc:NC c):Qa7 ρ i=true:=by
 unfold Qa7;rw [h];rcases hc with rfl|⟨d,rfl⟩<;>rfl
noncomputable def Bd (ss:List Int):Prop:=∀s∈ss,0≤s∧s≤4
theorem Bd.tail {s:Int}{ss:List Int}(h:Bd (s::ss)):Bd ss:=fun x hx=>h x (.tail _ hx)
theorem Bd.nn {ss:List Int}(h:Bd ss):∀s∈ss,0≤s:=fun s hs=>(h s hs).1
section
variable {g4:Gs}{e4:CE}{d1 d2 d3 d4:D}{x:Option (D×Gs)}
theorem Qao (h1:Qb O e1 ρ g=some (d1,g1)) (h:O.fn f [d1] g1=x):Qb O (.fn f (.cons e1 .nil)) ρ g=x:=Qd (Qd h1 rfl) h
theorem Qy (h1:Qb O e1 ρ g=some (d1,g1)) (h2:Qb O e2 ρ g1=some (d2,g2)) (h:O.fn f [d1,d2] g2=x):Qb O (.fn f (.cons e1 (.cons e2 .nil))) ρ g=x:=Qd (Qd h1 (Qd (Qd h2 rfl) rfl)) h
theorem Qea (h1:Qb O e1 ρ g=some (d1,g1)) (h2:Qb O e2 ρ g1=some (d2,g2)) (h3:Qb O e3 ρ g2=some (d3,g3)) (h:O.fn f [d1,d2,d3] g3=x):Qb O (.fn f (.cons e1 (.cons e2 (.cons e3 .nil)))) ρ g=x:=Qd (Qd h1 (Qd (Qd h2 (Qd (Qd h3 rfl) rfl)) rfl)) h
theorem Ych (h1:Qb O e1 ρ g=some (d1,g1)) (h2:Qb O e2 ρ g1=some (d2,g2)) (h3:Qb O e3 ρ g2=some (d3,g3)) (h4:Qb O e4 ρ g3=some (d4,g4)) (h:O.fn f [d1,d2,d3,d4] g4=x):Qb O (.fn f (.cons e1 (.cons e2 (.cons e3 (.cons e4 .nil))))) ρ g=x:=Qd (Qd h1 (Qd (Qd h2 (Qd (Qd h3 (Qd (Qd h4 rfl) rfl)) rfl)) rfl)) h
end
theorem Ygg (s:Int):Qbk 0 s.toNat=(rg s).map .int:=by simp [Qbk,rg]
theorem Ycc (s:Int):Qbk 1 s.toNat=(rg1 s).map .int:=by simp [Qbk,rg1]
section
variable {l r:CE}{a:D}
theorem Qk {o:BOp}(h1:Qb O l ρ g=some (a,g1)) (h2:Qb O r ρ g1=some (b,g2)) (h:Qc9 o a b=some d):Qb O (.bin o l r) ρ g=some (d,g2):=Qd h1 (Qd h2 (congrArg (Qbl · _) h))
theorem Qq {o:COp}{t:Bool}(h1:Qb O l ρ g=some (a,g1)) (h2:Qb O r ρ g1=some (b,g2)) (h:Vw o a b=some t):Qb O (.cmp o l r) ρ g=some (.bool t,g2):=Qd h1 (Qd h2 (congrArg (fun x=>Qbl (x.map D.bool) _) h))
theorem Q1 (h1:Qb O l ρ g=some (a,g1)) (h2:Qb O r ρ g1=some (b,g2)) (h:Qde g2 a b=some d):Qb O (.idx l r) ρ g=some (d,g2):=Qd h1 (Qd h2 (congrArg (Qbl · _) h))
theorem Qsd {t:Bool}(h1:Qb O l ρ g=some (a,g1)) (h2:Qb O r ρ g1=some (b,g2)) (h:ain a b=some t):Qb O (.inE l r) ρ g=some (.bool t,g2):=Qd h1 (Qd h2 (congrArg (fun x=>Qbl (x.map D.bool) _) h))
theorem Ya9 (h1:Qb O l ρ g=some (.hnd .heap,g1)) (h2:Qb O r ρ g1=some (.int 0,g2)):Qb O (.obj l r) ρ g=some (.hnd .thing,g2):=Qd h1 (Qd h2 rfl)
theorem Qjb (h1:Qb O l ρ g=some (.hnd .thing,g1)):Qb O (.attr l .fields) ρ g=some (.hnd .flds,g1):=Qd h1 rfl
theorem Ycj (h1:Qb O l ρ g=some (.hnd .thing,g1)):Qb O (.attr l .sizes) ρ g=some (.tup O.szs,g1):=Qd h1 rfl
theorem Qla {t:Bool}(h1:Qb O l ρ g=some (.bool t,g1)):Qb O (.not l) ρ g=some (.bool (!t),g1):=Qd h1 rfl
theorem Yy {t:CE}{x:Option (D×Gs)}(h1:Qb O t ρ g=some (.bool true,g1)) (h:Qb O l ρ g1=x):Qb O (.ite t l r) ρ g=x:=Qd h1 h
theorem Yt {t:CE}{x:Option (D×Gs)}(h1:Qb O t ρ g=some (.bool false,g1)) (h:Qb O r ρ g1=x):Qb O (.ite t l r) ρ g=x:=Qd h1 h
theorem Qgi {k v:Bool}(h1:Qb O l ρ g=some (.bool v,g1)) (h:v≠k):Qb O (.bop k l r) ρ g=some (.bool v,g1):=Qd h1 (if_neg h)
theorem Qe6 {k u:Bool}(h1:Qb O l ρ g=some (.bool k,g1)) (h2:Qb O r ρ g1=some (.bool u,g2)):Qb O (.bop k l r) ρ g=some (.bool u,g2):=Qd h1 ((if_pos rfl).trans (Qd h2 rfl))
theorem Qel {o₁ o₂:COp}{m:CE}{t:Bool}(h1:Qb O l ρ g=some (a,g1)) (h2:Qb O m ρ g1=some (b,g2)) (h:Vw o₁ a b=some true) (h3:Qb O r ρ g2=some (c,g3)) (h4:Vw o₂ b c=some t) :
  Qb O (.cmp2 o₁ o₂ l m r) ρ g=some (.bool t,g3):=Qd h1 (Qd h2 (Q4 h (Qd h3 (congrArg (fun x=>Qbl (x.map D.bool) _) h4))))
theorem Qoo {o₁ o₂:COp}{m:CE}(h1:Qb O l ρ g=some (a,g1)) (h2:Qb O m ρ g1=some (b,g2)) (h:Vw o₁ a b=some false):Qb O (.cmp2 o₁ o₂ l m r) ρ g=some (.bool false,g2):=Qd h1 (Qd h2 (Q4 h rfl))
theorem Qad {k:Bi}(h1:Qb O e ρ g=some (a,g1)) (h:abi O k [a]=some d):Qb O (.bi k (.cons e .nil)) ρ g=some (d,g1):=Qd (Qd h1 rfl) (congrArg (Qbl · _) h)
theorem Qmi {s:Int}(h1:Qb O e ρ g=some (.int (s+1),g1)) (h0:0≤s) (hs:s≤1048576):Qb O (.bi .listR (.cons (.int 1) (.cons e .nil))) ρ g=some (lI (rg1 s),g1):=by
 have e1:s+1-1=s:=(Z01 353699717)
 refine Qd (Qd (Qf ..) (Qd (Qd h1 rfl) rfl)) ?_;rw [abi,Yfg,Ycv];refine eqR (e1) ?_;rw [Ycc];refine eqR (if_pos (by simp [h0,hs,Q2])) ?_;rfl
theorem Qcp (h1:Qb O e ρ g=some (a,g1)):Qb O (.lst (.cons e .nil)) ρ g=some (.lst [a],g1):=Qd (Qd h1 rfl) rfl
theorem Qxw (h1:Qb O e ρ g=some (a,g1)):Qb O (.tup (.cons e .nil)) ρ g=some (.tup [a],g1):=Qd (Qd h1 rfl) rfl
theorem Vi (h1:Qb O l ρ g=some (a,g1)) (h2:Qb O r ρ g1=some (b,g2)):Qb O (.tup (.cons l (.cons r .nil))) ρ g=some (.tup [a,b],g2):=Qd (Qd h1 (Qd (Qd h2 rfl) rfl)) rfl
theorem V5 {m:CE}(h1:Qb O l ρ g=some (a,g1)) (h2:Qb O m ρ g1=some (b,g2)) (h3:Qb O r ρ g2=some (c,g3)):Qb O (.tup (.cons l (.cons m (.cons r .nil)))) ρ g=some (.tup [a,b,c],g3):=Qd (Qd h1 (Qd (Qd h2 (Qd (Qd h3 rfl) rfl)) rfl)) rfl
theorem Qag {t:Bool}(h1:Qb O e ρ g=some (a,g1)) (h:isNone a=t):Qb O (.isN false e) ρ g=some (.bool t,g1):=Qd h1 (h▸rfl)
theorem Qo0 {t:Bool}(h1:Qb O e ρ g=some (a,g1)) (h:isNone a=t):Qb O (.isN true e) ρ g=some (.bool (!t),g1):=Qd h1 (h▸rfl)
theorem Qhd {a b:Int}(h:Q2 b=true):Qc9 .mul (.int a) (.int b)=some (.int (a*b)):=if_pos (by rw [h,Bool.or_true])
theorem Qbi {a b:Int}(h:Q2 a=true):Qc9 .mul (.int a) (.int b)=some (.int (a*b)):=if_pos (by rw [h];rfl)
theorem Qp0 {a b:Int}(h1:Qb O l ρ g=some (.int a,g1)) (h2:Qb O r ρ g1=some (.int b,g2)) (h:Q2 b=true):Qb O (.bin .mul l r) ρ g=some (.int (a*b),g2):=Qk h1 h2 (Qhd h)
theorem Qfx {o:D}(hd:o=.lst xs∨o=.tup xs) (hn:xs.length=n) (hl:n≤1048576) (h1:Qb O e ρ g=some (o,g1)):Qb O (.bi .len (.cons e .nil)) ρ g=some (.int n,g1):=Qad h1 (by subst hn;rcases hd with rfl|rfl<;>exact if_pos (Yw hl))
theorem Qo8 (h1:Qb O e ρ g=some (.lst xs,g1)) (hl:xs.length≤1048576):Qb O (.bi .tuple (.cons e .nil)) ρ g=some (.tup xs,g1):=Qad h1 (if_pos (Yw hl))
variable {ρ1 ρ2:Q8}
theorem Vh {t:CT}{b:CSs}{x:Option (Fl×Q8×Gs)}(h:Qdb t ρ d=some ρ1) (k:Yj O b ρ1 g=x):Qbd O t b d ρ g=x:=Q4 h k
theorem Qmy (h:Qa7 ρ i=true):Qdb (.nm i) ρ d=some (ρ.set i (vv d)):=Jl h
theorem Vn {r:CTs}{x:Option Q8}(h:Qa7 ρ i=true) (k:J9 r (ρ.set i (vv d)) ds=x):J9 (.cons (.nm i) r) ρ (d::ds)=x:=Q4 (Jl h) k
theorem Yc9 {r:CTs}{x:Option Q8}(h:J9 ts ρ xs=some ρ1) (k:J9 r ρ1 ds=x):J9 (.cons (.tup ts) r) ρ (.tup xs::ds)=x:=Q4 h k
theorem Qy8 (h:O.glob x=some d):Qb O (.glob x) ρ g=some (d,g):=congrArg (Qbl · g) h
theorem dt {p:Prop} [Decidable p] (h:p):some (decide p)=some true:=congrArg some (decide_eq_true h)
theorem df {p:Prop} [Decidable p] (h:¬p):some (decide p)=some false:=congrArg some (decide_eq_false h)
end
section
theorem Qpf:∀(ss:List Int) (m:Int) (x c:Option B),NC c→Bd ss→∃c',NC c'∧J4 (Qbd O (.nm 2) (.cons (.asg (.nm 1) (.bin .mul (.var 1) (.var 2))) .nil)) (ss.map .int) [x,vv (.int m),c] g=some (.nxt,[x,vv (.int (Ya m ss)),c'],g)
 |[],m,x,c,hc,_=>⟨c,hc,rfl⟩
 |s::ss,m,x,c,hc,hb=>by
  obtain ⟨c',h1,h2⟩:=Qpf ss (m*s) x (vv (.int s)) (.vv _) hb.tail;refine ⟨c',h1,?_⟩;refine Yb (ρ':=[x,vv (.int (m*s)),vv (.int s)]) (g':=g) ?_ h2;refine Vh (ρ1:=[x,vv (.int m),vv (.int s)]) (Qmy (Vb rfl hc)) ?_;exact Qc (Qo (d:=.int (m*s)) (Qp0 (Qa rfl) (Qa rfl) (Yo (by have:=hb s (.head _);omega):Q2 s=true)) rfl) rfl
theorem Qf1:∀(ss:List Int) (far:Int) (acc:List D) (x c:Option B),NC c→Bd ss→acc.length+ss.length≤1048576→X2 fun f' c'=>NC c'∧J4 (Qbd O (.nm 3) (.cons (.app 1 (.var 2)) (.cons (.asg (.nm 2) (.bin .mul (.var 2) (.var 3))) .nil))) (ss.map .int) [x,some (.own acc),vv (.int far),c] g=some (.nxt,[x,some (.own (acc++(stf far ss).map .int)),vv f',c'],g)
 |[],far,acc,x,c,hc,_,_=>⟨.int far,c,hc,by rw [Qjf,List.map_nil,List.append_nil];rfl⟩
 |s::ss,far,acc,x,c,hc,hb,hl=>by
  simp only [List.length_cons]at hl;obtain ⟨f',c',h1,h2⟩:=Qf1 ss (far*s) (acc++[.int far]) x (vv (.int s)) (.vv _) hb.tail (by simp;exact (Z20 0x1000006611507711000006615170716) hl);refine ⟨f',c',h1,?_⟩;refine Yb (ρ':=[x,some (.own (acc++[.int far])),vv (.int (far*s)),vv (.int s)]) (g':=g) ?_ (by simpa [Qjf,Qnq] using h2);refine Vh (ρ1:=[x,some (.own acc),vv (.int far),vv (.int s)]) (Qmy (Vb rfl hc)) ?_;refine Qc (Qhu (xs:=acc) rfl (Qa rfl) ((Z20 0x10000066011000006615170716) hl)) ?_;exact Qc (Qo (d:=.int (far*s)) (Qp0 (Qa rfl) (Qa rfl) (Yo (by have:=hb s (.head _);omega):Q2 s=true)) rfl) rfl
end
section
theorem Qof {ss:List Int}(hn:1≤n) (hb:Bd ss) (hl:ss.length≤1048576):(orc gl sz n).fn "many_of" [tI ss] g=some (.int (Ya 1 ss),g):=by
 refine gk fun Ω κ=>?_;obtain ⟨c',_,h⟩:=Qpf (O:=orc gl sz (n-1)) (g:=g) ss 1 (vv (tI ss)) .none .none hb;refine κ ?_;refine Q7 n rfl (by decide) rfl (by decide) hn (ρ:=[vv (tI ss),vv (.int (Ya 1 ss)),c']) ?_;refine Qc (Qo (d:=.int 1) (Qf ..) rfl) ?_;refine Qc (Ju (Yc (.inr (Qa rfl)) (by simpa using hl)) h) ?_;exact Qj (Qp (Qa rfl))
theorem Qft {ss:List Int}(hn:1≤n) (hb:Bd ss) (hl:ss.length≤1048576):(orc gl sz n).fn "strides_of" [tI ss] g=some (tI (stf 1 ss),g):=by
 refine gk fun Ω κ=>?_;obtain ⟨f',c',_,h⟩:=Qf1 (O:=orc gl sz (n-1)) (g:=g) ss 1 [] (vv (tI ss)) .none .none hb (by simpa using hl);refine κ ?_;refine Q7 n rfl (by decide) rfl (by decide) hn (ρ:=[vv (tI ss),vv (lI (stf 1 ss)),vv f',c']) ?_;refine Qc (ρ':=[vv (tI ss),some (.own []),vv (.int 1),none]) (g':=g) rfl ?_;refine Qc (Ju (Yc (.inr (Qa rfl)) (by simpa using hl)) h) ?_;refine Qc (Qef (xs:=(stf 1 ss).map .int) (by rfl)) ?_;exact Qj (Qp (Qo8 (Qa rfl) (by rw [List.length_map,Y4];exact hl)))
theorem Ql1 {O:Orc}:∀(ss:List Int) (off:Int) (acc:List D) (x c:Option B),NC c→(∀s∈ss,1≤s∧s≤4)→acc.length+ss.length≤1048576→X2 fun f' c'=>NC c'∧J4 (Qbd O (.nm 3) (.cons (.app 2 (.bin .add (.bin .mod (.var 1) (.var 3)) (.int 1))) (.cons (.asg (.nm 1) (.bin .fdiv (.var 1) (.var 3))) .nil))) (ss.map .int) [x,vv (.int off),some (.own acc),c] g=some (.nxt,[x,vv f',some (.own (acc++(idx ss off).map .int)),c'],g)
 |[],off,acc,x,c,hc,_,_=>⟨.int off,c,hc,by rw [Qub,List.map_nil,List.append_nil];rfl⟩
 |s::ss,off,acc,x,c,hc,hb,hl=>by
  simp only [List.length_cons]at hl;obtain ⟨f',c',h1,h2⟩:=Ql1 ss (Int.fdiv off s) (acc++[.int (Int.fmod off s+1)]) x (vv (.int s)) (.vv _) (fun y hy=>hb y (.tail _ hy)) (by simp;exact (Z20 0x1000006611507711000006615170716) hl);refine ⟨f',c',h1,?_⟩;refine Yb (ρ':=[x,vv (.int (Int.fdiv off s)),some (.own (acc++[.int (Int.fmod off s+1)])),vv (.int s)]) (g':=g) ?_ (by simpa [Qub,Qwe] using h2);have hs:=hb s (.head _);have hs1:s≠0:=(Z01 0x50594504015476) hs;refine Vh (ρ1:=[x,vv (.int off),some (.own acc),vv (.int s)]) (Qmy (Vb rfl hc)) ?_;refine Qc (g':=g) (Qhu (xs:=acc) (d:=.int (Int.fmod off s+1)) rfl ?_ ((Z20 0x10000066011000006615170716) hl)) ?_
  ·exact Qk (Qk (Qa rfl) (Qa rfl) (show (if s≠0 then _ else _)=_ from if_pos hs1)) (Qf ..) rfl
  refine Qc (Qo (d:=.int (Int.fdiv off s)) (Qk (Qa rfl) (Qa rfl) ?_) rfl) rfl;simp [Qc9,hs1,(by omega:s.natAbs<1073741824)]
theorem Qf3:∀(ss:List Int) (o:Int),(idx ss o).length=ss.length
 |[],_=>rfl
 |s::ss,o=>by simp [Qub,Qwe,Qf3 ss]
theorem Qtr {ss:List Int}{off:Int}(hn:1≤n) (hb:∀s∈ss,1≤s∧s≤4) (hl:ss.length≤1048576):(orc gl sz n).fn "index_of" [tI ss,.int off] g=some (tI (idx ss off),g):=by
 obtain ⟨f',c',_,h⟩:=Ql1 (O:=orc gl sz (n-1)) (g:=g) ss off [] (vv (tI ss)) .none .none hb (by simpa using hl);refine Q7 n rfl (by decide) rfl (by decide) hn (ρ:=[vv (tI ss),vv f',vv (lI (idx ss off)),c']) ?_;refine Qc (ρ':=[vv (tI ss),vv (.int off),some (.own []),none]) (g':=g) (Qo3 rfl) ?_;refine Qc (Ju (Yc (.inr (Qa rfl)) (by simpa using hl)) h) ?_;refine Qc (Qef (xs:=(idx ss off).map .int) (by rfl)) ?_;exact Qj (Qp (Qo8 (Qa rfl) (by rw [List.length_map,Qf3];exact hl)))
theorem Qq3 (a b c:D) (xs ys zs:List D):Qav [a::xs,b::ys,c::zs]=.tup [a,b,c]::Qav [xs,ys,zs]:=rfl
theorem Va (a b:D) (xs ys:List D):Qav [a::xs,b::ys]=.tup [a,b]::Qav [xs,ys]:=rfl
theorem Qiu {x:Option (D×Gs)}(h:x=some (.lst xs,g)∨x=some (.tup xs,g)) (hl:xs.length≤1048576):∃d,x=some (d,g)∧Qji d=some xs:=
 h.elim (fun h=>⟨_,h,if_pos (Yw hl)⟩) fun h=>⟨_,h,if_pos (Yw hl)⟩
theorem Qbh (h1:Qb O e1 ρ g=some (.lst xs,g1)∨Qb O e1 ρ g=some (.tup xs,g1)) (h2:Qb O e2 ρ g1=some (.lst ys,g2)∨Qb O e2 ρ g1=some (.tup ys,g2))
  (hl:xs.length≤1048576) (he:xs.length=ys.length):Jm O (.zip (.cons e1 (.cons e2 .nil))) ρ g=some (Qav [xs,ys],g2):=by
 refine gk fun Ω κ=>?_;have hl2:ys.length≤1048576:=he▸hl;obtain ⟨d1,k1,s1⟩:=Qiu h1 hl;obtain ⟨d2,k2,s2⟩:=Qiu h2 hl2;refine κ ?_;exact Qd (Qd k1 (Qd (Qd k2 rfl) rfl)) (Q4 (Q4 s1 (Q4 (Q4 s2 rfl) rfl)) (Jl (Bool.and_eq_true_iff.mpr ⟨Yw hl,decide_eq_true he⟩:Qt6 [xs,ys]=true)))
theorem Qv1 (h1:Qb O e1 ρ g=some (.lst xs,g1)∨Qb O e1 ρ g=some (.tup xs,g1)) (h2:Qb O e2 ρ g1=some (.lst ys,g2)∨Qb O e2 ρ g1=some (.tup ys,g2))
  (h3:Qb O e3 ρ g2=some (.lst zs,g3)∨Qb O e3 ρ g2=some (.tup zs,g3)) (hl:xs.length≤1048576) (he:xs.length=ys.length) (he3:xs.length=zs.length):Jm O (.zip (.cons e1 (.cons e2 (.cons e3 .nil)))) ρ g=some (Qav [xs,ys,zs],g3):=by
 refine gk fun Ω κ=>?_;have hl2:ys.length≤1048576:=he▸hl;have hl3:zs.length≤1048576:=he3▸hl;obtain ⟨d1,k1,s1⟩:=Qiu h1 hl;obtain ⟨d2,k2,s2⟩:=Qiu h2 hl2;obtain ⟨d3,k3,s3⟩:=Qiu h3 hl3;refine κ ?_;exact Qd (Qd k1 (Qd (Qd k2 (Qd (Qd k3 rfl) rfl)) rfl)) (Q4 (Q4 s1 (Q4 (Q4 s2 (Q4 (Q4 s3 rfl) rfl)) rfl)) (Jl (Bool.and_eq_true_iff.mpr ⟨Bool.and_eq_true_iff.mpr ⟨Yw hl,decide_eq_true he⟩,decide_eq_true he3⟩:Qt6 [xs,ys,zs]=true)))
theorem Vd.bd1:∀{r ss:List Int},Vd r ss→Bd ss→∀s∈ss,1≤s∧s≤4
 |[],[],_,_,s,h=>by cases h
 |_::_,_::_,h,b,s,hm=>by
  rcases List.mem_cons.mp hm with rfl|hm
  ·have:=h.1;have:=h.2.1;exact (Z02 0x4504015470146115464504005476) (b s hm) ‹_› this
  ·exact Vd.bd1 h.2.2 b.tail s hm
 |[],_::_,h,_,_,_=>h.elim
 |_::_,[],h,_,_,_=>h.elim
theorem Qhh {O:Orc}:∀(is ss fs:List Int) (p:Int) (x y c1 c2 c3:Option B),NC c1→NC c2→NC c3→Vd is ss→Bd ss→fs.length=ss.length→∃d1 d2 d3,
  J4 (Qbd O (.tup (.cons (.nm 3) (.cons (.nm 4) (.cons (.nm 5) .nil)))) (.cons (.ifS (.not (.cmp2 .le .le (.int 1) (.var 3) (.var 4))) (.cons (.ret (.int (-1))) .nil) .nil) (.cons (.asg (.nm 2) (.bin .add (.var 2) (.bin .mul (.bin .sub (.var 3) (.int 1)) (.var 5)))) .nil)))
   (Qav [is.map .int,ss.map .int,fs.map .int]) [x,y,vv (.int p),c1,c2,c3] g=some (.nxt,[x,y,vv (.int (pl p is fs)),d1,d2,d3],g)
 |[],[],fs,p,x,y,c1,c2,c3,_,_,_,_,_,_=>⟨c1,c2,c3,rfl⟩
 |i::is,s::ss,[],p,x,y,c1,c2,c3,_,_,_,_,_,h=>by simp at h
 |i::is,s::ss,f::fs,p,x,y,c1,c2,c3,n1,n2,n3,hv,hb,hl=>by
  refine gk fun Ω κ=>?_;obtain ⟨h1,h2,h3⟩:=hv;obtain ⟨d1,d2,d3,hr⟩:=Qhh is ss fs (p+(i-1)*f) x y (vv (.int i)) (vv (.int s)) (vv (.int f)) (.vv _) (.vv _) (.vv _) h3 hb.tail (by simpa using hl);refine κ ?_;refine ⟨d1,d2,d3,?_⟩;simp only [List.map_cons,Qq3];refine Yb (ρ':=[x,y,vv (.int (p+(i-1)*f)),vv (.int i),vv (.int s),vv (.int f)]) (g':=g) ?_ (by simpa [Qn1,Qn0,Qn2] using hr);have hs:=hb s (.head _);refine Vh (ρ1:=[x,y,vv (.int p),vv (.int i),vv (.int s),vv (.int f)]) (Vn (Vb (i:=3) (ρ:=[x,y,vv (.int p),c1,c2,c3]) rfl n1) (Vn (Vb (i:=4) (ρ:=[x,y,vv (.int p),vv (.int i),c2,c3]) rfl n2) (Vn (Vb (i:=5) (ρ:=[x,y,vv (.int p),vv (.int i),vv (.int s),c3]) rfl n3) rfl))) ?_;refine Qc (Qt (g':=g) ?_ (Qh ..)) ?_
  ·exact Qd (Qel (Qf ..) (Qa rfl) (congrArg some (decide_eq_true h1)) (Qa rfl) (congrArg some (decide_eq_true h2))) rfl
  exact Qc (Qo (d:=.int (p+(i-1)*f)) (Qk (Qa rfl) (Qk (Qk (Qa rfl) (Qf ..) rfl) (Qa rfl) (Qbi (Yo (by omega):Q2 (i-1)=true))) rfl) rfl) rfl
 |[],_::_,_,_,_,_,_,_,_,_,_,_,h,_,_=>h.elim
 |_::_,[],_,_,_,_,_,_,_,_,_,_,h,_,_=>h.elim
theorem Qpt {is ss:List Int}(hn:2≤n) (hv:Vd is ss) (hb:Bd ss) (hl:ss.length≤1048576):(orc gl sz n).fn "offset_of" [tI ss,tI is] g=some (.int (pl 0 is (stf 1 ss)),g):=by
 obtain ⟨d1,d2,d3,h⟩:=Qhh (O:=orc gl sz (n-1)) (g:=g) is ss (stf 1 ss) 0 (vv (tI ss)) (vv (tI is)) .none .none .none .none .none .none hv hb (Y4 _ _);have hlen:=hv.length;refine Q7 n rfl (by decide) rfl (by decide) ((Z10 353379606) hn) (ρ:=[vv (tI ss),vv (tI is),vv (.int (pl 0 is (stf 1 ss))),d1,d2,d3]) ?_;refine Qc (Qt (g':=g) ?_ (Qh ..)) ?_
 ·have q1:=Qq (o:=.eq) (Qfx (O:=orc gl sz (n-1)) (ρ:=[vv (tI ss),vv (tI is),none,none,none,none]) (g:=g) (e:=.var 1) (xs:=is.map .int) (.inr rfl) (by rw [List.length_map,hlen]) hl rfl) (Qf _ _ _ 1) (Qg1 ..);by_cases h1:ss.length=1
  ·exact (Qd q1 (by rw [h1];rfl)).trans (Qd (Qq (o:=.ne) (Qfx (xs:=ss.map .int) (.inr rfl) (by rw [List.length_map]) hl rfl) (Qf _ _ _ 1) (by rw [h1];exact congrArg (Option.map _) (Qg1 ..))) rfl)
  ·exact (Qd q1 (by rw [decide_eq_false (p:=(ss.length:Int)=1) fun h=>h1 (Int.ofNat.inj h)];rfl))
 refine Qc (Qt (g':=g) ?_ (Qh ..)) ?_
 ·exact Qq (Qfx (xs:=is.map .int) (.inr rfl) (by rw [List.length_map,hlen]) hl rfl) (Qfx (xs:=ss.map .int) (.inr rfl) (by rw [List.length_map]) hl rfl) (by rw [Vw,Qg1,decide_eq_true rfl];rfl)
 refine Qc (Qo (d:=.int 0) (Qf ..) rfl) ?_;refine Qc (Ju (Qv1 (.inr (Qa rfl)) (.inr (Qa rfl)) (g3:=g) (zs:=(stf 1 ss).map .int) (.inr ?_) (by simpa [hlen] using hl) (by simp [hlen]) (by simp [hlen,Y4])) h) ?_
 ·exact Qao (Qa rfl) (Qft ((Z10 0x150815102516) hn) hb hl)
 exact Qj (Qp (Qa rfl))
end
structure Lay (sz:List D) (v:D) (p:Int) (ss fs:List Int):Prop where
 is:(v=Ji∧sz=ss.map .int∧p=0∧fs=stf 1 ss)∨v=Qdd p ss fs
 bd:Bd ss
 len:ss.length≤3
 eq:fs.length=ss.length
noncomputable def atv (vs:List Int) (p:Int):Int:=vs.getD p.toNat 0
theorem Qck {s:Int}(h:Qb O e ρ g=some (.int s,g')) (h0:0≤s) (h1:s≤1048576):Jm O (.rng1 e) ρ g=some ((rg s).map .int,g'):=by
 refine Qd h ((Jl (by simp [h0,h1])).trans (by rw [Ygg]))
theorem Yap {s:Int}(h:Qb O e ρ g=some (.int (s+1),g')) (h0:0≤s) (h1:s≤1048576):Jm O (.rng (.int 1) e) ρ g=some ((rg1 s).map .int,g'):=by
 have e1:s+1-1=s:=(Z01 353699717)
 refine (?_:bI (Qb O e ρ g) _=_);refine eqR (h) ?_;rw [Qxk,e1,Ycc];exact Jl (by simp [h0,h1,Q2])
section
theorem Qjk {v:D}{ss:List Int}(hn:1≤n) (hv:Lay sz v p ss fs):(orc gl sz n).fn "is_array" [v] g=some (.bool true,g):=by
 rcases hv.is with ⟨rfl,_⟩|rfl
 ·refine Q7 n rfl (by decide) rfl (by decide) hn (ρ:=[vv Ji]) ?_;exact Qj (Qp (Qsd (Q1 (Qa rfl) (Qf ..) rfl) rfl Qn9))
 ·refine Q7 n rfl (by decide) rfl (by decide) hn (ρ:=[vv (Qdd p ss fs)]) ?_;exact Qj (Qp (Qsd (Q1 (Qa rfl) (Qf ..) rfl) rfl Qtk))
theorem Lay.addr {v:D}{ss:List Int}(hv:Lay sz v p ss fs) (h:Qb O e ρ g=some (v,g')):Qb O (.idx e (.int 1)) ρ g=some (.int 0,g'):=by
 rcases hv.is with ⟨rfl,_⟩|rfl<;>exact Q1 h (Qf ..) rfl
theorem Qcb {v:D}{ss:List Int}(hn:2≤n) (hv:Lay sz v p ss fs):(orc gl sz n).fn "parent_of" [.hnd .heap,v] g=some (.hnd .thing,g):=by
 refine Q7 n rfl (by decide) rfl (by decide) ((Z10 353379606) hn) (ρ:=[vv (.hnd .heap),vv v]) ?_;refine Qc (Qt (g':=g) ?_ (Qh ..)) ?_
 ·exact Qla (Qao (Qa rfl) (Qjk (by exact (Z10 0x150815102516) hn) hv))
 refine Qj (Qp ?_);exact Ya9 (Qa rfl) (hv.addr (Qa rfl))
theorem Jz {v:D}{ss:List Int}(hn:3≤n) (hv:Lay sz v p ss fs):(orc gl sz n).fn "sizes_of" [.hnd .heap,v] g=some (tI ss,g):=by
 refine Q7 n rfl (by decide) rfl (by decide) ((Z10 353383702) hn) (ρ:=[vv (.hnd .heap),vv v]) ?_;refine Qj (Qp ?_);rcases hv.is with ⟨rfl,h2,_⟩|rfl
 ·have q:=Ycj (Qy (O:=orc gl sz (n-1)) (ρ:=[vv (.hnd .heap),vv Ji]) (e1:=.var 0) (e2:=.var 1) (Qa rfl) (Qa rfl) (Qcb (gl:=gl) (g:=g) (n:=n-1) ((Z10 0x150825103516) hn) hv));rw [show D.tup (orc gl sz (n-1)).szs=tI ss by rw [tI,←h2];cases n-1<;>rfl]at q;exact Yt (Qq (Q1 (Qa rfl) (Qf ..) rfl) (Vu ..) Qa1) q
 ·exact Yy (Qq (Q1 (Qa rfl) (Qf ..) rfl) (Vu ..) Qb8) (Q1 (Qa rfl) (Qf ..) rfl)
theorem Qdw {v:D}{ss:List Int}(hn:4≤n) (hv:Lay sz v p ss fs):(orc gl sz n).fn "layout_of" [.hnd .heap,v] g=some (.tup [.int p,tI fs],g):=by
 refine Q7 n rfl (by decide) rfl (by decide) ((Z10 353387798) hn) (ρ:=[vv (.hnd .heap),vv v]) ?_;refine Qj (Qp ?_);rcases hv.is with ⟨rfl,h2,rfl,rfl⟩|rfl
 ·exact Yt (Qq (Q1 (Qa rfl) (Qf ..) rfl) (Vu ..) Qa1) (Vi (Qf ..) (Qao (Qy (Qa rfl) (Qa rfl) (Jz (gl:=gl) (g:=g) (n:=n-1) ((Z10 0x150835104516) hn) hv)) (Qft (gl:=gl) (sz:=sz) (g:=g) (n:=n-1) (ss:=ss) ((Z10 0x150815104516) hn) hv.bd (by have:=hv.len;exact (Z10 0x100000660135016) this))))
 ·exact Yy (Qq (Q1 (Qa rfl) (Qf ..) rfl) (Vu ..) Qb8) (Vi (Q1 (Qa rfl) (Qf ..) rfl) (Q1 (Qa rfl) (Qf ..) rfl))
theorem Qk8 {O:Orc}:∀(is ss fs:List Int) (p:Int) (a b c d e c1 c2:Option B),NC c1→NC c2→Vd is ss→Bd ss→fs.length=ss.length→∃d1 d2,
  J4 (Qbd O (.tup (.cons (.nm 7) (.cons (.nm 8) .nil))) (.cons (.asg (.nm 5) (.bin .add (.var 5) (.bin .mul (.bin .sub (.var 7) (.int 1)) (.var 8)))) .nil))
   (Qav [is.map .int,fs.map .int]) [a,b,c,d,e,vv (.int p),vv (tI fs'),c1,c2] g=some (.nxt,[a,b,c,d,e,vv (.int (pl p is fs)),vv (tI fs'),d1,d2],g)
 |[],[],fs,p,a,b,c,d,e,c1,c2,_,_,_,_,_=>⟨c1,c2,rfl⟩
 |i::is,s::ss,[],p,a,b,c,d,e,c1,c2,_,_,_,_,h=>by simp at h
 |i::is,s::ss,f::fs,p,a,b,c,d,e,c1,c2,n1,n2,hv,hb,hl=>by
  refine gk fun Ω κ=>?_;obtain ⟨h1,h2,h3⟩:=hv;obtain ⟨d1,d2,hr⟩:=Qk8 is ss fs (p+(i-1)*f) a b c d e (vv (.int i)) (vv (.int f)) (.vv _) (.vv _) h3 hb.tail (by simpa using hl);refine κ ?_;refine ⟨d1,d2,?_⟩;simp only [List.map_cons,Va];refine Yb (ρ':=[a,b,c,d,e,vv (.int (p+(i-1)*f)),vv (tI fs'),vv (.int i),vv (.int f)]) (g':=g) ?_ (by simpa [Qn1,Qn0,Qn2] using hr);have hs:=hb s (.head _);refine Vh (ρ1:=[a,b,c,d,e,vv (.int p),vv (tI fs'),vv (.int i),vv (.int f)]) (Vn (Vb (i:=7) (ρ:=[a,b,c,d,e,vv (.int p),vv (tI fs'),c1,c2]) rfl n1) (Vn (Vb (i:=8) (ρ:=[a,b,c,d,e,vv (.int p),vv (tI fs'),vv (.int i),c2]) rfl n2) rfl)) ?_;exact Qc (Qo (d:=.int (p+(i-1)*f)) (Qk (Qa rfl) (Qk (Qk (Qa rfl) (Qf ..) rfl) (Qa rfl) (Qbi (Yo (by omega):Q2 (i-1)=true))) rfl) rfl) rfl
 |[],_::_,_,_,_,_,_,_,_,_,_,_,_,h,_,_=>h.elim
 |_::_,[],_,_,_,_,_,_,_,_,_,_,_,h,_,_=>h.elim
theorem Qmj {v:D}{ss is:List Int}(hn:5≤n) (hv:Lay sz v p ss fs) (hi:Vd is ss):(orc gl sz n).fn "place_in_parent" [.hnd .heap,v,tI is] g=some (.int (pl p is fs),g):=by
 obtain ⟨d1,d2,h⟩:=Qk8 (O:=orc gl sz (n-1)) (g:=g) (fs':=fs) is ss fs p (vv (.hnd .heap)) (vv v) (vv (tI is)) (vv (tI ss)) (vv (.int (pl 0 is (stf 1 ss)))) .none .none .none .none hi hv.bd hv.eq;have hlen:=hv.len;have hil:=hi.length;refine Q7 n rfl (by decide) rfl (by decide) ((Z10 353391894) hn) (ρ:=[vv (.hnd .heap),vv v,vv (tI is),vv (tI ss),vv (.int (pl 0 is (stf 1 ss))),vv (.int (pl p is fs)),vv (tI fs),d1,d2]) ?_;refine Qc (Qo (d:=tI ss) (Qy (Qa rfl) (Qa rfl) (Jz ((Z10 0x150835105516) hn) hv)) rfl) ?_;refine Qc (Qo (d:=.int (pl 0 is (stf 1 ss))) (Qy (Qa rfl) (Qa rfl) (Qpt ((Z10 0x150825105516) hn) hi hv.bd ((Z10 0x100000660135016) hlen))) rfl) ?_;refine Qc (Qt (g':=g) ?_ (Qh ..)) ?_
 ·have:¬(pl 0 is (stf 1 ss)<0):=(Z01 0x503900546) ((Qi5 hi).1)
  exact Qq (Qa rfl) (Qf ..) (congrArg some (decide_eq_false this))
 refine Qc (J5 (ds:=[.int p,tI fs]) (Qy (Qa rfl) (Qa rfl) (Qdw ((Z10 0x150845105516) hn) hv)) (by rfl)) ?_;refine Qc (Ju (Qbh (g1:=g) (g2:=g) (xs:=is.map .int) (.inr ?_) (.inr (Qa rfl)) (by simp;exact (Z20 0x1000006611012635016) hlen hil) (by simp [hil,hv.eq])) h) ?_
 ·have e:=Qy (O:=orc gl sz (n-1)) (f:="index_of") (ρ:=[vv (.hnd .heap),vv v,vv (tI is),vv (tI ss),vv (.int (pl 0 is (stf 1 ss))),vv (.int p),vv (tI fs),none,none]) (e1:=.var 3) (e2:=.var 4) (Qec _ _ g rfl) (Qec _ _ g rfl)
   (Qtr ((Z10 0x150815105516) hn) (hi.bd1 hv.bd) ((Z10 0x100000660135016) hlen))
  rw [Qq7 hi]at e;exact e
 exact Qj (Qp (Qa rfl))
theorem Qhy (s:Int) (fd:List Int) (f:Int) (hs:0≤s∧s≤4):((rg s).flatMap fun at'=>fd.map fun p=>p+f*at').length≤4*fd.length:=by
 simp only [List.length_flatMap,List.length_map,List.map_const',List.sum_replicate_nat,Q9];exact Nat.mul_le_mul_right _ ((Z01 0x450b14504005476) hs)
theorem Qhq {O:Orc}:∀(ss fs fd:List Int) (a b c d c1 c2:Option B),NC c1→NC c2→Bd ss→fs.length=ss.length→fd.length*4 ^ ss.length≤1048576→∃d1 d2,
  J4 (Qbd O (.tup (.cons (.nm 5) (.cons (.nm 6) .nil))) (.cons (.asg (.nm 4) (.comp2 (.bin .add (.var 1) (.bin .mul (.var 2) (.var 0))) (.nm 0) (.rng1 (.var 5)) (.nm 1) (.over (.var 3)) ["at","place","far","found"] [none,none,some 6,some 4])) .nil))
   (Qav [ss.map .int,fs.map .int]) [a,b,c,d,vv (lI fd),c1,c2] g=some (.nxt,[a,b,c,d,vv (lI (plc fd ss fs)),d1,d2],g)
 |[],fs,fd,a,b,c,d,c1,c2,_,_,_,_,_=>⟨c1,c2,rfl⟩
 |s::ss,[],fd,a,b,c,d,c1,c2,_,_,_,h,_=>by simp at h
 |s::ss,f::fs,fd,a,b,c,d,c1,c2,n1,n2,hb,hl,hk=>by
  refine gk fun Ω κ=>?_;have hs:=hb s (.head _);have hstep:=Qhy s fd f hs;rw [List.length_cons,Nat.pow_succ]at hk;have hk1:4*fd.length*4 ^ ss.length≤1048576:=by rw [show 4*fd.length*4 ^ ss.length=fd.length*(4 ^ ss.length*4) by rw [Nat.mul_comm 4,Nat.mul_assoc,Nat.mul_comm 4]];exact hk
  have hk2:4*fd.length≤1048576:=Nat.le_trans (Nat.le_mul_of_pos_right _ (Nat.pow_pos (by decide):1≤4 ^ ss.length)) hk1;obtain ⟨d1,d2,hr⟩:=Qhq ss fs ((rg s).flatMap fun at'=>fd.map fun p=>p+f*at') a b c d (vv (.int s)) (vv (.int f)) (.vv _) (.vv _) hb.tail (by simpa using hl)
   (Nat.le_trans (Nat.mul_le_mul_right _ hstep) hk1)
  refine κ ?_;refine ⟨d1,d2,?_⟩;simp only [List.map_cons,Va];refine Yb (ρ':=[a,b,c,d,vv (lI ((rg s).flatMap fun at'=>fd.map fun p=>p+f*at')),vv (.int s),vv (.int f)]) (g':=g) ?_ (by simpa [Qis,Qh2,Qht] using hr);refine Vh (ρ1:=[a,b,c,d,vv (lI fd),vv (.int s),vv (.int f)]) (Vn (Vb (i:=5) (ρ:=[a,b,c,d,vv (lI fd),c1,c2]) rfl n1) (Vn (Vb (i:=6) (ρ:=[a,b,c,d,vv (lI fd),vv (.int s),c2]) rfl n2) rfl)) ?_;refine Qc (Qo (d:=lI ((rg s).flatMap fun at'=>fd.map fun p=>p+f*at')) ?_ rfl) (Qh ..);have:=Qdj (O:=O) (ρ:=[a,b,c,d,vv (lI fd),vv (.int s),vv (.int f)]) (g:=g) (g1:=g) (xs:=rg s) (e:=.int) (e2:=fun Y p=>.int p) (ys:=fun Y=>fd) (h:=fun at' p=>.int (p+f*at'))
   (elt:=.bin .add (.var 1) (.bin .mul (.var 2) (.var 0))) (t₁:=.nm 0) (t₂:=.nm 1) (it₁:=.rng1 (.var 5)) (it₂:=.over (.var 3)) (nm:=["at","place","far","found"]) (cap:=[none,none,some 6,some 4])
   (ρ':=[none,none,some (.cap (.int f)),some (.cap (lI fd))]) (Qck (Qa rfl) hs.1 ((Z01 0x10000066044504005476) hs)) rfl (fun x hx=>⟨_,rfl,Yc (.inl (Yr _ _ _ rfl)) (by simp;exact (Z10 0x10000066011000006604e16) hk2),fun y hy=>⟨_,rfl,?_⟩⟩) ?_
  ·rw [this];simp [lI,List.map_flatMap,Function.comp_def]
  ·have:=Qen.mp hx;exact Qk (Qa rfl) (Qk (Yr _ _ _ rfl) (Qa rfl) (Qhd (Yo (by omega):Q2 x=true))) rfl
  ·have:((rg s).flatMap fun Y=>fd).length=((rg s).flatMap fun at'=>fd.map fun p=>p+f*at').length:=by simp [List.length_flatMap]
   exact (Z30 0x100000662102261000006614e1614e016) hstep hk2 this
theorem Qq8 {v:D}{ss:List Int}(hn:5≤n) (hv:Lay sz v p ss fs):(orc gl sz n).fn "places_of" [.hnd .heap,v] g=some (lI (plc [p] ss fs),g):=by
 refine gk fun Ω κ=>?_;have hlen:=hv.len;have hpow:4 ^ ss.length≤4 ^ 3:=Nat.pow_le_pow_right (by decide) hlen;obtain ⟨d1,d2,h⟩:=Qhq (O:=orc gl sz (n-1)) (g:=g) ss fs [p] (vv (.hnd .heap)) (vv v) (vv (.int p)) (vv (tI fs)) .none .none .none .none hv.bd hv.eq (by simp;omega);refine κ ?_;refine Q7 n rfl (by decide) rfl (by decide) ((Z10 353391894) hn) (ρ:=[vv (.hnd .heap),vv v,vv (.int p),vv (tI fs),vv (lI (plc [p] ss fs)),d1,d2]) ?_;refine Qc (J5 (ds:=[.int p,tI fs]) (Qy (Qa rfl) (Qa rfl) (Qdw ((Z10 0x150845105516) hn) hv)) (by rfl)) ?_;refine Qc (Qo (d:=lI [p]) (g':=g) ?_ rfl) ?_
 ·rw [Ybz,Qaf];refine eqR (Qec (d:=.int p) _ _ _ rfl) ?_;rfl
 refine Qc (Ju (Qbh (g1:=g) (g2:=g) (xs:=ss.map .int) (.inr (Qy (Qa rfl) (Qa rfl) (Jz ((Z10 0x150835105516) hn) hv))) (.inr (Qa rfl)) (by simp;exact (Z10 0x100000660135016) hlen) (by simp [hv.eq])) h) ?_;exact Qj (Qp (Qa rfl))
end
structure FOk (g:Gs) (vs:List Int):Prop where
 eq:g.flds=vs.map Ye
 len:vs.length≤1048576
theorem FOk.at {vs:List Int}(F:FOk g vs) (h0:0≤p) (h1:p<vs.length):Qde g (.hnd .flds) (.int p)=some (Ye (atv vs p)):=by
 show (if _ then _ else _)=_;refine eqR (if_pos (by rw [decide_eq_true h0,(by rw [F.eq];simp:g.flds.length=vs.length),Yw F.len];rfl)) ?_;have:p.toNat<vs.length:=(Z11 0xb00a03600546) h0 h1;refine eqR (F.eq) ?_;refine eqR (List.getElem?_map) ?_;refine eqR (List.getElem?_eq_getElem this) ?_;simp [atv,List.getD_eq_getElem?_getD,List.getElem?_eq_getElem this]
inductive Part (size:Int):D→List Int→Int→Int→Option Int→Prop
 |all:0≤size∧size≤4→Part size .none (rg1 size) 1 1 (some size)
 |one (p:Int):1≤p∧p≤size→Part size (.int p) [p] p 1 none
 |nil (f s m:Int):m≤0→-4≤s∧s≤4→Part size (.tup [.int f,.int s,.int m]) [] 1 s (some 0)
 |row (f s m:Int):0<m→m≤4→-4≤s∧s≤4→1≤f∧f≤size→1≤f+s*(m-1)∧f+s*(m-1)≤size→Part size (.tup [.int f,.int s,.int m]) ((rg m).map fun at'=>f+s*at') f s (some m)
structure PR where
 pd:D
 ls:List Int
 f:Int
 s:Int
 m:Option Int
variable {rs:List PR}
noncomputable def POk (size:Int) (r:PR):Prop:=size≤4∧Part size r.pd r.ls r.f r.s r.m
noncomputable def Qew:List Int→List PR→Prop
 |[],[]=>True
 |s::ss,r::rs=>POk s r∧Qew ss rs
 |_,_=>False
noncomputable def Qsv:Option Int→D
 |none=>.none
 |some k=>.int k
noncomputable def Qgu (r:PR):D:=.tup [.int r.f,.int r.s,Qsv r.m]
noncomputable def Q0:Int→List PR→List Int→Int
 |p,r::rs,f::fs=>Q0 (p+(r.f-1)*f) rs fs
 |p,_,_=>p
theorem Je (p f:Int) (r:PR) (rs:List PR) (fs:List Int):Q0 p (r::rs) (f::fs)=Q0 (p+(r.f-1)*f) rs fs:=rfl
theorem Jg (p:Int) (fs:List Int):Q0 p [] fs=p:=rfl
theorem Jd (p:Int) (r:PR) (rs:List PR):Q0 p (r::rs) []=p:=rfl
noncomputable def Qr (rs:List PR):List Int:=rs.filterMap (·.m)
noncomputable def J7 (r:PR) (f:Int):List Int:=match r.m with
 |none=>[]
 |some _=>[r.s*f]
noncomputable def Q3:List PR→List Int→List Int
 |r::rs,f::fs=>J7 r f++Q3 rs fs
 |_,_=>[]
theorem Qb1 (r:PR) (f:Int) (rs:List PR) (fs:List Int):Q3 (r::rs) (f::fs)=J7 r f++Q3 rs fs:=rfl
theorem Qb2 (fs:List Int):Q3 [] fs=[]:=rfl
theorem Qbz (r:PR) (rs:List PR):Q3 (r::rs) []=[]:=rfl
noncomputable def Qa9:List PR→List Int→List Int
 |[],_=>[]
 |r::rs,row=>match r.m with
  |none=>r.f::Qa9 rs row
  |some _=>match row with
   |i::is=>(r.f+r.s*(i-1))::Qa9 rs is
   |[]=>[]
theorem Qry (row:List Int):Qa9 [] row=[]:=rfl
theorem Qmh (r:PR) (rs:List PR) (row:List Int):Qa9 (r::rs) row=(match r.m with
  |none=>r.f::Qa9 rs row
  |some _=>match row with
   |i::is=>(r.f+r.s*(i-1))::Qa9 rs is
   |[]=>[]):=rfl
theorem Qew.length:∀{ss:List Int}{rs:List PR},Qew ss rs→rs.length=ss.length
 |[],[],_=>rfl
 |_::_,_::_,h=>by simp [Qew.length h.2]
 |[],_::_,h=>h.elim
 |_::_,[],h=>h.elim
theorem Qew.mem:∀{ss:List Int}{rs:List PR},Qew ss rs→∀p∈rs.zip ss,POk p.2 p.1
 |[],[],_,p,h=>by simp at h
 |s::ss,r::rs,h,p,hp=>by
  rw [List.zip_cons_cons]at hp;rcases List.mem_cons.mp hp with rfl|hp
  ·exact h.1
  ·exact Qew.mem h.2 p hp
 |[],_::_,h,_,_=>h.elim
 |_::_,[],h,_,_=>h.elim
theorem Qew.memr:∀{ss:List Int}{rs:List PR},Qew ss rs→∀r∈rs,∃s,POk s r
 |[],[],_,p,h=>by simp at h
 |s::ss,r::rs,h,p,hp=>by
  rcases List.mem_cons.mp hp with rfl|hp
  ·exact ⟨s,h.1⟩
  ·exact Qew.memr h.2 p hp
 |[],_::_,h,_,_=>h.elim
 |_::_,[],h,_,_=>h.elim
theorem POk.many {s:Int}{r:PR}(h:POk s r) {k:Int}(hk:r.m=some k):0≤k∧k≤4:=by
 obtain ⟨pd,ls,f,st,m⟩:=r;simp only at hk;subst hk;obtain ⟨h4,h⟩:=h;dsimp only at h;generalize hm:(some k)=m at h;cases h<;>simp at hm<;>omega
theorem POk.step {s:Int}{r:PR}(h:POk s r):(-4≤r.s∧r.s≤4)∧1≤r.f∧r.f≤4:=by
 obtain ⟨pd,ls,f,st,m⟩:=r;obtain ⟨h4,h⟩:=h;dsimp only at h ⊢;cases h<;>omega
theorem Jc:∀(rs:List PR) (fs:List Int) (p c:Int),Q0 (p+c) rs fs=Q0 p rs fs+c
 |[],_,_,_=>by simp [Je,Jg,Jd]
 |_::_,[],_,_=>by simp [Je,Jg,Jd]
 |r::rs,f::fs,p,c=>by
  simp only [Je,Jg,Jd];refine eqR (show p+c+(r.f-1)*f=(p+(r.f-1)*f)+c by exact (Z03 0x12077210775)) ?_;exact Jc rs fs _ c
theorem Vx:∀(rs:List PR) (fs:List Int),fs.length=rs.length→(Q3 rs fs).length=(Qr rs).length
 |[],[],_=>rfl
 |r::rs,f::fs,h=>by
  have ih:=Vx rs fs (by simpa using h);cases hm:r.m<;>simp_all [Qb1,Qb2,Qbz,Qr,J7]
 |[],_::_,h=>by rfl
 |_::_,[],h=>by simp at h
theorem Qli {ss:List Int}(h:Qew ss rs):Bd (Qr rs):=by
 intro k hk;obtain ⟨r,hr,e⟩:=List.mem_filterMap.mp hk;obtain ⟨s,hs⟩:=h.memr r hr;exact hs.many e
theorem Qgo:∀(rs:List PR) (fs row:List Int) (p:Int),fs.length=rs.length→row.length=(Qr rs).length→pl (Q0 p rs fs) row (Q3 rs fs)=pl p (Qa9 rs row) fs
 |[],[],row,p,_,h=>by
  cases row with
  |nil=>rfl
  |cons a l=>rfl
 |r::rs,f::fs,row,p,h,hr=>by
  have hl:fs.length=rs.length:=by simpa using h
  dsimp only [Je,Jg,Jd,Qb1,Qb2,Qbz,J7,Qry,Qmh];cases hm:r.m with
  |none=>
   simp only [List.nil_append];refine eqR (Qgo rs fs row _ hl (by simpa [Qr,hm] using hr)) ?_
   rfl
  |some k=>
   cases row with
   |nil=>simp [Qr,hm]at hr
   |cons i is=>
    dsimp only [List.cons_append,List.nil_append,Qn1,Qn0,Qn2];rw [←Jc];refine eqR (Qgo rs fs is _ hl (by simpa [Qr,hm] using hr)) ?_
    congr 1
    rw [Int.add_assoc]
    congr 1
    refine eqR (show r.f+r.s*(i-1)-1=(r.f-1)+r.s*(i-1) by exact (Z02 0x1150871510785)) ?_;rw [Int.add_mul]
    congr 1
    rw [←Int.mul_assoc,Int.mul_comm (i-1)]
 |[],_::_,_,_,h,_=>by simp at h
 |_::_,[],_,_,h,_=>by simp at h
theorem POk.at {s:Int}{r:PR}(h:POk s r) {k i:Int}(hk:r.m=some k) (hi:1≤i∧i≤k):r.ls[(i-1).toNat]?=some (r.f+r.s*(i-1))∧1≤r.f+r.s*(i-1)∧r.f+r.s*(i-1)≤s:=by
 obtain ⟨pd,ls,f,st,m⟩:=r;simp only at hk ⊢;obtain ⟨h4,h⟩:=h;dsimp only at h;cases h with
 |all hs=>
  obtain rfl:=Option.some.inj hk;refine ⟨?_,(Z02 0x15081e157154104015476) hi,(Z02 0x115081e1574104015476) hi⟩;rw [rg1];refine eqR (List.getElem?_map) ?_;rw [List.getElem?_range (by exact (Z02 0x1b1508b0104015476) hi)];simp;exact (Z02 0x1508150b8a5104015476) hi
 |one p hp=>exact nomatch hk
 |nil f s m hm hs=>cases hk;exact ((Z01 0xa0504015476) hi).elim
 |row f s m h1 h2 h3 h4 h5=>
  cases hk;refine ⟨?_,?_⟩
  ·rw [rg];refine eqR (List.map_map) ?_;rw [List.getElem?_map];refine eqR (List.getElem?_range (by exact (Z02 0x1b1508b0104015476) hi)) ?_;simp only [Option.map_some,Function.comp];refine eqR (show (((i-1).toNat:Nat):Int)=i-1 by exact (Z02 0x15081508ba5104015476) hi) ?_;rfl
  ·rcases Int.le_total 0 st with hp|hp
   ·have a1:0≤st*(i-1):=Int.mul_nonneg hp ((Z02 0x1508054104015476) hi);exact (Z04 0x1307430715472346305461207420715476104015476) h4 h5 a1 (Int.mul_le_mul_of_nonneg_left ((Z02 0x151815084104015476) hi) hp:st*(i-1)≤st*(k-1))
   ·have a1:st*(i-1)≤0:=Int.mul_nonpos_of_nonpos_of_nonneg hp ((Z02 0x1508054104015476) hi);exact (Z04 0x1307430715473246053461207420715476104015476) h4 h5 a1 (Int.mul_le_mul_of_nonpos_left hp ((Z02 0x151815084104015476) hi):st*(k-1)≤st*(i-1))
theorem POk.one {s:Int}{r:PR}(h:POk s r) (hk:r.m=none):r.pd=.int r.f∧r.ls=[r.f]∧1≤r.f∧r.f≤s:=by
 obtain ⟨pd,ls,f,st,m⟩:=r;simp only at hk ⊢;obtain ⟨h4,h⟩:=h;dsimp only at h;cases h with
 |all hs=>cases hk
 |one p hp=>exact ⟨rfl,rfl,hp⟩
 |nil f s m hm hs=>exact nomatch hk
 |row f s m h1 h2 h3 h4 h5=>exact nomatch hk
theorem Qge:∀{ss:List Int}{rs:List PR}{row:List Int},Qew ss rs→Vd row (Qr rs)→Vd (Qa9 rs row) ss
 |[],[],row,_,_=>trivial
 |s::ss,r::rs,row,h,hv=>by
  dsimp only [Qry,Qmh];cases hm:r.m with
  |none=>
   have h1:=h.1.one hm;exact ⟨h1.2.2.1,h1.2.2.2,Qge h.2 (by simpa [Qr,hm] using hv)⟩
  |some k=>
   cases row with
   |nil=>simp [Qr,hm]at hv;exact hv.elim
   |cons i is=>
    have hv':Vd (i::is) (k::Qr rs):=by simpa [Qr,hm] using hv
    have h1:=h.1.at hm ⟨hv'.1,hv'.2.1⟩;exact ⟨h1.2.1,h1.2.2,Qge h.2 hv'.2.2⟩
 |[],_::_,_,h,_=>h.elim
 |_::_,[],_,h,_=>h.elim
theorem Qgb {α β:Type}(e1:α→D) (e2:β→D):∀(xs:List α) (ys:List β),Qav [xs.map e1,ys.map e2]=(xs.zip ys).map fun p=>.tup [e1 p.1,e2 p.2]
 |[],_=>rfl
 |_::_,[]=>rfl
 |x::xs,y::ys=>by simp only [List.map_cons,Va,Qgb e1 e2 xs ys,List.zip_cons_cons]
theorem Qgd (rs:List PR):ain .none (.lst (rs.map Qgu))=some false:=by
 have h1:∀rs:List PR,∃ps,A3 (Vz (rs.map Qgu)=some ps) (PyData.canLayAll0 ps=true) ((ps.any fun y=>PyData.eqv y .none)=false):=by
  intro rs
  induction rs with
  |nil=>exact ⟨[],rfl,rfl,rfl⟩
  |cons r rs ih=>
   obtain ⟨ps,a1,a2,a3⟩:=ih;cases hm:r.m with
   |none=>exact ⟨.tuple [.int r.f,.int r.s,.none]::ps,by simp [Vz,Qab,Qgu,hm,Qsv,a1],by simp [PyData.canLayAll0,PyData.canLay0,a2],by dsimp [List.any_cons,PyData.eqv]at a3 ⊢;exact a3⟩
   |some k=>exact ⟨.tuple [.int r.f,.int r.s,.int k]::ps,by simp [Vz,Qab,Qgu,hm,Qsv,a1],by simp [PyData.canLayAll0,PyData.canLay0,a2],by dsimp [List.any_cons,PyData.eqv]at a3 ⊢;exact a3⟩
 obtain ⟨ps,a1,a2,a3⟩:=h1 rs;unfold ain;simp only [Qab,a1];refine eqR (if_pos (by rw [a2];decide)) ?_;refine eqR (a3) ?_;rfl
section
theorem Qgf {v:D}{ss vs:List Int}(hn:6≤n) (hv:Lay sz v p ss fs) (F:FOk g vs) (hp:∀q∈plc [p] ss fs,0≤q∧q<vs.length) (hk:(plc [p] ss fs).length≤1048576) :
  (orc gl sz n).fn "items_of" [.hnd .heap,v] g=some (.lst ((plc [p] ss fs).map fun q=>Ye (atv vs q)),g):=by
 refine Q7 n rfl (by decide) rfl (by decide) ((Z10 353395990) hn) (ρ:=[vv (.hnd .heap),vv v,vv (.hnd .flds)]) ?_;refine Qc (Qo (d:=.hnd .flds) (Qjb (Qy (Qa rfl) (Qa rfl) (Qcb ((Z10 0x150825106516) hn) hv))) rfl) ?_;refine Qj (Qp ?_);refine Ys (e:=.int) (h:=fun q=>Ye (atv vs q)) (xs:=plc [p] ss fs) (ρ':=[none,some (.cap (.hnd .flds))]) (Yc (.inl (Qy (Qa rfl) (Qa rfl) (Qq8 ((Z10 0x150855106516) hn) hv))) (by simpa using hk)) rfl (fun q hq=>⟨_,rfl,?_⟩) hk;obtain ⟨h0,h1⟩:=hp q hq;exact Q1 (Yr _ _ _ rfl) (Qa rfl) (F.at h0 h1)
theorem Qm3 {v:D}{ss vs is:List Int}(hn:6≤n) (hv:Lay sz v p ss fs) (F:FOk g vs) (hi:Vd is ss) (h0:0≤pl p is fs) (h1:pl p is fs<vs.length) :
  (orc gl sz n).fn "item_at" [.hnd .heap,v,tI is] g=some (Ye (atv vs (pl p is fs)),g):=by
 refine Q7 n rfl (by decide) rfl (by decide) ((Z10 353395990) hn) (ρ:=[vv (.hnd .heap),vv v,vv (tI is),vv (.int (pl p is fs)),vv (Ye (atv vs (pl p is fs)))]) ?_;refine Qc (Qo (d:=.int (pl p is fs)) (Qea (Qa rfl) (Qa rfl) (Qa rfl) (Qmj ((Z10 0x150855106516) hn) hv hi)) rfl) ?_;refine Qc (Qt (g':=g) (Qq (t:=false) (Qa rfl) (Qf ..) ?_) (Qh ..)) ?_
 ·have:¬(pl p is fs<0):=(Z01 0x503900546) h0;exact df this
 refine Qc (Qo (d:=Ye (atv vs (pl p is fs))) (Q1 (Qjb (Qy (Qa rfl) (Qa rfl) (Qcb ((Z10 0x150825106516) hn) hv))) (Qa rfl) (F.at h0 h1)) rfl) ?_;refine Qc (Qt (g':=g) (Qag (Qa rfl) rfl) (Qh ..)) ?_;exact Qj (Qp (Qa rfl))
theorem Qj6 {v:D}{ss vs is:List Int}{x:Int}(hn:6≤n) (hv:Lay sz v p ss fs) (F:FOk g vs) (hi:Vd is ss) (h0:0≤pl p is fs) (h1:pl p is fs<vs.length) :
  (orc gl sz n).fn "set_item" [.hnd .heap,v,tI is,Ye x] g=some (.none,{ g with flds:=g.flds.set (pl p is fs).toNat (Ye x) }):=by
 refine Qvm n rfl (by decide) rfl (by decide) ((Z10 353395990) hn) (ρ:=[vv (.hnd .heap),vv v,vv (tI is),vv (Ye x),vv (.int (pl p is fs))]) ?_;refine Qc (Qo (d:=.int (pl p is fs)) (Qea (Qa rfl) (Qa rfl) (Qa rfl) (Qmj ((Z10 0x150855106516) hn) hv hi)) rfl) ?_;refine Qc (Qt (g':=g) (Qq (t:=false) (Qa rfl) (Qf ..) ?_) (Qh ..)) ?_
 ·have:¬(pl p is fs<0):=(Z01 0x503900546) h0;exact df this
 refine Qc (ρ':=[vv (.hnd .heap),vv v,vv (tI is),vv (Ye x),vv (.int (pl p is fs))]) (g':={ g with flds:=g.flds.set (pl p is fs).toNat (Ye x) }) ?_ (Qh ..);have e1:Qb (orc gl sz (n-1)) (.attr (.fn "parent_of" (.cons (.var 0) (.cons (.var 1) .nil))) .fields) [vv (.hnd .heap),vv v,vv (tI is),vv (Ye x),vv (.int (pl p is fs))] g=some (.hnd .flds,g):=
  Qjb (Qy (Qa rfl) (Qa rfl) (Qcb ((Z10 0x150825106516) hn) hv))
 have e2:Qb (orc gl sz (n-1)) (.var 3) [vv (.hnd .heap),vv v,vv (tI is),vv (Ye x),vv (.int (pl p is fs))] g=some (Ye x,g):=Qa rfl;refine (?_:Vy _ _ [vv (.hnd .heap),vv v,vv (tI is),vv (Ye x),vv (.int (pl p is fs))] g=_);refine Qd e1 ?_;refine (?_:bI _ _=_);refine eqR ((Qa rfl:Qb (orc gl sz (n-1)) (.var 4) [vv (.hnd .heap),vv v,vv (tI is),vv (Ye x),vv (.int (pl p is fs))] g=some (.int (pl p is fs),g))) ?_;exact Jl (by simp [(by rw [F.eq];simp:g.flds.length=vs.length),h0,h1,Qm,F.len])
theorem Qtj {ss:List Int}(hn:2≤n) (hb:Bd ss) (hl:ss.length≤1048576) (hg:gl "MOST_ITEMS"=some (.int 20000)) (hp:Ya 1 ss≤20000):(orc gl sz n).fn "check_sizes" [tI ss] g=some (.none,g):=by
 refine Qvm n rfl (by decide) rfl (by decide) ((Z10 353379606) hn) (ρ:=[vv (tI ss)]) ?_;refine Qc (Qt (g':=g) (Qe6 (g1:=g) ?_ ?_) (Qh ..)) (Qh ..)
 ·refine Qq (a:=.lst []) (b:=.lst []) (g1:=g) ?_ (by rfl) rfl;have:=Qil (O:=orc gl sz (n-1)) (ρ:=[vv (tI ss)]) (g:=g) (g1:=g) (e:=.int) (h:=.int) (p:=fun Y=>false) (xs:=ss) (elt:=.var 0) (tst:=.cmp .lt (.var 0) (.int 0)) (t:=.nm 0) (it:=.over (.var 0)) (nm:=["size"]) (cap:=[none]) (ρ':=[none])
   (Yc (.inr (Qa rfl)) (by simpa using hl)) rfl (fun s hs=>⟨_,rfl,Qq (Qa rfl) (Qf ..) ?_,Qa rfl⟩) hl
  ·rw [(by induction ss<;>simp_all:ss.filter (fun Y=>false)=[])]at this;exact this
  ·have:¬(s<0):=by have:=hb s hs;exact (Z01 0x50394504005476) this
   exact df this
 ·refine Qq (a:=.int (Ya 1 ss)) (b:=.int 20000) (g1:=g) (Qao (Qa rfl) (Qof ((Z10 0x150815102516) hn) hb hl)) ?_ ?_
  ·exact Qy8 (by rw [(by cases n-1<;>rfl:(orc gl sz (n-1)).glob=gl)];exact hg)
  ·have:¬(Ya 1 ss > 20000):=(Z01 0x4e2046394e2046046) hp;exact df this
theorem Qta {s:Int}{r:PR}(hn:1≤n) (h:POk s r):(orc gl sz n).fn "taken_row" [r.pd,.int s] g=some (Qgu r,g):=by
 obtain ⟨pd,ls,f,st,m⟩:=r;obtain ⟨h4,h⟩:=h;dsimp only at h ⊢;cases h with
 |all hs=>
  refine Q7 n rfl (by decide) rfl (by decide) ((Z10 353375510) hn) (ρ:=[vv .none,vv (.int s),none,none,none,none]) ?_;exact Qj (V8 (Qag (Qa rfl) rfl) (Qj (Qp (V5 (Qf ..) (Qf ..) (Qa rfl)))))
 |one p hp=>
  refine Q7 n rfl (by decide) rfl (by decide) ((Z10 353375510) hn) (ρ:=[vv (.int f),vv (.int s),none,none,none,none]) ?_;refine Qc (Qt (Qag (Qa rfl) rfl) (Qh ..)) ?_;refine Qj (V8 (Qad (Qa rfl) rfl) (Qj (Qp (Yy (Qel (t:=true) (Qf ..) (Qa rfl) (dt hp.1) (Qa rfl) (dt hp.2)) (V5 (Qa rfl) (Qf ..) (Qat ..))))))
 |nil f st m hm hs=>
  refine Q7 n rfl (by decide) rfl (by decide) ((Z10 353375510) hn) (ρ:=[vv (.tup [.int f,.int st,.int m]),vv (.int s),vv (.int f),vv (.int st),vv (.int m),none]) ?_;refine Qc (Qt (Qag (Qa rfl) rfl) (Qh ..)) ?_;refine Qc (Qt (Qad (Qa rfl) rfl) (Qh ..)) ?_;refine Qc (J5 (ds:=[.int f,.int st,.int m]) (Qa rfl) rfl) ?_;exact Qj (V8 (Qq (Qa rfl) (Qf ..) (dt hm)) (Qj (Qp (V5 (Qf ..) (Qa rfl) (Qf ..)))))
 |row f st m h1 h2 h3 h4 h5=>
  refine Q7 n rfl (by decide) rfl (by decide) ((Z10 353375510) hn) (ρ:=[vv (.tup [.int f,.int st,.int m]),vv (.int s),vv (.int f),vv (.int st),vv (.int m),vv (.int (f+st*(m-1)))]) ?_;refine Qc (Qt (Qag (Qa rfl) rfl) (Qh ..)) ?_;refine Qc (Qt (Qad (Qa rfl) rfl) (Qh ..)) ?_;refine Qc (J5 (ds:=[.int f,.int st,.int m]) (Qa rfl) rfl) ?_;refine Qc (Qt (g':=g) (Qq (t:=false) (Qa rfl) (Qf ..) (by have:¬(m≤0):=((Z01 0x504900536) h1);exact df this)) (Qh ..)) ?_;refine Qc (Qo (g':=g) (d:=.int (f+st*(m-1))) (Qk (Qa rfl) (Qk (d:=.int (st*(m-1))) (Qa rfl) (Qk (Qa rfl) (Qf ..) rfl) (Qbi (Yo (by omega):Q2 st=true))) rfl) rfl) ?_;refine Qj (Qp (Yy (g1:=g) (Qe6 (g1:=g) (Qel (Qf ..) (Qa rfl) (dt h4.1) (Qa rfl) (dt h4.2))
   (Qel (Qf ..) (Qa rfl) (dt h5.1) (Qa rfl) (dt h5.2))) (V5 (Qa rfl) (Qa rfl) (Qa rfl))))
theorem Qoa {O:Orc}:∀(rs:List PR) (fs:List Int) (p:Int) (k1 k2:List D) (a b c d e f6 c1 c2 c3 c4:Option B),NC c1→NC c2→NC c3→NC c4→(∀r∈rs,(-4≤r.s∧r.s≤4)∧1≤r.f∧r.f≤4)→fs.length=rs.length→k1.length+rs.length≤1000→k2.length+rs.length≤1000→∃d1 d2 d3 d4,
  J4 (Qbd O (.tup (.cons (.tup (.cons (.nm 9) (.cons (.nm 10) (.cons (.nm 11) .nil)))) (.cons (.nm 12) .nil))) (.cons (.asg (.nm 5) (.bin .add (.var 5) (.bin .mul (.bin .sub (.var 9) (.int 1)) (.var 12)))) (.cons (.ifS (.isN true (.var 11)) (.cons (.app 7 (.var 11)) (.cons (.app 8 (.bin .mul (.var 10) (.var 12))) .nil)) .nil) .nil)))
   (Qav [rs.map Qgu,fs.map .int]) [a,b,c,d,e,vv (.int p),f6,some (.own k1),some (.own k2),c1,c2,c3,c4] g =
    some (.nxt,[a,b,c,d,e,vv (.int (Q0 p rs fs)),f6,some (.own (k1++(Qr rs).map .int)),some (.own (k2++(Q3 rs fs).map .int)),d1,d2,d3,d4],g)
 |[],fs,p,k1,k2,a,b,c,d,e,f6,c1,c2,c3,c4,_,_,_,_,_,_,_,_=>⟨c1,c2,c3,c4,by rw [show (Qr []).map D.int=[] from rfl,show (Q3 [] fs).map D.int=[] from rfl,List.append_nil,List.append_nil];rfl⟩
 |r::rs,[],p,k1,k2,a,b,c,d,e,f6,c1,c2,c3,c4,_,_,_,_,_,h,_,_=>by simp at h
 |r::rs,f::fs,p,k1,k2,a,b,c,d,e,f6,c1,c2,c3,c4,n1,n2,n3,n4,hs,hl,hk1,hk2=>by
  refine gk fun Ω κ=>?_;have hst:=hs r (.head _);simp only [List.length_cons]at hk1 hk2;obtain ⟨d1,d2,d3,d4,hr⟩:=Qoa rs fs (p+(r.f-1)*f) (k1++(Option.toList r.m).map .int) (k2++(J7 r f).map .int) a b c d e f6 (vv (.int r.f)) (vv (.int r.s)) (vv (Qsv r.m)) (vv (.int f)) (.vv _) (.vv _) (.vv _) (.vv _)
   (fun x hx=>hs x (.tail _ hx)) (by simpa using hl) (by rw [List.length_append];exact (Z30 0x3e836120771152163e83615170716) hk1 (by cases r.m<;>simp:((Option.toList r.m).map D.int).length≤1)) (by rw [List.length_append];exact (Z30 0x3e836120771152163e83615170716) hk2 (by unfold J7;cases r.m<;>simp:((J7 r f).map D.int).length≤1))
  refine κ ?_;refine ⟨d1,d2,d3,d4,?_⟩;simp only [List.map_cons,Va];refine Yb (ρ':=[a,b,c,d,e,vv (.int (p+(r.f-1)*f)),f6,some (.own (k1++(Option.toList r.m).map .int)),some (.own (k2++(J7 r f).map .int)),vv (.int r.f),vv (.int r.s),vv (Qsv r.m),vv (.int f)]) (g':=g) ?_ ?_
  rotate_left
  ·refine eqR (hr) ?_;simp [Je,Jg,Jd,Qb1,Qb2,Qbz,(by cases hm:r.m<;>simp [Qr,hm]:Qr (r::rs)=Option.toList r.m++Qr rs)]
  refine Vh (ρ1:=[a,b,c,d,e,vv (.int p),f6,some (.own k1),some (.own k2),vv (.int r.f),vv (.int r.s),vv (Qsv r.m),vv (.int f)]) (Yc9 (Vn (Vb (i:=9) (ρ:=[a,b,c,d,e,vv (.int p),f6,some (.own k1),some (.own k2),c1,c2,c3,c4]) rfl n1) (Vn (Vb (i:=10) (ρ:=[a,b,c,d,e,vv (.int p),f6,some (.own k1),some (.own k2),vv (.int r.f),c2,c3,c4]) rfl n2) (Vn (Vb (i:=11) (ρ:=[a,b,c,d,e,vv (.int p),f6,some (.own k1),some (.own k2),vv (.int r.f),vv (.int r.s),c3,c4]) rfl n3) rfl))) (Vn (Vb (i:=12) (ρ:=[a,b,c,d,e,vv (.int p),f6,some (.own k1),some (.own k2),vv (.int r.f),vv (.int r.s),vv (Qsv r.m),c4]) rfl n4) rfl)) ?_;refine Qc (g':=g) (Qo (g':=g) (d:=.int (p+(r.f-1)*f)) (Qk (Qa rfl) (Qk (d:=.int ((r.f-1)*f)) (Qk (d:=.int (r.f-1)) (Qa rfl) (Qf ..) rfl) (Qa rfl) (Qbi (Yo (by omega):Q2 (r.f-1)=true))) rfl) rfl) ?_;cases hm:r.m with
  |none=>
   refine Qc (g':=g) (Qt (g':=g) (Qo0 (t:=true) (Qa rfl) rfl) (Qh ..)) ?_;simp [J7,hm,Qsv]
  |some k=>
   refine Qc (g':=g) (V8 (g':=g) (Qo0 (t:=false) (Qa rfl) rfl) ?_) (Qh ..);refine Qc (g':=g) (Qhu (xs:=k1) rfl (Qa rfl) ((Z20 0x10000066013e83615170716) hk1)) ?_;refine Qc (g':=g) (Qhu (xs:=k2) (d:=.int (r.s*f)) rfl (Qk (Qa rfl) (Qa rfl) (Qbi (Yo (by omega):Q2 r.s=true))) ((Z20 0x10000066013e83615170716) hk2)) ?_;simp [J7,hm,Qsv]
theorem Ybr (h:(Qa7 ρ i&&Qa7 ρ j&&i != j)=true):Vy O (.two i j none none) ρ g=some (.nxt,(ρ.set i (some (.own []))).set j (some (.own [])),g):=by
 exact Jl h
theorem Vv (h:Qb O e ρ g=some (.lst xs,g')∨Qb O e ρ g=some (.tup xs,g')) (hl:xs.length≤1048576):Qb O (.bi .len (.cons e .nil)) ρ g=some (.int xs.length,g'):=by
 exact h.elim (Qfx (.inl rfl) rfl hl) (Qfx (.inr rfl) rfl hl)
theorem Qay (h:Qb O e ρ g=some (.lst xs,g')) (hl:xs.length≤1048576):Qb O (.bi .tuple (.cons e .nil)) ρ g=some (.tup xs,g'):=by
 exact Qo8 h hl
theorem Qyn {ss:List Int}(hps:Qew ss rs) (hl:ss.length≤3) (ht:∀s r,POk s r→O.fn "taken_row" [r.pd,.int s] g=some (Qgu r,g)) (h2:ρ[2]?=some (vv (.lst (rs.map (·.pd))))) (h3:ρ[3]?=some (vv (tI ss))) :
  Qb O (.comp (.fn "taken_row" (.cons (.var 0) (.cons (.var 1) .nil))) (.tup (.cons (.nm 0) (.cons (.nm 1) .nil))) (.zip (.cons (.var 2) (.cons (.var 3) .nil))) .nil ["part","size"] [none,none]) ρ g=some (.lst (rs.map Qgu),g):=by
 have hlen:=hps.length;have:=Ys (O:=O) (ρ:=ρ) (g:=g) (g1:=g) (xs:=rs.zip ss) (e:=fun p=>.tup [p.1.pd,.int p.2]) (h:=fun p=>Qgu p.1) (elt:=.fn "taken_row" (.cons (.var 0) (.cons (.var 1) .nil))) (t:=.tup (.cons (.nm 0) (.cons (.nm 1) .nil)))
  (it:=.zip (.cons (.var 2) (.cons (.var 3) .nil))) (nm:=["part","size"]) (cap:=[none,none]) (ρ':=[none,none])
  (by
   have:=Qbh (O:=O) (ρ:=ρ) (e1:=.var 2) (e2:=.var 3) (g:=g) (g1:=g) (g2:=g) (xs:=rs.map (·.pd)) (ys:=ss.map .int) (.inl (Qa h2)) (.inr (Qa h3)) (by simp;exact (Z20 0x1000006611012635016) hl hlen) (by simp [hlen]);rw [Qgb]at this;exact this) rfl (fun p hp=>⟨_,rfl,Qy (Qa rfl) (Qa rfl) (ht _ _ (hps.mem p hp))⟩) (by simp;exact (Z20 0x1000006601c135016) hl)
 refine eqR (this) ?_;have e:(rs.zip ss).map (fun p=>Qgu p.1)=rs.map Qgu:=by
  refine eqR (show (fun p:PR×Int=>Qgu p.1)=Qgu ∘ Prod.fst from rfl) ?_;refine eqL (List.map_map) ?_;refine eqR (List.map_fst_zip (by exact (Z20 16846886) hlen)) ?_;rfl
 refine eqR (e) ?_;rfl
theorem Qop {v:D}{ss:List Int}(hn:5≤n) (hv:Lay sz v p ss fs) (hps:Qew ss rs) :
  (orc gl sz n).fn "view_of" [.hnd .heap,v,.lst (rs.map (·.pd))] g=some (Qdd (Q0 p rs fs) (Qr rs) (Q3 rs fs),g):=by
 refine gk fun Ω κ=>?_;have hlen:=hps.length;have h3:=hv.len;have hl3:(Qr rs).length≤rs.length:=List.length_filterMap_le _ _;obtain ⟨d1,d2,d3,d4,h⟩:=Qoa (O:=orc gl sz (n-1)) (g:=g) rs fs p [] [] (vv (.hnd .heap)) (vv v) (vv (.lst (rs.map (·.pd)))) (vv (tI ss)) (vv (.lst (rs.map Qgu))) (vv (tI fs)) .none .none .none .none .none .none .none .none
  (fun r hr=>(hps.memr r hr).elim fun s h=>h.step) (by rw [hv.eq,hlen]) (by simp;exact (Z20 0x3e83601351161026) hlen h3) (by simp;exact (Z20 0x3e83601351161026) hlen h3)
 refine κ ?_;refine Q7 n rfl (by decide) rfl (by decide) ((Z10 353391894) hn) (ρ:=[vv (.hnd .heap),vv v,vv (.lst (rs.map (·.pd))),vv (tI ss),vv (.lst (rs.map Qgu)),vv (.int (Q0 p rs fs)),vv (tI fs),vv (lI (Qr rs)),vv (lI (Q3 rs fs)),d1,d2,d3,d4]) ?_;refine Qc (Qo (d:=tI ss) (Qy (Qa rfl) (Qa rfl) (Jz ((Z10 0x150835105516) hn) hv)) rfl) ?_;refine Qc (Qt (g':=g) (Qq (t:=false) (Vv (.inl (Qa rfl)) (by simp;exact (Z20 0x1000006601351161026) hlen h3)) (Vv (.inr (Qa rfl)) (by simp;exact (Z10 0x100000660135016) h3)) (by simp [Vw,hlen])) (Qh ..)) ?_;refine Qc (Qo (d:=.lst (rs.map Qgu)) (Qyn hps h3 (fun s r h=>Qta ((Z10 0x150815105516) hn) h) rfl rfl) rfl) ?_;refine Qc (Qt (g':=g) (Qsd (t:=false) (Qat ..) (Qa rfl) (Qgd rs)) (Qh ..)) ?_;refine Qc (J5 (ds:=[.int p,tI fs]) (Qy (Qa rfl) (Qa rfl) (Qdw ((Z10 0x150845105516) hn) hv)) (by rfl)) ?_;refine Qc (Ybr rfl) ?_;refine Qc (Ju (Qbh (g1:=g) (g2:=g) (xs:=rs.map Qgu) (.inl (Qa rfl)) (.inr (Qa rfl)) (by simp;exact (Z20 0x1000006601351161026) hlen h3) (by simp [hv.eq,hlen])) h) ?_;refine Qc (Qef (xs:=(Qr rs).map .int) (by rfl)) ?_;refine Qc (Qef (xs:=(Q3 rs fs).map .int) (by rfl)) ?_;refine Qj (Qp ?_);refine (?_:Qb _ _ [vv (.hnd .heap),vv v,vv (.lst (rs.map (·.pd))),vv (tI ss),vv (.lst (rs.map Qgu)),vv (.int (Q0 p rs fs)),vv (tI fs),vv (lI (Qr rs)),vv (lI (Q3 rs fs)),d1,d2,d3,d4] g=_);rw [Yam,Qaf,Vu,Qb6,Qaf,(hv.addr (O:=orc gl sz (n-1)) (g:=g) (g':=g) (e:=.var 1) (ρ:=[vv (.hnd .heap),vv v,vv (.lst (rs.map (·.pd))),vv (tI ss),vv (.lst (rs.map Qgu)),vv (.int (Q0 p rs fs)),vv (tI fs),vv (lI (Qr rs)),vv (lI (Q3 rs fs)),d1,d2,d3,d4]) (Qa rfl)),Qb6,Qaf,Qec (d:=.int (Q0 p rs fs)) _ _ _ rfl,Qb6,Qaf,Qay (g':=g) (xs:=(Qr rs).map .int) (Qa rfl) (by simp;exact (Z30 0x10000066210216351161026) hlen h3 hl3),Qb6,Qaf,
  Qay (g':=g) (xs:=(Q3 rs fs).map .int) (Qa rfl) (by simp;exact (Z40 0x100000662103163226351161026) hlen h3 (Vx rs fs (by rw [hv.eq,hlen])) hl3)]
 rfl
theorem Qk3 {ss:List Int}(hps:Qew ss rs) (he:fs.length=ss.length) (h3:ss.length≤3):Lay sz (Qdd (Q0 p rs fs) (Qr rs) (Q3 rs fs)) (Q0 p rs fs) (Qr rs) (Q3 rs fs) where
 is:=.inr rfl
 bd:=Qli hps
 len:=by have:=hps.length;have:(Qr rs).length≤rs.length:=List.length_filterMap_le _ _;exact (Z30 0x35211216012635016) h3 ‹_› this
 eq:=Vx rs fs (by rw [he,hps.length])
end
section
theorem Ydu (h:Qb O e ρ g=some (.hnd .pen,g)):Qb O (.idx e (.int 0)) ρ g=some (.int g.p0,g):=Q1 h (Qf ..) rfl
theorem Ygp (h:Qb O e ρ g=some (.hnd .pen,g)):Qb O (.idx e (.int 1)) ρ g=some (.int g.p1,g):=Q1 h (Qf ..) rfl
theorem Yd4 {b v:CE}{x:Int}(hv:Qb O v ρ g=some (.int x,g)) (hb:Qb O b ρ g=some (.hnd .pen,g)):Vy O (.setH b (.int 0) v) ρ g=some (.nxt,ρ,{ g with p0:=x }):=Qd hv (Qd hb rfl)
theorem Yeo {b v:CE}{x:Int}(hv:Qb O v ρ g=some (.int x,g)) (hb:Qb O b ρ g=some (.hnd .pen,g)):Vy O (.setH b (.int 1) v) ρ g=some (.nxt,ρ,{ g with p1:=x }):=Qd hv (Qd hb rfl)
theorem Quu {a b:Int}(h:b≠0):Qc9 .mod (.int a) (.int b)=some (.int (Int.fmod a b)):=if_pos h
theorem Qj1 {a b:Int}(h:b≠0) (h1:b.natAbs<1073741824):Qc9 .fdiv (.int a) (.int b)=some (.int (Int.fdiv a b)):=if_pos (by rw [decide_eq_true h,decide_eq_true h1];rfl)
theorem Jj {m:Int}(hn:1≤n) (hm:0<m∧m≤1000):∃k g',0≤k∧k<m∧g'.flds=g.flds∧(orc gl sz n).fn "_law_some" [.hnd .pen,.int m] g=some (.int k,g'):=by
 have m0:m≠0:=(Z01 0x50593e83604005376) hm;have m1:m.natAbs<1073741824:=by omega
 by_cases h:g.p0 > 0
 ·refine ⟨Int.fmod g.p0 m,{ g with p0:=Int.fdiv g.p0 m },Int.fmod_nonneg_of_pos _ hm.1,Int.fmod_lt_of_pos _ hm.1,rfl,?_⟩;refine Q7 n rfl (by decide) rfl (by decide) hn (ρ:=[vv (.hnd .pen),vv (.int m),vv (.int (Int.fmod g.p0 m))]) ?_;refine Qj (V8 (g':=g) (Qq (t:=true) (Ydu (Qa rfl)) (Qf ..) (by simp [Vw,h])) ?_);refine Qc (Qo (g':=g) (d:=.int (Int.fmod g.p0 m)) (Qk (Ydu (Qa rfl)) (Qa rfl) (Quu m0)) rfl) ?_;refine Qc (Yd4 (x:=Int.fdiv g.p0 m) (Qk (Ydu (Qa rfl)) (Qa rfl) (Qj1 m0 m1)) (Qa rfl)) ?_;exact Qj (Qp (Qa rfl))
 ·refine ⟨Int.fmod (Int.fdiv (Int.fmod (g.p1*151+7001) 65437) 7) m,{ g with p1:=Int.fmod (g.p1*151+7001) 65437 },Int.fmod_nonneg_of_pos _ hm.1,Int.fmod_lt_of_pos _ hm.1,rfl,?_⟩;refine Q7 n rfl (by decide) rfl (by decide) hn (ρ:=[vv (.hnd .pen),vv (.int m),none]) ?_;refine Qc (Qt (g':=g) (Qq (t:=false) (Ydu (Qa rfl)) (Qf ..) (by simp [Vw,h])) (Qh ..)) ?_;refine Qc (Yeo (x:=Int.fmod (g.p1*151+7001) 65437) (Qk (g1:=g) (a:=.int (g.p1*151+7001)) (Qk (g1:=g) (a:=.int (g.p1*151)) (Qk (Ygp (Qa rfl)) (Qf ..) (Qhd rfl)) (Qf ..) rfl) (Qf ..) rfl) (Qa rfl)) ?_;refine Qj (Qp ?_);exact Qk (a:=.int (Int.fdiv (Int.fmod (g.p1*151+7001) 65437) 7)) (Qk (Ygp (g:={ g with p1:=Int.fmod (g.p1*151+7001) 65437 }) (Qa rfl)) (Qf ..) rfl) (Qa rfl) (Quu m0)
theorem Yfw {f s m:Int}(hm:0≤m∧m≤10) (h3:ρ[3]?=some (vv (.int f))) (h4:ρ[4]?=some (vv (.int s))) (h6:ρ[6]?=some (vv (.int m))) :
  Qb O (.comp (.bin .add (.var 1) (.bin .mul (.var 2) (.var 0))) (.nm 0) (.rng1 (.var 6)) .nil ["at","first","step"] [none,some 3,some 4]) ρ g=some (lI ((rg m).map fun at'=>f+s*at'),g):=by
 have:=Ys (O:=O) (ρ:=ρ) (g:=g) (g1:=g) (e:=.int) (h:=fun at'=>.int (f+s*at')) (xs:=rg m) (elt:=.bin .add (.var 1) (.bin .mul (.var 2) (.var 0))) (t:=.nm 0) (it:=.rng1 (.var 6)) (nm:=["at","first","step"]) (cap:=[none,some 3,some 4])
  (ρ':=[none,some (.cap (.int f)),some (.cap (.int s))]) (Qck (Qa h6) hm.1 ((Z01 0x1000006604a504005476) hm)) (Q4 rfl (Q4 (Q4 (congrArg (slV _) h3) (Q4 (Q4 (congrArg (slV _) h4) rfl) rfl)) rfl)) (fun x hx=>⟨_,rfl,?_⟩) (by rw [Q9];exact (Z01 0x100000660b1a504005476) hm)
 ·rw [this];simp [lI,Function.comp_def]
 ·have:=Qen.mp hx;exact Qk (Yr _ _ _ rfl) (Qk (d:=.int (s*x)) (Yr _ _ _ rfl) (Qa rfl) (Qhd (Yo (by omega):Q2 x=true))) rfl
noncomputable def Qol (a b s:Int):Int:=if s > 0 then Int.fdiv (a-b) s+1 else Int.fdiv (b-1) (0-s)+1
theorem Qs5:∀a∈([1,2,3,4]:List Int),∀b∈([1,2,3,4]:List Int),∀s∈([1,2,-1,-2]:List Int),b≤a→1≤Qol a b s∧Qol a b s≤4∧∀m∈([1,2,3,4]:List Int),m≤Qol a b s→1≤b+s*(m-1)∧b+s*(m-1)≤a:=by decide +kernel
theorem Yhh (j:Int) (hj:0≤j∧j<4):j+1∈([1,2,3,4]:List Int):=by
 have h4:j=0∨j=1∨j=2∨j=3:=(Z01 0x35052505815058050584503005476) hj;clear hj;rcases h4 with rfl|rfl|rfl|rfl<;>decide
theorem Qwr {x:Int}(h1:1≤x) (h2:x≤4):x∈([1,2,3,4]:List Int):=Int.sub_add_cancel x 1▸Yhh (x-1) ⟨(Z01 0x150805401546) h1,(Z01 0x451508345046) h2⟩
theorem Qor {f s size:Int}{j:Int}(hj:0≤j∧j<4) (hs:size≤4) (hf:1≤f∧f≤size) (hst:([1,2,-1,-2]:List Int)[j.toNat]?=some s) :
  ∃most:Int,(if s > 0 then Int.fdiv (size-f) s+1 else Int.fdiv (f-1) (0-s)+1)=most∧1≤most∧most≤4∧∀m:Int,0<m→m≤most→1≤f+s*(m-1)∧f+s*(m-1)≤size:=by
 obtain ⟨h1,h2,h3⟩:=Qs5 size (Qwr (Int.le_trans hf.1 hf.2) hs) f (Qwr hf.1 (Int.le_trans hf.2 hs)) s (List.mem_of_getElem? hst) hf.2;exact ⟨_,rfl,h1,h2,fun m q1 q2=>h3 m (Qwr q1 (Int.le_trans q2 h2)) q2⟩
theorem Qw2 {size:Int}(hn:2≤n) (hs:0≤size∧size≤4):∃r g',POk size r∧g'.flds=g.flds∧(orc gl sz n).fn "_law_part" [.hnd .pen,.int size] g=some (.tup [r.pd,lI r.ls],g'):=by
 refine gk fun Ω κ=>?_;obtain ⟨way,g1,w0,w1,fl1,hw⟩:=Jj (gl:=gl) (sz:=sz) (g:=g) (n:=n-1) (m:=4) ((Z10 0x150815102516) hn) (by decide);refine κ ?_;by_cases hz:way=0∨size=0
 ·refine ⟨⟨.none,rg1 size,1,1,some size⟩,g1,⟨hs.2,.all hs⟩,fl1,?_⟩;refine Q7 n rfl (by decide) rfl (by decide) ((Z10 353379606) hn) (ρ:=[vv (.hnd .pen),vv (.int size),vv (.int way),none,none,none,none]) ?_;refine Qc (Qo (d:=.int way) (Qy (Qa rfl) (Qf ..) hw) rfl) ?_;refine Qj (V8 (g':=g1) ?_ (Qj (Qp (Vi (Qat ..) (Qmi (Qk (Qa rfl) (Qf ..) rfl) hs.1 ((Z01 0x10000066044504005476) hs))))));by_cases h0:way=0
  ·exact Qgi (Qq (t:=true) (Qa rfl) (Qf ..) (by simp [Vw,h0])) (by decide)
  ·exact Qe6 (Qq (t:=false) (Qa rfl) (Qf ..) (by simp [Vw,h0])) (Qq (t:=true) (Qa rfl) (Qf ..) (by simp [Vw,hz.resolve_left h0]))
 refine gk fun Ω κ=>?_;have hz1:way≠0:=fun h=>hz (.inl h);have hz2:size≠0:=fun h=>hz (.inr h);obtain ⟨k,g2,k0,k1,fl2,hk⟩:=Jj (gl:=gl) (sz:=sz) (g:=g1) (n:=n-1) (m:=size) ((Z10 0x150815102516) hn) ((Z01 0x3e83604005370505964504005476) hs hz2);have pre:∀{ρ':Q8} {x:Option (Fl×Q8×Gs)},ρ'=[vv (.hnd .pen),vv (.int size),vv (.int way),vv (.int (1+k)),none,none,none]→∀{r:CSs},Yj (orc gl sz (n-1)) r ρ' g2=x →
   Yj (orc gl sz (n-1)) (.cons (.asg (.nm 2) (.fn "_law_some" (.cons (.var 0) (.cons (.int 4) .nil)))) (.cons (.ifS (.bop false (.cmp .eq (.var 2) (.int 0)) (.cmp .eq (.var 1) (.int 0))) (.cons (.ret (.tup (.cons .none (.cons (.bi .listR (.cons (.int 1) (.cons (.bin .add (.var 1) (.int 1)) .nil))) .nil)))) .nil) .nil) (.cons (.asg (.nm 3) (.bin .add (.int 1) (.fn "_law_some" (.cons (.var 0) (.cons (.var 1) .nil))))) r)))
    ([vv (.hnd .pen),vv (.int size)]++List.replicate 5 none) g=x:=by
  rintro ρ' x rfl r h;refine Qc (Qo (d:=.int way) (Qy (Qa rfl) (Qf ..) hw) rfl) ?_;refine Qc (Qt (g':=g1) (Qe6 (Qq (t:=false) (Qa rfl) (Qf ..) (by simp [Vw,hz1])) (Qq (t:=false) (Qa rfl) (Qf ..) (by simp [Vw,hz2]))) (Qh ..)) ?_;exact Qc (Qo (g':=g2) (d:=.int (1+k)) (Qk (Qf ..) (Qy (Qa rfl) (Qa rfl) hk) rfl) rfl) h
 refine κ ?_;by_cases h1:way=1
 ·refine ⟨⟨.int (1+k),[1+k],1+k,1,none⟩,g2,⟨hs.2,.one _ ((Z02 0x10157401571547103600546) k0 k1)⟩,fl2.trans fl1,?_⟩;refine Q7 n rfl (by decide) rfl (by decide) ((Z10 353379606) hn) (ρ:=[vv (.hnd .pen),vv (.int size),vv (.int way),vv (.int (1+k)),none,none,none]) (pre rfl ?_);exact Qj (V8 (g':=g2) (Qq (t:=true) (Qa rfl) (Qf ..) (by simp [Vw,h1])) (Qj (Qp (Vi (Qa rfl) (Qcp (Qa rfl))))))
 refine gk fun Ω κ=>?_;obtain ⟨j,g3,j0,j1,fl3,hj⟩:=Jj (gl:=gl) (sz:=sz) (g:=g2) (n:=n-1) (m:=4) ((Z10 0x150815102516) hn) (by decide);obtain ⟨s,hs4,hs5⟩:∃s,([1,2,-1,-2]:List Int)[j.toNat]?=some s∧-2≤s∧s≤2∧s≠0:=by
  have hj4:j=0∨j=1∨j=2∨j=3:=(Z01 0x35052505815058050584503600546) j0 j1;rcases hj4 with rfl|rfl|rfl|rfl<;>exact ⟨_,rfl,by decide⟩
 obtain ⟨most,hm,hm1,hm2,hm3⟩:=Qor (f:=1+k) ⟨j0,j1⟩ hs.2 ((Z02 0x10157401571547103600546) k0 k1) hs4;obtain ⟨m,g4,m0,m1,fl4,hmn⟩:=Jj (gl:=gl) (sz:=sz) (g:=g3) (n:=n-1) (m:=most+1) ((Z10 0x150815102516) hn) ((Z01 0x3e83615074150705374504601546) hm1 hm2);have body:(orc gl sz n).fn "_law_part" [.hnd .pen,.int size] g=some (.tup [.tup [.int (1+k),.int s,.int m],lI ((rg m).map fun at'=>(1+k)+s*at')],g4):=by
  refine Q7 n rfl (by decide) rfl (by decide) ((Z10 353379606) hn) (ρ:=[vv (.hnd .pen),vv (.int size),vv (.int way),vv (.int (1+k)),vv (.int s),vv (.int most),vv (.int m)]) (pre rfl ?_);refine Qc (Qt (g':=g2) (Qq (t:=false) (Qa rfl) (Qf ..) (by simp [Vw,h1])) (Qh ..)) ?_;refine Qc (Qo (g':=g3) (d:=.int s) (Q1 (a:=.lst [.int 1,.int 2,.int (-1),.int (-2)]) (g1:=g2) (by rfl) (Qy (Qa rfl) (Qf ..) hj) ?_) rfl) ?_
  ·have e:([D.int 1,.int 2,.int (-1),.int (-2)]:List D)=([1,2,-1,-2]:List Int).map .int:=rfl;simp only [e,Vg,Ve,Vf,Qah,Qal,List.getElem?_map,hs4];simp [j0,Qm]
  have hsm:Q2 s=true:=Yo (by omega);refine Qc (Qo (g':=g3) (d:=.int most) ?_ rfl) ?_
  ·have z1:(s≠0):=(Z01 0x505905059250470259476) hs5;have z2:s.natAbs<1073741824:=by omega
   have z4:(0-s).natAbs<1073741824:=by omega
   by_cases hp:s > 0
   ·rw [if_pos hp]at hm;refine eqL (hm) ?_;refine Yy (Qq (t:=true) (Qa rfl) (Qf ..) (by simp [Vw,hp])) ?_;exact Qk (a:=.int (Int.fdiv (size-(1+k)) s)) (Qk (Qk (d:=.int (size-(1+k))) (Qa rfl) (Qa rfl) rfl) (Qa rfl) (Qj1 z1 z2)) (Qf ..) rfl
   ·rw [if_neg hp]at hm;rw [←hm];refine Yt (Qq (t:=false) (Qa rfl) (Qf ..) (by simp [Vw,hp])) ?_;exact Qk (a:=.int (Int.fdiv ((1+k)-1) (0-s))) (Qk (Qk (d:=.int ((1+k)-1)) (Qa rfl) (Qf ..) rfl) (Qk (d:=.int (0-s)) (Qf ..) (Qa rfl) rfl) (Qj1 ((Z01 0x5005859050596) z1:(0-s≠0)) z4)) (Qf ..) rfl
  refine Qc (Qo (g':=g4) (d:=.int m) (Qy (Qa rfl) (Qk (d:=.int (most+1)) (Qa rfl) (Qf ..) rfl) hmn) rfl) ?_;exact Qj (Qp (Vi (V5 (Qa rfl) (Qa rfl) (Qa rfl)) (Yfw ((Z02 0xa5141054715071361054645046) hm2 m0 m1) rfl rfl rfl)))
 have flds:g4.flds=g.flds:=by rw [fl4,fl3,fl2,fl1]
 refine κ ?_;by_cases hm0:m=0
 ·subst hm0;exact ⟨⟨.tup [.int (1+k),.int s,.int 0],[],1,s,some 0⟩,g4,⟨hs.2,.nil _ _ _ (by decide) ((Z01 0x450404594705059250470259476) hs5)⟩,flds,body⟩
 ·exact ⟨⟨.tup [.int (1+k),.int s,.int m],(rg m).map fun at'=>(1+k)+s*at',1+k,s,some m⟩,g4,⟨hs.2,.row _ _ _ ((Z01 0x5305059600546) m0 hm0) ((Z02 0x4514150713645046) hm2 m1) ((Z01 0x450404594705059250470259476) hs5) ((Z02 0x10157401571547103600546) k0 k1) (hm3 m ((Z01 0x5305059600546) m0 hm0) ((Z02 69815332918) m1))⟩,flds,body⟩
theorem Qc1 (s:Int) (fd:List (List Int)) (hs:0≤s∧s≤4):((rg1 s).flatMap fun Y=>fd).length≤4*fd.length:=by
 simp only [List.length_flatMap,List.map_const',List.sum_replicate_nat,Jq];exact Nat.mul_le_mul_right _ ((Z01 0x450b14504005476) hs)
theorem Qpd {O:Orc}:∀(ss:List Int) (fd:List (List Int)) (a c:Option B),NC c→Bd ss→fd.length*4 ^ ss.length≤1048576→(∀r∈fd,r.length+ss.length≤1000)→∃c',
  J4 (Qbd O (.nm 2) (.cons (.asg (.nm 1) (.comp2 (.bin .add (.var 1) (.tup (.cons (.var 0) .nil))) (.nm 0) (.rng (.int 1) (.bin .add (.var 2) (.int 1))) (.nm 1) (.over (.var 2)) ["index","row","found"] [none,none,some 1])) .nil))
   (ss.map .int) [a,vv (.lst (fd.map tI)),c] g=some (.nxt,[a,vv (.lst ((grd fd ss).map tI)),c'],g)
 |[],fd,a,c,_,_,_,_=>⟨c,rfl⟩
 |s::ss,fd,a,c,n1,hb,hk,hr=>by
  have hs:=hb s (.head _);have hstep:=Qc1 s fd hs;rw [List.length_cons,Nat.pow_succ]at hk;have hk1:4*fd.length*4 ^ ss.length≤1048576:=by rw [show 4*fd.length*4 ^ ss.length=fd.length*(4 ^ ss.length*4) by rw [Nat.mul_comm 4,Nat.mul_assoc,Nat.mul_comm 4]];exact hk
  have hk2:4*fd.length≤1048576:=Nat.le_trans (Nat.le_mul_of_pos_right _ (Nat.pow_pos (by decide):1≤4 ^ ss.length)) hk1;obtain ⟨c',h⟩:=Qpd ss ((rg1 s).flatMap fun i=>fd.map fun r=>r++[i]) a (vv (.int s)) (.vv _) hb.tail
   (Nat.le_trans (Nat.mul_le_mul_right _ (by rw [(by simp [List.length_flatMap]:((rg1 s).flatMap fun i=>fd.map fun r=>r++[i]).length=((rg1 s).flatMap fun Y=>fd).length)];exact hstep)) hk1) (fun r hm=>by
    simp only [List.mem_flatMap,List.mem_map]at hm;obtain ⟨i,_,r0,h0,rfl⟩:=hm;have:=hr r0 h0;simp only [List.length_cons,List.length_append,List.length_nil]at this ⊢;exact (Z20 0x3e83611505707713e83615170716) this)
  refine ⟨c',?_⟩;simp only [List.map_cons];refine Yb (ρ':=[a,vv (.lst (((rg1 s).flatMap fun i=>fd.map fun r=>r++[i]).map tI)),vv (.int s)]) (g':=g) ?_ (by simpa [Qhn,Qiv] using h);refine Vh (ρ1:=[a,vv (.lst (fd.map tI)),vv (.int s)]) (Qmy (Vb (i:=2) (ρ:=[a,vv (.lst (fd.map tI)),c]) rfl n1)) ?_;refine Qc (Qo (d:=.lst (((rg1 s).flatMap fun i=>fd.map fun r=>r++[i]).map tI)) ?_ rfl) (Qh ..);have:=Qdj (O:=O) (ρ:=[a,vv (.lst (fd.map tI)),vv (.int s)]) (g:=g) (g1:=g) (xs:=rg1 s) (e:=.int) (e2:=fun Y r=>tI r) (ys:=fun Y=>fd) (h:=fun i r=>tI (r++[i]))
   (elt:=.bin .add (.var 1) (.tup (.cons (.var 0) .nil))) (t₁:=.nm 0) (t₂:=.nm 1) (it₁:=.rng (.int 1) (.bin .add (.var 2) (.int 1))) (it₂:=.over (.var 2)) (nm:=["index","row","found"]) (cap:=[none,none,some 1])
   (ρ':=[none,none,some (.cap (.lst (fd.map tI)))]) (Yap (Qk (Qa rfl) (Qf ..) rfl) hs.1 ((Z01 0x10000066044504005476) hs)) rfl (fun x hx=>⟨_,rfl,Yc (.inl (Yr _ _ _ rfl)) (by simp;exact (Z10 0x10000066011000006604e16) hk2),fun r hm=>⟨_,rfl,?_⟩⟩) ?_
  ·rw [this];simp [List.map_flatMap,Function.comp_def]
  ·refine Qk (Qa rfl) (Qxw (Qa rfl)) ?_;have:r.length≤1048576:=(Z20 0x10000066013e83610716) (hr r hm)
   simp [Qc9,Qm,this,tI]
  ·exact (Z20 0x10000066011000006614e1614e016) hstep hk2
theorem Qjp {ss:List Int}(hn:1≤n) (hb:Bd ss) (hl:ss.length≤3):(orc gl sz n).fn "_law_grid" [tI ss] g=some (.lst ((grd [[]] ss).map tI),g):=by
 have hpow:4 ^ ss.length≤4 ^ 3:=Nat.pow_le_pow_right (by decide) hl;obtain ⟨c',h⟩:=Qpd (O:=orc gl sz (n-1)) (g:=g) ss [[]] (vv (tI ss)) .none .none hb (by simp;omega) (by simp;exact (Z10 0x3e8360135016) hl);refine Q7 n rfl (by decide) rfl (by decide) ((Z10 353375510) hn) (ρ:=[vv (tI ss),vv (.lst ((grd [[]] ss).map tI)),c']) ?_;refine Qc (Qo (d:=.lst [tI []]) (g':=g) (by rfl) rfl) ?_;refine Qc (Ju (Yc (.inr (Qa rfl)) (by simp;exact (Z10 0x100000660135016) hl)) h) ?_;exact Qj (Qp (Qa rfl))
end
theorem Qqp (h:Qb O e ρ g=some (.lst xs,g')) (hl:xs.length≤1048576):Jm O (.enum e) ρ g=some (Qav [Qbk 0 xs.length,xs],g'):=Qd h (Q4 (if_pos (Yw hl)) rfl)
theorem Qsn (h:Qb O e ρ g=some (.tup xs,g')) (hl:xs.length≤1048576):Jm O (.enum e) ρ g=some (Qav [Qbk 0 xs.length,xs],g'):=Qd h (Q4 (if_pos (Yw hl)) rfl)
noncomputable def Vj (val:List Int→D) (l:List (List Int)):List (List Int×D):=l.map fun r=>(r,val r)
theorem Qdh {val:List Int→D}{k:List Int}:∀{l:List (List Int)},k∈l→Qsz (Vj val l) k=some (val k)
 |a::l,h=>by
  delta Qsz Vj
  refine eqR (List.map_cons) ?_;refine eqR (List.find?_cons) ?_;by_cases e:a=k
  ·subst e;simp
  ·have:decide (a=k)=false:=decide_eq_false e;simp only [this];exact Qdh (l:=l) ((List.mem_cons.mp h).resolve_left (Ne.symm e))
theorem Qk1 {k:List Int}{l:List (List Int)}(h:k∉l):Qn3 (Vj val l) k (val k)=Vj val (l++[k]):=by
 unfold Qn3;rw [if_neg ?_]
 ·simp [Vj]
 ·simp only [Bool.not_eq_true,List.any_eq_false,decide_eq_true_eq,Vj,List.mem_map];rintro _ ⟨r,hr,rfl⟩ e;exact h (e▸hr)
theorem Qfk {val:List Int→D}:∀(l done:List (List Int)),(done++l).Nodup→Jk (l.map fun r=>.tup [tI r,val r]) (Vj val done)=some (Vj val (done++l))
 |[],done,_=>by rw [List.append_nil];rfl
 |k::l,done,h=>by
  have h1:k∉done:=fun hm=>by
   have:=(List.nodup_append.mp h).2.2 k hm k (.head _);exact this rfl
  refine eqR (show Jk ((k::l).map fun r=>.tup [tI r,val r]) (Vj val done)=opt (V3 (k.map .int)) fun ns=>Jk (l.map fun r=>.tup [tI r,val r]) (Qn3 (Vj val done) ns (val k)) from rfl) ?_;rw [V1,Ql5];refine eqR (Qk1 h1) ?_;refine eqR (Qfk l (done++[k]) (by simpa using h)) ?_;simp
noncomputable def kpF (b:Int):List PR→List (Int×PR)
 |[]=>[]
 |r::rs=>(if r.m.isSome then [(b,r)] else [])++kpF (b+1) rs
theorem Yb2 (b:Int):kpF b []=[]:=rfl
theorem Qqn (b:Int) (r:PR) (rs:List PR):kpF b (r::rs)=(if r.m.isSome then [(b,r)] else [])++kpF (b+1) rs:=rfl
noncomputable def enF (b:Int):List PR→List (Int×PR)
 |[]=>[]
 |r::rs=>(b,r)::enF (b+1) rs
theorem Yaz (b:Int):enF b []=[]:=rfl
theorem Ybm (b:Int) (r:PR) (rs:List PR):enF b (r::rs)=(b,r)::enF (b+1) rs:=rfl
theorem Qfs:∀(b:Int) (rs:List PR),(enF b rs).length=rs.length
 |_,[]=>rfl
 |b,r::rs=>by simp [Yaz,Ybm,Qfs _ rs]
theorem Qch:∀(b:Int) (rs:List PR),(enF b rs).filter (fun q=>q.2.m.isSome)=kpF b rs
 |_,[]=>rfl
 |b,r::rs=>by
  simp only [Yaz,Ybm,Yb2,Qqn,List.filter_cons,Qch _ rs];cases r.m.isSome<;>rfl
theorem Qek (b:Int) (n:Nat):Qbk b (n+1)=.int b::Qbk (b+1) n:=by
 unfold Qbk;refine eqR (List.range_succ_eq_map) ?_;refine eqR (List.map_cons) ?_;refine eqR (List.map_map) ?_
 congr 1
 ·simp
 ·refine List.map_congr_left fun i Y=>?_;simp only [Function.comp]
  congr 1
  omega
theorem Qql (e:PR→D):∀(b:Int) (rs:List PR),Qav [Qbk b rs.length,rs.map e]=(enF b rs).map fun q=>.tup [.int q.1,e q.2]
 |b,[]=>rfl
 |b,r::rs=>by rw [List.length_cons,Qek,List.map_cons,Va,Qql e (b+1) rs];rfl
theorem Qpq {b:Int}{q:Int×PR}(h:q∈enF b rs):q.2∈rs∧b≤q.1∧rs[(q.1-b).toNat]?=some q.2:=by
 induction rs generalizing b with
 |nil=>exact nomatch h
 |cons r rs ih=>
  rcases List.mem_cons.mp h with rfl|h
  ·exact ⟨.head _,Int.le_refl _,by rw [Int.sub_self];rfl⟩
  ·obtain ⟨h1,h2,h3⟩:=ih h;refine ⟨.tail _ h1,(Z02 69811373894) h2,?_⟩;refine eqR (show (q.1-b).toNat=(q.1-(b+1)).toNat+1 by exact (Z02 0x15150718b7018b21150746) h2) ?_;exact h3
theorem Qw9 {b:Int}{q:Int×PR}(h:q∈kpF b rs):q∈enF b rs∧q.2.m.isSome=true:=by
 rw [←Qch]at h;exact List.mem_filter.mp h
theorem Ql9:∀(b:Int) (rs:List PR),(∀r∈rs,∀k,r.m=some k→(r.ls.length:Int)=k)→(kpF b rs).map (fun q=>(q.2.ls.length:Int))=Qr rs
 |_,[],_=>rfl
 |b,r::rs,h=>by
  have ih:=Ql9 (b+1) rs fun x hx=>h x (.tail _ hx);rw [Qqn];unfold Qr;cases hm:r.m with
  |none=>simp [hm];exact ih
  |some k=>simp [hm,h r (.head _) k hm];exact ih
theorem POk.lsLen {s:Int}{r:PR}(h:POk s r):∀k,r.m=some k→(r.ls.length:Int)=k:=by
 intro k hk;obtain ⟨pd,ls,f,st,m⟩:=r;obtain ⟨h4,h⟩:=h;dsimp only at h hk ⊢;cases h with
 |all hs=>cases hk;rw [Jq];exact (Z01 0xba54504005476) hs
 |one p hp=>cases hk
 |nil f s m hm hs=>cases hk;rfl
 |row f s m h1 h2 h3 h4 h5=>cases hk;rw [List.length_map,Q9];exact (Z01 0xba500536) h1
theorem POk.lsBd {s:Int}{r:PR}(h:POk s r):r.ls.length≤4:=by
 obtain ⟨pd,ls,f,st,m⟩:=r;obtain ⟨h4,h⟩:=h;dsimp only at h ⊢;cases h with
 |all hs=>rw [Jq];exact (Z01 0x450b14504005476) hs
 |one p hp=>simp
 |nil f s m hm hs=>simp
 |row f s m h1 h2 h3 h4 h5=>rw [List.length_map,Q9];exact (Z01 0x450b145046) h2
theorem POk.isInt {O:Orc}{s:Int}{r:PR}(h:POk s r):abi O .isInt [r.pd]=some (.bool r.m.isNone):=by
 obtain ⟨pd,ls,f,st,m⟩:=r;obtain ⟨h4,h⟩:=h;dsimp only at h ⊢;cases h<;>rfl
noncomputable def Qvh (r:PR):Int:=if r.m.isNone then r.f else 0
noncomputable def Qc6:List Int→List (Int×PR)→List Int→List Int
 |xs,q::kp,i::row=>Qc6 (xs.set q.1.toNat (q.2.f+q.2.s*(i-1))) kp row
 |xs,_,_=>xs
theorem Qgt (xs:List Int) (q:Int×PR) (kp:List (Int×PR)) (i:Int) (row:List Int):Qc6 xs (q::kp) (i::row)=Qc6 (xs.set q.1.toNat (q.2.f+q.2.s*(i-1))) kp row:=rfl
theorem Qha (xs row:List Int):Qc6 xs [] row=xs:=by cases row<;>rfl
theorem Qg9 (xs:List Int) (q:Int×PR) (kp:List (Int×PR)):Qc6 xs (q::kp) []=xs:=rfl
theorem Qnv (xs row:List Int):Qc6 xs [] row=xs:=by simp only [Qgt,Qha,Qg9]
theorem Qa6:∀(rs:List PR) (pre row:List Int),row.length=(Qr rs).length→Qc6 (pre++rs.map Qvh) (kpF pre.length rs) row=pre++Qa9 rs row
 |[],pre,row,_=>by simp [Yb2,Qqn,Qgt,Qha,Qg9,Qry,Qmh]
 |r::rs,pre,row,h=>by
  rw [Qqn,Qmh];cases hm:r.m with
  |none=>
   have ih:=Qa6 rs (pre++[r.f]) row (by simpa [Qr,hm] using h);simp only [Option.isSome_none,Bool.false_eq_true,if_false,List.nil_append,List.map_cons,Qvh,hm,Option.isNone_none,if_true];simp only [List.length_append,List.length_cons,List.length_nil,List.append_assoc,List.cons_append,List.nil_append]at ih;rw [show ((pre.length+(0+1):Nat):Int)=(pre.length:Int)+1 by exact (Z10 0x150a71505707a5)]at ih;exact ih
  |some k=>
   cases row with
   |nil=>simp [Qr,hm]at h
   |cons i is=>
    have ih:=Qa6 rs (pre++[r.f+r.s*(i-1)]) is (by simpa [Qr,hm] using h);simp only [Option.isSome_some,if_true,List.map_cons,Qvh,hm,Option.isNone_some,Bool.false_eq_true,if_false,List.cons_append,List.nil_append,Qgt,Qha,Qg9];simp only [List.length_append,List.length_cons,List.length_nil,List.append_assoc,List.cons_append,List.nil_append]at ih;rw [show ((pre.length+(0+1):Nat):Int)=(pre.length:Int)+1 by exact (Z10 0x150a71505707a5)]at ih;refine eqL (ih) ?_
    congr 1
    rw [Int.toNat_natCast];refine eqR (List.set_append) ?_;simp
noncomputable def Yh (r:PR):D:=.tup [r.pd,lI r.ls]
section
theorem Qma {rs:List PR}(pos:∀q∈kpF 0 rs,∃s,A3 (POk s q.2) (0≤q.1) (rs[q.1.toNat]?=some q.2)) (hl3:rs.length≤1000):∀(kp:List (Int×PR)) (row ks xs:List Int) (a b c d e f6 f7 c9 c10:Option B),(∀q∈kp,q∈kpF 0 rs)→kp.map (fun q=>q.2.m)=ks.map some→Vd row ks→xs.length=rs.length→NC c9→NC c10→X2 fun d9 d10=>A3 (NC d9) (NC d10) (J4 (Qbd O (.tup (.cons (.nm 9) (.cons (.nm 10) .nil))) (.cons (.setL 8 (.var 9) (.idx (.idx (.idx (.var 1) (.var 9)) (.int 1)) (.bin .sub (.var 10) (.int 1)))) .nil))
   (Qav [kp.map fun q=>.int q.1,row.map .int]) [a,vv (.lst (rs.map Yh)),b,c,d,e,f6,f7,some (.own (xs.map .int)),c9,c10] g =
    some (.nxt,[a,vv (.lst (rs.map Yh)),b,c,d,e,f6,f7,some (.own ((Qc6 xs kp row).map .int)),d9,d10],g))
 |[],row,ks,xs,a,b,c,d,e,f6,f7,c9,c10,_,_,_,_,n1,n2=>⟨c9,c10,n1,n2,by rw [Qnv];rfl⟩
 |q::kp,[],ks,xs,a,b,c,d,e,f6,f7,c9,c10,_,hk,hv,_,_,_=>by
  cases ks with
  |nil=>simp at hk
  |cons k ks=>exact hv.elim
 |q::kp,i::row,[],xs,a,b,c,d,e,f6,f7,c9,c10,_,_,hv,_,_,_=>hv.elim
 |q::kp,i::row,k::ks,xs,a,b,c,d,e,f6,f7,c9,c10,hin,hk,hv,hx,n1,n2=>by
  refine gk fun Ω κ=>?_;simp only [List.map_cons,List.cons.injEq]at hk;obtain ⟨s,hs,hq0,hq1⟩:=pos q (hin q (.head _));obtain ⟨hi1,hi2,hv2⟩:=hv;obtain ⟨hat,hat2,hat3⟩:=hs.at hk.1 ⟨hi1,hi2⟩;obtain ⟨d9,d10,m1,m2,h⟩:=Qma pos hl3 kp row ks (xs.set q.1.toNat (q.2.f+q.2.s*(i-1))) a b c d e f6 f7 (vv (.int q.1)) (vv (.int i)) (fun x hx=>hin x (.tail _ hx)) hk.2 hv2 (by simpa using hx) (.vv _) (.vv _);refine κ ?_;refine ⟨d9,d10,m1,m2,?_⟩;simp only [List.map_cons,Va];refine Yb (ρ':=[a,vv (.lst (rs.map Yh)),b,c,d,e,f6,f7,some (.own ((xs.set q.1.toNat (q.2.f+q.2.s*(i-1))).map .int)),vv (.int q.1),vv (.int i)]) (g':=g) ?_ h;refine Vh (ρ1:=[a,vv (.lst (rs.map Yh)),b,c,d,e,f6,f7,some (.own (xs.map .int)),vv (.int q.1),vv (.int i)]) (Vn (Vb (i:=9) (ρ:=[a,vv (.lst (rs.map Yh)),b,c,d,e,f6,f7,some (.own (xs.map .int)),c9,c10]) rfl n1) (Vn (Vb (i:=10) (ρ:=[a,vv (.lst (rs.map Yh)),b,c,d,e,f6,f7,some (.own (xs.map .int)),vv (.int q.1),c10]) rfl n2) rfl)) ?_;refine Qc (ρ':=[a,vv (.lst (rs.map Yh)),b,c,d,e,f6,f7,some (.own ((xs.set q.1.toNat (q.2.f+q.2.s*(i-1))).map .int)),vv (.int q.1),vv (.int i)]) (g':=g) ?_ (Qh ..);have e1:Qb O (.idx (.idx (.idx (.var 1) (.var 9)) (.int 1)) (.bin .sub (.var 10) (.int 1))) [a,vv (.lst (rs.map Yh)),b,c,d,e,f6,f7,some (.own (xs.map .int)),vv (.int q.1),vv (.int i)] g=some (.int (q.2.f+q.2.s*(i-1)),g):=by
   refine Q1 (a:=lI q.2.ls) (b:=.int (i-1)) (Q1 (a:=Yh q.2) (Q1 (a:=.lst (rs.map Yh)) (b:=.int q.1) (Qa rfl) (Qa rfl) ?_) (Qf ..) ?_) (Qk (Qa rfl) (Qf ..) rfl) ?_
   ·have h1:rs.length≤1048576:=(Z10 0x10000066013e836016) hl3;simp only [Vg,Ve,Vf,Qah,Qal,List.length_map,List.getElem?_map,hq1];simp [hq0,Qm,h1]
   ·rfl
   ·have:=hs.lsBd;have h2:q.2.ls.length≤1048576:=(Z10 0x100000660145016) this;simp only [Vg,Ve,Vf,Qah,Qal,List.length_map,List.getElem?_map,hat];simp [Qm,h2];exact (Z01 356521286) hi1
  refine eqR (List.map_set) ?_;exact Qd e1 (Jl (by rw [List.length_map,decide_eq_true hq0,decide_eq_true (by rw [hx];exact (Z11 0xa0300b06) ((List.getElem?_eq_some_iff.mp hq1).1:q.1.toNat<rs.length):q.1<(xs.length:Int)),Yw (by rw [hx];exact (Z10 0x10000066013e836016) hl3:xs.length≤1048576)];rfl))
theorem Qb7:∀(b:Int) (rs:List PR),(kpF b rs).map (fun q=>q.2.m)=(Qr rs).map some
 |_,[]=>rfl
 |b,r::rs=>by
  have ih:=Qb7 (b+1) rs;rw [Qqn];unfold Qr;cases hm:r.m with
  |none=>simp [hm];exact ih
  |some k=>simp [hm];exact ih
theorem Qr0 {ss:List Int}(hps:Qew ss rs):∀q∈kpF 0 rs,∃s,A3 (POk s q.2) (0≤q.1) (rs[q.1.toNat]?=some q.2):=by
 intro q hq;obtain ⟨h1,_⟩:=Qw9 hq;obtain ⟨h2,h3,h4⟩:=Qpq h1;obtain ⟨s,hs⟩:=hps.memr _ h2;exact ⟨s,hs,h3,by simpa using h4⟩
theorem Qir {ss fs:List Int}{p:Int}{rs:List PR}(hps:Qew ss rs) (h3:ss.length≤3) {a c d:Option B}:∀(todo done:List (List Int)) (c7 c8 c9 c10:Option B),(done++todo).Nodup→(done++todo).length≤1048576→(∀r∈todo,Vd r (Qr rs))→NC c7→NC c8→NC c9→NC c10→∃d7 d8 d9 d10,
  J4 (Qbd O (.nm 7) (.cons (.ownE 8 (.comp (.ite (.bi .isInt (.cons (.idx (.var 0) (.int 0)) .nil)) (.idx (.idx (.var 0) (.int 1)) (.int 0)) (.int 0)) (.nm 0) (.over (.var 1)) .nil ["pair"] [none])) (.cons (.forS (.tup (.cons (.nm 9) (.cons (.nm 10) .nil))) (.zip (.cons (.var 4) (.cons (.var 7) .nil))) (.cons (.setL 8 (.var 9) (.idx (.idx (.idx (.var 1) (.var 9)) (.int 1)) (.bin .sub (.var 10) (.int 1)))) .nil)) (.cons (.frz 8) (.cons (.setD 6 (.var 7) (.idx (.var 2) (.bi .tuple (.cons (.var 8) .nil)))) .nil)))))
   (todo.map tI) [a,vv (.lst (rs.map Yh)),vv (.dct (Vj (fun r=>.int (pl p r fs)) (grd [[]] ss))),c,vv (.lst ((kpF 0 rs).map fun q=>.int q.1)),d,some (.ownD (Vj (fun r=>.int (pl p (Qa9 rs r) fs)) done)),c7,c8,c9,c10] g =
    some (.nxt,[a,vv (.lst (rs.map Yh)),vv (.dct (Vj (fun r=>.int (pl p r fs)) (grd [[]] ss))),c,vv (.lst ((kpF 0 rs).map fun q=>.int q.1)),d,some (.ownD (Vj (fun r=>.int (pl p (Qa9 rs r) fs)) (done++todo))),d7,d8,d9,d10],g)
 |[],done,c7,c8,c9,c10,_,_,_,_,_,_,_=>⟨c7,c8,c9,c10,by rw [List.append_nil];rfl⟩
 |row::todo,done,c7,c8,c9,c10,hnd,hl,hv,n7,n8,n9,n10=>by
  refine gk fun Ω κ=>?_;have hrow:=hv row (.head _);have hrl:=hrow.length;have hpl:=hps.length;have hfill:=Qge hps hrow;have hset:=Qa6 rs [] row hrl;simp only [List.nil_append,List.length_nil,Int.natCast_zero]at hset;obtain ⟨e9,e10,m9,m10,hin⟩:=Qma (O:=O) (g:=g) (rs:=rs) (Qr0 hps) ((Z20 0x3e83611012635016) h3 hpl) (kpF 0 rs) row (Qr rs) (rs.map Qvh) a (vv (.dct (Vj (fun r=>.int (pl p r fs)) (grd [[]] ss)))) c (vv (.lst ((kpF 0 rs).map fun q=>.int q.1))) d
   (some (.ownD (Vj (fun r=>.int (pl p (Qa9 rs r) fs)) done))) (vv (tI row)) c9 c10 (fun Y h=>h) (Qb7 0 rs) hrow (by simp) n9 n10
  rw [hset]at hin;obtain ⟨d7,d8,d9,d10,h⟩:=Qir hps h3 todo (done++[row]) (vv (tI row)) (vv (lI (Qa9 rs row))) e9 e10 (by simpa using hnd) (by simpa using hl) (fun r hr=>hv r (.tail _ hr)) (.vv _) (.vv _) m9 m10;refine κ ?_;refine ⟨d7,d8,d9,d10,?_⟩;rw [List.append_assoc]at h;simp only [List.map_cons];refine Yb (ρ':=[a,vv (.lst (rs.map Yh)),vv (.dct (Vj (fun r=>.int (pl p r fs)) (grd [[]] ss))),c,vv (.lst ((kpF 0 rs).map fun q=>.int q.1)),d,some (.ownD (Vj (fun r=>.int (pl p (Qa9 rs r) fs)) (done++[row]))),vv (tI row),vv (lI (Qa9 rs row)),e9,e10]) (g':=g) ?_ h;refine Vh (ρ1:=[a,vv (.lst (rs.map Yh)),vv (.dct (Vj (fun r=>.int (pl p r fs)) (grd [[]] ss))),c,vv (.lst ((kpF 0 rs).map fun q=>.int q.1)),d,some (.ownD (Vj (fun r=>.int (pl p (Qa9 rs r) fs)) done)),vv (tI row),c8,c9,c10]) (Qmy (Vb (i:=7) (ρ:=[a,vv (.lst (rs.map Yh)),vv (.dct (Vj (fun r=>.int (pl p r fs)) (grd [[]] ss))),c,vv (.lst ((kpF 0 rs).map fun q=>.int q.1)),d,some (.ownD (Vj (fun r=>.int (pl p (Qa9 rs r) fs)) done)),c7,c8,c9,c10]) rfl n7)) ?_;refine Qc (Qrg (g':=g) (xs:=(rs.map Qvh).map .int) (Vb (c:=c8) rfl n8) ?_) ?_
  ·have:=Ys (O:=O) (ρ:=[a,vv (.lst (rs.map Yh)),vv (.dct (Vj (fun r=>.int (pl p r fs)) (grd [[]] ss))),c,vv (.lst ((kpF 0 rs).map fun q=>.int q.1)),d,some (.ownD (Vj (fun r=>.int (pl p (Qa9 rs r) fs)) done)),vv (tI row),c8,c9,c10]) (g:=g) (g1:=g) (e:=Yh) (h:=fun r=>.int (Qvh r)) (xs:=rs)
    (elt:=.ite (.bi .isInt (.cons (.idx (.var 0) (.int 0)) .nil)) (.idx (.idx (.var 0) (.int 1)) (.int 0)) (.int 0)) (t:=.nm 0) (it:=.over (.var 1)) (nm:=["pair"]) (cap:=[none]) (ρ':=[none]) (Yc (.inl (Qa rfl)) (by simp;exact (Z20 0x1000006611012635016) h3 hpl)) rfl (fun r hr=>⟨_,rfl,?_⟩) ((Z20 0x1000006611012635016) h3 hpl)
   ·rw [this];simp [Function.comp_def]
   ·obtain ⟨s,hs⟩:=hps.memr r hr;have e1:=Qad (O:=O) (Q1 (a:=Yh r) (b:=.int 0) (Qa rfl) (Qf ..) rfl:Qb O (.idx (.var 0) (.int 0)) [vv (Yh r)] g=some (r.pd,g)) hs.isInt;cases hm:r.m with
    |none=>
     rw [hm]at e1;refine Yy e1 (Q1 (a:=lI r.ls) (b:=.int 0) (Q1 (a:=Yh r) (b:=.int 1) (Qa rfl) (Qf ..) rfl) (Qf ..) ?_);refine eqR ((hs.one hm).2.1) ?_;simp [Vg,Ve,Vf,Qm,Qvh,hm]
    |some k=>
     rw [hm]at e1;exact (Yt e1 (Qf ..)).trans (by simp [Qvh,hm])
  refine Qc (Ju (Qbh (g1:=g) (g2:=g) (xs:=(kpF 0 rs).map fun q=>.int q.1) (ys:=row.map .int) (.inl (Qa rfl)) (.inr (Qa rfl)) ?_ ?_) hin) ?_
  ·have:=congrArg List.length (Qb7 0 rs);simp at this ⊢;exact (Z40 0x100000663123261216012635016) h3 hpl (List.length_filterMap_le _ _:(Qr rs).length≤rs.length) this
  ·have:=congrArg List.length (Qb7 0 rs);simp at this ⊢;exact (Z30 0x2212261026) hrl this
  refine Qc (Qef (xs:=(Qa9 rs row).map .int) rfl) ?_;refine Qc (g':=g) (ρ':=[a,vv (.lst (rs.map Yh)),vv (.dct (Vj (fun r=>.int (pl p r fs)) (grd [[]] ss))),c,vv (.lst ((kpF 0 rs).map fun q=>.int q.1)),d,some (.ownD (Vj (fun r=>.int (pl p (Qa9 rs r) fs)) (done++[row]))),vv (tI row),vv (lI (Qa9 rs row)),e9,e10]) ?_ (Qh ..);have v1:Qb O (.idx (.var 2) (.bi .tuple (.cons (.var 8) .nil))) [a,vv (.lst (rs.map Yh)),vv (.dct (Vj (fun r=>.int (pl p r fs)) (grd [[]] ss))),c,vv (.lst ((kpF 0 rs).map fun q=>.int q.1)),d,some (.ownD (Vj (fun r=>.int (pl p (Qa9 rs r) fs)) done)),vv (tI row),vv (lI (Qa9 rs row)),e9,e10] g=some (.int (pl p (Qa9 rs row) fs),g):=by
   refine Q1 (a:=.dct (Vj (fun r=>.int (pl p r fs)) (grd [[]] ss))) (b:=tI (Qa9 rs row)) (Qa rfl) (Qay (xs:=(Qa9 rs row).map .int) (Qa rfl) (by simp;exact (Z20 0x1000006611012635016) h3 hfill.length)) ?_;simp only [Vg,Ve,Vf,Qah,Qal,V1,Option.bind_some];exact Qdh (Qau.mpr hfill)
  have hdl:(Vj (fun r=>D.int (pl p (Qa9 rs r) fs)) done).length≤1048576:=by
   simp only [Vj,List.length_map];simp at hl;exact (Z20 0x10000066011000006615170716) hl
  refine eqL (Qk1 (fun hm=>(List.nodup_append.mp hnd).2.2 row hm row (.head _) rfl:row∉done)) ?_;exact Qd v1 (Q4 (V1 _) (Jl (decide_eq_true hdl)))
end
theorem Qii:∀(ss:List Int) (fd:List (List Int)),Bd ss→(grd fd ss).length≤fd.length*4 ^ ss.length
 |[],fd,_=>by simp [Qhn,Qiv]
 |s::ss,fd,hb=>by
  have h1:=Qii ss ((rg1 s).flatMap fun i=>fd.map fun r=>r++[i]) hb.tail;rw [(by simp [List.length_flatMap]:((rg1 s).flatMap fun i=>fd.map fun r=>r++[i]).length=((rg1 s).flatMap fun Y=>fd).length)]at h1;simp only [Qhn,Qiv];refine Nat.le_trans h1 (Nat.le_trans (Nat.mul_le_mul_right _ (Qc1 s fd (hb s (.head _)))) (Nat.le_of_eq ?_));refine eqR (List.length_cons) ?_;rw [Nat.pow_succ,Nat.mul_comm 4,Nat.mul_assoc,Nat.mul_comm 4]
theorem Qfq {ss:List Int}(hb:Bd ss) (hl:ss.length≤3):(grd [[]] ss).length≤64:=by
 have h:=Qii ss [[]] hb;have hpow:4 ^ ss.length≤4 ^ 3:=Nat.pow_le_pow_right (by decide) hl;simp at h;omega
noncomputable def Qz (p:Int) (ss fs:List Int):D:=.tup [.dct (Vj (fun r=>.int (pl p r fs)) (grd [[]] ss)),tI ss]
section
theorem Qra {ss:List Int}(hn:2≤n) (hps:Qew ss rs) (h3:ss.length≤3) (he:fs.length=ss.length) :
  (orc gl sz n).fn "_law_picked" [Qz p ss fs,.lst (rs.map Yh)] g=some (Qz (Q0 p rs fs) (Qr rs) (Q3 rs fs),g):=by
 refine gk fun Ω κ=>?_;have hpl:=hps.length;have hkl:(Qr rs).length≤rs.length:=List.length_filterMap_le _ _;have hbd:=Qli hps;have h64:=Qfq hbd ((Z30 0x35211216012635016) h3 hpl hkl);obtain ⟨d7,d8,d9,d10,h⟩:=Qir (O:=orc gl sz (n-1)) (g:=g) (ss:=ss) (fs:=fs) (p:=p) (rs:=rs) hps h3 (a:=vv (Qz p ss fs)) (c:=vv (tI ss)) (d:=vv (tI (Qr rs))) (grd [[]] (Qr rs)) [] none none none none
  (by simpa using Qh6 _ hbd.nn) (by simp;exact (Z10 0x10000066014026016) h64) (fun r hr=>Qau.mp hr) .none .none .none .none
 have hkp:(kpF 0 rs).length=(Qr rs).length:=by have:=congrArg List.length (Qb7 0 rs);simpa using this
 refine κ ?_;refine Q7 n rfl (by decide) rfl (by decide) ((Z10 353379606) hn) (ρ:=[vv (Qz p ss fs),vv (.lst (rs.map Yh)),vv (.dct (Vj (fun r=>.int (pl p r fs)) (grd [[]] ss))),vv (tI ss),vv (.lst ((kpF 0 rs).map fun q=>.int q.1)),vv (tI (Qr rs)),vv (.dct (Vj (fun r=>.int (pl p (Qa9 rs r) fs)) (grd [[]] (Qr rs)))),d7,d8,d9,d10]) ?_;refine Qc (J5 (g':=g) (ds:=[.dct (Vj (fun r=>.int (pl p r fs)) (grd [[]] ss)),tI ss]) (Qa rfl) (by rfl)) ?_;refine Qc (Qo (g':=g) (d:=.lst ((kpF 0 rs).map fun q=>.int q.1)) ?_ rfl) ?_
 ·rw [←Qch];refine Qil (g:=g) (g1:=g) (e:=fun q=>.tup [.int q.1,Yh q.2]) (h:=fun q=>.int q.1) (p:=fun q=>q.2.m.isSome) (xs:=enF 0 rs) (ρ':=[none,none]) ?_ ?_ (fun q hq=>?_) (by rw [Qfs];exact (Z20 0x1000006611012635016) h3 hpl)
  ·refine eqL (Qql Yh 0 rs) ?_;refine eqL (List.length_map Yh) ?_;exact Qqp (Qa rfl) (by simp;exact (Z20 0x1000006611012635016) h3 hpl:(rs.map Yh).length≤1048576)
  ·rfl
  ·refine ⟨[vv (.int q.1),vv (Yh q.2)],rfl,?_,Qa rfl⟩;obtain ⟨s,hs⟩:=hps.memr _ (Qpq hq).1;have:=Qla (Qad (O:=orc gl sz (n-1)) (ρ:=[vv (.int q.1),vv (Yh q.2)]) (Q1 (a:=Yh q.2) (b:=.int 0) (d:=q.2.pd) (Qec (i:=1) _ _ g rfl) (Qf _ _ g 0) rfl) hs.isInt);refine eqR (this) ?_;cases q.2.m<;>rfl
 refine Qc (Qo (g':=g) (d:=tI (Qr rs)) (Qay (xs:=(Qr rs).map .int) ?_ (by simp;exact (Z30 0x10000066211216012635016) h3 hpl hkl)) rfl) ?_
 ·refine eqL (Ql9 0 rs fun r hr=>(hps.memr r hr).elim fun s h=>h.lsLen) ?_;refine eqR (List.map_map) ?_;refine Ys (g:=g) (g1:=g) (e:=fun q=>.int q.1) (h:=fun q=>.int (q.2.ls.length:Int)) (xs:=kpF 0 rs) (ρ':=[none,some (.cap (.lst (rs.map Yh)))]) ?_ ?_ (fun q hq=>?_) ((Z40 0x100000663123261216012635016) h3 hpl hkl hkp)
  ·exact Yc (.inl (Qa rfl)) (by simp;exact (Z40 0x100000663123261216012635016) h3 hpl hkl hkp)
  ·rfl
  refine ⟨[vv (.int q.1),some (.cap (.lst (rs.map Yh)))],rfl,?_⟩;obtain ⟨s,hs,hq0,hq1⟩:=Qr0 hps q hq;have:=hs.lsBd;refine eqL ((by simp:(q.2.ls.map D.int).length=q.2.ls.length)) ?_;refine Vv (.inl (Q1 (a:=Yh q.2) (b:=.int 1) (Q1 (a:=.lst (rs.map Yh)) (b:=.int q.1) (Yr _ _ _ rfl) (Qa rfl) ?_) (Qf ..) ?_)) (by simp;exact (Z10 0x100000660145016) this)
  ·have h1:rs.length≤1048576:=(Z20 0x1000006611012635016) h3 hpl;simp only [Vg,Ve,Vf,Qah,Qal,List.length_map,List.getElem?_map,hq1];simp [hq0,Qm,h1]
  ·rfl
 refine Qc (Qwo rfl) ?_;refine Qc (Ju (Yc (.inl (Qao (Qa rfl) (Qjp ((Z10 0x150815102516) hn) hbd ((Z30 0x35211216012635016) h3 hpl hkl)))) (by simp;exact (Z10 0x10000066014026016) h64)) h) ?_;refine Qc (Qwy (es:=Vj (fun r=>.int (pl p (Qa9 rs r) fs)) (grd [[]] (Qr rs))) rfl) ?_;refine Qj (Qp ?_);refine (Vi (a:=.dct (Vj (fun r=>.int (pl p (Qa9 rs r) fs)) (grd [[]] (Qr rs)))) (b:=tI (Qr rs)) (Qa rfl) (Qa rfl)).trans ?_;have e:Vj (fun r=>.int (pl p (Qa9 rs r) fs)) (grd [[]] (Qr rs))=Vj (fun r=>.int (pl (Q0 p rs fs) r (Q3 rs fs))) (grd [[]] (Qr rs)):=by
  unfold Vj;refine List.map_congr_left fun r hr=>?_;refine (?_:(r,D.int _)=(r,D.int _));refine eqR (Qgo rs fs r p (by rw [he,hpl]) (Qau.mp hr).length) ?_;rfl
 refine eqR (e) ?_;rfl
end
theorem Qul {x:Int}(h:Qb O e ρ g=some (Ye x,g')):Qb O (.idx e (.int 2)) ρ g=some (.int x,g'):=by
 refine Q1 h (Qf ..) ?_
 rfl
theorem Qfm (p:Int) (ss fs:List Int) (he:fs.length=ss.length):(plc [p] ss fs).length=(grd [[]] ss).length:=by
 rw [V6 p ss fs he];simp
theorem Qxd {ss:List Int}(he:fs.length=ss.length) {q:Int}(h:q∈plc [p] ss fs):∃r,Vd r ss∧q=pl p r fs:=by
 rw [V6 p ss fs he]at h;obtain ⟨r,hr,rfl⟩:=List.mem_map.mp h;exact ⟨r,Qau.mp hr,rfl⟩
section
theorem Qsc {v:D}{ss:List Int}(hn:7≤n) (hv:Lay sz v p ss fs) (F:FOk g (rg N)) (hp:∀r,Vd r ss→0≤pl p r fs∧pl p r fs<N) :
  (orc gl sz n).fn "_law_is_alike" [.hnd .heap,v,Qz p ss fs] g=some (.bool true,g):=by
 have h3:=hv.len;have h64:=Qfq hv.bd h3;have hpl:=Qfm p ss fs hv.eq;have hN:∀q,0≤q∧q<N→atv (rg N) q=q:=fun q hq=>by
  delta atv rg
  refine eqR (List.getD_eq_getElem?_getD) ?_;refine eqR (List.getElem?_map) ?_;refine eqR (List.getElem?_range (by exact (Z02 0x1b0b0103005476) hq)) ?_;dsimp;omega
 have hlN:(rg N).length=N.toNat:=Q9 N;have hq:∀q∈plc [p] ss fs,0≤q∧q<((rg N).length:Int):=fun q hq=>by
  obtain ⟨r,hr,rfl⟩:=Qxd hv.eq hq;have:=hp r hr;exact (Z12 0xa13105470131054760b026) hlN this
 have items:∀{m},6≤m→(orc gl sz m).fn "items_of" [.hnd .heap,v] g=some (.lst ((plc [p] ss fs).map fun q=>Ye (atv (rg N) q)),g):=fun h=>Qgf h hv F hq (by rw [hpl];exact (Z10 0x10000066014026016) h64);have look:∀r∈grd [[]] ss,Qde g (.dct (Vj (fun r=>.int (pl p r fs)) (grd [[]] ss))) (tI r)=some (.int (pl p r fs)):=fun r hr=>by
  simp only [Vg,Ve,Vf,Qah,Qal,V1,Option.bind_some];exact Qdh hr
 refine Q7 n rfl (by decide) rfl (by decide) ((Z10 353400086) hn) (ρ:=[vv (.hnd .heap),vv v,vv (Qz p ss fs),vv (.dct (Vj (fun r=>.int (pl p r fs)) (grd [[]] ss))),vv (tI ss),vv (.lst ((grd [[]] ss).map tI))]) ?_;refine Qc (J5 (g':=g) (ds:=[.dct (Vj (fun r=>.int (pl p r fs)) (grd [[]] ss)),tI ss]) (Qa rfl) (by rfl)) ?_;refine Qc (Qt (g':=g) ?_ (Qh ..)) ?_
 ·refine Qe6 (Qq (t:=false) (Qy (Qa rfl) (Qa rfl) (Jz ((Z10 0x150835107516) hn) hv)) (Qa rfl) ?_) (Qq (t:=false) (Vv (.inl (Qy (Qa rfl) (Qa rfl) (items ((Z10 0x150865107516) hn)))) ?_) (b:=.int (grd [[]] ss).length) ?_ ?_)
  ·simp only [Vw];rw [Qz6];rfl
  ·simp [hpl];exact (Z10 0x10000066014026016) h64
  ·refine Qad (Qa rfl) ?_;simp only [abi,Yct,Yc1,Ya0,Yb1,Yac,Quv,Yho,(by simp [Vj]:(Vj (fun r=>D.int (pl p r fs)) (grd [[]] ss)).length=(grd [[]] ss).length),Qm];refine eqR (if_pos (by simp;exact (Z10 0x10000066014026016) h64)) ?_;rfl
  ·simp [Vw,hpl]
 refine Qc (Qo (g':=g) (d:=.lst ((grd [[]] ss).map tI)) (Qao (Qa rfl) (Qjp ((Z10 0x150815107516) hn) hv.bd h3)) rfl) ?_;have tab:∀(nm:List String) (ρ:Q8) (_:ρ[5]?=some (vv (.lst ((grd [[]] ss).map tI)))) (_:ρ[3]?=some (vv (.dct (Vj (fun r=>.int (pl p r fs)) (grd [[]] ss))))),
   Qb (orc gl sz (n-1)) (.comp (.idx (.var 1) (.var 0)) (.nm 0) (.over (.var 5)) .nil nm [none,some 3]) ρ g=some (lI ((grd [[]] ss).map fun r=>pl p r fs),g):=by
  intro nm ρ h5 h3';have:=Ys (O:=orc gl sz (n-1)) (ρ:=ρ) (g:=g) (g1:=g) (e:=tI) (h:=fun r=>.int (pl p r fs)) (xs:=grd [[]] ss) (elt:=.idx (.var 1) (.var 0)) (t:=.nm 0) (it:=.over (.var 5)) (nm:=nm) (cap:=[none,some 3])
   (ρ':=[none,some (.cap (.dct (Vj (fun r=>.int (pl p r fs)) (grd [[]] ss))))]) (Yc (.inl (Qa h5)) (by simp;exact (Z10 0x10000066014026016) h64)) (Q4 rfl (Q4 (Q4 (congrArg (slV _) h3') rfl) rfl)) (fun r hr=>⟨_,rfl,Q1 (Yr _ _ _ rfl) (Qa rfl) (look r hr)⟩) ((Z10 0x10000066014026016) h64)
  rw [this];simp [Function.comp_def]
 refine Qc (Qt (g':=g) ?_ (Qh ..)) ?_
 ·refine Qq (t:=false) (a:=lI ((grd [[]] ss).map fun r=>pl p r fs)) (b:=lI ((grd [[]] ss).map fun r=>pl p r fs)) (g1:=g) ?_ (tab _ _ rfl rfl) (by simp only [Vw];rw [Qlj];rfl);have:=Ys (O:=orc gl sz (n-1)) (ρ:=[vv (.hnd .heap),vv v,vv (Qz p ss fs),vv (.dct (Vj (fun r=>.int (pl p r fs)) (grd [[]] ss))),vv (tI ss),vv (.lst ((grd [[]] ss).map tI))]) (g:=g) (g1:=g) (e:=fun q=>Ye (atv (rg N) q)) (h:=fun q=>.int (atv (rg N) q)) (xs:=plc [p] ss fs) (elt:=.idx (.var 0) (.int 2)) (t:=.nm 0)
   (it:=.over (.fn "items_of" (.cons (.var 0) (.cons (.var 1) .nil)))) (nm:=["item"]) (cap:=[none]) (ρ':=[none]) (Yc (.inl (Qy (Qa rfl) (Qa rfl) (items ((Z10 0x150865107516) hn)))) (by simp [hpl];exact (Z10 0x10000066014026016) h64)) rfl (fun q hm=>⟨_,rfl,Qul (Qa rfl)⟩) (by rw [hpl];exact (Z10 0x10000066014026016) h64)
  refine Eq.trans this ?_;refine eqL ((V6 p ss fs hv.eq:(plc [p] ss fs)=(grd [[]] ss).map fun r=>pl p r fs)) ?_;refine eqR ((List.map_congr_left fun q hm=>by rw [hN q (by have:=hq q hm;exact (Z12 0x13105470a131054760b026) hlN this)]:(plc [p] ss fs).map (fun q=>D.int (atv (rg N) q))=(plc [p] ss fs).map .int)) ?_;rfl
 refine Qj (Qp ?_);by_cases h0:ss=[]
 ·refine Qgi (Qq (t:=true) (Qa rfl) (b:=.tup []) (g2:=g) (by simp [Qm]) ?_) (by decide);simp only [Vw,Qco,h0,decide_true]
 ·refine Qe6 (Qq (t:=false) (Qa rfl) (b:=.tup []) (g2:=g) (by simp [Qm]) ?_) ?_
  ·simp only [Vw,Qco,decide_eq_false h0]
  refine Qq (t:=true) (a:=lI ((grd [[]] ss).map fun r=>pl p r fs)) (b:=lI ((grd [[]] ss).map fun r=>pl p r fs)) (g1:=g) ?_ (tab _ _ rfl rfl) (by simp only [Vw];rw [Qlj]);have:=Ys (O:=orc gl sz (n-1)) (ρ:=[vv (.hnd .heap),vv v,vv (Qz p ss fs),vv (.dct (Vj (fun r=>.int (pl p r fs)) (grd [[]] ss))),vv (tI ss),vv (.lst ((grd [[]] ss).map tI))]) (g:=g) (g1:=g) (e:=tI) (h:=fun r=>.int (pl p r fs)) (xs:=grd [[]] ss) (elt:=.idx (.fn "item_at" (.cons (.var 1) (.cons (.var 2) (.cons (.var 0) .nil)))) (.int 2)) (t:=.nm 0)
   (it:=.over (.var 5)) (nm:=["row","heap","value"]) (cap:=[none,some 0,some 1]) (ρ':=[none,some (.cap (.hnd .heap)),some (.cap v)]) (Yc (.inl (Qa rfl)) (by simp;exact (Z10 0x10000066014026016) h64)) rfl (fun r hr=>⟨_,rfl,by
    have hb:=hp r (Qau.mp hr);have ha:=Qm3 (gl:=gl) (n:=n-1) (g:=g) ((Z10 0x150865107516) hn) hv F (Qau.mp hr) hb.1 ((Z12 0xa130131054760b026) hlN hb);rw [hN _ hb]at ha;exact Qul (Qea (Yr _ _ _ rfl) (Yr _ _ _ rfl) (Qa rfl) ha)⟩) ((Z10 0x10000066014026016) h64)
  refine Eq.trans this ?_;simp [Function.comp_def]
theorem Qro (e:List Int→D):∀(b:Int) (rs:List (List Int)),Qav [Qbk b rs.length,rs.map e]=(List.zip ((List.range rs.length).map fun (i:Nat)=>b+(i:Int)) rs).map fun q=>.tup [.int q.1,e q.2]
 |b,[]=>rfl
 |b,r::rs=>by
  refine eqR (List.length_cons) ?_;rw [Qek,List.map_cons,Va,Qro e (b+1) rs,List.range_succ_eq_map,List.map_cons,List.map_map,List.zip_cons_cons,List.map_cons]
  congr 1
  ·simp
  ·congr 2
   refine List.map_congr_left fun i Y=>?_;simp only [Function.comp];omega
theorem Qc4 (f:List Int→Int):∀l:List (List Int),List.zip (l.map f) l=l.map fun r=>(f r,r)
 |[]=>rfl
 |a::l=>by simp [Qc4 f l]
theorem Qrk {ss:List Int}(hb:Bd ss) (hl:ss.length≤3) (h4:ρ[i]?=some (vv (.lst ((grd [[]] ss).map tI)))):Jm O (.enum (.var i)) ρ g=some ((grd [[]] ss).map (fun r=>.tup [.int (pl 0 r (stf 1 ss)),tI r]),g):=by
 refine (Qqp (Qa h4) (by simp;exact (Z10 0x10000066014026016) (Qfq hb hl):((grd [[]] ss).map tI).length≤1048576)).trans ?_;have:=Qro tI 0 (grd [[]] ss);rw [List.length_map];refine eqR (this) ?_;have e:((List.range (grd [[]] ss).length).map fun (i:Nat)=>(0:Int)+(i:Int))=(grd [[]] ss).map fun r=>pl 0 r (stf 1 ss):=by
  refine eqR (Vp ss hb.nn) ?_;rw [rg,Js ss hb.nn];simp
 refine eqR (e) ?_;rw [Qc4,List.map_map]
 rfl
theorem Qsp {ss:List Int}(hb:Bd ss) (hl:ss.length≤3) (h4:ρ[4]?=some (vv (.lst ((grd [[]] ss).map tI)))) (h3:ρ[3]?=some (vv (tI ss))) :
  Qb O (.tup (.cons (.bi .dict (.cons (.comp (.tup (.cons (.var 1) (.cons (.var 0) .nil))) (.tup (.cons (.nm 0) (.cons (.nm 1) .nil))) (.enum (.var 4)) .nil ["place","row"] [none,none]) .nil)) (.cons (.var 3) .nil))) ρ g=some (Qz 0 ss (stf 1 ss),g):=by
 have h64:=Qfq hb hl;refine Vi (Qad (a:=.lst ((grd [[]] ss).map fun r=>.tup [tI r,.int (pl 0 r (stf 1 ss))])) ?_ ?_) (Qa h3)
 ·refine Ys (g:=g) (g1:=g) (e:=fun r=>.tup [.int (pl 0 r (stf 1 ss)),tI r]) (h:=fun r=>.tup [tI r,.int (pl 0 r (stf 1 ss))]) (xs:=grd [[]] ss) (ρ':=[none,none]) (Qrk hb hl h4) rfl (fun r hr=>?_) ((Z10 0x10000066014026016) h64);exact ⟨[vv (.int (pl 0 r (stf 1 ss))),vv (tI r)],rfl,Vi (Qa rfl) (Qa rfl)⟩
 ·have:=Qfk (val:=fun r=>.int (pl 0 r (stf 1 ss))) (grd [[]] ss) [] (by simpa using Qh6 ss hb.nn);simp only [abi,Yct,Qz4,Qm,decide_eq_true (by simp;exact (Z10 0x10000066014026016) h64:((grd [[]] ss).map fun r=>D.tup [tI r,D.int (pl 0 r (stf 1 ss))]).length≤1048576),if_true];rw [show Vj (fun r=>D.int (pl 0 r (stf 1 ss))) []=[] from rfl]at this;refine eqR (this) ?_;rfl
end
theorem Qmd (x y:Int):∀l:List Int,ins x (ins y l)=ins y (ins x l)
 |[]=>by
  dsimp only [Qqb,Qpj];split<;>split<;>first|rfl|(exfalso;omega)|(have:x=y:=((Z02 0x10501461046) ‹_› ‹_›);subst this;rfl)
 |z::l=>by
  simp only [Qqb,Qpj];split<;>split<;>simp only [Qqb,Qpj]<;>(repeat' split)<;>first|rfl|(exfalso;omega)|(rw [(Qmd x y l)])|(have:x=y:=((Z02 0x10501461046) ‹_› ‹_›);subst this;rfl)
theorem Qfr {l l':List Int}(h:l.Perm l'):Ja l=Ja l':=by
 induction h with
 |nil=>rfl
 |cons x _ ih=>simp only [Qqj,Qpx,ih]
 |swap x y l=>simp only [Qqj,Qpx];exact Qmd _ _ _
 |trans _ _ ih1 ih2=>exact ih1.trans ih2
theorem Qf8 (x:Int):∀l:List Int,(ins x l).Perm (x::l)
 |[]=>.refl _
 |y::l=>by
  simp only [Qqb,Qpj];split
  ·exact .refl _
  ·exact ((Qf8 x l).cons y).trans (.swap x y l)
theorem Y9:∀l:List Int,(Ja l).Perm l
 |[]=>.refl _
 |x::l=>(Qf8 x _).trans ((Y9 l).cons x)
noncomputable def Qs6 (s:Int):PR:=⟨.none,rg1 s,1,1,some s⟩
noncomputable def Qin (i:Int):PR:=⟨.int i,[i],i,1,none⟩
noncomputable def ways (at' rank s:Int):List PR:=if at'=rank then [Qs6 s] else (rg1 s).map Qin
noncomputable def chs:Int→Int→List (List PR)→List Int→List (List PR)
 |_,_,cs,[]=>cs
 |at',rank,cs,s::ss=>chs (at'+1) rank ((ways at' rank s).flatMap fun w=>cs.map fun c=>c++[w]) ss
theorem Qqe (a r:Int) (cs:List (List PR)):chs a r cs []=cs:=rfl
theorem Qrc (a r:Int) (cs:List (List PR)) (s:Int) (ss:List Int):chs a r cs (s::ss)=chs (a+1) r ((ways a r s).flatMap fun w=>cs.map fun c=>c++[w]) ss:=rfl
noncomputable def tl:Int→Int→List Int→List (List PR)
 |_,_,[]=>[[]]
 |at',rank,s::ss=>(tl (at'+1) rank ss).flatMap fun t=>(ways at' rank s).map fun w=>w::t
theorem Qr6 (a r:Int):tl a r []=[[]]:=rfl
theorem Qr7 (a r s:Int) (ss:List Int):tl a r (s::ss)=(tl (a+1) r ss).flatMap fun t=>(ways a r s).map fun w=>w::t:=rfl
noncomputable def Qu0:List Int→List Int→List Int
 |s::ss,f::fs=>(Qu0 ss fs).flatMap fun o=>(rg s).map fun a=>f*a+o
 |_,_=>[0]
theorem Qf5 (s f:Int) (ss fs:List Int):Qu0 (s::ss) (f::fs)=(Qu0 ss fs).flatMap fun o=>(rg s).map fun a=>f*a+o:=rfl
theorem Qf0 (fs:List Int):Qu0 [] fs=[0]:=rfl
theorem Qfj (s:Int) (ss:List Int):Qu0 (s::ss) []=[0]:=rfl
theorem Qdi:∀(ss fs fd:List Int),plc fd ss fs=(Qu0 ss fs).flatMap fun o=>fd.map fun p=>p+o
 |[],fs,fd=>by simp [Qis,Qh2,Qht,Qf5,Qf0,Qfj]
 |s::ss,[],fd=>by simp [Qis,Qh2,Qht,Qf5,Qf0,Qfj]
 |s::ss,f::fs,fd=>by
  simp only [Qis,Qh2,Qht,Qf5,Qf0,Qfj];rw [Qdi ss fs];refine eqR (List.flatMap_assoc) ?_
  congr 1;funext o
  refine eqR (List.map_flatMap) ?_;rw [List.flatMap_map]
  congr 1;funext a
  refine eqR (List.map_map) ?_;refine List.map_congr_left fun p Y=>?_;simp only [Function.comp];exact (Z03 0x21707210775)
theorem Qvl:∀(ss:List Int) (at' rank:Int) (cs:List (List PR)),chs at' rank cs ss=(tl at' rank ss).flatMap fun t=>cs.map fun c=>c++t
 |[],at',rank,cs=>by simp [Qqe,Qrc,Qr6,Qr7]
 |s::ss,at',rank,cs=>by
  simp only [Qqe,Qrc,Qr6,Qr7];rw [Qvl ss];refine eqR (List.flatMap_assoc) ?_
  congr 1;funext t
  refine eqR (List.map_flatMap) ?_;rw [List.flatMap_map]
  congr 1;funext w
  refine eqR (List.map_map) ?_;refine List.map_congr_left fun c Y=>?_;simp
theorem Qgg (ss:List Int) (at' rank:Int):chs at' rank [[]] ss=tl at' rank ss:=by
 rw [Qvl];simp
theorem Qui:∀{ss:List Int}{at' rank:Int}{t:List PR},Bd ss→t∈tl at' rank ss→Qew ss t
 |[],at',rank,t,_,h=>by
  simp only [Qr6,Qr7,List.mem_singleton]at h;subst h;trivial
 |s::ss,at',rank,t,hb,h=>by
  simp only [Qr6,Qr7,List.mem_flatMap,List.mem_map]at h;obtain ⟨t',ht,w,hw,rfl⟩:=h;have hs:=hb s (.head _);refine ⟨?_,Qui hb.tail ht⟩;unfold ways at hw;split at hw
  ·simp only [List.mem_singleton]at hw;subst hw;exact ⟨hs.2,.all hs⟩
  ·simp only [List.mem_map]at hw;obtain ⟨i,hi,rfl⟩:=hw;exact ⟨hs.2,.one i (Qjl.mp hi)⟩
theorem Qje:∀{ss:List Int}{at' rank:Int}{t:List PR},rank<at'→t∈tl at' rank ss→Qr t=[]
 |[],at',rank,t,_,h=>by
  simp only [Qr6,Qr7,List.mem_singleton]at h;subst h;rfl
 |s::ss,at',rank,t,hr,h=>by
  simp only [Qr6,Qr7,List.mem_flatMap,List.mem_map]at h;obtain ⟨t',ht,w,hw,rfl⟩:=h;have:=Qje ((Z02 90580389942) hr) ht;unfold ways at hw;rw [if_neg (by exact (Z02 22614070) hr)]at hw;simp only [List.mem_map]at hw;obtain ⟨i,hi,rfl⟩:=hw;simpa [Qr,Qin] using this
theorem Qqh:∀{ss:List Int}{at' rank:Int}{t:List PR}{s:Int},at'≤rank→ss[(rank-at').toNat]?=some s→t∈tl at' rank ss→Qr t=[s]
 |[],at',rank,t,s,_,h,_=>by simp at h
 |x::ss,at',rank,t,s,hr,hs,h=>by
  simp only [Qr6,Qr7,List.mem_flatMap,List.mem_map]at h;obtain ⟨t',ht,w,hw,rfl⟩:=h;unfold ways at hw;by_cases e:at'=rank
  ·rw [if_pos e]at hw;simp only [List.mem_singleton]at hw;subst hw;have:=Qje ((Z02 90313003094) e) ht;subst e;rw [show (at'-at').toNat=0 by exact (Z01 5245106)]at hs;simp only [List.getElem?_cons_zero,Option.some.injEq]at hs;subst hs;unfold Qr at this ⊢;simp [Qs6,this]
  ·rw [if_neg e]at hw;simp only [List.mem_map]at hw;obtain ⟨i,hi,rfl⟩:=hw;rw [show (rank-at').toNat=(rank-(at'+1)).toNat+1 by exact (Z02 0x15150718b7018b2105961046) hr e,List.getElem?_cons_succ]at hs;have:=Qqh ((Z02 0x115074105961046) hr e) hs ht;simpa [Qr,Qin] using this
noncomputable def lpl (p:Int) (t:List PR) (fs:List Int):List Int:=plc [Q0 p t fs] (Qr t) (Q3 t fs)
theorem Qq1 (p c:Int) (t:List PR) (fs:List Int):lpl (p+c) t fs=(lpl p t fs).map (·+c):=by
 unfold lpl;rw [Jc,Qdi,Qdi];refine eqR (List.map_flatMap) ?_
 congr 1;funext o
 simp only [List.map_cons,List.map_nil]
 congr 1;exact (Z03 0x12077210775)
theorem Qno {t:List PR}(h:Qr t=[]):Q3 t fs=[]:=by
 induction t generalizing fs with
 |nil=>rfl
 |cons r t ih=>
  cases fs with
  |nil=>rfl
  |cons f fs=>
   cases hm:r.m with
   |none=>simp only [Qb1,Qb2,Qbz,J7,hm,List.nil_append];exact ih (by simpa [Qr,hm] using h)
   |some k=>simp [Qr,hm]at h
theorem Qom:∀(ss fs:List Int) (at' rank p:Int),rank<at'→fs.length=ss.length→(tl at' rank ss).map (fun t=>Q0 p t fs)=(Qu0 ss fs).map (p+·)
 |[],[],at',rank,p,_,_=>by simp [Qr6,Qr7,Qf5,Qf0,Qfj,Je,Jg,Jd]
 |s::ss,f::fs,at',rank,p,hr,hl=>by
  simp only [Qr6,Qr7,Qf5,Qf0,Qfj,List.map_flatMap,List.map_map];unfold ways;simp only [if_neg (show ¬at'=rank by exact (Z02 22614070) hr),List.map_map,rg1,rg];have e1:∀t:List PR,(List.range s.toNat).map (((fun t=>Q0 p t (f::fs)) ∘ fun w=>w::t) ∘ Qin ∘ fun (i:Nat)=>1+(i:Int))=(List.range s.toNat).map fun (i:Nat)=>Q0 p t fs+f*(i:Int):=fun t=>by
   refine List.map_congr_left fun i Y=>?_;simp only [Function.comp,Je,Jg,Jd,Qin];rw [Jc];refine eqR (show (1+(i:Int)-1)=i by exact (Z10 0xa150a15785)) ?_;rw [Int.mul_comm]
  simp only [e1];rw [←List.flatMap_map (f:=fun t=>Q0 p t fs) (g:=fun v=>(List.range s.toNat).map fun (i:Nat)=>v+f*(i:Int))];refine eqR ((Qom ss fs (at'+1) rank p ((Z02 90580389942) hr) (by simpa using hl))) ?_;rw [List.flatMap_map]
  congr 1;funext o
  refine List.map_congr_left fun i Y=>?_;simp only [Function.comp];exact (Z03 0x12707210775)
 |[],_::_,_,_,_,_,h=>by simp at h
 |_::_,[],_,_,_,_,h=>by simp at h
theorem Jp {α β:Type}(g:α→β) (h:α→List β):∀B:List α,(B.flatMap fun b=>g b::h b).Perm (B.map g++B.flatMap h)
 |[]=>.refl _
 |b::B=>by
  simp only [List.flatMap_cons,List.map_cons,List.cons_append];refine List.Perm.cons _ ?_;refine ((Jp g h B).append_left _).trans ?_;rw [←List.append_assoc,←List.append_assoc];exact List.perm_append_comm.append_right _
theorem Qh5 {α β γ:Type}(f:α→β→γ) (B:List β):∀A:List α,(A.flatMap fun a=>B.map (f a)).Perm (B.flatMap fun b=>A.map fun a=>f a b)
 |[]=>by simp
 |a::A=>by
  simp only [List.flatMap_cons,List.map_cons];exact ((Qh5 f B A).append_left _).trans (Jp (fun b=>f a b) (fun b=>A.map fun a=>f a b) B).symm
theorem Qc8 {α β:Type}{f g:α→List β}:∀{l:List α},(∀a∈l,(f a).Perm (g a))→(l.flatMap f).Perm (l.flatMap g)
 |[],_=>.refl _
 |a::l,h=>by
  simp only [List.flatMap_cons];exact (h a (.head _)).append (Qc8 fun x hx=>h x (.tail _ hx))
theorem Qhw (f:α→List β) {l l':List α}(h:l.Perm l'):(l.flatMap f).Perm (l'.flatMap f):=by
 induction h with
 |nil=>exact .refl _
 |cons x _ ih=>simp only [List.flatMap_cons];exact ih.append_left _
 |swap x y l=>simp only [List.flatMap_cons,←List.append_assoc];exact List.perm_append_comm.append_right _
 |trans _ _ a b=>exact a.trans b
theorem Qfy:∀(ss fs:List Int) (at' rank p:Int),at'≤rank→rank<at'+ss.length→fs.length=ss.length→((tl at' rank ss).flatMap fun t=>lpl p t fs).Perm ((Qu0 ss fs).map (p+·))
 |[],[],at',rank,p,h1,h2,_=>by simp at h2;exact ((Z02 0xa01361046) h1 h2).elim
 |s::ss,f::fs,at',rank,p,h1,h2,hl=>by
  have hl':fs.length=ss.length:=by simpa using hl
  simp only [Qr6,Qr7,Qf5,Qf0,Qfj,List.map_flatMap,List.map_map,List.flatMap_assoc,List.flatMap_map];unfold ways;by_cases e:at'=rank
  ·simp only [if_pos e,List.flatMap_cons,List.flatMap_nil,List.append_nil];have ih:=Qom ss fs (at'+1) rank p ((Z02 90313003094) e) hl';have e1:(tl (at'+1) rank ss).flatMap (fun t=>lpl p (Qs6 s::t) (f::fs))=(tl (at'+1) rank ss).flatMap fun t=>(rg s).map fun a=>Q0 p t fs+f*a:=by
    refine eqR (List.flatMap_def) ?_;refine eqR (List.flatMap_def) ?_
    congr 1
    refine List.map_congr_left fun t ht=>?_;have hk:=Qje ((Z02 90313003094) e) ht;unfold Qr at hk;simp only [lpl,Je,Jg,Jd,Qr,Qs6,Qb1,Qb2,Qbz,J7,(Qno (fs:=fs) hk),List.filterMap_cons,hk,List.append_nil,Qis,Qh2,Qht,List.map_cons,List.map_nil];refine eqR (show p+(1-1)*f=p by simp) ?_;rw [Int.one_mul,List.map_eq_flatMap]
   refine eqR (e1) ?_;rw [←List.flatMap_map (f:=fun t=>Q0 p t fs) (g:=fun v=>(rg s).map fun a=>v+f*a),ih,List.flatMap_map];refine List.Perm.of_eq ?_
   congr 1;funext o
   refine List.map_congr_left fun a Y=>?_;simp only [Function.comp];exact (Z03 0x12707210775)
  ·simp only [if_neg e,List.flatMap_map];have ih:=Qfy ss fs (at'+1) rank p ((Z02 0x115074105961046) h1 e) (by simp only [List.length_cons]at h2;exact (Z12 0xa15177031507a17036) h2) hl';have e1:∀t:List PR,((rg1 s).flatMap fun i=>lpl p (Qin i::t) (f::fs))=(rg s).flatMap fun a=>(lpl p t fs).map (·+f*a):=fun t=>by
    rw [rg1,rg,List.flatMap_map,List.flatMap_map]
    congr 1;funext i
    have:lpl p (Qin (1+(i:Int))::t) (f::fs)=lpl (p+(1+(i:Int)-1)*f) t fs:=by
     rfl
    refine eqR (this) ?_;rw [Qq1,show (1+(i:Int)-1)=i by exact (Z10 0xa150a15785),Int.mul_comm]
   simp only [e1];refine (Qc8 fun t Y=>Qh5 (fun a v=>v+f*a) (lpl p t fs) (rg s)).trans ?_;refine eqL (List.flatMap_assoc) ?_;refine (Qhw (fun v=>(rg s).map fun a=>v+f*a) ih).trans (List.Perm.of_eq ?_);rw [List.flatMap_map]
   congr 1;funext o
   refine List.map_congr_left fun a Y=>?_;simp only [Function.comp];exact (Z03 0x12707210775)
 |[],_::_,_,_,_,_,_,h=>by simp at h
 |_::_,[],_,_,_,_,_,h=>by simp at h
theorem Qn7 (ss fs:List Int) (rank:Int) (h0:0≤rank) (h1:rank<ss.length) (he:fs.length=ss.length):((chs 0 rank [[]] ss).flatMap fun t=>lpl 0 t fs).Perm (plc [0] ss fs):=by
 rw [Qgg];refine (Qfy ss fs 0 rank 0 h0 ((Z11 0xa057030a036) h1) he).trans (List.Perm.of_eq ?_);rw [Qdi];simp [List.map_eq_flatMap]
theorem Qk7 {ss:List Int}{s:Int}{t:List PR}(hb:Bd ss) (h0:0≤rank) (hs:ss[rank.toNat]?=some s) (he:fs.length=ss.length) (ht:t∈chs 0 rank [[]] ss):((lpl 0 t fs).length:Int)=s:=by
 rw [Qgg]at ht;unfold lpl;refine eqR (Qfm _ _ _ (Vx t fs (by rw [he,(Qui hb ht).length]))) ?_;refine eqR ((Qqh h0 (by simpa using hs) ht)) ?_;have:=hb s (List.mem_of_getElem? hs);simp only [Qhn,Qiv,List.length_flatMap,List.map_cons,List.map_nil,List.length_cons,List.length_nil,List.map_const',List.sum_replicate_nat,Jq];omega
noncomputable def pdL (c:List PR):D:=.lst (c.map (·.pd))
theorem Qlk {a r s:Int}(hs:0≤s∧s≤4):(ways a r s).length≤4:=by
 unfold ways;split
 ·simp
 ·rw [List.length_map,Jq];exact (Z01 0x450b14504005476) hs
section
theorem Ql3 {rank:Int}:∀(ss:List Int) (at':Int) (cs:List (List PR)) (a b d c5 c6 c7:Option B),NC c5→NC c6→NC c7→Bd ss→cs.length*4 ^ ss.length≤1048576→(∀c∈cs,c.length+ss.length≤1000)→∃d5 d6 d7,
  J4 (Qbd O (.tup (.cons (.nm 5) (.cons (.nm 6) .nil))) (.cons (.asg (.nm 7) (.ite (.cmp .eq (.var 5) (.var 2)) (.lst (.cons .none .nil)) (.bi .listR (.cons (.int 1) (.cons (.bin .add (.var 6) (.int 1)) .nil))))) (.cons (.asg (.nm 4) (.comp2 (.bin .add (.var 1) (.lst (.cons (.var 0) .nil))) (.nm 0) (.over (.var 7)) (.nm 1) (.over (.var 2)) ["way","parts","chosen"] [none,none,some 4])) .nil)))
   (Qav [Qbk at' ss.length,ss.map .int]) [a,b,vv (.int rank),d,vv (.lst (cs.map pdL)),c5,c6,c7] g=some (.nxt,[a,b,vv (.int rank),d,vv (.lst ((chs at' rank cs ss).map pdL)),d5,d6,d7],g)
 |[],at',cs,a,b,d,c5,c6,c7,_,_,_,_,_,_=>⟨c5,c6,c7,rfl⟩
 |s::ss,at',cs,a,b,d,c5,c6,c7,n5,n6,n7,hb,hk,hr=>by
  have hs:=hb s (.head _);have hw:=Qlk (a:=at') (r:=rank) hs;have hpow:1≤4 ^ ss.length:=Nat.pow_pos (by decide);rw [List.length_cons,Nat.pow_succ]at hk;have hk1:4*cs.length*4 ^ ss.length≤1048576:=by rw [show 4*cs.length*4 ^ ss.length=cs.length*(4 ^ ss.length*4) by rw [Nat.mul_comm 4,Nat.mul_assoc,Nat.mul_comm 4]];exact hk
  have hk2:4*cs.length≤1048576:=Nat.le_trans (Nat.le_mul_of_pos_right _ hpow) hk1;have hll:((ways at' rank s).flatMap fun w=>cs.map fun c=>c++[w]).length≤4*cs.length:=by
   simp only [List.length_flatMap,List.length_map,List.map_const',List.sum_replicate_nat];exact Nat.mul_le_mul_right _ hw
  obtain ⟨d5,d6,d7,h⟩:=Ql3 ss (at'+1) ((ways at' rank s).flatMap fun w=>cs.map fun c=>c++[w]) a b d (vv (.int at')) (vv (.int s)) (vv (pdL (ways at' rank s))) (.vv _) (.vv _) (.vv _) hb.tail
   (Nat.le_trans (Nat.mul_le_mul_right _ hll) hk1) (fun r hm=>by
    simp only [List.mem_flatMap,List.mem_map]at hm;obtain ⟨w,_,c,hc,rfl⟩:=hm;have:=hr c hc;simp only [List.length_cons,List.length_append,List.length_nil]at this ⊢;exact (Z20 0x3e83611505707713e83615170716) this)
  refine ⟨d5,d6,d7,?_⟩;refine eqR (List.length_cons) ?_;rw [Qek,List.map_cons,Va];refine Yb (ρ':=[a,b,vv (.int rank),d,vv (.lst (((ways at' rank s).flatMap fun w=>cs.map fun c=>c++[w]).map pdL)),vv (.int at'),vv (.int s),vv (pdL (ways at' rank s))]) (g':=g) ?_ (by simpa [Qqe,Qrc] using h);refine Vh (ρ1:=[a,b,vv (.int rank),d,vv (.lst (cs.map pdL)),vv (.int at'),vv (.int s),c7]) (Vn (Vb (i:=5) (ρ:=[a,b,vv (.int rank),d,vv (.lst (cs.map pdL)),c5,c6,c7]) rfl n5) (Vn (Vb (i:=6) (ρ:=[a,b,vv (.int rank),d,vv (.lst (cs.map pdL)),vv (.int at'),c6,c7]) rfl n6) rfl)) ?_;refine Qc (g':=g) (Qo (g':=g) (d:=pdL (ways at' rank s)) ?_ (Vb (c:=c7) rfl n7)) ?_
  ·unfold ways;by_cases e:at'=rank
   ·refine eqR (if_pos e) ?_;refine Yy (Qq (t:=true) (Qa rfl) (Qa rfl) (by simp [Vw,e])) ?_;exact Qcp (Qat ..)
   ·refine eqR (if_neg e) ?_;refine Yt (Qq (t:=false) (Qa rfl) (Qa rfl) (by simp [Vw,e])) ?_;refine (Qmi (s:=s) (g1:=g) (Qk (Qa rfl) (Qf ..) rfl) hs.1 ((Z01 0x10000066044504005476) hs)).trans ?_;simp [pdL,Qin,Function.comp_def]
  refine Qc (Qo (d:=.lst (((ways at' rank s).flatMap fun w=>cs.map fun c=>c++[w]).map pdL)) ?_ rfl) (Qh ..);have:=Qdj (O:=O) (ρ:=[a,b,vv (.int rank),d,vv (.lst (cs.map pdL)),vv (.int at'),vv (.int s),vv (pdL (ways at' rank s))]) (g:=g) (g1:=g) (xs:=ways at' rank s) (e:=(·.pd)) (e2:=fun Y c=>pdL c) (ys:=fun Y=>cs) (h:=fun w c=>pdL (c++[w]))
   (elt:=.bin .add (.var 1) (.lst (.cons (.var 0) .nil))) (t₁:=.nm 0) (t₂:=.nm 1) (it₁:=.over (.var 7)) (it₂:=.over (.var 2)) (nm:=["way","parts","chosen"]) (cap:=[none,none,some 4])
   (ρ':=[none,none,some (.cap (.lst (cs.map pdL)))]) (Yc (.inl (Qa rfl)) (by simp;exact (Z10 0x100000660145016) hw)) rfl (fun x hx=>⟨_,rfl,Yc (.inl (Yr _ _ _ rfl)) (by simp;exact (Z10 0x10000066011000006604e16) hk2),fun r hm=>⟨_,rfl,?_⟩⟩) ?_
  ·refine Eq.trans this ?_;simp [List.map_flatMap,Function.comp_def]
  ·refine Qk (Qa rfl) (Qcp (Qa rfl)) ?_;have:r.length≤1048576:=(Z20 0x10000066013e83610716) (hr r hm)
   simp [Qc9,pdL,Qm,this]
  ·have:((ways at' rank s).flatMap fun Y=>cs).length=((ways at' rank s).flatMap fun w=>cs.map fun c=>c++[w]).length:=by simp [List.length_flatMap]
   exact (Z30 0x1000006621122604e1161000006604e16) hk2 hll this
end
theorem Qhg {rank:Int}:∀(ss:List Int) (at':Int) (cs:List (List PR)),Bd ss→(chs at' rank cs ss).length≤cs.length*4 ^ ss.length
 |[],at',cs,_=>by simp [Qqe,Qrc]
 |s::ss,at',cs,hb=>by
  have hll:((ways at' rank s).flatMap fun w=>cs.map fun c=>c++[w]).length≤4*cs.length:=by
   simp only [List.length_flatMap,List.length_map,List.map_const',List.sum_replicate_nat];exact Nat.mul_le_mul_right _ (Qlk (a:=at') (r:=rank) (hb s (.head _)))
  simp only [Qqe,Qrc];refine Nat.le_trans (Qhg (rank:=rank) ss (at'+1) ((ways at' rank s).flatMap fun w=>cs.map fun c=>c++[w]) hb.tail) (Nat.le_trans (Nat.mul_le_mul_right _ hll) (Nat.le_of_eq ?_));refine eqR (List.length_cons) ?_;rw [Nat.pow_succ,Nat.mul_comm 4,Nat.mul_assoc,Nat.mul_comm 4]
theorem Qvc {ss:List Int}(hb:Bd ss) (hl:ss.length≤3):(chs 0 rank [[]] ss).length≤64:=by
 have h:=Qhg (rank:=rank) ss 0 [[]] hb;have hpow:4 ^ ss.length≤4 ^ 3:=Nat.pow_le_pow_right (by decide) hl;simp at h;omega
section
theorem Qs2 {v:D}{ss:List Int}(hn:6≤n) (hv:Lay sz v p ss fs) :
  (orc gl sz n).fn "line_views" [.hnd .heap,v,.int rank] g=some (.lst ((chs 0 rank [[]] ss).map fun c=>Qdd (Q0 p c fs) (Qr c) (Q3 c fs)),g):=by
 refine gk fun Ω κ=>?_;have h3:=hv.len;have hpow:4 ^ ss.length≤4 ^ 3:=Nat.pow_le_pow_right (by decide) h3;have h64:=Qvc (rank:=rank) hv.bd h3;obtain ⟨d5,d6,d7,h⟩:=Ql3 (O:=orc gl sz (n-1)) (g:=g) (rank:=rank) ss 0 [[]] (vv (.hnd .heap)) (vv v) (vv (tI ss)) none none none .none .none .none hv.bd (by simp;omega) (by simp;exact (Z10 0x3e8360135016) h3);refine κ ?_;refine Q7 n rfl (by decide) rfl (by decide) ((Z10 353395990) hn) (ρ:=[vv (.hnd .heap),vv v,vv (.int rank),vv (tI ss),vv (.lst ((chs 0 rank [[]] ss).map pdL)),d5,d6,d7]) ?_;refine Qc (Qo (g':=g) (d:=tI ss) (Qy (Qa rfl) (Qa rfl) (Jz ((Z10 0x150835106516) hn) hv)) rfl) ?_;refine Qc (Qo (g':=g) (d:=.lst [.lst []]) (Qcp (by rfl)) rfl) ?_;refine Qc (Ju (g':=g) (ds:=Qav [Qbk 0 ss.length,ss.map .int]) ?_ h) ?_
 ·have q:=Qsn (xs:=ss.map .int) (e:=.var 3) (O:=orc gl sz (n-1)) (g:=g) (ρ:=[vv (.hnd .heap),vv v,vv (.int rank),vv (tI ss),vv (.lst [.lst []]),none,none,none]) rfl (by rw [List.length_map];exact ((Z10 0x100000660135016) h3:ss.length≤1048576));rw [List.length_map]at q;exact q
 refine Qj (Qp ?_);have:=Ys (O:=orc gl sz (n-1)) (ρ:=[vv (.hnd .heap),vv v,vv (.int rank),vv (tI ss),vv (.lst ((chs 0 rank [[]] ss).map pdL)),d5,d6,d7]) (g:=g) (g1:=g) (e:=pdL) (h:=fun c=>Qdd (Q0 p c fs) (Qr c) (Q3 c fs)) (xs:=chs 0 rank [[]] ss)
  (elt:=.fn "view_of" (.cons (.var 1) (.cons (.var 2) (.cons (.var 0) .nil)))) (t:=.nm 0) (it:=.over (.var 4)) (nm:=["parts","heap","value"]) (cap:=[none,some 0,some 1]) (ρ':=[none,some (.cap (.hnd .heap)),some (.cap v)])
  (Yc (.inl (Qa rfl)) (by simp;exact (Z10 0x10000066014026016) h64)) rfl (fun c hc=>⟨_,rfl,Qea (Yr _ _ _ rfl) (Yr _ _ _ rfl) (Qa rfl) (Qop ((Z10 0x150855106516) hn) hv (Qui hv.bd (by rw [←Qgg];exact hc)))⟩) ((Z10 0x10000066014026016) h64)
 exact this
structure QR where
 pd:D
 tk:D
 ed:Int
variable {qs:List QR}
inductive QBad (size:Int):QR→Prop
 |int (p:Int):¬(1≤p∧p≤size)→QBad size ⟨.int p,.none,p⟩
 |tup (f s m e:Int):0<m→-4≤s∧s≤4→¬((1≤f∧f≤size)∧1≤f+s*(m-1)∧f+s*(m-1)≤size)→e=(if (1≤f∧f≤size)∧¬(1≤f+s*(m-1)∧f+s*(m-1)≤size) then f+s*(m-1) else f)→QBad size ⟨.tup [.int f,.int s,.int m],.none,e⟩
noncomputable def Qg6 (s:Int):QR:=⟨.none,.tup [.int 1,.int 1,.int s],1⟩
noncomputable def QOk (s:Int) (q:QR):Prop:=q=Qg6 s∨QBad s q
theorem Ycp {a b:CE}{x y:Int}(h1:Qb O a ρ g=some (.int x,g)) (h2:Qb O b ρ g=some (.int y,g)):Qb O (.cmp2 .le .le (.int 1) a b) ρ g=some (.bool (decide (1≤x∧x≤y)),g):=by
 by_cases h:1≤x
 ·refine (Qel (Qf ..) h1 (by simp [Vw,h]) h2 rfl).trans ?_;simp [h]
 ·refine (Qoo (Qf ..) h1 (by simp [Vw,h])).trans ?_;simp [h]
theorem Qy9 {s:Int}{q:QR}(hn:1≤n) (h:QOk s q):(orc gl sz n).fn "taken_row" [q.pd,.int s] g=some (q.tk,g):=by
 rcases h with rfl|h
 ·refine Q7 n rfl (by decide) rfl (by decide) ((Z10 353375510) hn) (ρ:=[vv .none,vv (.int s),none,none,none,none]) ?_;exact Qj (V8 (Qag (Qa rfl) rfl) (Qj (Qp (V5 (Qf ..) (Qf ..) (Qa rfl)))))
 cases h with
 |int p hp=>
  refine Q7 n rfl (by decide) rfl (by decide) ((Z10 353375510) hn) (ρ:=[vv (.int p),vv (.int s),none,none,none,none]) ?_;refine Qc (Qt (Qag (Qa rfl) rfl) (Qh ..)) ?_;have h1:Qb (orc gl sz (n-1)) (.cmp2 .le .le (.int 1) (.var 0) (.var 1)) [vv (.int p),vv (.int s),none,none,none,none] g=some (.bool false,g):=by
   refine eqR (Ycp (Qa rfl) (Qa rfl)) ?_;refine eqR (decide_eq_false hp) ?_;rfl
  exact Qj (V8 (Qad (Qa rfl) rfl) (Qj (Qp (Yt h1 (Qat ..)))))
 |tup f st m e h1 h2 h3 h4=>
  refine Q7 n rfl (by decide) rfl (by decide) ((Z10 353375510) hn) (ρ:=[vv (.tup [.int f,.int st,.int m]),vv (.int s),vv (.int f),vv (.int st),vv (.int m),vv (.int (f+st*(m-1)))]) ?_;refine Qc (Qt (Qag (Qa rfl) rfl) (Qh ..)) ?_;refine Qc (Qt (Qad (Qa rfl) rfl) (Qh ..)) ?_;refine Qc (J5 (g':=g) (ds:=[.int f,.int st,.int m]) (Qa rfl) rfl) ?_;refine Qc (Qt (g':=g) (Qq (t:=false) (Qa rfl) (Qf ..) (df ((Z01 0x504900536) h1:¬(m≤0)))) (Qh ..)) ?_;refine Qc (Qo (g':=g) (d:=.int (f+st*(m-1))) (Qk (Qa rfl) (Qk (d:=.int (st*(m-1))) (Qa rfl) (Qk (Qa rfl) (Qf ..) rfl) (Qbi (Yo (by omega):Q2 st=true))) rfl) rfl) ?_;have t1:Qb (orc gl sz (n-1)) (.cmp2 .le .le (.int 1) (.var 2) (.var 1)) [vv (.tup [.int f,.int st,.int m]),vv (.int s),vv (.int f),vv (.int st),vv (.int m),vv (.int (f+st*(m-1)))] g=some (.bool (decide (1≤f∧f≤s)),g):=Ycp (Qa rfl) (Qa rfl);have t2:Qb (orc gl sz (n-1)) (.cmp2 .le .le (.int 1) (.var 5) (.var 1)) [vv (.tup [.int f,.int st,.int m]),vv (.int s),vv (.int f),vv (.int st),vv (.int m),vv (.int (f+st*(m-1)))] g=some (.bool (decide (1≤f+st*(m-1)∧f+st*(m-1)≤s)),g):=Ycp (Qa rfl) (Qa rfl);refine Qj (Qp (Yt (g1:=g) ?_ (Qat ..)));by_cases hf:1≤f∧f≤s
  ·rw [decide_eq_true hf]at t1;rw [decide_eq_false (fun h=>h3 ⟨hf,h⟩)]at t2;exact Qe6 t1 t2
  ·rw [decide_eq_false hf]at t1;exact Qgi t1 (by decide)
theorem Qva {a b c:CE}{u:Bool}(h1:Qb O a ρ g=some (.bool true,g)) (h2:Qb O b ρ g=some (.bool true,g)) (h3:Qb O c ρ g=some (.bool u,g)):Qb O (.bop3 true a b c) ρ g=some (.bool u,g):=by
 exact Qd h1 (Qd h2 (Qd h3 rfl))
theorem Qsq {a b c:CE}(h1:Qb O a ρ g=some (.bool true,g)) (h2:Qb O b ρ g=some (.bool false,g)):Qb O (.bop3 true a b c) ρ g=some (.bool false,g):=by
 exact Qd h1 (Qd h2 rfl)
theorem Qw0 {f st m s:Int}(hn:1≤n) (h1:0<m) (h2:-4≤st∧st≤4):(orc gl sz n).fn "edge_of" [.tup [.int f,.int st,.int m],.int s] g=some (.int (if (1≤f∧f≤s)∧¬(1≤f+st*(m-1)∧f+st*(m-1)≤s) then f+st*(m-1) else f),g):=by
 refine Q7 n rfl (by decide) rfl (by decide) ((Z10 353375510) hn) (ρ:=[vv (.tup [.int f,.int st,.int m]),vv (.int s),vv (.int f),vv (.int st),vv (.int m),vv (.int (f+st*(m-1)))]) ?_;refine Qc (J5 (g':=g) (ds:=[.int f,.int st,.int m]) (Qa rfl) rfl) ?_;refine Qc (Qo (g':=g) (d:=.int (f+st*(m-1))) (Qk (Qa rfl) (Qk (d:=.int (st*(m-1))) (Qa rfl) (Qk (Qa rfl) (Qf ..) rfl) (Qbi (Yo (by omega):Q2 st=true))) rfl) rfl) ?_;have t0:Qb (orc gl sz (n-1)) (.cmp .gt (.var 4) (.int 0)) [vv (.tup [.int f,.int st,.int m]),vv (.int s),vv (.int f),vv (.int st),vv (.int m),vv (.int (f+st*(m-1)))] g=some (.bool true,g):=Qq (Qa rfl) (Qf ..) (by simp [Vw,h1]);have t1:Qb (orc gl sz (n-1)) (.cmp2 .le .le (.int 1) (.var 2) (.var 1)) [vv (.tup [.int f,.int st,.int m]),vv (.int s),vv (.int f),vv (.int st),vv (.int m),vv (.int (f+st*(m-1)))] g=some (.bool (decide (1≤f∧f≤s)),g):=Ycp (Qa rfl) (Qa rfl);have t2:Qb (orc gl sz (n-1)) (.not (.cmp2 .le .le (.int 1) (.var 5) (.var 1))) [vv (.tup [.int f,.int st,.int m]),vv (.int s),vv (.int f),vv (.int st),vv (.int m),vv (.int (f+st*(m-1)))] g=some (.bool (!decide (1≤f+st*(m-1)∧f+st*(m-1)≤s)),g):=Qla (Ycp (Qa rfl) (Qa rfl));refine Qj (Qp ?_);by_cases hf:1≤f∧f≤s
 ·rw [decide_eq_true hf]at t1;by_cases hl:1≤f+st*(m-1)∧f+st*(m-1)≤s
  ·rw [decide_eq_true hl]at t2;refine eqR (if_neg (fun h=>h.2 hl)) ?_;exact Yt (Qva t0 t1 t2) (Qa rfl)
  ·rw [decide_eq_false hl]at t2;refine eqR (if_pos ⟨hf,hl⟩) ?_;exact Yy (Qva t0 t1 t2) (Qa rfl)
 ·rw [decide_eq_false hf]at t1;refine eqR (if_neg (fun h=>hf h.1)) ?_;exact Yt (Qsq t0 t1) (Qa rfl)
end
variable {qs:List QR}
noncomputable def Qdl:List Int→List QR→Prop
 |[],[]=>True
 |s::ss,q::qs=>QOk s q∧Qdl ss qs
 |_,_=>False
theorem Qdl.length:∀{ss:List Int}{qs:List QR},Qdl ss qs→qs.length=ss.length
 |[],[],_=>rfl
 |_::_,_::_,h=>by simp [Qdl.length h.2]
 |[],_::_,h=>h.elim
 |_::_,[],h=>h.elim
theorem Qdl.mem:∀{ss:List Int}{qs:List QR},Qdl ss qs→∀p∈qs.zip ss,QOk p.2 p.1
 |[],[],_,p,h=>by simp at h
 |s::ss,r::rs,h,p,hp=>by
  rw [List.zip_cons_cons]at hp;rcases List.mem_cons.mp hp with rfl|hp
  ·exact h.1
  ·exact Qdl.mem h.2 p hp
 |[],_::_,h,_,_=>h.elim
 |_::_,[],h,_,_=>h.elim
theorem Qdl.good:∀ss:List Int,Qdl ss (ss.map Qg6)
 |[]=>trivial
 |s::ss=>⟨.inl rfl,Qdl.good ss⟩
theorem Qdl.set:∀{ss:List Int}{qs:List QR}{k:Nat}{q:QR}{s:Int},Qdl ss qs→ss[k]?=some s→QBad s q→Qdl ss (qs.set k q)
 |[],[],k,q,s,_,h,_=>by simp at h
 |x::ss,y::qs,0,q,s,h,hs,hq=>by
  simp only [List.getElem?_cons_zero,Option.some.injEq]at hs;subst hs;exact ⟨.inr hq,h.2⟩
 |x::ss,y::qs,k+1,q,s,h,hs,hq=>⟨h.1,Qdl.set h.2 (by simpa using hs) hq⟩
 |[],_::_,_,_,_,h,_,_=>h.elim
 |_::_,[],_,_,_,h,_,_=>h.elim
theorem Qnk:∀{qs:List QR}{ss:List Int},Qdl ss qs→(∃q∈qs,∃s,QBad s q)→ain .none (.lst (qs.map (·.tk)))=some true:=by
 have key:∀{qs:List QR} {ss:List Int},Qdl ss qs→∃ps,A3 (Vz (qs.map (·.tk))=some ps) (PyData.canLayAll0 ps=true) ((∃q∈qs,∃s,QBad s q)→(ps.any fun y=>PyData.eqv y .none)=true):=by
  intro qs
  induction qs with
  |nil=>intro ss _;exact ⟨[],rfl,rfl,by simp⟩
  |cons q qs ih=>
   intro ss h;cases ss with
   |nil=>exact h.elim
   |cons s ss=>
    obtain ⟨ps,a1,a2,a3⟩:=ih h.2;rcases h.1 with rfl|hb
    ·refine ⟨.tuple [.int 1,.int 1,.int s]::ps,by simp [Vz,Qab,Qg6,a1],by simp [PyData.canLayAll0,PyData.canLay0,a2],?_⟩;rintro ⟨q,hq,s',hb⟩;rcases List.mem_cons.mp hq with rfl|hq
     ·exact nomatch hb
     ·refine eqR (List.any_cons) ?_;rw [a3 ⟨q,hq,s',hb⟩,Bool.or_true]
    ·exact ⟨.none::ps,by simp [Vz,Qab,(by cases hb<;>rfl:q.tk=.none),a1],by simp [PyData.canLayAll0,PyData.canLay0,a2],fun Y=>by rfl⟩
 intro qs ss h hb;obtain ⟨ps,a1,a2,a3⟩:=key h;unfold ain;simp only [Qab,a1];refine eqR (if_pos (by rw [a2];decide)) ?_;refine eqR (a3 hb) ?_;rfl
section
theorem Qpo {O:Orc}(ht:∀{f st m s:Int},0<m→-4≤st∧st≤4→O.fn "edge_of" [.tup [.int f,.int st,.int m],.int s] g=some (.int (if (1≤f∧f≤s)∧¬(1≤f+st*(m-1)∧f+st*(m-1)≤s) then f+st*(m-1) else f),g)) :
  ∀(ss:List Int) (qs:List QR) (acc:List Int) (a b c3 c4:Option B),Qdl ss qs→NC c3→NC c4→acc.length+ss.length≤1000→∃d3 d4,
  J4 (Qbd O (.tup (.cons (.nm 3) (.cons (.nm 4) .nil))) (.cons (.ifS (.isN false (.var 3)) (.cons (.app 2 (.int 1)) .nil) (.cons (.app 2 (.ite (.bi .isInt (.cons (.var 3) .nil)) (.var 3) (.fn "edge_of" (.cons (.var 3) (.cons (.var 4) .nil))))) .nil)) .nil))
   (Qav [qs.map (·.pd),ss.map .int]) [a,b,some (.own (acc.map .int)),c3,c4] g=some (.nxt,[a,b,some (.own ((acc++qs.map (·.ed)).map .int)),d3,d4],g)
 |[],[],acc,a,b,c3,c4,_,_,_,_=>⟨c3,c4,by rw [show ([]:List QR).map (·.ed)=[] from rfl,List.append_nil];rfl⟩
 |s::ss,q::qs,acc,a,b,c3,c4,h,n3,n4,hl=>by
  simp only [List.length_cons]at hl;obtain ⟨d3,d4,hr⟩:=Qpo ht ss qs (acc++[q.ed]) a b (vv q.pd) (vv (.int s)) h.2 (.vv _) (.vv _) (by simp;exact (Z20 0x3e83611507713e83615170716) hl);refine ⟨d3,d4,?_⟩;simp only [List.map_cons,Va];refine Yb (ρ':=[a,b,some (.own ((acc++[q.ed]).map .int)),vv q.pd,vv (.int s)]) (g':=g) ?_ (by simpa using hr);refine Vh (ρ1:=[a,b,some (.own (acc.map .int)),vv q.pd,vv (.int s)]) (Vn (Vb (i:=3) (ρ:=[a,b,some (.own (acc.map .int)),c3,c4]) rfl n3) (Vn (Vb (i:=4) (ρ:=[a,b,some (.own (acc.map .int)),vv q.pd,c4]) rfl n4) rfl)) ?_;refine Qc (g':=g) (ρ':=[a,b,some (.own ((acc++[q.ed]).map .int)),vv q.pd,vv (.int s)]) ?_ (Qh ..);have fin:∀{e:CE},Qb O e [a,b,some (.own (acc.map .int)),vv q.pd,vv (.int s)] g=some (.int q.ed,g)→Yj O (.cons (.app 2 e) .nil) [a,b,some (.own (acc.map .int)),vv q.pd,vv (.int s)] g=some (.nxt,[a,b,some (.own ((acc++[q.ed]).map .int)),vv q.pd,vv (.int s)],g):=fun {e} he=>by
   refine Qc (g':=g) (Qhu (xs:=acc.map .int) rfl he (by simp;exact (Z20 0x10000066013e83615170716) hl)) ?_;simp
  rcases h.1 with rfl|hb
  ·exact V8 (Qag (Qa rfl) rfl) (fin (Qf ..))
  ·cases hb with
   |int p hp=>exact Qt (Qag (Qa rfl) rfl) (fin (Yy (Qad (Qa rfl) rfl) (Qa rfl)))
   |tup f st m e h1 h2 h3 h4=>
    refine Qt (Qag (Qa rfl) rfl) (fin (Yt (Qad (Qa rfl) rfl) ?_));refine Qy (Qa rfl) (Qa rfl) ?_;refine eqR (ht h1 h2) ?_;refine eqR (h4) ?_;rfl
 |[],_::_,_,_,_,_,_,h,_,_,_=>h.elim
 |_::_,[],_,_,_,_,_,h,_,_,_=>h.elim
theorem Qst {ss:List Int}(hn:2≤n) (h:Qdl ss qs) (hl:ss.length≤3):(orc gl sz n).fn "edge_indices" [.lst (qs.map (·.pd)),tI ss] g=some (lI (qs.map (·.ed)),g):=by
 have hlen:=h.length;obtain ⟨d3,d4,hr⟩:=Qpo (O:=orc gl sz (n-1)) (g:=g) (fun h1 h2=>Qw0 ((Z10 0x150815102516) hn) h1 h2) ss qs [] (vv (.lst (qs.map (·.pd)))) (vv (tI ss)) none none h .none .none (by simp;exact (Z10 0x3e8360135016) hl);refine Q7 n rfl (by decide) rfl (by decide) ((Z10 353379606) hn) (ρ:=[vv (.lst (qs.map (·.pd))),vv (tI ss),vv (lI (qs.map (·.ed))),d3,d4]) ?_;refine Qc (Qo3 rfl) ?_;refine Qc (Ju (Qbh (g1:=g) (g2:=g) (xs:=qs.map (·.pd)) (.inl (Qa rfl)) (.inr (Qa rfl)) (by simp;exact (Z20 0x1000006611012635016) hl hlen) (by simp [hlen])) hr) ?_;refine Qc (Qef (xs:=(qs.map (·.ed)).map .int) rfl) ?_;exact Qj (Qp (Qa rfl))
theorem Yaw {v:D}{ss:List Int}{m:Nat}(hn:4≤m) (hv:Lay sz v p ss fs) (h:Qdl ss qs) (hb:∃q∈qs,∃s,QBad s q) :
  Yj (orc gl sz m) Qap ([vv (.hnd .heap),vv v,vv (.lst (qs.map (·.pd)))]++List.replicate 10 none) g =
   some (.nxt,[vv (.hnd .heap),vv v,vv (.lst (qs.map (·.pd))),vv (tI ss),vv (.lst (qs.map (·.tk))),none,none,none,none,none,none,none,none],g) ∧
  Qb (orc gl sz m) Qdn [vv (.hnd .heap),vv v,vv (.lst (qs.map (·.pd))),vv (tI ss),vv (.lst (qs.map (·.tk))),none,none,none,none,none,none,none,none] g=some (.bool true,g) ∧
  Yd (orc gl sz m) Qcw [vv (.hnd .heap),vv v,vv (.lst (qs.map (·.pd))),vv (tI ss),vv (.lst (qs.map (·.tk))),none,none,none,none,none,none,none,none] g=some ([v,lI (qs.map (·.ed))],g) ∧
  (qs.map (·.ed)).length≤3:=by
 have hlen:=h.length;have h3:=hv.len;have e1:Yj (orc gl sz m) Qap ([vv (.hnd .heap),vv v,vv (.lst (qs.map (·.pd)))]++List.replicate 10 none) g =
   some (.nxt,[vv (.hnd .heap),vv v,vv (.lst (qs.map (·.pd))),vv (tI ss),vv (.lst (qs.map (·.tk))),none,none,none,none,none,none,none,none],g):=by
  refine Qc (Qo (d:=tI ss) (Qy (Qa rfl) (Qa rfl) (Jz ((Z10 890258710) hn) hv)) rfl) ?_;refine Qc (Qt (g':=g) (Qq (t:=false) (Vv (.inl (Qa rfl)) (by simp;exact (Z20 0x1000006601351161026) hlen h3)) (Vv (.inr (Qa rfl)) (by simp;exact (Z10 0x100000660135016) h3)) (by simp [Vw,hlen])) (Qh ..)) ?_;refine Qc (Qo (g':=g) (d:=.lst (qs.map (·.tk))) ?_ rfl) (Qh ..);have:=Ys (O:=orc gl sz m) (ρ:=[vv (.hnd .heap),vv v,vv (.lst (qs.map (·.pd))),vv (tI ss),none,none,none,none,none,none,none,none,none]) (g:=g) (g1:=g) (xs:=qs.zip ss) (e:=fun p=>.tup [p.1.pd,.int p.2]) (h:=fun p=>p.1.tk) (elt:=.fn "taken_row" (.cons (.var 0) (.cons (.var 1) .nil))) (t:=.tup (.cons (.nm 0) (.cons (.nm 1) .nil)))
   (it:=.zip (.cons (.var 2) (.cons (.var 3) .nil))) (nm:=["part","size"]) (cap:=[none,none]) (ρ':=[none,none])
   (by
    have:=Qbh (O:=orc gl sz m) (ρ:=[vv (.hnd .heap),vv v,vv (.lst (qs.map (·.pd))),vv (tI ss),none,none,none,none,none,none,none,none,none]) (e1:=.var 2) (e2:=.var 3) (g:=g) (g1:=g) (g2:=g) (xs:=qs.map (·.pd)) (ys:=ss.map .int) (.inl (Qa rfl)) (.inr (Qa rfl)) (by simp;exact (Z20 0x1000006601351161026) hlen h3) (by simp [hlen]);rw [Qgb]at this;exact this) rfl (fun p hp=>⟨_,rfl,Qy (Qa rfl) (Qa rfl) (Qy9 ((Z10 353387798) hn) (h.mem p hp))⟩) (by simp;exact (Z20 0x1000006601c135016) h3)
  refine Eq.trans this ?_;have e:(qs.zip ss).map (fun p=>p.1.tk)=qs.map (·.tk):=by
   refine eqR (show (fun p:QR×Int=>p.1.tk)=QR.tk ∘ Prod.fst from rfl) ?_;refine eqL (List.map_map) ?_;refine eqR (List.map_fst_zip ((Z20 16846886) hlen)) ?_;rfl
  refine eqR (e) ?_;rfl
 have e2:Qb (orc gl sz m) Qdn [vv (.hnd .heap),vv v,vv (.lst (qs.map (·.pd))),vv (tI ss),vv (.lst (qs.map (·.tk))),none,none,none,none,none,none,none,none] g=some (.bool true,g):=
  Qsd (Qat ..) (Qa rfl) (Qnk h hb)
 have e3:Yd (orc gl sz m) Qcw [vv (.hnd .heap),vv v,vv (.lst (qs.map (·.pd))),vv (tI ss),vv (.lst (qs.map (·.tk))),none,none,none,none,none,none,none,none] g=some ([v,lI (qs.map (·.ed))],g):=by
  unfold Qcw;rw [Qaf];refine eqR (Qec (d:=v) _ _ _ rfl) ?_;rw [Qb6,Qaf];refine eqR (Qy (Qa rfl) (Qa rfl) (Qst (by exact (Z10 621823254) hn) h h3)) ?_
  rfl
 exact ⟨e1,e2,e3,by rw [List.length_map];exact (Z20 0x3501351161026) hlen h3⟩
theorem Qqr {ss:List Int}(hn:2≤n) (hb:∀s∈ss,1≤s∧s≤4) (hl:ss.length≤3) (h0:ss≠[]):X2 fun qs g'=>A4 (Qdl ss qs) (∃q∈qs,∃s,QBad s q) (g'.flds=g.flds) ((orc gl sz n).fn "_law_beyond" [.hnd .pen,tI ss] g=some (.lst (qs.map (·.pd)),g')):=by
 refine gk fun Ω κ=>?_;obtain ⟨r,g1,r0,r1,fl1,hr⟩:=Jj (gl:=gl) (sz:=sz) (g:=g) (n:=n-1) (m:=ss.length) ((Z10 0x150815102516) hn) ((Z10 0x3e8360a40a05370050635016) hl (List.length_pos_iff.mpr h0:0<ss.length));have hrl:r.toNat<ss.length:=(Z11 0xb00a03600546) r0 r1;obtain ⟨s,hs⟩:∃s,ss[r.toNat]?=some s:=⟨_,List.getElem?_eq_getElem hrl⟩
 have hsb:=hb s (List.mem_of_getElem? hs);obtain ⟨k,g2,k0,k1,fl2,hk⟩:=Jj (gl:=gl) (sz:=sz) (g:=g1) (n:=n-1) (m:=6) ((Z10 0x150815102516) hn) (by decide);obtain ⟨q,hq1,hq2⟩:∃q,([D.int 0,.int (s+1),.tup [.int 1,.int 1,.int (s+1)],.tup [.int s,.int (-1),.int (s+1)],.tup [.int 0,.int 1,.int 1],.tup [.int 1,.int (-1),.int 2]]:List D)[k.toNat]?=some q.pd∧QBad s q:=by
  have hk6:k=0∨k=1∨k=2∨k=3∨k=4∨k=5:=(Z01 0x550545058350582505815058050586503600546) k0 k1;rcases hk6 with rfl|rfl|rfl|rfl|rfl|rfl
  ·exact ⟨_,rfl,.int 0 ((Z01 0x540515479))⟩
  ·exact ⟨_,rfl,.int (s+1) ((Z01 0x15074150715479))⟩
  ·exact ⟨_,rfl,.tup 1 1 (s+1) _ ((Z01 0x15070534504015476) hsb) (by decide) ((Z01 0x15150781e157415150781e1571547015415154779)) rfl⟩
  ·exact ⟨_,rfl,.tup s (-1) (s+1) _ ((Z01 0x15070534504015476) hsb) (by decide) (by omega) rfl⟩
  ·exact ⟨_,rfl,.tup 0 1 1 _ (by decide) (by decide) ((Z01 0x151581e0574151581e0571547005405154779)) rfl⟩
  ·exact ⟨_,rfl,.tup 1 (-1) 2 _ (by decide) (by decide) (by omega) rfl⟩
 refine κ ?_;refine ⟨(ss.map Qg6).set r.toNat q,g2,(Qdl.good ss).set hs hq2,⟨q,?_,s,hq2⟩,fl2.trans fl1,?_⟩
 ·exact List.mem_of_getElem? (i:=r.toNat) (by rw [List.getElem?_set_self (by simpa using hrl)])
 refine Q7 n rfl (by decide) rfl (by decide) ((Z10 353379606) hn) (ρ:=[vv (.hnd .pen),vv (tI ss),vv (.lst (((ss.map Qg6).set r.toNat q).map (·.pd))),vv (.int r),vv (.int s)]) ?_;refine Qc (Qrg (g':=g) (xs:=List.replicate ss.length .none) rfl ?_) ?_
 ·refine Qk (Qcp (Qat ..)) (b:=.int ss.length) (g2:=g) ?_ ?_
  ·have e:((ss.map D.int).length:Int)=ss.length:=by simp
   refine eqL (e) ?_;exact Vv (.inr (Qa rfl)) (by simp;exact (Z10 0x100000660135016) hl)
  ·simp [Qc9];exact (Z10 0x100000660a435016) hl
 refine Qc (Qo (g':=g1) (d:=.int r) (Qy (Qa rfl) (g2:=g) (d2:=.int ss.length) ?_ hr) rfl) ?_
 ·have e:((ss.map D.int).length:Int)=ss.length:=by simp
  rw [←e];exact Vv (.inr (Qa rfl)) (by simp;exact (Z10 0x100000660135016) hl)
 have hl2:ss.length≤1048576:=(Z10 0x100000660135016) hl;refine Qc (Qo (g':=g1) (d:=.int s) (Q1 (Qa rfl) (Qa rfl) (by simp only [Vg,Ve,Vf,Qah,Qal,List.length_map,List.getElem?_map,hs];simp [r0,Qm,hl2])) rfl) ?_;refine Qc (g':=g2) (ρ':=[vv (.hnd .pen),vv (tI ss),some (.own (((ss.map Qg6).set r.toNat q).map (·.pd))),vv (.int r),vv (.int s)]) ?_ ?_
 ·have v1:Qb (orc gl sz (n-1)) (.idx (.lst (.cons (.int 0) (.cons (.bin .add (.var 4) (.int 1)) (.cons (.tup (.cons (.int 1) (.cons (.int 1) (.cons (.bin .add (.var 4) (.int 1)) .nil)))) (.cons (.tup (.cons (.var 4) (.cons (.int (-1)) (.cons (.bin .add (.var 4) (.int 1)) .nil)))) (.cons (.tup (.cons (.int 0) (.cons (.int 1) (.cons (.int 1) .nil)))) (.cons (.tup (.cons (.int 1) (.cons (.int (-1)) (.cons (.int 2) .nil)))) .nil))))))) (.fn "_law_some" (.cons (.var 0) (.cons (.int 6) .nil))))
    [vv (.hnd .pen),vv (tI ss),some (.own (List.replicate ss.length .none)),vv (.int r),vv (.int s)] g1=some (q.pd,g2):=by
   refine Q1 (g1:=g1) (a:=.lst [D.int 0,.int (s+1),.tup [.int 1,.int 1,.int (s+1)],.tup [.int s,.int (-1),.int (s+1)],.tup [.int 0,.int 1,.int 1],.tup [.int 1,.int (-1),.int 2]]) ?_ (Qy (Qa rfl) (Qf ..) hk) ?_
   ·rfl
   ·simp only [Vg,Ve,Vf,Qah,Qal,hq1];simp [k0,Qm]
  have hr2:r<((List.replicate ss.length D.none).length:Int):=by simp;exact (Z11 0xa0300b06) hrl
  have hr3:(List.replicate ss.length D.none).length≤1048576:=by simp;exact (Z10 0x100000660110000066016) hl2
  rw [show ((ss.map Qg6).set r.toNat q).map (·.pd)=(List.replicate ss.length D.none).set r.toNat q.pd by
   refine eqR (List.map_set) ?_;rw [List.map_map,show (QR.pd ∘ Qg6)=fun Y=>D.none from rfl,List.map_const']]
  exact Qd v1 (Jl (by rw [decide_eq_true r0,decide_eq_true hr2,Yw hr3];rfl))
 refine Qc (Qef (xs:=((ss.map Qg6).set r.toNat q).map (·.pd)) rfl) ?_;exact Qj (Qp (Qa rfl))
end
noncomputable def Qu9 {α:Type} (P:α→D→Prop):List α→List D→Prop
 |[],[]=>True
 |x::xs,d::ds=>P x d∧Qu9 P xs ds
 |_,_=>False
theorem Qho {f:D→Gs→Option (Option D×Gs)}(g:Gs):Qx f [] g=some ([],g):=rfl
theorem Qi4 {f:D→Gs→Option (Option D×Gs)}(d:D) (r:List D) (g:Gs):Qx f (d::r) g=bnd (f d g) fun o g=>bnd (Qx f r g) fun ys g=>some (o.toList++ys,g):=rfl
theorem Qu9.length {α:Type}{P:α→D→Prop}:∀{xs:List α}{ds:List D},Qu9 P xs ds→ds.length=xs.length
 |[],[],_=>rfl
 |_::_,_::_,h=>by simp [Qu9.length h.2]
 |[],_::_,h=>h.elim
 |_::_,[],h=>h.elim
theorem Qbv {α:Type}{e:α→D}{P:α→D→Prop}{fl:List D}{f:D→Gs→Option (Option D×Gs)}:∀{xs:List α},(∀x∈xs,∀g:Gs,g.flds=fl→X2 fun d g'=>A3 (P x d) (g'.flds=fl) (f (e x) g=some (some d,g')))→∀g:Gs,g.flds=fl →
  X2 fun ds g'=>A3 (Qu9 P xs ds) (g'.flds=fl) (Qx f (xs.map e) g=some (ds,g'))
 |[],_,g,hg=>⟨[],g,trivial,hg,rfl⟩
 |x::xs,H,g,hg=>by
  refine gk fun Ω κ=>?_;obtain ⟨d,g1,h1,h2,h3⟩:=H x (.head _) g hg;obtain ⟨ds,g2,h4,h5,h6⟩:=Qbv (xs:=xs) (fun y hy=>H y (.tail _ hy)) g1 h2;refine κ ?_;refine ⟨d::ds,g2,⟨h1,h4⟩,h5,?_⟩;simp [Qho,Qi4,h3,h6]
theorem Qfh {e:α→D}{P:α→D→Prop}{t:CT}{it:CI}{xs:List α}(hit:Jm O it ρ g=some (xs.map e,g1)) (hcap:Qaq ρ cap=some ρ')
  (hf:∀x∈xs,∀g:Gs,g.flds=g1.flds→X3 fun ρ1 d g'=>A4 (Qai t ρ' (e x)=some ρ1) (P x d) (g'.flds=g1.flds) (Qb O elt ρ1 g=some (d,g'))) (hl:xs.length≤1048576) :
  X2 fun ds g'=>A3 (Qu9 P xs ds) (g'.flds=g1.flds) (Qb O (.comp elt t it .nil nm cap) ρ g=some (.lst ds,g')):=by
 obtain ⟨ds,g',h1,h2,h3⟩:=Qbv (e:=e) (P:=P) (fl:=g1.flds) (f:=trn O elt t .nil ρ') (xs:=xs) (fun x hx g hg=>by
  obtain ⟨ρ1,d,g',a1,a2,a3,a4⟩:=hf x hx g hg;exact ⟨d,g',a2,a3,Q4 a1 (Qd (x:=Qfi O .nil _ _) rfl (Qd a4 rfl))⟩) g1 rfl
 exact ⟨ds,g',h1,h2,Qd hit (Q4 hcap (Qd h3 (Jl (decide_eq_true (by rw [h1.length];exact hl)))))⟩
theorem Qit {α:Type}{lo hi:Int}:∀{xs:List α}{ds:List D},Qu9 (fun Y d=>∃k,A3 (d=.int k) (lo≤k) (k≤hi)) xs ds→∃ks:List Int,A3 (ds=ks.map .int) (ks.length=xs.length) (∀k∈ks,lo≤k∧k≤hi)
 |[],[],_=>⟨[],rfl,rfl,by simp⟩
 |_::_,_::_,h=>by
  obtain ⟨⟨k,rfl,hk,hk2⟩,h2⟩:=h;obtain ⟨ks,rfl,a1,a2⟩:=Qit h2;exact ⟨k::ks,rfl,by simp [a1],fun x hx=>by
   rcases List.mem_cons.mp hx with rfl|hx
   ·exact ⟨hk,hk2⟩
   ·exact a2 x hx⟩
 |[],_::_,h=>h.elim
 |_::_,[],h=>h.elim
theorem Qmc:∀{ss:List Int}{ds:List D},Qu9 (fun s d=>∃r,POk s r∧d=Yh r) ss ds→∃rs:List PR,ds=rs.map Yh∧Qew ss rs
 |[],[],_=>⟨[],rfl,trivial⟩
 |_::_,_::_,h=>by
  obtain ⟨⟨r,hr,rfl⟩,h2⟩:=h;obtain ⟨rs,rfl,a1⟩:=Qmc h2;exact ⟨r::rs,rfl,hr,a1⟩
 |[],_::_,h=>h.elim
 |_::_,[],h=>h.elim
section
theorem Qwz (g:Gs) (hn:2≤n) (c0 c2:Option B):X2 fun ss g'=>A5 (∀s∈ss,1≤s∧s≤4) (1≤ss.length) (ss.length≤3) (g'.flds=g.flds) (Yj (orc gl sz n) Qlb [c0,vv (.hnd .pen),c2,none,none,none,none,none,none,none,none,none,none,none,none] g =
   some (.nxt,[c0,vv (.hnd .pen),c2,vv (tI ss),vv (.lst ((grd [[]] ss).map tI)),none,none,none,none,none,none,none,none,none,none],g')):=by
 refine gk fun Ω κ=>?_;obtain ⟨k,g1,k0,k1,fl1,hk⟩:=Jj (gl:=gl) (sz:=sz) (g:=g) (n:=n) (m:=3) ((Z10 353379606) hn) (by decide);obtain ⟨ds,g2,hA,fl2,hc⟩:=Qfh (O:=orc gl sz n) (ρ:=[c0,vv (.hnd .pen),c2,none,none,none,none,none,none,none,none,none,none,none,none]) (g:=g) (g1:=g1) (e:=.int) (P:=fun Y d=>∃k,A3 (d=.int k) (1≤k) (k≤4)) (xs:=rg (1+k))
  (elt:=.bin .add (.int 1) (.fn "_law_some" (.cons (.var 1) (.cons (.int 4) .nil)))) (t:=.nm 0) (it:=.rng1 (.bin .add (.int 1) (.fn "_law_some" (.cons (.var 1) (.cons (.int 3) .nil))))) (nm:=["rank","pen"]) (cap:=[none,some 1]) (ρ':=[none,some (.cap (.hnd .pen))])
  (Qck (Qk (Qf ..) (Qy (Qa rfl) (Qf ..) hk) rfl) ((Z01 0x15705400546) k0) ((Z01 0x100000660157435036) k1)) rfl (fun x hx g hg=>by
   obtain ⟨j,g',j0,j1,fl,hj⟩:=Jj (gl:=gl) (sz:=sz) (g:=g) (n:=n) (m:=4) ((Z10 353379606) hn) (by decide);exact ⟨_,.int (1+j),g',rfl,⟨_,rfl,(Z01 0x15715400546) j0,(Z01 0x450157445036) j1⟩,fl.trans hg,Qk (Qf ..) (Qy (Yr _ _ _ rfl) (Qf ..) hj) rfl⟩) (by rw [Q9];exact (Z01 0x100000660157b135036) k1)
 obtain ⟨ss,rfl,hl,hb⟩:=Qit hA;rw [Q9]at hl;refine κ ?_;refine ⟨ss,g2,hb,(Z11 0x1510157b02600546) k0 hl,(Z11 0x35010157b02635036) k1 hl,fl2.trans fl1,?_⟩;refine Qc (Qo (g':=g2) (d:=tI ss) (Qay hc (by simp;exact (Z11 0x10000066010157b02635036) k1 hl)) rfl) ?_;refine Qc (Qo (g':=g2) (d:=.lst ((grd [[]] ss).map tI)) (Qao (Qa rfl) (Qjp ((Z10 353379606) hn) (fun s hs=>by have:=hb s hs;exact (Z01 0x4504005474504015476) this) ((Z11 0x35010157b02635036) k1 hl))) rfl) ?_;exact Qh ..
structure VOk (sz:List D) (N:Int) (v:D) (p:Int) (ss fs:List Int):Prop where
 lay:Lay sz v p ss fs
 bd:∀r,Vd r ss→0≤pl p r fs∧pl p r fs<N
theorem VOk.view {v:D}{ss:List Int}(h:VOk sz N v p ss fs) (hps:Qew ss rs):VOk sz N (Qdd (Q0 p rs fs) (Qr rs) (Q3 rs fs)) (Q0 p rs fs) (Qr rs) (Q3 rs fs) where
 lay:=Qk3 hps h.lay.eq h.lay.len
 bd:=fun r hr=>by
  refine eqR (Qgo rs fs r p (by rw [h.lay.eq,hps.length]) hr.length) ?_;exact h.bd _ (Qge hps hr)
theorem Qud:aeq (.tup [.str (Str.ofString "view"),.int 0]) (.tup [.str (Str.ofString "view"),.int 0])=some true:=by decide +kernel
theorem Qp5 {v:D}{ss:List Int}{x:Int}(hn:9≤n) (hv:VOk sz N v p ss fs) (F:FOk g (rg N)) (c0 c3 c4 c8 c9 c10 c11 c12 c13 c14:Option B) (h8:NC c8) (h9:NC c9) :
  X3 fun rs g' c9'=>A4 (Qew ss rs) (FOk g' (rg N)) (NC c9') (Qbd (orc gl sz n) (.nm 8) (.cons (.asg (.nm 9) (.comp (.fn "_law_part" (.cons (.var 1) (.cons (.var 0) .nil))) (.nm 0) (.over (.idx (.var 6) (.int 1))) .nil ["size","pen"] [none,some 1])) (.cons (.two 7 6 (some (.fn "view_of" (.cons (.var 2) (.cons (.var 7) (.cons (.comp (.idx (.var 0) (.int 0)) (.nm 0) (.over (.var 9)) .nil ["pair"] [none]) .nil))))) (some (.fn "_law_picked" (.cons (.var 6) (.cons (.var 9) .nil))))) (.cons (.ifS (.bop false (.cmp .ne (.upto (.var 7) 2) (.tup (.cons (.str "view") (.cons (.idx (.var 5) (.int 1)) .nil)))) (.not (.fn "_law_is_alike" (.cons (.var 2) (.cons (.var 7) (.cons (.var 6) .nil)))))) (.cons (.ret (.bool false)) .nil) .nil) .nil)))
    (.int x) [c0,vv (.hnd .pen),vv (.hnd .heap),c3,c4,vv Ji,vv (Qz p ss fs),vv v,c8,c9,c10,c11,c12,c13,c14] g =
   some (.nxt,[c0,vv (.hnd .pen),vv (.hnd .heap),c3,c4,vv Ji,vv (Qz (Q0 p rs fs) (Qr rs) (Q3 rs fs)),vv (Qdd (Q0 p rs fs) (Qr rs) (Q3 rs fs)),vv (.int x),c9',c10,c11,c12,c13,c14],g')):=by
 refine gk fun Ω κ=>?_;have h3:=hv.lay.len;have e1:Qb (orc gl sz n) (.idx (.var 6) (.int 1)) [c0,vv (.hnd .pen),vv (.hnd .heap),c3,c4,vv Ji,vv (Qz p ss fs),vv v,vv (.int x),c9,c10,c11,c12,c13,c14] g=some (tI ss,g):=
  Q1 (a:=Qz p ss fs) (b:=.int 1) (Qa rfl) (Qf ..) rfl
 obtain ⟨ds,g1,hA,fl1,hc⟩:=Qfh (O:=orc gl sz n) (ρ:=[c0,vv (.hnd .pen),vv (.hnd .heap),c3,c4,vv Ji,vv (Qz p ss fs),vv v,vv (.int x),c9,c10,c11,c12,c13,c14]) (g:=g) (g1:=g) (e:=.int) (P:=fun s d=>∃r,POk s r∧d=Yh r) (xs:=ss)
  (elt:=.fn "_law_part" (.cons (.var 1) (.cons (.var 0) .nil))) (t:=.nm 0) (it:=.over (.idx (.var 6) (.int 1))) (nm:=["size","pen"]) (cap:=[none,some 1]) (ρ':=[none,some (.cap (.hnd .pen))])
  (Yc (.inr e1) (by simp;exact (Z10 0x100000660135016) h3)) rfl (fun s hs g hg=>by
   obtain ⟨r,g',hr,fl,hp⟩:=Qw2 (gl:=gl) (sz:=sz) (g:=g) (n:=n) (size:=s) ((Z10 621843734) hn) (hv.lay.bd s hs);exact ⟨_,Yh r,g',rfl,⟨r,hr,rfl⟩,fl.trans hg,Qy (Yr _ _ _ rfl) (Qa rfl) hp⟩) ((Z10 0x100000660135016) h3)
 obtain ⟨rs,rfl,hps⟩:=Qmc hA;have hpl:=hps.length;have F1:FOk g1 (rg N):=⟨fl1.trans F.eq,F.len⟩
 have hv':=hv.view hps;refine κ ?_;refine ⟨rs,g1,vv (.lst (rs.map Yh)),hps,F1,.vv _,?_⟩;refine Vh (ρ1:=[c0,vv (.hnd .pen),vv (.hnd .heap),c3,c4,vv Ji,vv (Qz p ss fs),vv v,vv (.int x),c9,c10,c11,c12,c13,c14]) (Qmy (Vb (i:=8) (ρ:=[c0,vv (.hnd .pen),vv (.hnd .heap),c3,c4,vv Ji,vv (Qz p ss fs),vv v,c8,c9,c10,c11,c12,c13,c14]) rfl h8)) ?_;refine Qc (Qo (g':=g1) (d:=.lst (rs.map Yh)) hc (Vb (c:=c9) rfl h9)) ?_;have e2:Qb (orc gl sz n) (.fn "view_of" (.cons (.var 2) (.cons (.var 7) (.cons (.comp (.idx (.var 0) (.int 0)) (.nm 0) (.over (.var 9)) .nil ["pair"] [none]) .nil)))) [c0,vv (.hnd .pen),vv (.hnd .heap),c3,c4,vv Ji,vv (Qz p ss fs),vv v,vv (.int x),vv (.lst (rs.map Yh)),c10,c11,c12,c13,c14] g1 =
   some (Qdd (Q0 p rs fs) (Qr rs) (Q3 rs fs),g1):=by
  refine Qea (Qa rfl) (Qa rfl) (Ys (g:=g1) (g1:=g1) (e:=Yh) (h:=(·.pd)) (xs:=rs) (ρ':=[none]) (Yc (.inl (Qa rfl)) (by simp;exact (Z20 0x1000006611012635016) h3 hpl)) rfl (fun r hr=>⟨_,rfl,?_⟩) ((Z20 0x1000006611012635016) h3 hpl)) (Qop ((Z10 0x55109516) hn) hv.lay hps);exact Q1 (a:=Yh r) (b:=.int 0) (Qa rfl) (Qf ..) rfl
 have e3:Qb (orc gl sz n) (.fn "_law_picked" (.cons (.var 6) (.cons (.var 9) .nil))) [c0,vv (.hnd .pen),vv (.hnd .heap),c3,c4,vv Ji,vv (Qz p ss fs),vv v,vv (.int x),vv (.lst (rs.map Yh)),c10,c11,c12,c13,c14] g1 =
   some (Qz (Q0 p rs fs) (Qr rs) (Q3 rs fs),g1):=Qy (Qa rfl) (Qa rfl) (Qra ((Z10 621843734) hn) hps h3 hv.lay.eq)
 refine Qc (g':=g1) (ρ':=[c0,vv (.hnd .pen),vv (.hnd .heap),c3,c4,vv Ji,vv (Qz (Q0 p rs fs) (Qr rs) (Q3 rs fs)),vv (Qdd (Q0 p rs fs) (Qr rs) (Q3 rs fs)),vv (.int x),vv (.lst (rs.map Yh)),c10,c11,c12,c13,c14]) ?_ ?_
 ·exact (Jl rfl).trans (Qd (Qd e2 rfl) (Qd (Qd e3 rfl) rfl))
 refine Qc (g':=g1) (Qt (g':=g1) (Qe6 (g1:=g1) (Qq (t:=false) (a:=.tup [.str (Str.ofString "view"),.int 0]) (b:=.tup [.str (Str.ofString "view"),.int 0]) (g1:=g1) ?_ (Vi (Vu ..) ?_) ?_) (Qla (t:=true) ?_)) (Qh ..)) (Qh ..)
 ·rfl
 ·exact Q1 (a:=Ji) (b:=.int 1) (Qa rfl) (Qf ..) rfl
 ·simp only [Vw,Qud];rfl
 ·exact Qea (Qa rfl) (Qa rfl) (Qa rfl) (Qsc ((Z10 0x75109516) hn) hv'.lay F1 hv'.bd)
end
section
theorem Qgz {ss:List Int}(hb:Bd ss) (hl:ss.length≤3):Lay (ss.map .int) Ji 0 ss (stf 1 ss):=⟨.inl ⟨rfl,rfl,rfl,rfl⟩,hb,hl,Y4 _ _⟩
theorem Qg5 {ss:List Int}(hb:Bd ss):plc [0] ss (stf 1 ss)=rg (Ya 1 ss):=by
 rw [V6 _ _ _ (Y4 _ _)];exact Vp ss hb.nn
theorem Qci {ss:List Int}(hb:Bd ss) (hl:ss.length≤3):Ya 1 ss≤64:=by
 have:=Js ss hb.nn;have:=Qfq hb hl;exact (Z11 0x40260440260160b026) ‹_› this
theorem Qib {ss vs:List Int}(hn:6≤n) (hb:Bd ss) (hl:ss.length≤3) (F:FOk g vs) (hv:vs.length=(Ya 1 ss).toNat):(orc gl (ss.map .int) n).fn "items_of" [.hnd .heap,Ji] g=some (.lst ((rg (Ya 1 ss)).map fun q=>Ye (atv vs q)),g):=by
 have:=Qgf (gl:=gl) (n:=n) (g:=g) hn (Qgz hb hl) F (by
  rw [Qg5 hb];intro q hq;have:=Qen.mp hq;exact (Z12 0xa13105470131054760b026) hv this) (by rw [Qg5 hb,Q9];exact (Z01 0x100000660b14026046) (Qci hb hl))
 rwa [Qg5 hb]at this
theorem Qu8 {qs vs:List Int}(h:Qb O e ρ g=some (.lst (qs.map fun q=>Ye (atv vs q)),g)) (hl:qs.length≤1048576) :
  Qb O (.comp (.idx (.var 0) (.int 2)) (.nm 0) (.over e) .nil nm [none]) ρ g=some (lI (qs.map (atv vs)),g):=by
 have:=Ys (O:=O) (ρ:=ρ) (g:=g) (g1:=g) (e:=fun q=>Ye (atv vs q)) (h:=fun q=>.int (atv vs q)) (xs:=qs) (elt:=.idx (.var 0) (.int 2)) (t:=.nm 0) (it:=.over e) (nm:=nm) (cap:=[none]) (ρ':=[none])
  (Yc (.inl h) (by simpa using hl)) rfl (fun q hm=>⟨_,rfl,Qul (Qa rfl)⟩) hl
 rw [this];simp [Function.comp_def]
theorem Qfl (xs:List Int):Vw .ne (lI xs) (lI xs)=some false:=by simp only [Vw,Qlj];rfl
theorem Qve {q:Int}(h:0≤q) (h1:q<N):atv (rg N) q=q:=by
 unfold atv;refine eqR (List.getD_eq_getElem?_getD) ?_;rw [rg,List.getElem?_map,List.getElem?_range (by exact (Z02 0x1b0b0103600546) h h1)];exact Int.toNat_of_nonneg h
theorem Qwt {ss s1 f1:List Int}{v:D}(hn:9≤n) (hb:Bd ss) (hl:ss.length≤3) (hN:N=Ya 1 ss) (hv:VOk (ss.map .int) N v p s1 f1) (F:FOk g (rg N)) (c0 c3 c8 c9 c10 c11 c12 c13 c14:Option B) (h10:NC c10) (h11:NC c11) :
  X4 fun vs g' d10 d11=>A6 (FOk g' vs) (vs.length=N.toNat) (NC d10) (NC d11) (∃p:Int,∀q,0≤q→q<N→atv vs q=if q=p then -5 else q) (Vy (orc gl (ss.map .int) n) (.ifS (.bop true (.cmp .ne (.idx (.var 6) (.int 1)) (.tup .nil)) (.cmp .gt (.bi .len (.cons (.idx (.var 6) (.int 0)) .nil)) (.int 0))) (.cons (.asg (.nm 10) (.idx (.bi .list (.cons (.idx (.var 6) (.int 0)) .nil)) (.fn "_law_some" (.cons (.var 1) (.cons (.bi .len (.cons (.idx (.var 6) (.int 0)) .nil)) .nil))))) (.cons (.ex (.fn "set_item" (.cons (.var 2) (.cons (.var 7) (.cons (.var 10) (.cons (.tup (.cons (.str "int") (.cons (.str "Int64") (.cons (.int (-5)) .nil)))) .nil)))))) (.cons (.asg (.nm 11) (.comp (.ite (.cmp .eq (.var 0) (.idx (.idx (.var 2) (.int 0)) (.var 1))) (.int (-5)) (.var 0)) (.nm 0) (.rng1 (.bi .len (.cons (.var 4) .nil))) .nil ["place","row","cells"] [none,some 10,some 6])) (.cons (.ifS (.cmp .ne (.comp (.idx (.var 0) (.int 2)) (.nm 0) (.over (.fn "items_of" (.cons (.var 2) (.cons (.var 5) .nil)))) .nil ["item"] [none]) (.var 11)) (.cons (.ret (.bool false)) .nil) .nil) .nil)))) .nil)
    [c0,vv (.hnd .pen),vv (.hnd .heap),c3,vv (.lst ((grd [[]] ss).map tI)),vv Ji,vv (Qz p s1 f1),vv v,c8,c9,c10,c11,c12,c13,c14] g =
   some (.nxt,[c0,vv (.hnd .pen),vv (.hnd .heap),c3,vv (.lst ((grd [[]] ss).map tI)),vv Ji,vv (Qz p s1 f1),vv v,c8,c9,d10,d11,c12,c13,c14],g')):=by
 have h64:=Qci hb hl;have g64:=Qfq hv.lay.bd hv.lay.len;have gN:((grd [[]] ss).length:Int)=N:=by
  have:=Js ss hb.nn;have hp:∀(l:List Int) (m:Int),0≤m→(∀s∈l,0≤s)→0≤Ya m l:=by
   intro l
   induction l with
   |nil=>intro m hm _;exact hm
   |cons a l ih=>intro m hm hs;exact ih (m*a) (Int.mul_nonneg hm (hs a (.head _))) fun s hx=>hs s (.tail _ hx)
  have:=hp ss 1 (by decide) hb.nn;exact (Z12 0xa5105461b0261056) hN ‹_› this
 have t0:∀{ρ:Q8} {g:Gs},ρ[6]?=some (vv (Qz p s1 f1))→Qb (orc gl (ss.map .int) n) (.idx (.var 6) (.int 0)) ρ g=some (.dct (Vj (fun r=>.int (pl p r f1)) (grd [[]] s1)),g):=fun h=>
  Q1 (a:=Qz p s1 f1) (b:=.int 0) (Qa h) (Qf ..) rfl
 have t1:∀{ρ:Q8} {g:Gs},ρ[6]?=some (vv (Qz p s1 f1))→Qb (orc gl (ss.map .int) n) (.idx (.var 6) (.int 1)) ρ g=some (tI s1,g):=fun h=>
  Q1 (a:=Qz p s1 f1) (b:=.int 1) (Qa h) (Qf ..) rfl
 have tlen:(Vj (fun r=>D.int (pl p r f1)) (grd [[]] s1)).length=(grd [[]] s1).length:=by simp [Vj]
 have t2:∀{ρ:Q8} {g:Gs},ρ[6]?=some (vv (Qz p s1 f1))→Qb (orc gl (ss.map .int) n) (.bi .len (.cons (.idx (.var 6) (.int 0)) .nil)) ρ g=some (.int ((grd [[]] s1).length:Int),g):=fun h=>by
  refine Qad (t0 h) ?_;rw [←tlen];exact if_pos (Yw (by rw [tlen];exact (Z10 0x10000066014026016) g64))
 have c1:Qb (orc gl (ss.map .int) n) (.cmp .ne (.idx (.var 6) (.int 1)) (.tup .nil)) [c0,vv (.hnd .pen),vv (.hnd .heap),c3,vv (.lst ((grd [[]] ss).map tI)),vv Ji,vv (Qz p s1 f1),vv v,c8,c9,c10,c11,c12,c13,c14] g=some (.bool (!decide (s1=[])),g):=
  Qq (t1 rfl) (b:=.tup []) (g2:=g) (by rfl) (by simp only [Vw,Qco];rfl)
 have skip:∀{t:CE} {a:CSs},Qb (orc gl (ss.map .int) n) t [c0,vv (.hnd .pen),vv (.hnd .heap),c3,vv (.lst ((grd [[]] ss).map tI)),vv Ji,vv (Qz p s1 f1),vv v,c8,c9,c10,c11,c12,c13,c14] g=some (.bool false,g)→X4 fun vs g' d10 d11=>A6 (FOk g' vs) (vs.length=N.toNat) (NC d10) (NC d11) (∃p:Int,∀q,0≤q→q<N→atv vs q=if q=p then -5 else q) (Vy (orc gl (ss.map .int) n) (.ifS t a .nil) [c0,vv (.hnd .pen),vv (.hnd .heap),c3,vv (.lst ((grd [[]] ss).map tI)),vv Ji,vv (Qz p s1 f1),vv v,c8,c9,c10,c11,c12,c13,c14] g =
    some (.nxt,[c0,vv (.hnd .pen),vv (.hnd .heap),c3,vv (.lst ((grd [[]] ss).map tI)),vv Ji,vv (Qz p s1 f1),vv v,c8,c9,d10,d11,c12,c13,c14],g')):=
  fun h=>⟨rg N,g,c10,c11,F,Q9 N,h10,h11,⟨-1,fun q a b=>by rw [Qve a b,if_neg (by exact (Z01 0x15905900546) a)]⟩,Qt h (Qh ..)⟩
 by_cases h0:s1=[]
 ·rw [decide_eq_true h0]at c1;exact skip (Qgi c1 (by decide))
 rw [decide_eq_false h0]at c1;have c2:Qb (orc gl (ss.map .int) n) (.cmp .gt (.bi .len (.cons (.idx (.var 6) (.int 0)) .nil)) (.int 0)) [c0,vv (.hnd .pen),vv (.hnd .heap),c3,vv (.lst ((grd [[]] ss).map tI)),vv Ji,vv (Qz p s1 f1),vv v,c8,c9,c10,c11,c12,c13,c14] g=some (.bool (decide (((grd [[]] s1).length:Int) > 0)),g):=
  Qq (t2 rfl) (Qf ..) rfl
 by_cases hz:((grd [[]] s1).length:Int) > 0
 rotate_left
 ·rw [decide_eq_false hz]at c2;exact skip (Qe6 c1 c2)
 refine gk fun Ω κ=>?_;rw [decide_eq_true hz]at c2;obtain ⟨k,g1,k0,k1,fl1,hk⟩:=Jj (gl:=gl) (sz:=ss.map .int) (g:=g) (n:=n) (m:=((grd [[]] s1).length:Int)) ((Z10 353408278) hn) ((Z10 0x3e8360a40a05370a05364026016) g64 hz);have hkl:k.toNat<(grd [[]] s1).length:=(Z11 0xb00a03600546) k0 k1;obtain ⟨row,hrow⟩:∃row,(grd [[]] s1)[k.toNat]?=some row:=⟨_,List.getElem?_eq_getElem hkl⟩
 have hmem:=List.mem_of_getElem? hrow;have hvd:=Qau.mp hmem;have hb1:=hv.bd row hvd;have F1:FOk g1 (rg N):=⟨fl1.trans F.eq,F.len⟩
 have hlN:(rg N).length=N.toNat:=Q9 N;have F2:FOk { g1 with flds:=g1.flds.set (pl p row f1).toNat (Ye (-5)) } ((rg N).set (pl p row f1).toNat (-5)):=⟨by show g1.flds.set _ _=_;rw [F1.eq,List.map_set],by rw [List.length_set];exact (Z12 0x10000066010b02640261461056) hN h64 hlN⟩
 have hpt:∀q,0≤q→q<N→atv ((rg N).set (pl p row f1).toNat (-5)) q=if q=pl p row f1 then -5 else q:=fun q q0 q1=>by
  unfold atv;refine eqR (List.getD_eq_getElem?_getD) ?_;refine eqR (List.getElem?_set) ?_;by_cases e:q=pl p row f1
  ·refine eqR (if_pos (by rw [e])) ?_;refine eqR (if_pos ((Z13 0x2b021560136105460b026) hlN q0 q1 e)) ?_;refine eqR (if_pos e) ?_;rfl
  ·refine eqR (if_neg ((Z03 0x2b0b290259620546103005476) hb1 q0 e)) ?_;refine eqR (if_neg e) ?_;refine (List.getD_eq_getElem?_getD ..).symm.trans ?_;exact Qve q0 q1
 have hdue:(rg (Ya 1 ss)).map (atv ((rg N).set (pl p row f1).toNat (-5)))=(rg N).map fun q=>if q=pl p row f1 then -5 else q:=by
  refine eqL (hN) ?_;exact List.map_congr_left fun q hq=>hpt q (Qen.mp hq).1 (Qen.mp hq).2
 refine κ ?_;refine ⟨(rg N).set (pl p row f1).toNat (-5),{ g1 with flds:=g1.flds.set (pl p row f1).toNat (Ye (-5)) },vv (tI row),vv (lI ((rg N).map fun q=>if q=pl p row f1 then -5 else q)),F2,by rw [List.length_set];exact hlN,.vv _,.vv _,⟨pl p row f1,hpt⟩,?_⟩;refine V8 (Qe6 c1 c2) ?_;refine Qc (Qo (g':=g1) (d:=tI row) (Q1 (a:=.lst ((grd [[]] s1).map tI)) (b:=.int k) (g1:=g) (Qad (t0 rfl) ?_) (Qy (Qa rfl) (t2 rfl) hk) ?_) (Vb (c:=c10) rfl h10)) ?_
 ·refine (if_pos (Yw (by rw [tlen];exact (Z10 0x10000066014026016) g64))).trans ?_;simp [Qjt,Vj,Function.comp_def]
 ·have hk2:(grd [[]] s1).length≤1048576:=(Z10 0x10000066014026016) g64;simp only [Vg,Ve,Vf,Qah,Qal,List.length_map,List.getElem?_map,hrow];simp [k0,Qm,hk2]
 refine Qc (g':={ g1 with flds:=g1.flds.set (pl p row f1).toNat (Ye (-5)) }) (ρ':=[c0,vv (.hnd .pen),vv (.hnd .heap),c3,vv (.lst ((grd [[]] ss).map tI)),vv Ji,vv (Qz p s1 f1),vv v,c8,c9,vv (tI row),c11,c12,c13,c14]) ?_ ?_
 ·have:=Ych (O:=orc gl (ss.map .int) n) (ρ:=[c0,vv (.hnd .pen),vv (.hnd .heap),c3,vv (.lst ((grd [[]] ss).map tI)),vv Ji,vv (Qz p s1 f1),vv v,c8,c9,vv (tI row),c11,c12,c13,c14]) (g:=g1) (f:="set_item") (e1:=.var 2) (e2:=.var 7) (e3:=.var 10) (e4:=.tup (.cons (.str "int") (.cons (.str "Int64") (.cons (.int (-5)) .nil))))
   (Qa rfl) (Qa rfl) (Qa rfl) (d4:=Ye (-5)) (g4:=g1) (by rfl) (Qj6 (gl:=gl) (n:=n) (g:=g1) (x:=-5) ((Z10 0x65109516) hn) hv.lay F1 hvd hb1.1 ((Z12 0xa031b026103005476) hb1 hlN))
  exact Qd this rfl
 generalize hG:({ g1 with flds:=g1.flds.set (pl p row f1).toNat (Ye (-5)) }:Gs)=g2 at F2 ⊢;refine Qc (Qo (g':=g2) (d:=lI ((rg N).map fun q=>if q=pl p row f1 then -5 else q)) ?_ (Vb (c:=c11) rfl h11)) ?_
 ·have:=Ys (O:=orc gl (ss.map .int) n) (ρ:=[c0,vv (.hnd .pen),vv (.hnd .heap),c3,vv (.lst ((grd [[]] ss).map tI)),vv Ji,vv (Qz p s1 f1),vv v,c8,c9,vv (tI row),c11,c12,c13,c14]) (g:=g2) (g1:=g2) (e:=.int) (h:=fun q=>.int (if q=pl p row f1 then -5 else q)) (xs:=rg N)
   (elt:=.ite (.cmp .eq (.var 0) (.idx (.idx (.var 2) (.int 0)) (.var 1))) (.int (-5)) (.var 0)) (t:=.nm 0) (it:=.rng1 (.bi .len (.cons (.var 4) .nil))) (nm:=["place","row","cells"]) (cap:=[none,some 10,some 6]) (ρ':=[none,some (.cap (tI row)),some (.cap (Qz p s1 f1))])
   (Qck (by
    refine eqL ((by rw [List.length_map];exact gN:(((grd [[]] ss).map tI).length:Int)=N)) ?_;exact Vv (.inl (Qa rfl)) (by simp;exact (Z12 0x100000660100a5640261461056) hN h64 gN)) ((Z02 0x1054103005476) hb1) ((Z02 0x100000660440261461056) hN h64)) rfl (fun q hq=>⟨[vv (.int q),some (.cap (tI row)),some (.cap (Qz p s1 f1))],rfl,?_⟩) ((Z12 0x10000066010b02640261461056) hN h64 hlN)
  ·refine Eq.trans this ?_;simp [Function.comp_def]
  ·have e1:Qb (orc gl (ss.map .int) n) (.cmp .eq (.var 0) (.idx (.idx (.var 2) (.int 0)) (.var 1))) [vv (.int q),some (.cap (tI row)),some (.cap (Qz p s1 f1))] g2=some (.bool (decide (q=pl p row f1)),g2):=by
    refine Qq (Qa rfl) (Q1 (Q1 (a:=Qz p s1 f1) (b:=.int 0) (d:=.dct (Vj (fun r=>.int (pl p r f1)) (grd [[]] s1))) (Yr _ _ _ rfl) (Qf ..) rfl) (Yr _ _ _ rfl) (d:=.int (pl p row f1)) ?_) (by rfl);simp only [Vg,Ve,Vf,Qah,Qal,V1,Option.bind_some];exact Qdh hmem
   by_cases e:q=pl p row f1
   ·rw [decide_eq_true e]at e1;refine eqR (if_pos e) ?_;exact Yy e1 (Qf ..)
   ·rw [decide_eq_false e]at e1;refine eqR (if_neg e) ?_;exact Yt e1 (Qa rfl)
 refine Qc (g':=g2) (Qt (g':=g2) (Qq (t:=false) (Qu8 (qs:=rg (Ya 1 ss)) (vs:=(rg N).set (pl p row f1).toNat (-5)) (Qy (Qa rfl) (Qa rfl) (Qib ((Z10 0x65109516) hn) hb hl F2 (by rw [List.length_set,hlN,hN]))) (by rw [Q9];exact (Z01 0x100000660b14026046) h64)) (Qa rfl) ?_) (Qh ..)) (Qh ..);refine eqR (hdue) ?_;exact Qfl _
theorem Qhf {xs:List Int}(hs:O.sort=srt) (h:Qb O e ρ g=some (lI xs,g')) (hl:okS xs=true):Qb O (.bi .sorted (.cons e .nil)) ρ g=some (lI (Ja xs),g'):=by
 refine Qad h ?_;refine (?_:Yfy O (.lst (xs.map .int))=_);rw [Quv,V1,Ql5];refine eqR (hs) ?_;unfold srt;rw [hl];rfl
theorem Qlw (sz:List D):(orc gl sz n).sort=srt:=by cases n<;>rfl
theorem pr1:∀a∈[(1:Int),2,3,4],¬64≤Ya 1 [a]:=by decide +kernel
theorem pr2:∀a∈[(1:Int),2,3,4],∀b∈[(1:Int),2,3,4],¬64≤Ya 1 [a,b]:=by decide +kernel
theorem pr3:∀a∈[(1:Int),2,3,4],∀b∈[(1:Int),2,3,4],∀c∈[(1:Int),2,3,4],64≤Ya 1 [a,b,c]→[a,b,c]=[4,4,4]:=by decide +kernel
theorem Qyw {a:Int}(h:1≤a∧a≤4):a∈[(1:Int),2,3,4]:=Int.sub_add_cancel a 1▸Yhh (a-1) ⟨(Z01 0x15080544504015476) h,(Z01 0x45150834504015476) h⟩
theorem full {ss:List Int}(h1:∀s∈ss,1≤s∧s≤4) (hl:ss.length≤3) (h:64≤Ya 1 ss):ss=[4,4,4]:=by
 cases ss with
 |nil=>exact absurd h (by decide)
 |cons a ss=>
 have ha:=Qyw (h1 _ (.head _));cases ss with
 |nil=>exact absurd h (pr1 a ha)
 |cons b ss=>
 have hb:=Qyw (h1 _ (.tail _ (.head _)));cases ss with
 |nil=>exact absurd h (pr2 a ha b hb)
 |cons c ss=>
 have hc:=Qyw (h1 _ (.tail _ (.tail _ (.head _))));cases ss with
 |nil=>exact pr3 a ha b hb c hc h
 |cons d ss=>exact absurd (Nat.le_of_succ_le_succ (Nat.le_of_succ_le_succ (Nat.le_of_succ_le_succ hl))) (Nat.not_succ_le_zero _)
theorem Qzo:∀k<3,((chs 0 (Int.ofNat k) [[]] [4,4,4]).flatMap fun t=>lpl 0 t (stf 1 [4,4,4]))=(List.range 64).map fun i=>Int.ofNat (Qr3 k i):=by decide +kernel
theorem Ybf:∀k<3,∀i<64,Qr3 k i<64:=by decide +kernel
theorem Qyd {vs:List Int}(H:∀q,0≤q→q<64→atv vs q=if q=p then -5 else q) (hk:k<3):∃p',p'<65∧((List.range 64).map fun i=>Int.ofNat (Qr3 k i)).map (atv vs)=lst k p':=by
 have key:∀p':Nat,(∀j:Nat,j<64→(Int.ofNat j=p↔j=p'))→((List.range 64).map fun i=>Int.ofNat (Qr3 k i)).map (atv vs)=lst k p':=fun p' e=>by
  unfold lst;refine eqR List.map_map ?_;refine List.map_congr_left fun i hi=>?_;have b:=Ybf k hk i (List.mem_range.mp hi);refine (H (Int.ofNat (Qr3 k i)) (Int.natCast_nonneg _) (Int.ofNat_lt.mpr b)).trans ?_;cases q:Nat.beq (Qr3 k i) p' with
  |true=>exact if_pos ((e _ b).mpr (Nat.eq_of_beq_eq_true q))
  |false=>exact if_neg fun c=>Nat.ne_of_beq_eq_false q ((e _ b).mp c)
 by_cases c:0≤p∧p<64
 ·exact ⟨p.toNat,(Int.toNat_lt c.1).mpr (Int.lt_trans c.2 (by decide)),key _ fun j Y=>⟨fun e=>by rw [←e];rfl,fun e=>by rw [e];exact Int.toNat_of_nonneg c.1⟩⟩
 ·exact ⟨64,by decide,key _ fun j hj=>⟨fun e=>absurd ⟨e▸Int.natCast_nonneg j,e▸Int.ofNat_lt.mpr hj⟩ c,fun e=>absurd hj (by rw [e];decide)⟩⟩
theorem Quy {l:List Int}(h:l.length<64):okS l=true:=by
 unfold okS;rw [show Nat.blt l.length 64=true from Nat.ble_eq_true_of_le h];rfl
theorem Qyv {p:Nat}(hk:k<3) (hp:p<65):okS (lst k p)=true:=by
 unfold okS;rw [show good (lst k p)=true from List.any_eq_true.mpr ⟨k,List.mem_range.mpr hk,List.any_eq_true.mpr ⟨p,List.mem_range.mpr hp,decide_eq_true rfl⟩⟩];exact Bool.or_true _
theorem Qq2 {vs:List Int}(hk:k<3) (H:∀q,0≤q→q<64→atv vs q=if q=p then -5 else q) {l:List Int}(e:l=(List.range 64).map fun i=>Int.ofNat (Qr3 k i)):okS (l.map (atv vs))=true:=by
 obtain ⟨p',h,q⟩:=Qyd H hk;rw [e,q];exact Qyv hk h
theorem Qwp {ss vs:List Int}{r:Int}(h1:∀s∈ss,1≤s∧s≤4) (hl:ss.length≤3) (H:∀q,0≤q→q<Ya 1 ss→atv vs q=if q=p then -5 else q) (r0:0≤r) (r1:r<ss.length)
  (hlen:((chs 0 r [[]] ss).flatMap fun t=>lpl 0 t (stf 1 ss)).length=(rg (Ya 1 ss)).length):okS (((chs 0 r [[]] ss).flatMap fun t=>lpl 0 t (stf 1 ss)).map (atv vs))=true∧okS ((rg (Ya 1 ss)).map (atv vs))=true:=by
 by_cases c:(rg (Ya 1 ss)).length<64
 ·exact ⟨Quy (by rw [List.length_map,hlen];exact c),Quy (by rw [List.length_map];exact c)⟩
 ·rw [Q9]at c;obtain rfl:=full h1 hl ((Z01 0x4026440260b096) c);have r3:r.toNat<3:=by have:r<3:=r1;exact (Z01 0x350b035036) this
  exact ⟨Qq2 r3 H (by have:=Qzo _ r3;rwa [Int.ofNat_eq_natCast,Int.toNat_of_nonneg r0]at this),Qq2 (k:=0) (by decide) H rfl⟩
theorem Qwl {ss:List Int}(hn:10≤n) (h1:∀s∈ss,1≤s∧s≤4) (hl1:1≤ss.length) (hl:ss.length≤3) (F:FOk g (rg (Ya 1 ss))) (c0:Option B):∃c6 c7 c8 c9 c10 c11 g3 qs g4 ρ' g',
  Yj (orc gl (ss.map .int) n) Qd4 [c0,vv (.hnd .pen),vv (.hnd .heap),vv (tI ss),vv (.lst ((grd [[]] ss).map tI)),vv Ji,none,none,none,none,none,none,none,none,none] g =
   some (.nxt,[c0,vv (.hnd .pen),vv (.hnd .heap),vv (tI ss),vv (.lst ((grd [[]] ss).map tI)),vv Ji,c6,c7,c8,c9,c10,c11,none,none,none],g3) ∧
  (∀c∈[c6,c7,c8,c9,c10,c11],NC c) ∧
  Qb (orc gl (ss.map .int) n) Ql8 [c0,vv (.hnd .pen),vv (.hnd .heap),vv (tI ss),vv (.lst ((grd [[]] ss).map tI)),vv Ji,c6,c7,c8,c9,c10,c11,none,none,none] g3=some (.lst (qs.map (·.pd)),g4) ∧
  Qdl ss qs∧(∃q∈qs,∃s,QBad s q) ∧
  Yj (orc gl (ss.map .int) n) Qep [c0,vv (.hnd .pen),vv (.hnd .heap),vv (tI ss),vv (.lst ((grd [[]] ss).map tI)),vv Ji,c6,c7,c8,c9,c10,c11,none,none,none] g4=some (.ret (.bool true),ρ',g'):=by
 refine gk fun Ω κ=>?_;have hb:Bd ss:=fun s hs=>by have:=h1 s hs;exact (Z01 0x4504005474504015476) this
 have h64:=Qci hb hl;have v0:VOk (ss.map .int) (Ya 1 ss) Ji 0 ss (stf 1 ss):=⟨Qgz hb hl,fun r hr=>Qi5 hr⟩
 obtain ⟨rs1,g1,c9,ps1,F1,n9,t1⟩:=Qp5 (gl:=gl) (n:=n) (x:=0) ((Z10 0x9510a516) hn) v0 F c0 (vv (tI ss)) (vv (.lst ((grd [[]] ss).map tI))) none none none none none none none .none .none;have v1:=v0.view ps1;obtain ⟨rs2,g2,c9',ps2,F2,n9',t2⟩:=Qp5 (gl:=gl) (n:=n) (x:=1) ((Z10 0x9510a516) hn) v1 F1 c0 (vv (tI ss)) (vv (.lst ((grd [[]] ss).map tI))) (vv (.int 0)) c9 none none none none none (.vv _) n9;obtain ⟨vs,g3,d10,d11,F3,hvl,m10,m11,⟨wp,hwp⟩,t3⟩:=Qwt (gl:=gl) (n:=n) ((Z10 0x9510a516) hn) hb hl rfl (v1.view ps2) F2 c0 (vv (tI ss)) (vv (.int 1)) c9' none none none none none .none .none;refine κ ?_;generalize hV:vv (Qdd (Q0 (Q0 0 rs1 (stf 1 ss)) rs2 (Q3 rs1 (stf 1 ss))) (Qr rs2) (Q3 rs2 (Q3 rs1 (stf 1 ss))))=V at t2 t3;generalize hC:vv (Qz (Q0 (Q0 0 rs1 (stf 1 ss)) rs2 (Q3 rs1 (stf 1 ss))) (Qr rs2) (Q3 rs2 (Q3 rs1 (stf 1 ss))))=C at t2 t3;refine gk fun Ω κ=>?_;obtain ⟨qs,g4,hq,hqb,fl4,t4⟩:=Qqr (gl:=gl) (sz:=ss.map .int) (g:=g3) (n:=n) (ss:=ss) ((Z10 621847830) hn) h1 hl (by rintro rfl;simp at hl1);obtain ⟨r,g5,r0,r1,fl5,t6⟩:=Jj (gl:=gl) (sz:=ss.map .int) (g:=g4) (n:=n) (m:=ss.length) ((Z10 353412374) hn) ((Z10 0x3e8360a40a05373501601516) hl1 hl);have F5:FOk g5 vs:=⟨fl5.trans (fl4.trans F3.eq),F3.len⟩
 have hrl:r.toNat<ss.length:=(Z11 0xb00a03600546) r0 r1;obtain ⟨s,hs⟩:∃s,ss[r.toNat]?=some s:=⟨_,List.getElem?_eq_getElem hrl⟩
 have ef:(stf 1 ss).length=ss.length:=Y4 _ _;have c64:=Qvc (rank:=r) hb hl;have hperm:=Qn7 ss (stf 1 ss) r r0 r1 ef;rw [Qg5 hb]at hperm;have hlenrg:(rg (Ya 1 ss)).length=(Ya 1 ss).toNat:=Q9 _;have slen:∀{ρ:Q8} {g:Gs},ρ[3]?=some (vv (tI ss))→Qb (orc gl (ss.map .int) n) (.bi .len (.cons (.var 3) .nil)) ρ g=some (.int ss.length,g):=fun {ρ g} h=>by
  refine eqL ((by simp:((ss.map D.int).length:Int)=ss.length)) ?_;exact Vv (.inr (Qa h)) (by simp;exact (Z10 0x100000660135016) hl)
 refine κ ?_;have hcl:∀c∈chs 0 r [[]] ss,(lpl 0 c (stf 1 ss)).length≤4:=fun c hc=>by have:=Qk7 hb r0 hs ef hc;exact (Z11 0x450100a564504015476) (h1 s (List.mem_of_getElem? hs)) this
 have lines:∀(nm:List String) (ρ:Q8),ρ[2]?=some (vv (.hnd .heap))→ρ[5]?=some (vv Ji)→ρ[12]?=some (vv (.int r)) →
   Qb (orc gl (ss.map .int) n) (.comp (.fn "items_of" (.cons (.var 1) (.cons (.var 0) .nil))) (.nm 0) (.over (.fn "line_views" (.cons (.var 2) (.cons (.var 5) (.cons (.var 12) .nil))))) .nil nm [none,some 2]) ρ g5 =
    some (.lst ((chs 0 r [[]] ss).map fun c=>.lst ((lpl 0 c (stf 1 ss)).map fun q=>Ye (atv vs q))),g5):=fun nm ρ e2 e5 e12=>by
  refine Ys (g:=g5) (g1:=g5) (e:=fun c=>Qdd (Q0 0 c (stf 1 ss)) (Qr c) (Q3 c (stf 1 ss))) (h:=fun c=>.lst ((lpl 0 c (stf 1 ss)).map fun q=>Ye (atv vs q))) (xs:=chs 0 r [[]] ss) (ρ':=[none,some (.cap (.hnd .heap))])
   (Yc (.inl (Qea (Qa e2) (Qa e5) (Qa e12) (Qs2 ((Z10 0x6510a516) hn) (Qgz hb hl)))) (by simp;exact (Z10 0x10000066014026016) c64)) (Q4 rfl (Q4 (Q4 (congrArg (slV _) e2) rfl) rfl)) (fun c hc=>⟨_,rfl,Qy (Yr _ _ _ rfl) (Qa rfl) ?_⟩) ((Z10 0x10000066014026016) c64)
  refine Qgf ((Z10 0x6510a516) hn) (Qk3 (Qui hb (by rw [←Qgg];exact hc)) ef hl) F5 (fun q hq=>?_) (by have:=hcl c hc;unfold lpl at this;exact (Z10 0x100000660145016) this);have:=(fun q hq=>Qen.mp (hperm.mem_iff.mp hq):∀q,q∈(chs 0 r [[]] ss).flatMap (fun t=>lpl 0 t (stf 1 ss))→0≤q∧q<Ya 1 ss) q (List.mem_flatMap.mpr ⟨c,hc,hq⟩);exact (Z12 0xa13105470131054760b026) hvl this
 have told:∀(nm:List String) (ρ:Q8),ρ[13]?=some (vv (.lst ((chs 0 r [[]] ss).map fun c=>.lst ((lpl 0 c (stf 1 ss)).map fun q=>Ye (atv vs q))))) →
   Qb (orc gl (ss.map .int) n) (.comp2 (.idx (.var 1) (.int 2)) (.nm 0) (.over (.var 13)) (.nm 1) (.over (.var 0)) nm [none,none]) ρ g5=some (lI (((chs 0 r [[]] ss).flatMap fun t=>lpl 0 t (stf 1 ss)).map (atv vs)),g5):=fun nm ρ e13=>by
  have:=Qdj (O:=orc gl (ss.map .int) n) (ρ:=ρ) (g:=g5) (g1:=g5) (xs:=chs 0 r [[]] ss) (e:=fun c=>.lst ((lpl 0 c (stf 1 ss)).map fun q=>Ye (atv vs q))) (e2:=fun Y q=>Ye (atv vs q)) (ys:=fun c=>lpl 0 c (stf 1 ss)) (h:=fun Y q=>.int (atv vs q))
   (elt:=.idx (.var 1) (.int 2)) (t₁:=.nm 0) (t₂:=.nm 1) (it₁:=.over (.var 13)) (it₂:=.over (.var 0)) (nm:=nm) (cap:=[none,none]) (ρ':=[none,none])
   (Yc (.inl (Qa e13)) (by simp;exact (Z10 0x10000066014026016) c64)) rfl (fun c hc=>⟨_,rfl,Yc (.inl (Qa rfl)) (by have:=hcl c hc;simp;exact (Z10 0x100000660145016) this),fun q hq=>⟨_,rfl,Qul (Qa rfl)⟩⟩) (by
    have:=hperm.length_eq;exact (Z21 0x100000661101260b0264026046) h64 hlenrg this)
  refine eqR (this) ?_;simp [List.map_flatMap,Function.comp_def]
 obtain ⟨ok1,ok2⟩:=Qwp h1 hl hwp r0 r1 hperm.length_eq;refine ⟨C,V,vv (.int 1),c9',d10,d11,g3,qs,g4,[c0,vv (.hnd .pen),vv (.hnd .heap),vv (tI ss),vv (.lst ((grd [[]] ss).map tI)),vv Ji,C,V,vv (.int 1),c9',d10,d11,vv (.int r),vv (.lst ((chs 0 r [[]] ss).map fun c=>.lst ((lpl 0 c (stf 1 ss)).map fun q=>Ye (atv vs q)))),vv (lI (Ja (((chs 0 r [[]] ss).flatMap fun t=>lpl 0 t (stf 1 ss)).map (atv vs))))],g5,?_,?_,?_,hq,hqb,?_⟩
 ·unfold Qd4;refine Qc (Qo (g':=g) (d:=Qz 0 ss (stf 1 ss)) (Qsp hb hl rfl rfl) rfl) ?_;refine Qc (Qo (g':=g) (d:=Ji) (Qa rfl) rfl) ?_;refine Qc (Ju (Qck (s:=2) (Qf ..) (by decide) (by decide)) (Yb t1 (Yb t2 Qo9))) ?_;exact Qc t3 (Qh ..)
 ·intro c hc;simp only [List.mem_cons,List.not_mem_nil,or_false]at hc;rcases hc with rfl|rfl|rfl|rfl|rfl|rfl
  ·refine eqL (hC) ?_;exact .vv _
  ·refine eqL (hV) ?_;exact .vv _
  ·exact .vv _
  ·exact n9'
  ·exact m10
  ·exact m11
 ·exact Qy (Qa rfl) (Qa rfl) t4
 unfold Qep;refine Qc (Qo (g':=g5) (d:=.int r) (Qy (Qa rfl) (slen rfl) t6) rfl) ?_;refine Qc (Qo (g':=g5) (d:=.lst ((chs 0 r [[]] ss).map fun c=>.lst ((lpl 0 c (stf 1 ss)).map fun q=>Ye (atv vs q)))) (lines _ _ rfl rfl rfl) rfl) ?_;refine Qc (Qo (g':=g5) (d:=lI (Ja (((chs 0 r [[]] ss).flatMap fun t=>lpl 0 t (stf 1 ss)).map (atv vs)))) (Qhf (Qlw _) (told _ _ rfl) ok1) rfl) ?_;refine Qc (Qt (g':=g5) (Qq (t:=false) (Qa rfl) (Qhf (Qlw _) (Qu8 (qs:=rg (Ya 1 ss)) (vs:=vs) (Qy (Qa rfl) (Qa rfl) (Qib ((Z10 0x6510a516) hn) hb hl F5 hvl)) ((Z11 0x10000066010b0264026046) h64 hlenrg)) ok2) ?_) (Qh ..)) ?_
 ·refine eqR ((Qfr (hperm.map _):Ja (((chs 0 r [[]] ss).flatMap fun t=>lpl 0 t (stf 1 ss)).map (atv vs))=Ja ((rg (Ya 1 ss)).map (atv vs)))) ?_;exact Qfl _
 refine Qj (Qp ?_);refine Qq (a:=lI (List.replicate (chs 0 r [[]] ss).length s)) (b:=lI (List.replicate (chs 0 r [[]] ss).length s)) (g1:=g5) (g2:=g5) ?_ ?_ (by simp only [Vw,Qlj])
 ·have:=Ys (O:=orc gl (ss.map .int) n) (ρ:=[c0,vv (.hnd .pen),vv (.hnd .heap),vv (tI ss),vv (.lst ((grd [[]] ss).map tI)),vv Ji,C,V,vv (.int 1),c9',d10,d11,vv (.int r),vv (.lst ((chs 0 r [[]] ss).map fun c=>.lst ((lpl 0 c (stf 1 ss)).map fun q=>Ye (atv vs q)))),vv (lI (Ja (((chs 0 r [[]] ss).flatMap fun t=>lpl 0 t (stf 1 ss)).map (atv vs))))])
   (g:=g5) (g1:=g5) (e:=fun c=>.lst ((lpl 0 c (stf 1 ss)).map fun q=>Ye (atv vs q))) (h:=fun Y=>.int s) (xs:=chs 0 r [[]] ss) (elt:=.bi .len (.cons (.var 0) .nil)) (t:=.nm 0) (it:=.over (.var 13)) (nm:=["line"]) (cap:=[none]) (ρ':=[none])
   (Yc (.inl (Qa rfl)) (by simp;exact (Z10 0x10000066014026016) c64)) rfl (fun c hc=>⟨_,rfl,by
    refine eqL ((by rw [List.length_map];exact Qk7 hb r0 hs ef hc:((((lpl 0 c (stf 1 ss)).map fun q=>Ye (atv vs q)).length:Nat):Int)=s)) ?_;exact Vv (.inl (Qa rfl)) (by have:=hcl c hc;simp;exact (Z10 0x100000660145016) this)⟩) ((Z10 0x10000066014026016) c64)
  refine Eq.trans this ?_;refine eqR (List.map_const') ?_;simp
 ·refine Qk (a:=.lst [.int s]) (b:=.int (chs 0 r [[]] ss).length) (g1:=g5) (g2:=g5) (Qcp (Q1 (Qa rfl) (Qa rfl) ?_)) ?_ ?_
  ·have h2:ss.length≤1048576:=(Z10 0x100000660135016) hl;simp only [Vg,Ve,Vf,Qah,Qal,List.length_map,List.getElem?_map,hs];simp [r0,Qm,h2]
  ·refine eqL ((by simp:((((chs 0 r [[]] ss).map fun c=>D.lst ((lpl 0 c (stf 1 ss)).map fun q=>Ye (atv vs q))).length:Nat):Int)=((chs 0 r [[]] ss).length:Int))) ?_;exact Vv (.inl (Qa rfl)) (by simp;exact (Z10 0x10000066014026016) c64)
  ·simp [Qc9];exact (Z10 0x100000660a44026016) c64
end
theorem Qoh {N:List Str}{ds full L:List Value}(hL:L=ds) (hn:N.Nodup) (hds:ds.length≤1) (hf:(vals.length=N.length∧full=vals)∨∃d,A3 (ds=[d]) (vals.length+1=N.length) (full=vals++[d])) :
  A3 (vals.length≤N.length∧N.length=full.length) ((N.take (N.length-(L.drop (L.length-N.length)).length)).filter (fun n=>((N.zip vals).lookup n).isNone)=[])
   ((forIn (m:=Sem) ((N.drop (N.length-(L.drop (L.length-N.length)).length)).zip (L.drop (L.length-N.length))) (N.zip vals) fun x s=>if (List.lookup x.1 s).isNone=true then pure (ForInStep.yield (s++[(x.1,x.2)])) else pure (ForInStep.yield s))=pure (N.zip full)):=by
 subst hL;rcases hf with ⟨hl,rfl⟩|⟨d,rfl,hl,rfl⟩
 ·have some_all:∀n∈N,((N.zip full).lookup n).isNone=false:=fun n hn'=>Vk ((Z20 1183782) hl) n hn';refine ⟨⟨Nat.le_of_eq hl,hl.symm⟩,List.filter_eq_nil_iff.mpr fun n hn'=>by rw [some_all n (List.mem_of_mem_take hn')];exact Bool.false_ne_true,?_⟩;have loop:∀(l:List (Str×Value)),(∀p∈l,p.1∈N)→(forIn (m:=Sem) l (N.zip full) fun x r=>if (List.lookup x.1 r).isNone=true then (pure (ForInStep.yield (r++[(x.1,x.2)])):Sem (ForInStep (List (Str×Value)))) else pure (ForInStep.yield r))=pure (N.zip full):=by
   intro l
   induction l with
   |nil=>intro _;rw [List.forIn_nil]
   |cons p l ih=>
    intro hp;rw [List.forIn_cons,some_all p.1 (hp p (.head _))];exact ih fun q hq=>hp q (.tail _ hq)
  exact loop _ fun p hp=>List.mem_of_mem_drop (List.of_mem_zip hp).1
 ·obtain ⟨M',x,rfl⟩:X2 fun M' x=>N=M'++[x]:=⟨N.dropLast,N.getLast (by intro h;rw [h]at hl;cases hl),(List.dropLast_concat_getLast _).symm⟩
  have hlen:(M'++[x]).length=M'.length+1:=List.length_append;rw [hlen]at hl;have hM:M'.length=vals.length:=(Nat.succ.inj hl).symm;have hz:(M'++[x]).zip vals=M'.zip vals:=by
   have:=List.zip_append (l₁:=M') (l₂:=vals) (r₁:=[x]) (r₂:=[]) hM;simpa using this
  have hxn:((M'.zip vals).lookup x).isNone=true:=by
   rw [Option.isNone_iff_eq_none,List.lookup_eq_none_iff];intro p hp;have:=(List.nodup_append.mp hn).2.2 p.1 (List.of_mem_zip hp).1 x (.head _);simpa using Ne.symm this
  have e1:[d].drop ([d].length-(M'++[x]).length)=[d]:=by rw [hlen,show [d].length-(M'.length+1)=0 from Nat.sub_eq_zero_of_le (Nat.le_add_left _ _)];rfl
  rw [hz,e1,hlen,show M'.length+1-[d].length=M'.length from rfl,List.take_left' rfl,List.drop_left' rfl];refine ⟨⟨by rw [←hM];exact Nat.le_succ _,by rw [List.length_append,←hM];rfl⟩,List.filter_eq_nil_iff.mpr fun n hn'=>by rw [Vk hM n hn'];exact Bool.false_ne_true,?_⟩;rw [List.zip_append hM];refine (List.forIn_cons ..).trans ?_;rw [hxn]
  rfl
theorem Qsr {ds full:List Value}(h1:fd.params.posonlyargs=[]) (h2:fd.params.vararg=none) (h3:fd.params.kwonlyargs=[]) (h4:fd.params.kwarg=none) (hn:(fd.params.args.map (·.arg)).Nodup)
  (hdf:(fd.defaults=.none∧ds=[])∨X3 fun T o n=>A3 (fd.defaults=.ref T) (s.heap.get? T=some o) (o.data=.seq ds.toArray n)) (hds:ds.length≤1)
  (hf:(vals.length=fd.params.args.length∧full=vals)∨∃d,A3 (ds=[d]) (vals.length+1=fd.params.args.length) (full=vals++[d])) :
  BindsTo s fd ⟨vals,[]⟩ ((fd.params.args.map (·.arg)).zip full):=by
 intro M A E Q hq;obtain ⟨nm,qn,⟨po,ar,va,ko,kd,kw,de⟩,bd,sc,gl,cl,dfv,kdv,doc,pm,an,cv,ct,bi⟩:=fd
 replace h1:po=[]:=h1
 replace h2:va=none:=h2
 replace h3:ko=[]:=h3
 replace h4:kw=none:=h4
 subst h1 h2 h3 h4;have hk:wpAny M A (seqItems? dfv) (fun r s'=>s'=s∧(r.getD #[]).toList=ds) E s:=by
  rcases hdf with ⟨rfl,rfl⟩|⟨T,o,n,rfl,ho,hd⟩
  ·exact wpAny_pure ⟨rfl,rfl⟩
  ·exact wpAny_seqItems ho hd ⟨rfl,rfl⟩
 replace hf:(vals.length=(ar.map (·.arg)).length∧full=vals)∨∃d,A3 (ds=[d]) (vals.length+1=(ar.map (·.arg)).length) (full=vals++[d]):=by rw [List.length_map];exact hf
 refine wpAny_bind (wpAny_pure ?_);refine wpAny_bind (wpAny_mono hk (fun r s' h'=>?_) fun Y Y x=>x);obtain ⟨b1,b2,b3⟩:=Qoh h'.2 hn hds hf;refine aN (fun c=>absurd (of_decide_eq_true (Bool.and_eq_true_iff.mp c).1) (Nat.not_lt.mpr b1.1)) ?_;refine aN (fun c=>Bool.false_ne_true ((congrArg (fun l:List Str=>!l.isEmpty) b2).symm.trans c)) ?_;refine wpAny_bind (wpAny_of_eq b3 ?_);refine wpAny_bind (wpAny_pure ?_);refine aN Bool.false_ne_true ?_;refine wpAny_pure ?_;have e:((ar.map fun a:Arg=>a.arg)++([]:List Str)).filterMap (fun n:Str=>(((ar.map fun a:Arg=>a.arg).zip full).lookup n).map (n,·))=(ar.map fun a:Arg=>a.arg).zip full:=by rw [List.append_nil];exact Qoy hn b1.2
 exact h'.1▸e.symm▸hq
section
theorem Qjn {binds:List (Str×Value)}
  (hroom:A.depth<recursionLimit) (ho:s.heap.get? a=some o) (hdata:o.data=.func fd) (hlim:s.heap.NoLimit) (hcd:s.heap.CodeRec fd.code fd.qualname)
  (hbody:fd.body=.stmts body) (hbind:BindsTo s fd ⟨vals,[]⟩ binds) (hclo:fd.closure=[])
  (hkind:∀x∈binds,fd.scope.names.lookup x.1=some .local∨(fd.scope.names.lookup x.1=some .cell∧((cellsFrom (s.heap.objs.size+1) fd.scope.names []).lookup x.1).isSome=true))
  (h:∀s₁,InCallC s (callEnvC fd s.heap.objs.size a).locals (bindL (callEnvC fd s.heap.objs.size a).kindOf binds fun Y=>none) (callEnvC fd s.heap.objs.size a).cells
    (bindC (callEnvC fd s.heap.objs.size a).kindOf binds fun Y=>none) s₁ →
   wpAny (model prog w) (A.deeper (callEnvC fd s.heap.objs.size a)) (execs body (callEnvC fd s.heap.objs.size a)) (fun f s'=>R (.ok (.ret (match f with|.ret v=>v|_=>.none))) s')
    (fun e s'=>wpAny (model prog w) (A.deeper (callEnvC fd s.heap.objs.size a)) (leaving (callEnvC fd s.heap.objs.size a) e) (fun Y s''=>R (.error e) s'') (fun e' s''=>R (.error e') s'') s') s₁)
  (hco:fd.scope.isCoroutine=false) (hgen:fd.scope.isGenerator=false) (hk:fd.scope.kind=.function) :
  codeAny (model prog w) A (.call (.ref a) ⟨vals,[]⟩) R s:=by
 refine codeAny_call_function hroom ho hdata hco hgen hbody hcd ?_;refine hbind _ _ _ _ ?_;refine eqR (hclo) ?_;refine wpAny_newFunctionEnv_cells hk hkind fun env he s' x=>?_;subst he;exact ⟨hlim.keeps x.toInCall.keep,codeAny_func (h s' x)⟩
end
structure FdOk (fd:FuncData) (np:Nat) (nm:List String) (body:List Stmt):Prop where
 po:fd.params.posonlyargs=[]
 va:fd.params.vararg=none
 ko:fd.params.kwonlyargs=[]
 kw:fd.params.kwarg=none
 gl:fd.globals=mainGlobals
 bu:fd.builtins=builtinsNs
 clo:fd.closure=[]
 body:fd.body=.stmts body
 kind:fd.scope.kind=.function
 gen:fd.scope.isGenerator=false
 co:fd.scope.isCoroutine=false
 args:fd.params.args.map (·.arg)=(nm.take np).map Str.ofString
 kinds:∀x∈nm,fd.scope.names.lookup (Str.ofString x)=some .local∨fd.scope.names.lookup (Str.ofString x)=some .cell
 nd:(nm.map Str.ofString).Nodup
 np:np≤nm.length
theorem FdOk.of (h:Qye fd np nm=true) (hb:fd.body=.stmts body):FdOk fd np nm body:=by
 refine gk fun Ω κ=>?_;unfold Qye at h;simp only [Bool.and_eq_true,decide_eq_true_eq,Bool.not_eq_true',List.isEmpty_iff,Option.isNone_iff_eq_none,List.all_eq_true,Bool.or_eq_true,beq_iff_eq]at h;obtain ⟨⟨⟨⟨⟨⟨⟨⟨⟨⟨⟨⟨⟨h1,h2⟩,h3⟩,h4⟩,h5⟩,h6⟩,h7⟩,h8⟩,h9⟩,h10⟩,h11⟩,h12⟩,h13⟩,h14⟩:=h;refine κ ?_;exact ⟨h1,h2,h3,h4,h5,h6,h7,hb,h8,h9,h10,h11,h12,h13,h14⟩
noncomputable def Qi1:Option D→Option B
 |none=>none
 |some d=>some (.val d)
theorem Qg2 {l:List (Option D)}:¬Y7 (l.map Qi1++List.replicate k none) i:=fun o=>by
 have:∀b,(l.map Qi1++List.replicate k none)[i]?=some (some b)→Yv b=false:=fun b hb=>by
  have:=List.mem_of_getElem? hb;rcases List.mem_append.mp this with h|h
  ·obtain ⟨d,_,e⟩:=List.mem_map.mp h;cases d with
   |none=>cases e
   |some d=>cases e;rfl
  ·have:=List.eq_of_mem_replicate h;cases this
 rcases o with ⟨_,e⟩|⟨_,e⟩<;>cases this _ e
structure Entered (P:Program) (w:World) (hB:Heap) (Γ:Gm) (z:Z) (g:Gs) (s:Shared) (env:Env) (nm:List String) (ρ0:List (Option D)) (full:List Value) (s₁:Shared) (m:Str→Option Value):Prop where
 base:Base P w hB Γ z g s₁
 step:Step Γ z s z s₁
 keep:∀a o,s.heap.get? a=some o→s₁.heap.get? a=some o
 kp:Kp (Qi s.heap) s₁.heap
 fro:Fro P w Γ (Qi s.heap) z s₁.heap env nm (ρ0.map Qi1++List.replicate (nm.length-ρ0.length) none) m
 cur:∀(i:Nat) (x:String) (v:Value),nm[i]?=some x→full[i]?=some v→Cur s₁.heap env m (Str.ofString x) v
section
theorem Yft (W:Wd hB Γ mg mb) (fo:FdOk fd np nm body) {ds full:List Value}
  (ho:s.heap.get? a=some o) (hdat:o.data=.func fd) (hcd:s.heap.CodeRec fd.code fd.qualname) (hA:AOk (n+1) A) (bs:Base P w hB Γ z g s)
  (hdf:(fd.defaults=.none∧ds=[])∨X3 fun T o n=>A3 (fd.defaults=.ref T) (s.heap.get? T=some o) (o.data=.seq ds.toArray n)) (hds:ds.length≤1)
  (hf:(vals.length=np∧full=vals)∨∃d,A3 (ds=[d]) (vals.length+1=np) (full=vals++[d])) (hρ:ρ0.length=np) (hs:∀(i:Nat) v d,full[i]?=some v→ρ0[i]?=some (some d)→Rd P w Γ z v d)
  (h:∀s₁ m,Entered P w hB Γ z g s (callEnvC fd s.heap.objs.size a) nm ρ0 full s₁ m→wpAny (model P w) (A.deeper (callEnvC fd s.heap.objs.size a)) (execs body (callEnvC fd s.heap.objs.size a)) (fun f s'=>R (.ok (.ret (match f with|.ret v=>v|_=>.none))) s')
    (fun e s'=>wpAny (model P w) (A.deeper (callEnvC fd s.heap.objs.size a)) (leaving (callEnvC fd s.heap.objs.size a) e) (fun Y s''=>R (.error e) s'') (fun e' s''=>R (.error e') s'') s') s₁) :
  codeAny (model P w) A (.call (.ref a) ⟨vals,[]⟩) R s:=by
 have hlen:full.length=np:=by
  rcases hf with ⟨h1,rfl⟩|⟨d,rfl,h1,rfl⟩
  ·exact h1
  ·simpa using h1
 have hnp:=fo.np;have hnd2:((nm.take np).map Str.ofString).Nodup:=by rw [List.map_take];exact (List.take_sublist _ _).nodup fo.nd
 have hB2:=Qsr (s:=s) fo.po fo.va fo.ko fo.kw (fo.args▸hnd2) hdf hds (full:=full) (vals:=vals) (by rw [(by have:=congrArg List.length fo.args;simp at this;exact (Z30 0x2210c2261016) hnp this:fd.params.args.length=np)];exact hf);rw [fo.args]at hB2;refine Qjn (fd:=fd) (by have:=hA.dep;exact (Z30 0x200215151707706) this) ho hdat (W.lim.keeps (Qg bs)) hcd fo.body hB2 fo.clo (fun x hx=>?_) (fun s₁ x=>?_) fo.co fo.gen fo.kind
 ·obtain ⟨y,hy,e⟩:=List.mem_map.mp (List.of_mem_zip hx).1;have hy':=List.mem_of_mem_take hy;rcases fo.kinds y hy' with h|h
  ·left;rw [←e];exact h
  ·right;rw [←e];exact ⟨h,Vq _ _ _ (.inr h)⟩
 ·obtain ⟨h1,tk,e1⟩:=x.toInCall.same;have ns:=x.toInCall.ns;have k1:=x.toInCall.keep;have hcell:=x.cell;have hapart:=x.apart;subst e1;have no:∀{c},s.heap.objs.size≤c→¬Qi s.heap c:=fun hc ⟨o,e⟩=>by rw [Qn hc]at e;exact nomatch e
  have zn:∀{c},s.heap.objs.size≤c→z c=none:=fun hc=>Ql bs.zin (Qn hc);have hko':∀x,(callEnvC fd s.heap.objs.size a).kindOf x=fd.scope.names.lookup x:=fun Y=>rfl;have curs:∀(i:Nat) (x:String) (v:Value),nm[i]?=some x→full[i]?=some v→Cur h1 (callEnvC fd s.heap.objs.size a) (bindL (callEnvC fd s.heap.objs.size a).kindOf (((nm.take np).map Str.ofString).zip full) fun Y=>none) (Str.ofString x) v:=fun i y v hi hv=>by
   have hin:i<np:=by rw [←hlen];exact (List.getElem?_eq_some_iff.mp hv).1
   have hni:((nm.take np).map Str.ofString)[i]?=some (Str.ofString y):=by rw [List.getElem?_map,List.getElem?_take_of_lt hin,hi];rfl
   rcases fo.kinds y (List.mem_of_getElem? hi) with h|h
   ·exact .inl ⟨h,Qkx h hnd2 hni hv⟩
   ·obtain ⟨c,hc⟩:=Option.isSome_iff_exists.mp (Vq (x:=Str.ofString y) fd.scope.names (s.heap.objs.size+1) [] (.inr h));refine .inr ⟨.inl h,c,hc,?_⟩;have:=hcell _ _ hc
    rwa [Qkm (by rw [hko',h];decide) hnd2 hni hv]at this
  refine h _ _ ⟨(bs.grown (t:=tk) k1),(Step.grown bs (t:=tk) k1),k1,fun c ⟨o,e⟩=>⟨o,k1 _ _ e⟩,?_,curs⟩;exact
   {fn:=fo.kind
    gl:=fo.gl
    bi:=fo.bu
    len:=by simp;exact (Z30 0x202807221161026) hρ hnp
    nd:=fo.nd
    ns:=ns
    zl:=zn (Nat.le_refl _)
    kl:=no (Nat.le_refl _)
    slot:=fun i y bb hi hb=>by
     have hy:=List.mem_of_getElem? hi;have wr:Wr (Qi s.heap) z h1 (callEnvC fd s.heap.objs.size a) (Str.ofString y):=by
      rcases fo.kinds y hy with h|h
      ·exact .inl h
      ·obtain ⟨c,hc⟩:=Option.isSome_iff_exists.mp (Vq (x:=Str.ofString y) fd.scope.names (s.heap.objs.size+1) [] (.inr h));have hLc:s.heap.objs.size≤c:=Nat.le_of_lt (x.above _ _ (Jt hc));exact .inr ⟨h,c,_,hc,hcell _ _ hc,zn hLc,no hLc⟩
     by_cases hin:i<ρ0.length
     ·rw [List.getElem?_append_left (by simpa using hin),List.getElem?_map,List.getElem?_eq_getElem hin]at hb;simp only [Option.map_some,Option.some.injEq]at hb;subst hb;cases hd:ρ0[i] with
      |none=>exact wr
      |some d=>
       have hv:full[i]?=some (full[i]'((Z40 0x230030612261026) hρ hlen hin)):=List.getElem?_eq_getElem ((Z40 0x230030612261026) hρ hlen hin);exact ⟨fun Y=>wr,_,curs i y _ hi hv,hs i _ d hv (by rw [List.getElem?_eq_getElem hin,hd])⟩
     ·rw [List.getElem?_append_right (by simpa using Nat.le_of_not_lt hin),List.getElem?_replicate]at hb;split at hb<;>cases hb;exact wr
    inj:=fun i j x y a hi hj oi oj=>absurd oi Qg2
    cinj:=fun x y c e1 e2=>by
     obtain ⟨i,hi⟩:=List.mem_iff_getElem.mp (Jt e1);obtain ⟨j,hj⟩:=List.mem_iff_getElem.mp (Jt e2);obtain ⟨li,hi⟩:=hi;obtain ⟨lj,hj⟩:=hj;have hp:=List.pairwise_iff_getElem.mp hapart;rcases Nat.lt_trichotomy i j with h|h|h
     ·exact absurd (by rw [hi,hj]) (hp i j li lj h)
     ·subst h;rw [hi]at hj;cases hj;rfl
     ·exact absurd (by rw [hi,hj]) (hp j i lj li h) }
end
noncomputable def GLe (Γ Γ':Gm):Prop:=(Γ.has=true→Γ'.has=true∧Γ'.pA=Γ.pA∧Γ'.hA=Γ.hA)∧Γ.two=false
section
theorem GLe.hnd (hg:GLe Γ Γ') (z:Z):∀k,Γ.ok k→Rd P w Γ' z (.ref (Γ.at k)) (.hnd k)
 |.pen,h=>eqL (M:=fun a=>Rd P w Γ' z (.ref a) (.hnd .pen)) (hg.1 h).2.1 (.hnd .pen (hg.1 h).1)
 |.raw,h=>eqL (M:=fun a=>Rd P w Γ' z (.ref a) (.hnd .raw)) (hg.1 h).2.2 (.hnd .raw (hg.1 h).1)
 |.heap,h|.thing,h|.flds,h=>ff (hg.2.symm.trans h)
theorem Rd.swaps (hg:GLe Γ Γ') (hz:ZLe z z'):(∀{v:Value}{d:D},Rd P w Γ z v d→Rd P w Γ' z' v d)∧(∀{vs:List Value}{ds:List D},Rds P w Γ z vs ds→Rds P w Γ' z' vs ds):=
 Rd.both .none .bool .int .str (fun e Y r=>.tup (hz _ _ e) r) (fun e Y r=>.lst (hz _ _ e) r) (fun e Y r=>.dct (e.le P w hz) rfl r) (hg.hnd z') .nil fun Y Y x y=>.cons x y
theorem Rd.swap (r:Rd P w Γ z v d) (hg:GLe Γ Γ') (hz:ZLe z z'):Rd P w Γ' z' v d:=(Rd.swaps hg hz).1 r
end
@[elab_as_elim] theorem Ycn {k:Addr→Bool} {M:Value→Prop} (h:vRf k v=true) (g:∀a,k a=true→M (.ref a)):M v:=mmK h fun q h=>
 Value.ref.elim (motive:=fun v=>(q:v.ctorIdx=_)→Value.ref.elim (motive:=fun Y=>Bool) v q k=true→M v) v q (fun a Y h=>g a h) q h
@[elab_as_elim] theorem Yh1 {k:Int→Bool} {M:Value→Prop} (h:vIn k v=true) (g:∀i t,k i=true→M (.int i t)):M v:=mmK h fun q h=>
 Value.int.elim (motive:=fun v=>(q:v.ctorIdx=_)→Value.int.elim (motive:=fun Y=>Bool) v q (fun i Y=>k i)=true→M v) v q (fun i t Y h=>g i t h) q h
@[elab_as_elim] theorem Yg6 {k:Str→Bool} {M:Value→Prop} (h:vSt k v=true) (g:∀x t,k x=true→M (.str x t)):M v:=mmK h fun q h=>
 Value.str.elim (motive:=fun v=>(q:v.ctorIdx=_)→Value.str.elim (motive:=fun Y=>Bool) v q (fun x Y=>k x)=true→M v) v q (fun x t Y h=>g x t h) q h
@[elab_as_elim] theorem Yir {k:Array Value→Bool} {v:Data} {M:Data→Prop} (h:dSq k v=true) (g:∀xs n,k xs=true→M (.seq xs n)):M v:=mmK h fun q h=>
 Data.seq.elim (motive:=fun v=>(q:v.ctorIdx=_)→Data.seq.elim (motive:=fun Y=>Bool) v q (fun xs Y=>k xs)=true→M v) v q (fun x n Y h=>g x n h) q h
@[elab_as_elim] theorem Yib {k:FuncData→Bool} {v:Data} {M:Data→Prop} (h:dFn k v=true) (g:∀fd,k fd=true→M (.func fd)):M v:=mmK h fun q h=>
 Data.func.elim (motive:=fun v=>(q:v.ctorIdx=_)→Data.func.elim (motive:=fun Y=>Bool) v q k=true→M v) v q (fun x Y h=>g x h) q h
@[elab_as_elim] theorem Yi3 {k:ClassData→Bool} {v:Data} {M:Data→Prop} (h:dCl k v=true) (g:∀cd,k cd=true→M (.cls cd)):M v:=mmK h fun q h=>
 Data.cls.elim (motive:=fun v=>(q:v.ctorIdx=_)→Data.cls.elim (motive:=fun Y=>Bool) v q k=true→M v) v q (fun x Y h=>g x h) q h
theorem moK {ix:α→Nat}{f:(e:α)→ix e=n→Option β}{e:α}{b:β}(h:mo ix n f e=some b) (g:∀q:ix e=n,f e q=some b→G):G:=by
 delta mo at h
 by_cases q:ix e=n
 ·rw [dif_pos q]at h;exact g q h
 ·rw [dif_neg q]at h;exact nomatch h
@[elab_as_elim] theorem Ydo {k:Addr→Option β} {b:β} {M:Value→Prop} (h:oRf k v=some b) (g:∀a,k a=some b→M (.ref a)):M v:=moK h fun q h=>
 Value.ref.elim (motive:=fun v=>(q:v.ctorIdx=_)→Value.ref.elim (motive:=fun Y=>Option β) v q k=some b→M v) v q (fun a Y h=>g a h) q h
@[elab_as_elim] theorem Yik {k:FuncData→Option β} {b:β} {v:Data} {M:Data→Prop} (h:oFn k v=some b) (g:∀a,k a=some b→M (.func a)):M v:=moK h fun q h=>
 Data.func.elim (motive:=fun v=>(q:v.ctorIdx=_)→Data.func.elim (motive:=fun Y=>Option β) v q k=some b→M v) v q (fun a Y h=>g a h) q h
@[elab_as_elim] theorem Yit {k:Array Value→Option β} {b:β} {v:Data} {M:Data→Prop} (h:oSq k v=some b) (g:∀a n,k a=some b→M (.seq a n)):M v:=moK h fun q h=>
 Data.seq.elim (motive:=fun v=>(q:v.ctorIdx=_)→Data.seq.elim (motive:=fun Y=>Option β) v q (fun xs Y=>k xs)=some b→M v) v q (fun a n Y h=>g a n h) q h
theorem mSE {f:α→Bool}{o:Option α}(h:mS f o=true) (g:∀a,o=some a→f a=true→G):G:=mSK (M:=fun o'=>o=o'→G) h (fun a h e=>g a e h) rfl
theorem Qsg {K:Frag}{k:FuncData→Bool}{f:Addr}(h:Qz5 K k f=true) (g:∀o fd,K.lookup f=some o→o.data=.func fd→k fd=true→G):G:=mSE h fun o e h=>by
 obtain ⟨c,d,dt,sl⟩:=o;exact Yib (M:=fun dt=>K.lookup f=some ⟨c,d,dt,sl⟩→G) h (fun fd h e=>g _ fd e rfl h) e
theorem obK {o:Option α}{f:α→Option β}{b:β}(h:o.bind f=some b) (g:∀a,o=some a→f a=some b→G):G:=(Option.bind_eq_some_iff.mp h).elim fun a q=>g a q.1 q.2
theorem Ym {p:Scope→List Stmt→Bool}(h:V9 fd p=true):∃ss,fd.body=.stmts ss∧p fd.scope ss=true:=by
 unfold V9 at h;split at h
 ·exact ⟨_,by assumption,h⟩
 ·exact nomatch h
section
variable {K:Frag}
theorem Qaa (X:K.In hB) (G:hB.Ns mainGlobals mg) (h:fnK K f=some (a,fd)):mg (Str.ofString f)=some (.ref a)∧∃o,hB.get? a=some o∧o.data=.func fd:=
 obK h fun o hn h=>obK h fun v hv h=>by
  subst hv;refine Ydo (M:=fun v=>nsIn K mainGlobals (Str.ofString f)=some (some v)→_) h (fun a' h hn=>?_) hn;refine obK h fun o hl h=>?_;obtain ⟨c,d,dt,sl⟩:=o;refine Yik (M:=fun dt=>K.lookup a'=some ⟨c,d,dt,sl⟩→_) h (fun fd' h hl=>?_) hl;cases h;exact ⟨mg_of X G hn,_,X _ _ hl,rfl⟩
theorem Ycf (X:K.In hB) (k:∀a o,hB.get? a=some o→h.get? a=some o) {ds:List Value}(e:dsK K fd=some ds):(fd.defaults=.none∧ds=[])∨X3 fun T o n=>A3 (fd.defaults=.ref T) (h.get? T=some o) (o.data=.seq ds.toArray n):=by
 delta dsK at e
 by_cases hd:fd.defaults=.none
 ·rw [if_pos hd]at e;cases e;exact .inl ⟨hd,rfl⟩
 ·rw [if_neg hd]at e;refine Ydo (M:=fun v=>(v=.none∧ds=[])∨X3 fun T o n=>A3 (v=.ref T) (h.get? T=some o) (o.data=.seq ds.toArray n)) e fun T e=>obK e fun o hl e=>?_;obtain ⟨c,d,dt,sl⟩:=o;refine Yit (M:=fun dt=>K.lookup T=some ⟨c,d,dt,sl⟩→_) e (fun xs n e hl=>?_) hl;obtain rfl:=Option.some.inj e;exact .inr ⟨T,_,n,rfl,k _ _ (X _ _ hl),rfl⟩
end
section
variable {K:Frag}
theorem hs0 (i:Nat) (v:Value) (d:D) (hv:([]:List Value)[i]?=some v) (_:([]:List (Option D))[i]?=some (some d)):Rd P w Γ z v d:=by cases i<;>cases hv
theorem hsS {os:List (Option D)}(r:Rd P w Γ z v d) (t:∀(i:Nat) v d,vs[i]?=some v→os[i]?=some (some d)→Rd P w Γ z v d):∀(i:Nat) v' d',(v::vs)[i]?=some v'→(some d::os)[i]?=some (some d')→Rd P w Γ z v' d'
 |0,_,_,hv,hd=>by cases hv;cases hd;exact r
 |i+1,_,_,hv,hd=>t i _ _ hv hd
theorem hsN {os:List (Option D)}(t:∀(i:Nat) v d,vs[i]?=some v→os[i]?=some (some d)→Rd P w Γ z v d):∀(i:Nat) v' d',(v::vs)[i]?=some v'→(none::os)[i]?=some (some d')→Rd P w Γ z v' d'
 |0,_,_,_,hd=>by cases hd
 |i+1,_,_,hv,hd=>t i _ _ hv hd
theorem Qux (X:K.In hB) (W:Wd hB Γ mg mb) {ss:List Stmt}(hfd:fdK K fd np nm=true) (hbody:fd.body=.stmts ss) {full:List Value}
  (ho:hB.get? a=some o) (hdat:o.data=.func fd) (hA:AOk (n+1) A) (bs:Base P w hB Γ z g s)
  (hf:(vals.length=np∧full=vals)∨∃d,A3 (dsK K fd=some [d]) (vals.length+1=np) (full=vals++[d])) (hρ:ρ0.length=np) (hs:∀(i:Nat) v d,full[i]?=some v→ρ0[i]?=some (some d)→Rd P w Γ z v d)
  (h:∀s₁ m,Entered P w hB Γ z g s (callEnvC fd s.heap.objs.size a) nm ρ0 full s₁ m→wpAny (model P w) (A.deeper (callEnvC fd s.heap.objs.size a)) (execs ss (callEnvC fd s.heap.objs.size a)) (fun f s'=>R (.ok (.ret (match f with|.ret v=>v|_=>.none))) s')
    (fun e s'=>wpAny (model P w) (A.deeper (callEnvC fd s.heap.objs.size a)) (leaving (callEnvC fd s.heap.objs.size a) e) (fun Y s''=>R (.error e) s'') (fun e' s''=>R (.error e') s'') s') s₁) :
  codeAny (model P w) A (.call (.ref a) ⟨vals,[]⟩) R s:=by
 refine baK hfd fun hfd h3=>baK hfd fun h1 h2=>?_;have keep:=Qg bs;refine mSE h3 fun ds hds h3=>?_;rw [hds]at hf;refine Yft W (FdOk.of h1 hbody) (keep _ _ ho) hdat ((codeRec_of X h2).keeps keep) hA bs (Ycf X keep hds) (of_decide_eq_true h3) ?_ hρ hs h;rcases hf with hf|⟨d,e,hf,hf2⟩
 ·exact .inl hf
 ·cases e;exact .inr ⟨d,rfl,hf,hf2⟩
theorem Qb9:ScOk fd.scope (callEnvC fd L a):=⟨fun Y h=>h,fun Y h=>h,fun Y h=>h⟩
theorem Jh (X:K.In hB) (W:Wd hB Γ mg mb) {ss:List Stmt}(hfd:fdK K fd np nm=true) (hbody:fd.body=.stmts ss) {full:List Value}
  (ho:hB.get? a=some o) (hdat:o.data=.func fd) (hA:AOk (n+1) A) (bs:Base P w hB Γ z g s)
  (hf:(vals.length=np∧full=vals)∨∃d,A3 (dsK K fd=some [d]) (vals.length+1=np) (full=vals++[d])) (hρ:ρ0.length=np) (hs:∀(i:Nat) v d,full[i]?=some v→ρ0[i]?=some (some d)→Rd P w Γ z v d)
  (h:∀s₁ m env (E:Value→Shared→Prop),ScOk fd.scope env→env.frame=some env.locals→env.locals=s.heap.objs.size→Entered P w hB Γ z g s env nm ρ0 full s₁ m→wpAny (model P w) (A.deeper env) (execs ss env) (fun f s'=>R (.ok (.ret (match f with|.ret v=>v|_=>.none))) s') E s₁) :
  codeAny (model P w) A (.call (.ref a) ⟨vals,[]⟩) R s:=Qux X W hfd hbody ho hdat hA bs hf hρ hs fun s₁ m en=>h s₁ m _ _ Qb9 rfl rfl en
set_option tactic.hygienic true in
theorem Qwn (X:K.In hB) (W:Wd hB Γ mg mb) (hO:OrcOk P w hB Γ mg n O) (hap:Γ.has=true→Γ.two=true→Γ.pA≠Γ.fA) {b:CSs}(hfd:fdK K fd np nm=true) (hb:V9 fd (fun sc ss=>Qbj sc nm b ss)=true)
  (ho:hB.get? a=some o) (hdat:o.data=.func fd)    (h:Qr8 O b nm.length np xs g=some (d,g'))
  (hA:AOk (n+1) A) (bs:Base P w hB Γ z g s) (rs:Rds P w Γ z vs xs) (hR:∀v z' s',Base P w hB Γ z' g' s'→Step Γ z s z' s'→Rd P w Γ z' v d→R (.ok (.ret v)) s'):codeAny (model P w) A (.call (.ref a) ⟨vs,[]⟩) R s:=by
 obtain ⟨ss,hbody,hss⟩:=Ym hb;unfold Qr8 at h;split at h<;>first|(cases h;done)|skip
 rename_i hlen;refine Jh X W hfd hbody (ρ0:=xs.map some) ho hdat hA bs (.inl ⟨(Z30 0x12202260512910276) hlen rs.length,rfl⟩) (by simp;exact (Z20 0x1020512910276) hlen) (fun i v d hv hd=>?_) fun s₁ m env E sc fr lc en=>?_
 ·obtain ⟨d',e1,e2⟩:=rs.getV hv;rw [List.getElem?_map,e1]at hd;cases hd;exact e2
 ·have hρ:(xs.map some).map Qi1++List.replicate (nm.length-(xs.map some).length) none=xs.map (fun d=>some (.val d))++List.replicate (nm.length-np) none:=by
   refine eqR (List.map_map) ?_;rw [List.length_map,hlen.1];rfl
  have F:=en.fro;rw [hρ]at F;have fin:∀v z' s',Base P w hB Γ z' g' s'→SStep Γ (Qi s.heap) z s₁ z' s'→Rd P w Γ z' v d→R (.ok (.ret v)) s':=fun v z' s' b' ss r=>hR v z' s' b' (((en.step.ss (K:=Qi s.heap) fun c hc=>hc)).trans ss).step r;split at h<;>first|(cases h;done)|skip
  ·rename_i d2 ρ2 g2 hex;simp only [Option.some.injEq,Prod.mk.injEq]at h;obtain ⟨rfl,rfl⟩:=h;exact Qbo W hO hap b _ _ _ _ _ _ _ _ _ _ _ _ _ _ _ _ hss sc hA.deeper en.base en.kp F hex ⟨(fun Y Y Y q=>by exact nomatch q),fun d v z' s' q b' ss r=>by cases q;exact fin v z' s' b' ss r⟩
  ·rename_i ρ2 g2 hex;refine gk fun Ω κ=>?_;simp only [Option.some.injEq,Prod.mk.injEq]at h;obtain ⟨rfl,rfl⟩:=h;refine κ ?_;exact Qbo W hO hap b _ _ _ _ _ _ _ _ _ _ _ _ _ _ _ _ hss sc hA.deeper en.base en.kp F hex ⟨fun z' s' m' Y b' ss F'=>fin .none z' s' b' ss .none,fun Y Y Y Y q=>by cases q⟩
end
noncomputable def Jr:D:=.tup [.str (Str.ofString "name"),.str (Str.ofString "Int64"),.tup []]
noncomputable def glK:String→Option D:=fun x=>if x="MOST_ITEMS" then some (.int 20000) else if x="_law_ITEM" then some Jr else none
section
variable {K:Frag}
theorem Qll (X:K.In hB) (hz:∀a o,hB.get? a=some o→z a=some o) {p:List Value→Bool}(h:Qw8 K v p=true):X3 fun a xs n=>A3 (v=.ref a) (z a=some (Qae xs n)) (p xs=true):=
 Ycn (M:=fun v=>X3 fun a xs n=>A3 (v=.ref a) (z a=some (Qae xs n)) (p xs=true)) h fun a h=>mSE h fun o hl h=>by
  obtain ⟨c,d,dt,sl⟩:=o;obtain rfl:c=.type "tuple":=of_decide_eq_true (ba1 (ba1 (ba1 h)));obtain rfl:d=none:=Option.isNone_iff_eq_none.mp (ba2 (ba1 (ba1 h)));obtain rfl:sl=#[]:=Array.isEmpty_iff.mp (ba2 (ba1 h));exact Yir (M:=fun dt=>z a=some ⟨.type "tuple",none,dt,#[]⟩→_) (ba2 h) (fun xs n hp hz=>⟨a,xs.toList,n,rfl,hz,hp⟩) (hz _ _ (X _ _ hl))
theorem Qi3 (h:Qpb x v=true):Rd P w Γ z v (.str (Str.ofString x)):=
 Yg6 (M:=fun v=>Rd P w Γ z v (.str (Str.ofString x))) h fun y t h=>of_decide_eq_true h▸.str _ _
theorem Qkn (X:K.In hB) (G:hB.Ns mainGlobals mg) (hG:Yge K=true) (x:String) (d:D) (h:glK x=some d):∃v,mg (Str.ofString x)=some v∧∀z,(∀a o,hB.get? a=some o→z a=some o)→Rd P w Γ z v d:=by
 delta glK at h
 by_cases hx:x="MOST_ITEMS"
 ·rw [if_pos hx]at h;cases h;subst hx;exact mSE (ba1 hG) fun o hn h=>mSE h fun v hv h=>by
   subst hv;exact Yh1 (M:=fun v=>nsIn K mainGlobals (Str.ofString "MOST_ITEMS")=some (some v)→_) h (fun i t h hn=>⟨_,mg_of X G hn,fun z Y=>by rw [eq_of_beq h];exact .int _ _⟩) hn
 ·rw [if_neg hx]at h;by_cases hx:x="_law_ITEM"
  ·rw [if_pos hx]at h;cases h;subst hx;refine mSE (ba2 hG) fun o hn h=>mSE h fun v hv h=>⟨v,mg_of X G (hv▸hn),fun z hz=>?_⟩
   obtain ⟨a,xs,n,rfl,hza,hp⟩:=Qll X hz h;refine m3K (M:=fun xs=>z a=some (Qae xs n)→_) hp (fun v1 v2 v3 hp hza=>?_) hza;obtain ⟨c,ys,m,rfl,hzc,hq⟩:=Qll X hz (ba2 hp);exact mEK (M:=fun ys=>z c=some (Qae ys m)→_) hq (fun hzc=>.tup hza (.cons (Qi3 (ba1 (ba1 hp))) (.cons (Qi3 (ba2 (ba1 hp))) (.cons (.tup hzc .nil) .nil)))) hzc
  ·rw [if_neg hx]at h;cases h
theorem Qa2 {p:Scope→List Stmt→Bool}(h:okK K f np nm p=true):X2 fun a fd=>A3 (fnK K f=some (a,fd)) (fdK K fd np nm=true) (V9 fd p=true):=mSE h fun q e h=>⟨q.1,q.2,e,ba1 h,ba2 h⟩
structure AttOk (P:Program) (w:World) (hB:Heap) (Γ:Gm) (sz:List D):Prop where
 att:∀a d A z g s (Q E:Value→Shared→Prop),(a=.sizes∧d=.tup sz)∨(a=.fields∧d=.hnd .flds)→Γ.two=true→Base P w hB Γ z g s→Jb P w hB Γ z s g d Q→wpAny (model P w) A (getAttr (.ref Γ.tA) (Str.ofString (Qhx a)) true) Q E s
 obj:Γ.two=true→X3 fun f o fd=>A4 (hB.get? f=some o) (o.data=.func fd) (∀A z g s pl (Q:Value×List Value→Shared→Prop) (E:Value→Shared→Prop),Base P w hB Γ z g s→Q (.ref f,[.ref Γ.hA]) s→wpAny (model P w) A (getMethod (.ref Γ.hA) (Str.ofString "object") pl) Q E s) (∀v z g s A (R:Result→Shared→Prop),AOk 1 A→Base P w hB Γ z g s→Rd P w Γ z v (.int 0)→(∀v z' s',Base P w hB Γ z' g s'→Step Γ z s z' s'→Rd P w Γ z' v (.hnd .thing)→R (.ok (.ret v)) s')→codeAny (model P w) A (.call (.ref f) ⟨[.ref Γ.hA,v],[]⟩) R s)
@[elab_as_elim] theorem ivK {r:D×Gs} {M:List D→Prop} (h:ivF xs g=some r) (k:∀i,some (D.tup [.str (Str.ofString "int"),.str (Str.ofString "Int64"),.int i],g)=some r→M [.int i]):M xs:=
 lCK h fun d0 r h=>lNK (M:=fun r=>M (d0::r)) h fun h=>sIK (M:=fun d0=>M [d0]) h k
set_option tactic.hygienic true in
theorem Qpy (X:K.In hB) (W:Wd hB Γ mg mb) (hF:Yfu K=true) (hG:Yge K=true) (hap:Γ.has=true→Γ.two=true→Γ.pA≠Γ.fA) (hS:Qfp P w srt) (hT:AttOk P w hB Γ sz) :
  ∀n,OrcOk P w hB Γ mg (n+1) (orc glK sz n):=by
 unfold Yfu at hF;simp only [Bool.and_eq_true]at hF;obtain ⟨⟨h1,h2⟩,h3⟩:=hF;rw [List.all_eq_true]at h1;intro n;have e1:(orc glK sz n).glob=glK:=by cases n<;>rfl
 have e2:(orc glK sz n).szs=sz:=by cases n<;>rfl
 have e3:(orc glK sz n).sort=srt:=by cases n<;>rfl
 have rest:∀m,(∀a d A z g s (Q E:Value→Shared→Prop),(a=.sizes∧d=.tup (orc glK sz n).szs)∨(a=.fields∧d=.hnd .flds)→Γ.two=true→Base P w hB Γ z g s→Jb P w hB Γ z s g d Q→wpAny (model P w) A (getAttr (.ref Γ.tA) (Str.ofString (Qhx a)) true) Q E s) ∧
   (Γ.two=true→X3 fun f o fd=>A4 (hB.get? f=some o) (o.data=.func fd) (∀A z g s pl (Q:Value×List Value→Shared→Prop) (E:Value→Shared→Prop),Base P w hB Γ z g s→Q (.ref f,[.ref Γ.hA]) s→wpAny (model P w) A (getMethod (.ref Γ.hA) (Str.ofString "object") pl) Q E s) (∀v z g s A (R:Result→Shared→Prop),AOk (m+1) A→Base P w hB Γ z g s→Rd P w Γ z v (.int 0)→(∀v z' s',Base P w hB Γ z' g s'→Step Γ z s z' s'→Rd P w Γ z' v (.hnd .thing)→R (.ok (.ret v)) s')→codeAny (model P w) A (.call (.ref f) ⟨[.ref Γ.hA,v],[]⟩) R s)):=fun m=>by
  refine ⟨by rw [e2];exact hT.att,fun h=>?_⟩;obtain ⟨f,o,fd,a1,a2,a3,a4⟩:=hT.obj h;exact ⟨f,o,fd,a1,a2,a3,fun v z g s A R hA=>a4 v z g s A R (hA.le (Nat.le_add_left 1 _))⟩
 induction n with
 |zero=>exact ⟨fun f xs g d g' h=>(by cases h),by rw [e1];exact Qkn X W.g hG,by rw [e3];exact hS,(rest 0).1,(rest 0).2⟩
 |succ n ih=>
  have ih:=ih (by cases n<;>rfl) (by cases n<;>rfl) (by cases n<;>rfl) (fun m=>by
   refine ⟨by rw [(by cases n<;>rfl:(orc glK sz n).szs=sz)];exact hT.att,fun h=>?_⟩;obtain ⟨f,o,fd,a1,a2,a3,a4⟩:=hT.obj h;exact ⟨f,o,fd,a1,a2,a3,fun v z g s A R hA=>a4 v z g s A R (hA.le (Nat.le_add_left 1 _))⟩)
  refine ⟨fun f xs g d g' h=>?_,by rw [e1];exact Qkn X W.g hG,by rw [e3];exact hS,(rest (n+1)).1,(rest (n+1)).2⟩
  replace h:(if f="int_value" then ivF xs g else match Qxv f with
        |some (np,nm,b)=>Qr8 (orc glK sz n) b nm.length np xs g
        |none=>none)=some (d,g'):=h
  by_cases hf:f="int_value"
  ·rw [if_pos hf]at h;subst hf;obtain ⟨i,rfl,h⟩:∃i,xs=[.int i]∧some (D.tup [.str (Str.ofString "int"),.str (Str.ofString "Int64"),.int i],g)=some (d,g'):=ivK h fun i h=>⟨i,rfl,h⟩
   obtain ⟨rfl,rfl⟩:=Prod.mk.inj (Option.some.inj h);obtain ⟨a,fd,k1,k2,k3⟩:=Qa2 h2;obtain ⟨m1,o,m2,m3⟩:=Qaa X W.g k1;refine ⟨List.cons_ne_nil _ _,a,o,fd,m1,m2,m3,fun vs z s A R hA bs rs hR=>mSE h3 fun q hq h4=>mSE h4 fun dv hdv h5=>?_⟩;obtain rfl:=Option.some.inj (k1.symm.trans hq);refine m1K (M:=fun dv=>dsK K fd=some dv→_) h5 (fun dv h5 hdv=>?_) hdv;obtain ⟨ss,hbody,hss⟩:=Ym k3;obtain ⟨v,rfl,ra⟩:=Yee rs;refine Jh X W k2 hbody (ρ0:=[some (.int i),some (.str (Str.ofString "Int64"))]) m2 m3 hA bs (.inr ⟨dv,hdv,rfl,rfl⟩) rfl (hsS ra (hsS (Yg6 (M:=fun v=>Rd P w Γ z v _) h5 fun y t h=>of_decide_eq_true h▸.str _ _) hs0)) fun s₁ m env E sc fr lc en=>?_;refine Qbo W ih hap Qd3 _ _ _ _ _ _ _ _ _ _ _ _ _ hss sc hA.deeper en.base en.kp en.fro (fl:=.ret (.tup [.str (Str.ofString "int"),.str (Str.ofString "Int64"),.int i])) (ρ':=[vv (.int i),vv (.str (Str.ofString "Int64"))]) (g':=g) ?_ ⟨(fun Y Y Y q=>by exact nomatch q),fun d v z' s' q b' ss r=>by cases q;exact hR v z' s' b' (((en.step.ss (K:=Qi s.heap) fun c hc=>hc)).trans ss).step r⟩;exact Qj (Qp (V5 (Vu ..) (Qa rfl) (Qa rfl)))
  ·rw [if_neg hf]at h;split at h
   ·rename_i np nm b hf;have hc:=h1 _ (Qsh hf);obtain ⟨a,fd,k1,k2,k3⟩:=Qa2 hc;obtain ⟨m1,o,m2,m3⟩:=Qaa X W.g k1;have hne:xs≠[]:=by
     intro q;subst q;unfold Qr8 at h;split at h
     ·rename_i hc;exact absurd hc.1.symm hc.2
     ·exact nomatch h
    exact ⟨hne,a,o,fd,m1,m2,m3,fun vs z s A R hA bs rs hR=>Qwn X W ih hap k2 k3 m2 m3 h hA bs rs hR⟩
   ·exact nomatch h
end
section
open PySem PySem.W PySem.Calls PyProof.Rows Builtin Builtin.ObjectAttr
structure HI (h:Heap) (x C:Addr) (dt:Data) (dd:Option Addr) (m:Str→Option Value):Prop where
 obj:∃sl,h.get? x=some { cls:=.ref C,dict:=dd,data:=dt,slots:=sl }
 ns:match dd with
  |none=>∀n,m n=none
  |some d=>d≠x∧h.Ns1 d m
noncomputable def Qjs (m:Str→Option Value) (name:Str) (v:Value):Str→Option Value:=fun y=>if y=name then some v else m y
theorem HI.keeps {x:Addr}{dt dd m}(I:HI h x C dt dd m) (k:∀b o,b=x∨some b=dd→h.get? b=some o→h'.get? b=some o):HI h' x C dt dd m where
 obj:=let ⟨sl,e⟩:=I.obj;⟨sl,k _ _ (.inl rfl) e⟩
 ns:=by
  have:=I.ns;cases dd with
  |none=>exact this
  |some d=>
   refine gk fun Ω κ=>?_;obtain ⟨h1,o,es,ep,e,r⟩:=this;refine κ ?_;exact ⟨h1,o,es,ep,k _ _ (.inr rfl) e,r⟩
theorem Qp8 {es:Array DictEntry}(hd:o.data=.dict es ep) (hk:StrKeys es):lookIn name o=some (nsFind es name):=by
 unfold lookIn;refine eqR (hd) ?_;dsimp only
 delta nsFind findBy
 refine eqL (Array.find?_toList) ?_;cases e:es.toList.find? (·.key.isStr name) with
 |some x=>rfl
 |none=>
  have:es.toList.any (·.refKey)=false:=by
   rw [List.any_eq_false];intro y hy;obtain ⟨n,t,q⟩:=hk y (Array.mem_toList_iff.mp hy);simp [DictEntry.refKey,q]
  refine eqR (if_neg (by rw [this];simp)) ?_
  rfl
theorem Ybk {M:List Value→Prop}(k1:M [.type "object"]) (k2:M [.type "Exception",.type "BaseException",.type "object"]) (k3:∀c r,M r→M (.ref c::r)):∀{l:List Value},Qcu l=true→M l:=fun {l}=>by
 induction l with
 |nil=>exact ff
 |cons v r ih=>exact fun h=>(Bool.or_eq_true_iff.mp h).elim (fun h=>(Bool.or_eq_true_iff.mp h).elim (fun h=>(of_decide_eq_true h).symm▸k1) fun h=>(of_decide_eq_true h).symm▸k2) fun h=>Ycn (M:=fun v=>M (v::r)) h fun c h=>k3 c r (ih h)
theorem Qj0 (self:Value) {l:List Value}:Qcu l=true→refuseLoop self "__setattr__" l=pure ():=
 Ybk (M:=fun l=>refuseLoop self "__setattr__" l=pure ()) (PySem.F.store_object.passes self) (PySem.F.store_Exception.passes self) fun c r h=>(refuseLoop_ref ..).trans h
theorem Qsb {l:List Value}:Qcu l=true→l.contains (.type "object")=true∧l.isEmpty=false:=
 Ybk (M:=fun l=>l.contains (.type "object")=true∧l.isEmpty=false) ⟨by decide,rfl⟩ ⟨by decide,rfl⟩ fun c r h=>⟨List.contains_cons.trans (by rw [h.1,Bool.or_true]),rfl⟩
theorem Qug {K:Frag}{f:Addr}(h:Qrn K C name=some f) (g:findIn K (.ref C) name=some (some (.ref f))→typeIn K (.ref f)=some (.type "function")→G):G:=
 obK h fun o e h=>obK h fun v hv h=>by
  subst hv;refine Ydo (M:=fun v=>findIn K (.ref C) name=some (some v)→G) h (fun a h e=>?_) e;by_cases q:(typeIn K (.ref a)==some (.type "function"))=true
  ·rw [if_pos q]at h;cases h;exact g e (beq_iff_eq.mp q)
  ·rw [if_neg q]at h;cases h
section
variable {K:Frag}{x:Addr}{dt:Data}
structure ClsB (K:Frag) (C:Addr) (cd:ClassData):Prop where
 cls:clsIn K C=some cd
 dict:cd.hasDict=true
 over:Qcu cd.mro=true
 sa:findIn K (.ref C) "__setattr__"=some (some (.builtin "object.__setattr__"))
structure ClsK (K:Frag) (C:Addr) (cd:ClassData):Prop extends ClsB K C cd where
 ga:findIn K (.ref C) "__getattribute__"=some (some (.builtin "object.__getattribute__"))
 gm:findIn K (.ref C) "__getattr__"=some none
theorem Qg8 (h:Qy4 K C=true):∃cd,ClsK K C cd:=by
 refine gk fun Ω κ=>?_;unfold Qy4 at h;simp only [Bool.and_eq_true,beq_iff_eq]at h;obtain ⟨⟨⟨h1,h2⟩,h3⟩,h4⟩:=h;obtain ⟨cd,hc,h5⟩:=any_some h1;simp only [Bool.and_eq_true]at h5;refine κ ?_;exact ⟨cd,⟨hc,h5.1,h5.2,h4⟩,h2,h3⟩
theorem HI.at (I:HI s.heap x C dt dd m) (hn:∀c,dt≠.cls c):X2 fun ox od=>A3 (InstAt s.heap x ox C od) (ox.dict=dd) (∀cd,cd.hasDict=true→∀n,PySem.W.ownOf cd od n=some (m n)):=by
 obtain ⟨sl,e⟩:=I.obj;have hns:=I.ns;have hno:notCls { cls:=Value.ref C,dict:=dd,data:=dt,slots:=sl }=true:=by
  unfold notCls;cases dt<;>first|rfl|exact absurd rfl (hn _)
 cases dd with
 |none=>exact ⟨_,none,⟨e,rfl,hno,trivial⟩,rfl,fun cd hc n=>by unfold PySem.W.ownOf;rw [hc,if_pos rfl,hns n]⟩
 |some d=>
  refine gk fun Ω κ=>?_;obtain ⟨h1,o,es,ep,e1,e2,e3,e4,e5⟩:=hns;refine κ ?_;exact ⟨_,some o,⟨e,rfl,hno,e1⟩,rfl,fun cd hc n=>by unfold PySem.W.ownOf;rw [hc,if_pos rfl];show lookIn n o=_;rw [Qp8 e2 e3,e5 n]⟩
theorem Qk9 (hc:ClsB K C cd) (hf:findIn K (.ref C) name=some none) (ho:PySem.W.ownOf cd od name=some (some v)):findObj K C od name=some (.value v):=by
 unfold findObj;refine eqR (hc.cls) ?_;rw [Option.bind_some,hf,Option.bind_some];rw [Option.bind_some,Option.bind_some];simp only [ho,Option.bind_some]
theorem Qd7 (X:K.In s.heap) (hc:ClsK K C cd) (I:HI s.heap x C dt dd m) (hn:∀c,dt≠.cls c) (hf:findIn K (.ref C) name=some none) (hm:m name=some v) (hh:handedIn v=true) (h:Q v { s with toks:=s.toks+1 }) :
  wpAny (model prog w) A (getAttr (.ref x) name expr) Q E s:=by
 obtain ⟨ox,od,I',_,ho⟩:=I.at hn;exact get_value X I' hc.ga (Qk9 hc.toClsB hf (by rw [ho cd hc.dict,hm])) hh h
theorem Qds {f:Addr}{pl:Sem Bool}{Q:Value×List Value→Shared→Prop}(X:K.In s.heap) (hc:ClsK K C cd) (I:HI s.heap x C dt dd m) (hn:∀c,dt≠.cls c) (hf:Qrn K C name=some f) (hm:m name=none) (h:Q (.ref f,[.ref x]) s) :
  wpAny (model prog w) A (getMethod (.ref x) name pl) Q E s:=by
 refine gk fun Ω κ=>?_;obtain ⟨ox,od,I',_,ho⟩:=I.at hn;refine Qug hf fun hfi ht=>?_;refine κ ?_;refine method_fn X I' hc.ga hc.gm hfi ht ?_ h;unfold shadowIn;cases od with
 |none=>rfl
 |some o=>
  have:=ho cd hc.dict name;unfold PySem.W.ownOf at this;rw [hc.dict,if_pos rfl,hm]at this;dsimp only at this ⊢;refine eqR (this) ?_;rfl
theorem Qpc {ox:Obj}{tk:Tok}(X:K.In s.heap) (hc:ClsB K C cd) (I:InstAt s.heap x ox C od) (hf:findIn K (.ref C) name=some none)
  (h:wpAny (model prog w) A.in1 (storeInOwnDict (.ref x) (.ref C) (.str name tk) name v false)
   (fun fin s'=>match fin with|.done f=>R (.ok f) s'|.again c'=>c'.quiet=true∧codeAny (model prog w) A c' R s') (fun e s'=>R (.error e) s') s) :
  codeAny (model prog w) A (.call (.builtin "object.__setattr__") ⟨[.ref x,.str name tk,v],[]⟩) R s:=by
 have SF:=PySem.F.store_object;obtain ⟨hob,ne⟩:=Qsb hc.over;refine codeAny_call_builtin SF.slot.plain SF.entry (@check_slot (model prog w) _ _ s "object.__setattr__" "object" "__setattr__" (.ref x) [.str name tk,v] [] _ SF.kind SF.split (I.type.andThen (looks_mroIn X (by unfold mroIn;rw [hc.cls,Option.bind_some,if_neg (by rw [ne];decide),hob])):Looks (model prog w) s.heap (isInstance (.ref x) (.type "object")) true) (SF.args (.ref x) (.str name tk) v) ?_);have hm:Looks (model prog w) s.heap (mroOf (.ref C)) cd.mro:=(looks_clsIn X hc.cls).andThen .now;have L3:Looks (model prog w) s.heap (storeTaker? none) none:=.now;rw [osa_eq,refuse_eq];refine wpAny_bind (wpAny_bind (I.type.here (wpAny_bind (hm.here ?_))));refine eqR (Qj0 _ hc.over) ?_;refine wpAny_pure (wpAny_bind (I.type.here (wpAny_bind ((looks_findIn X hf).here (wpAny_bind (L3.here ?_))))));exact h
theorem Ql7 {ns:List Str}{Q:Unit→Shared→Prop}(X:K.In s.heap) (hc:ClsB K C cd) (I:HI s.heap x C dt dd m) (hn:∀c,dt≠.cls c) (hfr:∀sl,({ cls:=.ref C,dict:=dd,data:=dt,slots:=sl }:Obj).isFreed=false)
  (hf:findIn K (.ref C) name=some none) (hw:Within m ns) (hl:ns.length≤1000)
  (hQ:∀h' tk dd',HI h' x C dt dd' (Qjs m name v)→(∀b o,b≠x→some b≠dd→s.heap.get? b=some o→h'.get? b=some o)→(dd'=dd∨∃d,dd'=some d∧s.heap.get? d=none)→(dd.isSome=true→dd'=dd∧∀o,s.heap.get? x=some o→h'.get? x=some o)→Q () { s with heap:=h',toks:=tk }):wpAny (model prog w) A (setAttr (.ref x) name v) Q E s:=by
 obtain ⟨ox,od,I',hod,_⟩:=I.at hn;refine set_plain X I' hc.sa ?_;refine Qpc (s:={ s with toks:=s.toks+1 }) X hc I' hf ?_;obtain ⟨sl,e⟩:=I.obj;have hns:=I.ns;refine wpAny_bind (wpAny_pure (wpAny_bind ?_));refine (?_:wpAny _ _ (instanceDict x true) _ _ _);unfold instanceDict;refine wpAny_bind (wpAny_loadPart e ?_);refine wpAny_bind ((looks_clsIn (h:=s.heap) X hc.cls) _ _ _ _ (fun Y Y e=>e) ?_);refine eqR (hc.dict) ?_;dsimp only [Bool.not_true,Bool.false_eq_true,if_false];cases dd with
 |some d=>
  obtain ⟨hdx,hns⟩:=hns;refine wpAny_pure ?_;refine (?_:wpAny _ _ (storeInDict d (.str name s.toks) name v) _ _ _)
  delta storeInDict newKeyGuard
  refine wpAny_bind (wpAny_pure (wpAny_bind (wpAny_nsSet1 hns fun h' hn' hs=>?_)));refine gk fun Ω κ=>?_;obtain ⟨oD,esD,epD,hoD,hdD,hcD⟩:=hn'.count (Within.cons name v hw);refine κ ?_;refine wpAny_bind (wpAny_lookBehind hoD (by rw [hdD];exact pastItsLine_dict (Nat.le_trans hcD (by rw [List.length_cons,sizeLine_eq];exact (Z10 0x151000000767150713e836016) hl))) ?_);refine wpAny_pure (hQ h' _ (some d) ⟨⟨sl,(hs.2 x (Ne.symm hdx)).trans e⟩,hdx,hn'⟩ (fun b o h1 h2 hb=>(hs.2 b (fun q=>h2 (by rw [q]))).trans hb) (.inl rfl) fun Y=>⟨rfl,fun o ho=>(hs.2 x (Ne.symm hdx)).trans ho⟩)
 |none=>
  refine aN (show ¬((false||!typeHasDict (.ref C))=true) by simp [typeHasDict]) ?_;have hx₁:(s.heap.push { cls:=.type "dict",data:=.dict #[] }).get? x=some { cls:=.ref C,dict:=none,data:=dt,slots:=sl }:=Heap.get?_push_of_some _ e;have hxs:x≠s.heap.objs.size:=Nat.ne_of_lt (Heap.lt_size e);have hgd:((s.heap.push { cls:=.type "dict",data:=.dict #[] }).update x fun o=>{ cls:=o.cls,dict:=some s.heap.objs.size,data:=o.data,slots:=o.slots }).get? s.heap.objs.size
    = some { cls:=.type "dict",data:=.dict #[] }:=(Heap.get?_update_ne _ _ _ _ hxs.symm).trans (Heap.get?_push_at rfl rfl)
  have hnd:((s.heap.push { cls:=.type "dict",data:=.dict #[] }).update x fun o=>{ cls:=o.cls,dict:=some s.heap.objs.size,data:=o.data,slots:=o.slots }).Ns s.heap.objs.size (fun Y=>none):=
   ⟨_,#[],_,hgd,rfl,fun e he=>absurd he (by simp),fun Y=>rfl⟩
  have hgx:((s.heap.push { cls:=.type "dict",data:=.dict #[] }).update x fun o=>{ cls:=o.cls,dict:=some s.heap.objs.size,data:=o.data,slots:=o.slots }).get? x=some { cls:=.ref C,dict:=some s.heap.objs.size,data:=dt,slots:=sl }:=
   Heap.get?_update_self _ hx₁ (by have:=hfr sl;revert this;unfold Obj.isFreed;cases dt<;>simp)
  have tail:∀{P:Fin→Shared→Prop} {E':Value→Shared→Prop},(∀s',Q () s'→P (.done (.ret .none)) s')→wpAny (model prog w) A.in1 (storeInDict s.heap.objs.size (.str name s.toks) name v) P E'
    {s with toks:=s.toks+1,heap:=(s.heap.push { cls:=.type "dict",data:=.dict #[] }).update x fun o=>{ cls:=o.cls,dict:=some s.heap.objs.size,data:=o.data,slots:=o.slots } }:=by
   intro P E' hP
   delta storeInDict newKeyGuard
   refine wpAny_bind (wpAny_pure (wpAny_bind (wpAny_nsSet1 (Heap.Ns1.of_empty hnd) fun h' hn' hs=>?_)));obtain ⟨oD,esD,epD,hoD,hdD,hcD⟩:=hn'.count (Within.cons name v Within.nil);refine wpAny_bind (wpAny_lookBehind hoD (by rw [hdD];exact pastItsLine_dict (Nat.le_trans hcD (by rw [List.length_cons,List.length_nil,sizeLine_eq];decide))) ?_);refine wpAny_pure (hP _ (hQ h' _ (some s.heap.objs.size) ⟨⟨sl,(hs.2 x hxs).trans hgx⟩,hxs.symm,?_⟩ (fun b o h1 Y hb=>(hs.2 b (Nat.ne_of_lt (Heap.lt_size hb))).trans ((Heap.get?_update_ne _ _ _ _ h1).trans (Heap.get?_push_of_some _ hb))) (.inr ⟨_,rfl,Qe _⟩) fun q=>by exact Bool.noConfusion q));obtain ⟨o',es,ep,e1,e2,e3,eu,e4⟩:=hn';exact ⟨o',es,ep,e1,e2,e3,eu,fun y=>by rw [e4 y];unfold Qjs;by_cases hy:y=name<;>simp [hy,hns]⟩
  cases dt with
  |cls c=>exact absurd rfl (hn c)
  |_=>exact wpAny_bind (wpAny_alloc' (wpAny_bind (wpAny_update' hx₁ (wpAny_pure (tail fun s' h=>h)))))
end
end
theorem Qqc (C:Addr) (rest:List Value):Code.weight (.builtin "type.__call__" ⟨.ref C::rest,[]⟩)=1:=by kernel_rfl
theorem Qs4 (C:Addr) (rest:List Value):Code.cUnits (.builtin "type.__call__" ⟨.ref C::rest,[]⟩)=1:=by kernel_rfl
theorem AOk.tc (x:AOk (n+1) A) (C:Addr) (rest:List Value):AOk n (A.under (.builtin "type.__call__" ⟨.ref C::rest,[]⟩)):=
 ⟨x.hh,by have:=x.dep;show A.depth+Code.weight _+n+1<_;rw [Qqc];exact (Z30 0x21511507770215151707706) this,by have:=x.uni;show A.units+Code.cUnits _+4*n+200<_;rw [Qs4];exact (Z30 0x2c82614e15077702c82615174e07706) this⟩
theorem Qgp {K:Frag}{p:Scope→List Stmt→Bool}(h:Qmu K C np nm p=true):makesIn K C=true∧(∃cd,ClsK K C cd)∧X3 fun f fd o=>A6 (findIn K (.ref C) "__init__"=some (some (.ref f))) (typeIn K (.ref f)=some (.type "function")) (K.lookup f=some o) (o.data=.func fd) (fdK K fd np nm=true) (V9 fd p=true):=
 ⟨ba1 (ba1 h),Qg8 (ba2 (ba1 h)),mSE (ba2 h) fun o e h=>mSE h fun v hv h=>by
  subst hv;exact Ycn (M:=fun v=>findIn K (.ref C) "__init__"=some (some v)→_) h (fun f h e=>Qsg (ba2 h) fun o fd hl hd q=>⟨f,fd,o,e,beq_iff_eq.mp (ba1 h),hl,hd,ba1 q,ba2 q⟩) e⟩
section
variable {K:Frag}
theorem Qk5 {p:Pos}(hk:env.scope.kind=.function) (ns:s.heap.Ns env.locals m) (c:Cur s.heap env m (Str.ofString x) v) (hd:(Str.ofString x==("__debug__":Str))=false) (h:Q v s) :
  wpAny (model P w) A (eval (.Name (Str.ofString x) p) env) Q E s:=wpAny_Name (Qca hk ns c h) hd
theorem Qm6 {x:Str}{p:Pos}{t:Option Expr}{l:Nat}:swapsWith (.Name x p) t l env=pure false:=by
 unfold swapsWith;rfl
theorem Qkt {p:Scope→List Stmt→Bool}(X:K.In hB) (W:Wd hB Γ mg mb) (hi:Qmu K C np nm p=true) (hA:AOk 2 A) (b:Base P w hB Γ z g s) (hl:vals.length+1=np)
  (h:∀(fd:FuncData) ss x s' s₁ m (env:Env),ScOk fd.scope env→fd.body=.stmts ss→p fd.scope ss=true→s'={ s with heap:=(s.heap.push emptyDict).push (instObj C s.heap.objs.size) }→x=s.heap.objs.size+1→HI s'.heap x C .plain (some s.heap.objs.size) (fun Y=>none) →
   Entered P w hB Γ z g s' env nm (List.replicate np none) (.ref x::vals) s₁ m→wpAny (model P w) ((A.under (.builtin "type.__call__" ⟨.ref C::vals,[]⟩)).deeper env) (execs ss env) (fun f s''=>(match f with|.ret v=>v|_=>.none)=.none∧Q (.ref x) s'') (fun Y Y=>False) s₁) :
  wpAny (model P w) A (call (.ref C) vals) Q E s:=by
 refine gk fun Ω κ=>?_;obtain ⟨h1,⟨cd,hc⟩,f,fd,o,h2,h3,h4,h5,h6,h7⟩:=Qgp hi;obtain ⟨ss,hbody,hp⟩:=Ym h7;have Xs:K.In s.heap:=fun a o e=>(Qg b) _ _ (X a o e);obtain ⟨hh,gg,d,t,os⟩:=s;refine κ ?_;refine wpAny_call (make_core (makes_of Xs h1) (looks_findIn Xs h2) (fun self=>bind_fn Xs self h3) (.inl rfl) ?_);have hd:((hh.push emptyDict).push (instObj C hh.objs.size)).get? hh.objs.size=some emptyDict:=Heap.get?_push_of_some _ (Heap.get?_push_size _ rfl);have I:HI ((hh.push emptyDict).push (instObj C hh.objs.size)) (hh.objs.size+1) C .plain (some hh.objs.size) (fun Y=>none):=
  ⟨⟨_,(by heap_get:((hh.push emptyDict).push (instObj C hh.objs.size)).get? (hh.objs.size+1)=some (instObj C hh.objs.size))⟩,Nat.ne_of_lt (Nat.lt_succ_self _),Heap.Ns1.of_empty ⟨_,#[],_,hd,rfl,fun e he=>absurd he (by simp),fun Y=>rfl⟩⟩
 refine Jh X W h6 hbody (ρ0:=List.replicate np none) (X _ _ h4) h5 (hA.tc C vals) (b.grown (t:=t) (fun b o e=>Heap.get?_push_of_some _ (Heap.get?_push_of_some _ e):∀b o,hh.get? b=some o→((hh.push emptyDict).push (instObj C hh.objs.size)).get? b=some o)) (.inl ⟨by rw [List.length_cons];exact hl,rfl⟩) (by simp) (fun i v d hv hd=>by
  rw [List.getElem?_replicate]at hd;split at hd<;>exact nomatch hd) fun s₁ m env E sc fr lc en=>?_
 refine wpAny_mono (h fd ss _ _ s₁ m env sc hbody hp rfl rfl I en) (fun fl s'' hq=>hq) fun Y Y q=>q.elim
theorem Qbc {n:String}{e:Expr}(h:Qe0 x n e=true):X2 fun q1 q2=>e=.Attribute (.Name (Str.ofString x) q1) (Str.ofString n) q2∧(Str.ofString x==("__debug__":Str))=false:=by
 refine Yek h fun b m q2 g=>?_;refine Qna (ba1 g) fun q1 hd=>?_;refine dK (ba2 g) ?_;exact ⟨q1,q2,rfl,hd⟩
theorem Qi7 {sc:Scope}{ss:List Stmt}(h:Qcv sc ss=true):X4 fun q1 q2 q3 q4=>ss=[.Assign [.Attribute (.Name (Str.ofString "self") q1) (Str.ofString "things") q2] (.List [] q3) q4]∧(Str.ofString "self"==("__debug__":Str))=false:=by
 refine m1K h fun st g=>?_;refine Qoq g fun ts v q4 g1=>?_;refine m1K (ba1 g1) fun f g2=>?_;obtain ⟨q1,q2,rfl,hd⟩:=Qbc g2;refine Qy1 (ba2 g1) fun es q3 g3=>?_;refine mEK g3 ?_;exact ⟨q1,q2,q3,q4,rfl,hd⟩
theorem Qsx (X:K.In hB) (W:Wd hB Γ mg mb) (hi:Qmu K C 1 ["self"] Qcv=true) (hf:findIn K (.ref C) (Str.ofString "things")=some none) (hA:AOk 2 A) (b:Base P w hB Γ z g s)
  (hQ:∀x d l n h' tk,(∀b o,s.heap.get? b=some o→h'.get? b=some o)→s.heap.get? x=none→s.heap.get? d=none→s.heap.get? l=none→HI h' x C .plain (some d) (Qjs (fun Y=>none) (Str.ofString "things") (.ref l))→h'.get? l=some (Vs [] n)→Q (.ref x) { s with heap:=h',toks:=tk }) :
  wpAny (model P w) A (call (.ref C) []) Q E s:=by
 obtain ⟨_,⟨cd,hc⟩,_⟩:=Qgp hi;refine Qkt X W hi hA b rfl fun fd ss x s' s₁ m env sc hbody hp hs' hxx I en=>?_;obtain ⟨q1,q2,q3,q4,rfl,hd⟩:=Qi7 hp;have F:=en.fro;have k0:∀b o,s.heap.get? b=some o→s'.heap.get? b=some o:=fun b o e=>by rw [hs'];exact Heap.get?_push_of_some _ (Heap.get?_push_of_some _ e)
 have k1:=en.keep;obtain ⟨h1,t1,e1⟩:=en.step.eq;subst e1;subst hs';have hxe:x=s.heap.objs.size+1:=hxx;refine wpAny_execs_cons (plainObj_wpAny_Assign_Attribute (wpAny_List (wpAny_items_nil ⟨by simp,?_⟩)) (by unfold swapsWith;rfl));have k2:=Qv h1 { cls:=.type "list",data:=.seq ([]:List Value).toArray };have cu2:Cur (h1.push { cls:=.type "list",data:=.seq ([]:List Value).toArray }) env m (Str.ofString "self") (.ref x):=(en.cur 0 "self" (.ref x) rfl rfl).mv fun a u hc o e=>k2 _ _ e;refine Qk5 F.fn (F.ns.keeps k2) cu2 hd ?_;have I2:HI (h1.push { cls:=.type "list",data:=.seq ([]:List Value).toArray }) x C .plain (some s.heap.objs.size) (fun Y=>none):=I.keeps fun b o Y e=>k2 _ _ (k1 _ _ e);have Xs:K.In (h1.push { cls:=.type "list",data:=.seq ([]:List Value).toArray }):=fun a o e=>k2 _ _ (Qg en.base _ _ (X a o e));have hl:(h1.push { cls:=.type "list",data:=.seq ([]:List Value).toArray }).get? h1.objs.size=some (Vs [] 0):=Heap.get?_push_size _ rfl;have nd:=I2.ns;have hx2:=I2.obj;refine Ql7 (ns:=[]) Xs hc.toClsB I2 (by intro c q;cases q) (fun sl=>rfl) hf Within.nil (by simp) fun h3 tk dd' I3 k3 hdd hdd2=>wpAny_execs_nil ⟨rfl,?_⟩;obtain ⟨rfl,_⟩:=hdd2 rfl;have hlx:h1.objs.size≠x:=fun q=>by
  obtain ⟨sl,e⟩:=I.obj;have:=k1 _ _ e;rw [←q,Qe]at this;exact nomatch this
 have hld:some h1.objs.size≠some s.heap.objs.size:=fun q=>by
  obtain ⟨_,o,_,_,e,_⟩:=I.ns;have:=k1 _ _ e;rw [←Option.some.inj q,Qe]at this;exact nomatch this
 have none_x:∀{a},s.heap.objs.size≤a→s.heap.get? a=none:=fun h=>Qn h;refine hQ x s.heap.objs.size h1.objs.size 0 h3 tk (fun b o e=>k3 b o (fun q=>?_) (fun q=>?_) (k2 _ _ (k1 _ _ (k0 _ _ e)))) (none_x (by rw [hxe];exact Nat.le_succ _)) (none_x (Nat.le_refl _)) ?_ I3 (k3 _ _ hlx hld hl)
 ·have:=Heap.lt_size e;rw [q,hxe]at this;exact absurd this (Nat.not_lt.mpr (Nat.le_succ _))
 ·have:=Heap.lt_size e;rw [Option.some.inj q]at this;exact absurd this (Nat.lt_irrefl _)
 ·cases q:s.heap.get? h1.objs.size with
  |none=>rfl
  |some o=>have:=k1 _ _ (k0 _ _ q);rw [Qe]at this;exact nomatch this
end
noncomputable def Yeu (sc:Scope) (e:Expr):Prop:=X10 fun l o1 o2 m y q1 f q2 q3 q4=>A7 (e=.UnaryOp .Not (.Compare l [o1,o2] [m,.Call (.Name y q1) [f] [] q2] q3) q4) (isE sc ["self","address"] (.int 0) l=true) (Qeh .le o1=true) (Qeh .lt o2=true) (isE sc ["self","address"] (.var 1) m=true) (Q6 sc "len" y=true) (Qe0 "self" "things" f=true)
theorem Qtn {sc:Scope}{e:Expr}(h:Qqx sc e=true):Yeu sc e:=by
 refine Ydr h fun o x q4 g=>?_;refine dK (ba1 g) ?_;refine Qmz (ba2 g) fun l os rs q3 g1=>?_;refine m2K (ba1 g1) fun o1 o2 g2=>?_;refine m2K (ba2 g1) fun m c g3=>?_;refine mFK (ba2 g3) fun y q1 as q2 g4=>?_;refine m1K (ba2 g4) fun f g5=>?_;exact ⟨l,o1,o2,m,y,q1,f,q2,q3,q4,rfl,ba1 (ba1 g3),ba1 g2,ba2 g2,ba2 (ba1 g3),ba1 g4,g5⟩
noncomputable def Qxi (sc:Scope) (ss:List Stmt):Prop:=X7 fun t b q1 e i q2 q3=>A5 (ss=[.If t b [] q1,.Return (some (.Subscript e i q2)) q3]) (Qqx sc t=true) (Qe0 "self" "things" e=true) (isE sc ["self","address"] (.var 1) i=true) (Jf i=true)
theorem Qmx {sc:Scope}{ss:List Stmt}(h:Qk4 sc ss=true):Qxi sc ss:=by
 refine m2K h fun a b g=>?_;refine Ydv (ba1 g) fun t b o q1 g1=>?_;refine mEK (ba1 g1) ?_;refine Ydh (ba2 g) fun v q3 g2=>?_;refine mSK g2 fun x g3=>?_;refine Qjh g3 fun e i q2 g4=>?_;exact ⟨t,b,q1,e,i,q2,q3,rfl,ba2 g1,ba1 (ba1 g4),ba2 (ba1 g4),ba2 g4⟩
theorem Qdm {K:Frag}{n:String}{p:Scope→List Stmt→Bool}(h:Qmg K C n np nm p=true):X3 fun f fd o=>A5 (Qrn K C (Str.ofString n)=some f) (K.lookup f=some o) (o.data=.func fd) (fdK K fd np nm=true) (V9 fd p=true):=
 mSE h fun f hf h=>Qsg h fun o fd hl hd q=>⟨f,fd,o,hf,hl,hd,ba1 q,ba2 q⟩
section
variable (P:Program) (w:World) (hB:Heap) (Γ:Gm) (sz:List D)
structure TwoOk (HC TC:Addr):Prop where
 hi:X4 fun dh mh l nl=>A4 (HI hB Γ.hA HC .plain dh mh) (mh (Str.ofString "things")=some (.ref l)) (mh (Str.ofString "object")=none) (hB.get? l=some (Vs [.ref Γ.tA] nl))
 ti:X3 fun dt mt vsz=>A4 (HI hB Γ.tA TC .plain dt mt) (mt (Str.ofString "sizes")=some vsz) (mt (Str.ofString "fields")=some (.ref Γ.fA)) (∀z,(∀a o,hB.get? a=some o→z a=some o)→Rd P w Γ z vsz (.tup sz))
end
section
variable {K:Frag}
theorem Qgn {n:String}{dt:Data}{mm:Str→Option Value}(hk:env.scope.kind=.function) (ns:s.heap.Ns env.locals m) (c:Cur s.heap env m (Str.ofString x) (.ref a)) (hd:(Str.ofString x==("__debug__":Str))=false)
  (X:K.In s.heap) (hc:ClsK K C cd) (I:HI s.heap a C dt dd mm) (hn:∀c,dt≠.cls c) (hf:findIn K (.ref C) (Str.ofString n)=some none) (hm:mm (Str.ofString n)=some v) (hh:handedIn v=true) (h:Q v { s with toks:=s.toks+1 }) :
  wpAny (model P w) A (eval (.Attribute (.Name (Str.ofString x) q1) (Str.ofString n) q2) env) Q E s:=
 Attribute_any_ (Qk5 hk ns c hd (Qd7 X hc I hn hf hm hh h)) rfl
theorem Qv9 (X:K.In hB) (W:Wd hB Γ mg mb) (hK:Yc7 K HC TC=true) (T:TwoOk P w hB Γ sz HC TC):AttOk P w hB Γ sz:=by
 refine gk fun Ω κ=>?_;unfold Yc7 Jw at hK;simp only [Bool.and_eq_true,beq_iff_eq]at hK;obtain ⟨⟨⟨⟨⟨c1,c2⟩,f1⟩,f2⟩,f3⟩,m1⟩:=hK;obtain ⟨cdH,cH⟩:=Qg8 c1;obtain ⟨cdT,cT⟩:=Qg8 c2;refine κ ?_;refine ⟨fun a d A z g s Q E ha h2 b p=>?_,fun h2=>?_⟩
 ·obtain ⟨dt,mt,vsz,I,e1,e2,r⟩:=T.ti;have k:=Qg b;have Xs:K.In s.heap:=fun a o e=>k _ _ (X a o e);have Is:=I.keeps fun b o Y e=>k _ _ e;rcases ha with ⟨rfl,rfl⟩|⟨rfl,rfl⟩
  ·have r':=r z b.zB;refine Qd7 Xs cT Is (by intro c q;cases q) f1 e1 (by cases r';rfl) ?_;exact p.same b _ r'
  ·refine Qd7 Xs cT Is (by intro c q;cases q) f2 e2 rfl ?_;exact p.same b _ (.hnd .flds h2)
 ·refine gk fun Ω κ=>?_;obtain ⟨f,fd,o,k1,k2,k3,k4,k5⟩:=Qdm m1;obtain ⟨dh,mh,l,nl,I,e1,e2,e3⟩:=T.hi;obtain ⟨ss,hbody,hss⟩:=Ym k5;refine κ ?_;refine ⟨f,o,fd,X _ _ k2,k3,fun A z g s pl Q E b h=>?_,fun v z g s A R hA b r hR=>?_⟩
  ·have k:=Qg b;exact Qds (fun a o e=>k _ _ (X a o e)) cH (I.keeps fun b o Y e=>k _ _ e) (by intro c q;cases q) k1 e2 h
  ·have nm0:∀i:Nat,i<2→(["self","address"]:List String)[i]?=some (if i=0 then "self" else "address"):=by decide
   refine Jh X W k4 hbody (ρ0:=[some (.hnd .heap),some (.int 0)]) (X _ _ k2) k3 hA b (.inl ⟨rfl,rfl⟩) rfl (hsS (.hnd .heap h2) (hsS r hs0)) fun s₁ m env E sc fr lc en=>?_
   ·refine gk fun Ω κ=>?_;obtain ⟨t,bb,q1,e,i,q2,q3,rfl,i1,i2,i3,i4⟩:=Qmx hss;obtain ⟨el,o1,o2,em,y,p1,ef,p2,p3,p4,rfl,j1,j2,j3,j4,j5,j6⟩:=Qtn i1;obtain ⟨r1,r2,rfl,hd⟩:=Qbc j6;obtain ⟨r3,r4,rfl,_⟩:=Qbc i2;have hA':=hA.deeper (env:=env);have F:=en.fro;have rest:∀z2 s2,Base P w hB Γ z2 g s2→Step Γ z s₁ z2 s2→(∀(Q:Value→Shared→Prop) E' q1 q2,(∀z3 s3,Base P w hB Γ z3 g s3→Step Γ z s₁ z3 s3→Rd P w Γ z3 (.ref l) (.lst [.hnd .thing])→Q (.ref l) s3) →
      wpAny (model P w) (A.deeper env) (eval (.Attribute (.Name (Str.ofString "self") q1) (Str.ofString "things") q2) env) Q E' s2):=fun z2 s2 b2 st2 Q E' q1 q2 hQ=>by
     have F2:=F.step en.base b2 st2;have k:=Qg b2;have cu:=F2.curHeld (i:=0) (x:="self") rfl rfl;obtain ⟨v0,cu,hv0⟩:=cu;have:v0=.ref Γ.hA:=by cases hv0;rfl
     subst this;refine Qgn F2.fn F2.ns cu hd (fun a o e=>k _ _ (X a o e)) cH (I.keeps fun b o Y e=>k _ _ e) (by intro c q;cases q) f3 e1 rfl ?_;exact hQ z2 _ (b2.grown (h':=s2.heap) (t:=s2.toks+1) (fun Y Y e=>e)) (st2.trans (Step.grown b2 (fun Y Y e=>e))) (.lst (b2.zB _ _ e3) (.cons (.hnd .thing h2) .nil))
    have c2:Vw .lt (.int 0) (.int 1)=some true:=by decide
    have O:Orc:={ fn:=fun Y Y Y=>none,glob:=fun Y=>none,szs:=[],sort:=fun Y=>none }
    refine κ ?_;refine wpAny_execs_cons (wpAny_If (wpAny_isTrue_Not (Yai (Qut (O:=O) (n:=0) 0 _ _ _ _ _ _ _ _ _ _ _ _ _ _ _ j1 sc hA' en.base F rfl fun v z1 s1 b1 st1 q1=>
     Qic (O:=O) (n:=0) 1 _ _ _ _ _ _ _ _ _ _ _ _ _ _ _ j4 sc hA' b1 (F.step en.base b1 st1) rfl fun u z2 s2 b2 st2 q2=>?_) ?_)))
    ·obtain ⟨t0,rfl⟩:=Vo q2;refine Qc0 hA' b2 j2 (q1.le st2.le) q2 (by decide:Vw .le (.int 0) (.int 0)=some true) fun tv z3 s3 b3 st3 q3=>⟨true,Vt q3,?_⟩
     refine eqR (if_pos rfl) ?_;have st13:=(st1.trans st2).trans st3;have F3:=F.step en.base b3 st13;refine wpAny_Call_ofName (Yf W b3 F.fn F.gl F.bi sc j5 (.inr (W.bu _ _ rfl)) ?_);refine Yl (.inl ⟨_,rfl⟩) rfl ?_;refine wpAny_items_cons (rest z3 s3 b3 st13 _ _ _ _ fun z4 s4 b4 st4 q4=>wpAny_items_nil ?_) rfl;refine Qr1 b4 q4 rfl fun x z5 s5 b5 st5 q5=>?_;have st15:=st4.trans st5;refine Qc0 hA' b5 j3 (.int 0 t0) q5 c2 fun v z6 s6 b6 st6 q6=>⟨_,Vt q6,?_⟩
     refine eqR (if_neg (by decide)) ?_;refine wpAny_execs_nil (wpAny_execs_cons (wpAny_Return_some (Qj8 i4 (rest z6 s6 b6 (st15.trans st6) _ _ _ _ fun z7 s7 b7 st7 q7=>?_))));refine Qic (O:=O) (n:=0) 1 _ _ _ _ _ _ _ _ _ _ _ _ _ _ _ i3 sc hA' b7 (F.step en.base b7 st7) rfl fun u2 z8 s8 b8 st8 q8=>?_;have q7':=q7.le st8.le;have hit:Qde g (.lst [.hnd .thing]) (.int 0)=some (.hnd .thing):=rfl;refine Qk0 b8 q7' hit fun T2 id hl hT=>?_;refine ⟨T2,id,hl,hT,Qqa hA' b8 q7' q8 hit fun v9 z9 s9 b9 st9 q9=>?_⟩;exact hR v9 z9 s9 b9 ((en.step.trans (st7.trans st8)).trans st9) q9
    ·rfl
end
set_option tactic.hygienic true in
theorem Qam {M:Model}{env:Env}{tt:List Stmt}{Γ:Ctx}{Q:Flow→Pos→Shared→Prop}{E:Value→Pos→Shared→Prop}:∀{ss:List Stmt}{p:Pos}{s:Shared},
  Sem.wp M Γ (execs ss env) (fun f p' s'=>match f with|.next=>Sem.wp M Γ (execs tt env) Q E p' s'|f=>Q f p' s') E p s→Sem.wp M Γ (execs (ss++tt) env) Q E p s
 |[],_,_,h=>h
 |st::ss,p,s,h=>by
  refine eqR (List.cons_append) ?_;rw [execs_cons,Sem.wp_bind'];rw [execs_cons,Sem.wp_bind']at h;refine Sem.wp_mono M Γ _ (fun f p' s' h'=>?_) (fun Y Y Y h'=>h') _ _ h;cases f<;>first|exact Qam h'|exact h'
set_option tactic.hygienic true in
theorem Yi {M:Model}{ss:List Stmt}{Q:Flow→Shared→Prop}
  (h:wpAny M A (execs ss env) (fun f s'=>match f with|.next=>wpAny M A (execs tt env) Q E s'|f=>Q f s') E s):wpAny M A (execs (ss++tt) env) Q E s:=fun Γ p hΓ=>by
 refine Qam (Sem.wp_mono M Γ _ (fun f p' s' h'=>?_) (fun Y Y Y h'=>h') _ _ (h Γ p hΓ));cases f<;>first|exact h' Γ p' hΓ|exact h'
noncomputable def Yfn (sc:Scope) (ss:List Stmt):Prop:=X4 fun s1 es q1 q2=>A3 (ss=s1++[.Return (some (.List es q1)) q2]) (Qbj sc Qdr Qtt s1=true) (J0 sc Qdr Qsm es=true)
theorem Qyk {sc:Scope}{ss:List Stmt}(h:Qua sc ss=true):Yfn sc ss:=by
 refine mRK (M:=fun l=>ss.drop 2=l→Yfn sc ss) (ba2 h) (fun x q2 g e=>?_) rfl;refine Qy1 (M:=fun x=>ss.drop 2=[.Return (some x) q2]→Yfn sc ss) g (fun es q1 g2 e=>?_) e;exact ⟨ss.take 2,es,q1,q2,by rw [←e,List.take_append_drop],ba1 h,g2⟩
section
theorem Qxl (ns:List Int) (hl:ns.length≤1048576):X4 fun (i j p0 p1:Int)=>A4 (0≤p0) (0≤p1) (Yj O Qtt [vv (.lst (ns.map .int)),none,none] g=some (.nxt,[vv (.lst (ns.map .int)),vv (.int i),vv (.int j)],g)) (Yd O Qsm [vv (.lst (ns.map .int)),vv (.int i),vv (.int j)] g=some ([.int p0,.int p1],g)):=by
 have len:∀ρ:Q8,ρ[0]?=some (vv (.lst (ns.map .int)))→Qb O (.bi .len (.cons (.var 0) .nil)) ρ g=some (.int (ns.length:Int),g):=fun ρ h=>by
  have:=Vv (O:=O) (ρ:=ρ) (g:=g) (g':=g) (xs:=ns.map .int) (e:=.var 0) (.inl (Qa h)) (by simpa using hl);simpa using this
 obtain ⟨i,hi⟩:∃i:Int,Qb O (.ite (.cmp .gt (.bi .len (.cons (.var 0) .nil)) (.int 0)) (.idx (.var 0) (.int 0)) (.int 0)) [vv (.lst (ns.map .int)),none,none] g=some (.int i,g):=by
  cases ns with
  |nil=>exact ⟨0,Yt (Qq (t:=false) (len _ rfl) (Qf ..) (by rfl)) (Qf ..)⟩
  |cons x r=>
   refine ⟨x,Yy (Qq (t:=true) (len _ rfl) (Qf ..) ?_) (Q1 (a:=.lst ((x::r).map .int)) (b:=.int 0) (Qa rfl) (Qf ..) ?_)⟩
   ·simp [Vw]
   ·simp at hl;simp [Vg,Ve,Vf,Qm];exact (Z10 0xfffff5601fffff56016) hl
 have hj:Qb O (.ite (.cmp .ge (.var 1) (.int 0)) (.var 1) (.bin .sub (.int 8) (.var 1))) [vv (.lst (ns.map .int)),vv (.int i),none] g=some (.int (if 0≤i then i else 8-i),g):=by
  by_cases h:0≤i
  ·refine eqR (if_pos h) ?_;exact Yy (Qq (t:=true) (Qa rfl) (Qf ..) (by simp [Vw];exact (Z01 88081734) h)) (Qa rfl)
  ·refine eqR (if_neg h) ?_;exact Yt (Qq (t:=false) (Qa rfl) (Qf ..) (by simp [Vw];exact (Z01 0x503005496) h)) (Qk (Qf ..) (Qa rfl) rfl)
 generalize hjj:(if 0≤i then i else 8-i)=j at hj;have j0:0≤j:=by rw [←hjj];split<;>omega
 refine ⟨i,j,if 1000000000000000≤j then j else 0,((j % 999979)*167+37) % 65437,by split<;>omega,by omega,?_,?_⟩
 ·exact Qc (Qo hi rfl) (Qc (Qo hj rfl) (Qh ..))
 ·have hp:∀ρ,Qb O (.bin .pow (.int 10) (.int 15)) ρ g=some (.int 1000000000000000,g):=fun ρ=>Qk (Qf ..) (Qf ..) rfl;have e1:Qb O (.ite (.cmp .ge (.var 2) (.bin .pow (.int 10) (.int 15))) (.var 2) (.int 0)) [vv (.lst (ns.map .int)),vv (.int i),vv (.int j)] g=some (.int (if 1000000000000000≤j then j else 0),g):=by
   by_cases h:1000000000000000≤j
   ·refine eqR (if_pos h) ?_;exact Yy (Qq (t:=true) (Qa rfl) (hp _) (by simp [Vw];exact (Z01 0x38d7ea4c68000d64038d7ea4c68000d646) h)) (Qa rfl)
   ·refine eqR (if_neg h) ?_;exact Yt (Qq (t:=false) (Qa rfl) (hp _) (by simp [Vw];exact (Z01 0x38d7ea4c68000d603038d7ea4c68000d6496) h)) (Qf ..)
  have e2:Qb O (.bin .mod (.bin .add (.bin .mul (.bin .mod (.var 2) (.int 999979)) (.int 167)) (.int 37)) (.int 65437)) [vv (.lst (ns.map .int)),vv (.int i),vv (.int j)] g=some (.int (((j % 999979)*167+37) % 65437),g):=by
   have f2:Qc9 .mod (.int ((j % 999979)*167+37)) (.int 65437)=some (.int (((j % 999979)*167+37) % 65437)):=by simp [Qc9,Int.fmod_eq_emod_of_nonneg]
   have f3:Qc9 .mul (.int (j % 999979)) (.int 167)=some (.int ((j % 999979)*167)):=by
    have:(Q2 (j % 999979)||Q2 167)=true:=by rw [show Q2 167=true by decide,Bool.or_true]
    simp only [Qc9,Yc2,Yho,this,if_true]
   have f4:Qc9 .add (.int ((j % 999979)*167)) (.int 37)=some (.int ((j % 999979)*167+37)):=by unfold Qc9;rfl
   exact Qk (Qk (Qk (Qk (Qa rfl) (Qf ..) (by simp [Qc9,Int.fmod_eq_emod_of_nonneg]:Qc9 .mod (.int j) (.int 999979)=some (.int (j % 999979)))) (Qf ..) f3) (Qf ..) f4) (Qf ..) f2
  exact Qd e1 (Qd (Qd e2 rfl) rfl)
end
section
variable {K:Frag}
theorem Qx2 (X:K.In hB) (W:Wd hB Γ mg mb) (hO:OrcOk P w hB Γ mg 1 O) (hap:Γ.has=true→Γ.two=true→Γ.pA≠Γ.fA) {f:Addr}(k2:fdK K fd 1 Qdr=true) (k3:V9 fd Qua=true) (m2:hB.get? f=some o) (m3:o.data=.func fd) (hA:AOk 2 A) (b:Base P w hB Γ z g s) {L:Value}{ns:List Int}(hl:ns.length≤1048576) (r:Rd P w Γ z L (.lst (ns.map .int)))
  (hR:∀a p0 p1 t u z' s',0≤p0→0≤p1→Base P w hB Γ z' g s'→Step Γ z s z' s'→s.heap.get? a=none→z' a=none→s'.heap.get? a=some (Vs [.int p0 t,.int p1 u] 0)→R (.ok (.ret (.ref a))) s'):codeAny (model P w) A (.call (.ref f) ⟨[L],[]⟩) R s:=by
 refine gk fun Ω κ=>?_;obtain ⟨ss,hbody,hp⟩:=Ym k3;obtain ⟨s1,es,q1,q2,rfl,i1,i2⟩:=Qyk hp;refine κ ?_;refine Jh X W k2 hbody (ρ0:=[some (.lst (ns.map .int))]) m2 m3 hA b (.inl ⟨rfl,rfl⟩) rfl (hsS r hs0) fun s₁ m env E sc fr lc en=>?_
 ·obtain ⟨i,j,p0,p1,h0,h1,hb,he⟩:=Qxl (O:=O) (g:=g) ns hl;refine Yi (Qbo W hO hap Qtt _ _ _ _ _ _ _ _ _ _ _ _ _ _ _ _ i1 sc hA.deeper en.base en.kp en.fro hb ⟨fun z2 s2 m2 Y b2 ss2 F2=>?_,fun Y Y Y Y q=>by cases q⟩);refine wpAny_execs_cons (wpAny_Return_some (wpAny_List ((Qbm W hO Qsm).1 _ _ _ _ _ _ _ _ _ _ _ _ _ _ _ _ i2 sc hA.deeper b2 F2 he fun vs z3 s3 b3 st3 r3=>?_)));refine ⟨by rw [r3.length];simp [sizeLine_eq],?_⟩;obtain ⟨_,_,rfl,ra,rb⟩:=Qz8 r3;obtain ⟨t,rfl⟩:=Vo ra;obtain ⟨u,rfl⟩:=Vo rb;have k4:=Qv s3.heap { cls:=.type "list",data:=.seq [Value.int p0 t,.int p1 u].toArray };refine hR s3.heap.objs.size p0 p1 t u z3 _ h0 h1 (b3.grown (t:=s3.toks) k4) ((((en.step.ss (K:=Qi s.heap) fun c hc=>hc)).trans (ss2.trans (st3.ss (en.kp.ss b2 ss2)))).step.trans (Step.grown b3 (t:=s3.toks) k4)) ?_ (Ql b3.zin (Qe _)) (Heap.get?_push_size _ rfl);cases q:s.heap.get? s3.heap.objs.size with
  |none=>rfl
  |some o'=>
   obtain ⟨o2,e2⟩:=(((en.kp.ss b2 ss2).ss b3 (st3.ss (en.kp.ss b2 ss2))) _ ⟨o',q⟩)
   rw [Qe]at e2;exact nomatch e2
end
section
variable {K:Addr→Prop}
theorem Fro.re (F:Fro P w Γ K z h env nm ρ m) (ho:∀i,¬Y7 ρ i) (sw:∀v d,Rd P w Γ z v d→Rd P w Γ' z' v d) (ns:h'.Ns env.locals m) (hl:z' env.locals=none) (kl:¬K' env.locals)
  (kc:∀c v o,h.IsCell c v→h.get? c=some o→h'.get? c=some o) (hc:∀c v,h.IsCell c v→z c=none→¬K c→z' c=none∧¬K' c):Fro P w Γ' K' z' h' env nm ρ m where
 fn:=F.fn
 gl:=F.gl
 bi:=F.bi
 len:=F.len
 nd:=F.nd
 ns:=ns
 zl:=hl
 kl:=kl
 slot:=fun i x b hi hb=>by
  have S:=F.slot i x b hi hb;have wr:Wr K z h env (Str.ofString x)→Wr K' z' h' env (Str.ofString x):=fun w=>by
   rcases w with w|⟨w1,c,v,w2,⟨o,w3,w6⟩,w4,w5⟩
   ·exact .inl w
   ·have:=hc _ _ ⟨o,w3,w6⟩ w4 w5;exact .inr ⟨w1,c,v,w2,⟨o,kc _ _ _ ⟨o,w3,w6⟩ w3,w6⟩,this.1,this.2⟩
  have cu:∀{v},Cur h env m (Str.ofString x) v→Cur h' env m (Str.ofString x) v:=fun c=>by
   rcases c with c|⟨k1,c,l,o,e,d⟩
   ·exact .inl c
   ·exact .inr ⟨k1,c,l,o,kc _ _ _ ⟨o,e,d⟩ e,d⟩
  cases b with
  |none=>exact wr S
  |some b=>
   obtain ⟨S1,v,S2,S3⟩:=S;refine ⟨fun q=>wr (S1 q),v,cu S2,?_⟩;cases b with
   |val d=>exact sw _ _ S3
   |cap d=>exact sw _ _ S3
   |own xs=>exact absurd (.inl ⟨xs,hb⟩) (ho i)
   |ownD es=>exact absurd (.inr ⟨es,hb⟩) (ho i)
 inj:=fun i j x y a hi hj oi=>absurd oi (ho i)
 cinj:=F.cinj
noncomputable def Yd5:Option B→Bool
 |some b=>!Yv b
 |none=>true
theorem Qkp (h:ρ.all Yd5=true):∀i,¬Y7 ρ i:=fun i o=>by
 rw [List.all_eq_true]at h;rcases o with ⟨_,e⟩|⟨_,e⟩<;>exact absurd (h _ (List.mem_of_getElem? e)) (by simp [Yd5,Yv])
noncomputable def Yip (sc:Scope) (st:Stmt):Prop:=X14 fun q1 q2 kk q3 f p1 a p2 c p3 p4 k2 q4 q5=>A4 (st=.Assign [.Tuple [.Name (Str.ofString "pen") q1,.Name (Str.ofString "heap") q2] kk q3] (.Tuple [.Call (.Name f p1) [a] [] p2,.Call (.Name c p3) [] [] p4] k2 q4) q5) (Q6 sc "_law_pen" f=true) (isE sc Y5 (.var 0) a=true) (Q6 sc "Heap" c=true)
theorem Qyo {sc:Scope}(h:Qty sc st=true):Yip sc st:=by
 refine Qoq h fun ts v q5 g=>?_;refine m1K (ba1 g) fun t g1=>?_;refine Qyj g1 fun es kk q3 g2=>?_;refine m2K g2 fun a b g3=>?_;refine Qna (ba1 g3) fun q1 Y=>?_;refine Qna (ba2 g3) fun q2 Y=>?_;refine Qyj (ba2 g) fun es k2 q4 g4=>?_;refine m2K g4 fun a b g5=>?_;refine mFK (ba1 g5) fun f p1 as p2 g6=>?_;refine m1K (ba2 g6) fun a g7=>?_;refine mFK (ba2 g5) fun c p3 bs p4 g8=>?_;refine mEK (ba2 g8) ?_;exact ⟨q1,q2,kk,q3,f,p1,a,p2,c,p3,p4,k2,q4,q5,rfl,ba1 g6,g7,ba1 g8⟩
end
theorem Qcd {K:Frag}(X:K.In hB) (G:hB.Ns mainGlobals mg) (h:Qjc K f=some C):mg (Str.ofString f)=some (.ref C):=
 obK h fun o hn h=>obK h fun v hv h=>by
  subst hv;exact Ydo (M:=fun v=>nsIn K mainGlobals (Str.ofString f)=some (some v)→mg (Str.ofString f)=some (.ref C)) h (fun a h hn=>by cases h;exact mg_of X G hn) hn
noncomputable def Γ0:Gm:=⟨0,0,0,0,false,false,[]⟩
noncomputable def Γ1 (pA hA:Addr):Gm:=⟨pA,hA,0,0,true,false,[]⟩
noncomputable def K1 (K:Addr→Prop) (x d l:Addr):Addr→Prop:=fun a=>K a∨a=x∨a=d∨a=l
section
variable {K:Addr→Prop}
structure After1 (P:Program) (w:World) (hB:Heap) (HC:Addr) (K:Addr→Prop) (z:Z) (s:Shared) (env:Env) (ds:List D) (pA hA dA lA:Addr) (z':Z) (g':Gs) (s':Shared) (m':Str→Option Value):Prop where
 base:Base P w hB (Γ1 pA hA) z' g' s'
 fro:Fro P w (Γ1 pA hA) (K1 K hA dA lA) z' s'.heap env Y5 (vv (.lst ds)::vv (.hnd .pen)::vv (.hnd .raw)::List.replicate 12 none) m'
 eq:X2 fun h t=>s'={ s with heap:=h,toks:=t }
 keep:∀a o,K a→s.heap.get? a=some o→s'.heap.get? a=some o
 new:s.heap.get? pA=none∧s.heap.get? hA=none∧s.heap.get? dA=none∧s.heap.get? lA=none
 pne:pA≠hA∧pA≠dA∧pA≠lA
 zn:z' hA=none∧z' dA=none∧z' lA=none
 inst:HI s'.heap hA HC .plain (some dA) (Qjs (fun Y=>none) (Str.ofString "things") (.ref lA))
 lst:∃n,s'.heap.get? lA=some (Vs [] n)
 kp:Kp (K1 K hA dA lA) s'.heap
 le:ZLe z z'
set_option tactic.hygienic true in
theorem Yaa (X:KF.In hB) (W:Wd hB Γ0 mg mb) (hO:OrcOk P w hB Γ0 mg 1 O) (hP:okK KF "_law_pen" 1 Qdr Qua=true) (hH:Qxm KF HC=true) (hA:AOk 2 A) {sc:Scope}(hi:Qty sc st=true) (S:ScOk sc env)
  {ns:List Int} (hl:ns.length≤1048576) (b:Base P w hB Γ0 z g s) (kp:Kp K s.heap) (F:Fro P w Γ0 K z s.heap env Y5 (vv (.lst (ns.map .int))::List.replicate 14 none) m) {Q:Flow→Shared→Prop}
  (hQ:∀pA hA dA lA z' g' s' m',0≤g'.p0→0≤g'.p1→After1 P w hB HC K z s env (ns.map .int) pA hA dA lA z' g' s' m'→Q .next s'):wpAny (model P w) A (exec st env) Q E s:=by
 refine gk fun Ω κ=>?_;obtain ⟨q1,q2,kk,q3,f,p1,a,p2,c,p3,p4,k2,q4,q5,rfl,g1,g2,g3⟩:=Qyo hi;unfold Qxm at hH;simp only [Bool.and_eq_true,beq_iff_eq]at hH;obtain ⟨⟨⟨h1,h2⟩,h3⟩,h4⟩:=hH;refine κ ?_;rw [exec_Assign_arm];refine wpAny_bind (wpAny_standAt ?_);have hsw:∀a' b',swapsWithSole [.Tuple [.Name (Str.ofString "pen") q1,.Name (Str.ofString "heap") q2] kk q3] (.Tuple [a',b'] k2 q4) q5.line env=pure false:=fun Y Y=>rfl;rw [hsw];refine wpAny_bind (wpAny_pure ?_);refine aN (by decide) ?_;refine wpAny_bind (wpAny_Tuple (wpAny_items_cons ?_ rfl));refine gk fun Ω κ=>?_;have nst:=Qb5 g2;obtain ⟨fa,fd,k1,k2',k3⟩:=Qa2 hP;obtain ⟨m1,fo,m2,m3⟩:=Qaa X W.g k1;refine κ ?_;refine wpAny_Call_ofName (Yf W b F.fn F.gl F.bi S g1 (.inl m1) ?_);refine Calls.callWith_function (o:=fo) (fd:=fd) (Qu (by rw [nst];rfl:(backTo p2 (starEach [a] env)).any (·.1)=false) ?_);refine wpAny_items_cons (Qic (O:=O) (n:=1) 0 _ _ _ _ _ _ _ _ _ _ _ _ _ _ _ g2 S (hA.le (by decide)) b F rfl fun v z1 s1 b1 st1 r1=>wpAny_items_nil ⟨⟨Qg b1 _ _ m2,m3⟩,?_⟩) (nst _ _);refine wpAny_call (Qx2 X W hO (by intro q;exact Bool.noConfusion q) k2' k3 m2 m3 hA b1 hl r1 fun pA p0 p1' t u z2 s2 n0 n1 b2 st2 hpn zp hpl=>?_);have F2:=(F.step b b1 st1).step b1 b2 st2;have st12:=st1.trans st2;refine wpAny_items_cons ?_ rfl;refine wpAny_Call_ofName (Yf W b2 F2.fn F2.gl F2.bi S g3 (.inl (Qcd X W.g h1)) ?_);refine callWith_K0 (fun a o e=>Qg b2 _ _ (X a o e):KF.In s2.heap) h4 ?_;refine Qsx X W h2 h3 hA b2 fun x d l n' h3' tk3 k3' nx nd nl I hll=>wpAny_items_nil ⟨by simp [sizeLine_eq],?_⟩;generalize hs3:({ s2 with heap:=h3',toks:=tk3 }:Shared)=s3;have hh3:s3.heap=h3':=by rw [←hs3]
 have b3:Base P w hB Γ0 z2 g s3:=by rw [←hs3];exact b2.grown k3'
 have fr0:∀a,Γ0.free a:=fun a=>⟨fun q=>(by exact Bool.noConfusion q),fun q=>by cases q⟩
 have hpA3:s3.heap.get? pA=some (Vs [.int p0 t,.int p1' u] 0):=by rw [hh3];exact k3' _ _ hpl
 have nep:∀{c},s2.heap.get? c=none→pA≠c:=fun hc q=>by rw [←q,hpl]at hc;cases hc
 have hst:∀{c},K c→Qi s2.heap c:=fun {c} kc=>by
  obtain ⟨o,e⟩:=kp c kc;exact ⟨o,st12.keep _ _ (fr0 _) e⟩
 have nK:∀{c},s2.heap.get? c=none→¬K c:=fun hc kc=>by
  obtain ⟨o,e⟩:=hst kc;rw [hc]at e;exact nomatch e
 have onlyK:∀{c o},s2.heap.get? c=some o→¬K c→¬K1 K x d l c:=fun e nk kc=>by
  rcases kc with kc|rfl|rfl|rfl
  ·exact nk kc
  ·rw [nx]at e;exact nomatch e
  ·rw [nd]at e;exact nomatch e
  ·rw [nl]at e;exact nomatch e
 have sn:∀{c},s2.heap.get? c=none→s.heap.get? c=none:=fun {c} hc=>by
  cases q:s.heap.get? c with
  |none=>rfl
  |some o=>have:=st12.keep _ _ (fr0 _) q;rw [hc]at this;exact nomatch this
 have zn:∀{c},s2.heap.get? c=none→z2 c=none:=fun hc=>Ql b2.zin hc;have hpn0:s.heap.get? pA=none:=by
  cases q:s.heap.get? pA with
  |none=>rfl
  |some o=>have:=st1.keep _ _ (fr0 _) q;rw [hpn]at this;exact nomatch this
 have main:∀s4:Shared,(X2 fun hh tt=>s4={ s3 with heap:=hh,toks:=tt })→(∀a o,s3.heap.get? a=some o→s4.heap.get? a=some o)→(wpAny (model P w) A (storeName env (Str.ofString "pen") (.ref pA)) (fun Y s1=>wpAny (model P w) A (storeName env (Str.ofString "heap") (.ref x)) (fun Y s'=>Q .next s') E s1) E s4) ∧
   (wpAny (model P w) A (storeName env (Str.ofString "heap") (.ref x)) (fun Y s1=>wpAny (model P w) A (storeName env (Str.ofString "pen") (.ref pA)) (fun Y s'=>Q .next s') E s1) E s4):=fun s4 ⟨hh,tt,e4⟩ k4=>by
  have k24:∀a o,s2.heap.get? a=some o→s4.heap.get? a=some o:=fun a o e=>k4 _ _ (by rw [hh3];exact k3' _ _ e);have b4:Base P w hB (Γ1 pA x) z2 ⟨p0,p1',[]⟩ s4:=
   ⟨fun a o e=>k24 _ _ (b2.zin _ _ e),b2.zB,fun Y=>⟨t,u,0,k24 _ _ hpl⟩,fun Y=>zp,fun q=>(by exact Bool.noConfusion q),fun q=>by cases q⟩
  have F4:Fro P w (Γ1 pA x) (K1 K x d l) z2 s4.heap env Y5 (vv (.lst (ns.map .int))::List.replicate 14 none) m:=by
   refine F2.re (Qkp rfl) (fun v d r=>r.swap ⟨fun q=>(by exact Bool.noConfusion q),rfl⟩ (ZLe.refl _)) (F2.ns.keeps k24) F2.zl (fun kc=>?_) (fun c v o Y e=>k24 _ _ e) (fun c v ⟨o,e,_⟩ zc kc=>⟨zc,onlyK e kc⟩);obtain ⟨o,_,_,e,_⟩:=F2.ns;exact onlyK e F2.kl kc
  have I4:HI s4.heap x HC .plain (some d) (Qjs (fun Y=>none) (Str.ofString "things") (.ref l)):=I.keeps fun b o Y e=>k4 _ _ (by rw [hh3];exact e);have l4:s4.heap.get? l=some (Vs [] n'):=k4 _ _ (by rw [hh3];exact hll);have kp4:Kp (K1 K x d l) s4.heap:=fun c kc=>by
   rcases kc with kc|rfl|rfl|rfl
   ·obtain ⟨o,e⟩:=hst kc;exact ⟨o,k24 _ _ e⟩
   ·obtain ⟨sl,e⟩:=I4.obj;exact ⟨_,e⟩
   ·obtain ⟨_,o,_,_,e,_⟩:=I4.ns;exact ⟨_,e⟩
   ·exact ⟨_,l4⟩
  have fin:∀s' m',Base P w hB (Γ1 pA x) z2 ⟨p0,p1',[]⟩ s'→SStep (Γ1 pA x) (K1 K x d l) z2 s4 z2 s'→Fro P w (Γ1 pA x) (K1 K x d l) z2 s'.heap env Y5 (vv (.lst (ns.map .int))::vv (.hnd .pen)::vv (.hnd .raw)::List.replicate 12 none) m'→Q .next s':=fun s' m' b' ss F'=>by
   have fr1:∀{c},c≠pA→(Γ1 pA x).free c:=fun h=>⟨fun Y=>h,fun q=>by cases q⟩
   refine hQ pA x d l z2 _ s' m' n0 n1 ⟨b',F',?_,fun a o ka e=>?_,⟨hpn0,sn nx,sn nd,sn nl⟩,⟨nep nx,nep nd,nep nl⟩,⟨zn nx,zn nd,zn nl⟩,I4.keeps fun b o hb e=>?_,⟨n',?_⟩,kp4.ss b' ss,st12.le⟩
   ·obtain ⟨h1,t1,e1⟩:=ss.eq;obtain ⟨h2,t2,e2⟩:=st12.eq;exact ⟨h1,t1,by rw [e1,e4,←hs3,e2]⟩
   ·refine ss.keep _ _ (.inl ka) (fr1 fun q=>?_) (k24 _ _ (st12.keep _ _ (fr0 _) e));rw [q,hpn0]at e;exact nomatch e
   ·rcases hb with rfl|hb
    ·exact ss.keep _ _ (.inr (.inl rfl)) (fr1 (nep nx).symm) e
    ·cases hb;exact ss.keep _ _ (.inr (.inr (.inl rfl))) (fr1 (nep nd).symm) e
   ·exact ss.keep _ _ (.inr (.inr (.inr rfl))) (fr1 (nep nl).symm) l4
  have H1:Qip P w (Γ1 pA x) (K1 K x d l) z2 s4.heap env (.val (.hnd .pen)) (.ref pA):=Rd.hnd (Γ:=Γ1 pA x) .pen rfl;have H2:Qip P w (Γ1 pA x) (K1 K x d l) z2 s4.heap env (.val (.hnd .raw)) (.ref x):=Rd.hnd (Γ:=Γ1 pA x) .raw rfl;exact ⟨Qa0 F4 b4 (i:=1) (j:=2) rfl rfl (by decide) rfl rfl H1 H2 rfl (fun Y Y Y q=>by cases q) (fun Y Y Y q=>by cases q) (fun q=>by exact Bool.noConfusion q) fun s' m' b' ss F'=>fin s' m' b' ss F',
   Qa0 F4 b4 (i:=2) (j:=1) rfl rfl (by decide) rfl rfl H2 H1 rfl (fun Y Y Y q=>by cases q) (fun Y Y Y q=>by cases q) (fun q=>by exact Bool.noConfusion q) fun s' m' b' ss F'=>fin s' m' b' ss F'⟩
 have k3p:=Qv s3.heap { cls:=.type "tuple",data:=.seq [Value.ref pA,.ref x].toArray };have ht3:(s3.heap.push { cls:=.type "tuple",data:=.seq [Value.ref pA,.ref x].toArray }).get? s3.heap.objs.size=some { cls:=.type "tuple",data:=.seq [Value.ref pA,.ref x].toArray }:=Heap.get?_push_size _ rfl;rcases Qd8 (x:=Str.ofString "pen") (y:=Str.ofString "heap") (q1:=q1) (q2:=q2) (q3:=q3) (q4:=q4) (k:=kk) (k2:=k2) (env:=env) (rfl:((constantsAlone 8 (.Call (.Name f p1) [a] [] p2)&&constantsAlone 8 (.Call (.Name c p3) [] [] p4))||(foldedForSure 8 (.Call (.Name f p1) [a] [] p2)&&foldedForSure 8 (.Call (.Name c p3) [] [] p4)))=false) with hsw|hsw
 ·refine eqR (hsw) ?_;refine wpAny_bind (wpAny_pure ?_);refine (?_:wpAny _ A (do assignAll (.ref s3.heap.objs.size) [assign (.Tuple [.Name (Str.ofString "pen") q1,.Name (Str.ofString "heap") q2] kk q3) env];pure Flow.next) _ _ _);refine wpAny_bind ?_;refine (?_:wpAny _ A (assign (.Tuple [.Name (Str.ofString "pen") q1,.Name (Str.ofString "heap") q2] kk q3) env (.ref s3.heap.objs.size)) _ _ _);refine assign_Tuple_tuple (items:=[Value.ref pA,.ref x].toArray) hA.hh ⟨_,ht3,rfl,_,rfl⟩ rfl rfl fun h' hx=>?_;have k5:∀a o,s3.heap.get? a=some o→h'.get? a=some o:=fun a o e=>hx a o (Nat.ne_of_lt (Heap.lt_size (k3p _ _ e))) (k3p _ _ e);obtain ⟨f1,_⟩:=main { s3 with heap:=h' } ⟨_,_,rfl⟩ k5;refine assignInOrder_cons (wpAny_assign_Name (wpAny_mono f1 (fun Y s5 h5=>?_) fun Y Y h=>h));exact assignInOrder_cons (wpAny_assign_Name (wpAny_mono h5 (fun Y s6 h6=>assignInOrder_nil (wpAny_pure h6)) fun Y Y h=>h))
 ·refine eqR (hsw) ?_;refine wpAny_bind (wpAny_pure ?_);refine (?_:wpAny _ A (do
   rule "assign.swapped-stores"
   let items ←unpackItems (.ref s3.heap.objs.size) 2 none
   assignInOrder ([Str.ofString "pen",Str.ofString "heap"].reverse.map fun n=>bindName env n) items.reverse
   pure Flow.next) _ _ _)
  refine wpAny_bind (wpAny_rule ?_);refine wpAny_bind (wpAny_unpackItems_tuple (items:=[Value.ref pA,.ref x].toArray) hA.hh ⟨_,ht3,rfl,_,rfl⟩ fun h' hx=>?_);have k5:∀a o,s3.heap.get? a=some o→h'.get? a=some o:=fun a o e=>hx a o (Nat.ne_of_lt (Heap.lt_size (k3p _ _ e))) (k3p _ _ e);obtain ⟨_,f2⟩:=main { s3 with heap:=h' } ⟨_,_,rfl⟩ k5;refine wpAny_bind (assignInOrder_cons (wpAny_bindName (wpAny_mono f2 (fun Y s5 h5=>?_) fun Y Y h=>h)));exact assignInOrder_cons (wpAny_bindName (wpAny_mono h5 (fun Y s6 h6=>assignInOrder_nil (wpAny_pure h6)) fun Y Y h=>h))
end
structure Loc (h:Heap) (env:Env) (m:Str→Option Value) (l:List (String×Value)):Prop where
 fn:env.scope.kind=.function
 ns:h.Ns env.locals m
 cur:∀x v,(x,v)∈l→Cur h env m (Str.ofString x) v
theorem Loc.mv {h h':Heap}{env:Env}{m:Str→Option Value}{l:List (String×Value)}(L:Loc h env m l) (B:Addr→Prop) (k:∀a o,¬B a→h.get? a=some o→h'.get? a=some o) (hl:¬B env.locals) (hc:∀a u,B a→¬h.IsCell a u):Loc h' env m l where
 fn:=L.fn
 ns:=by
  obtain ⟨o,es,ep,e,r⟩:=L.ns;exact ⟨o,es,ep,k _ _ hl e,r⟩
 cur:=fun x v hx=>(L.cur x v hx).mv fun a u hu o e=>k _ _ (fun hb=>hc a u hb hu) e
theorem Loc.keeps {l:List (String×Value)}(L:Loc h env m l) (k:∀a o,h.get? a=some o→h'.get? a=some o):Loc h' env m l:=
 L.mv (fun Y=>False) (fun a o Y e=>k a o e) id fun Y Y q=>q.elim
theorem HI.not_cell {x:Addr}{dt:Data}(I:HI h x C dt dd m) (hd:∀v,dt≠.cell v):∀a u,(a=x∨some a=dd)→¬h.IsCell a u:=fun a u ha hc=>by
 obtain ⟨o,e,d⟩:=hc;rcases ha with rfl|ha
 ·obtain ⟨sl,e'⟩:=I.obj;rw [e]at e';cases e';exact hd _ d
 ·subst ha;obtain ⟨_,o',es,ep,e',d',_⟩:=I.ns;rw [e]at e';cases e';rw [d]at d';cases d'
section
variable {K:Frag}{l:List (String×Value)}
theorem Entered.loc {full:List Value}(en:Entered P w hB Γ z g s' env nm ρ0 full s₁ m) (hl:l=nm.zip full):Loc s₁.heap env m l where
 fn:=en.fro.fn
 ns:=en.fro.ns
 cur:=fun x v hx=>by
  subst hl;obtain ⟨i,hi⟩:=List.mem_iff_getElem?.mp hx;rw [List.getElem?_zip_eq_some]at hi;exact en.cur i x v hi.1 hi.2
theorem Qa4 {p:Pos}(L:Loc s.heap env m l) (hx:(x,v)∈l) (hd:(Str.ofString x==("__debug__":Str))=false) (h:Q v s):wpAny (model P w) A (eval (.Name (Str.ofString x) p) env) Q E s:=
 Qk5 L.fn L.ns (L.cur _ _ hx) hd h
theorem Qxo {v:String}(h:Qd9 f v st=true):X4 fun q1 q2 q3 q4=>A3 (st=.Assign [.Attribute (.Name (Str.ofString "self") q1) (Str.ofString f) q2] (.Name (Str.ofString v) q3) q4) ((Str.ofString "self"==("__debug__":Str))=false) ((Str.ofString v==("__debug__":Str))=false):=by
 refine Qoq h fun ts e q4 g=>?_;refine m1K (ba1 g) fun t g1=>?_;obtain ⟨q1,q2,rfl,d1⟩:=Qbc g1;refine Qna (ba2 g) fun q3 d2=>?_;exact ⟨q1,q2,q3,q4,rfl,d1,d2⟩
set_option tactic.hygienic true in
theorem Qaw {v:String}(hi:Qd9 f v st=true) {x:Addr}{dt:Data}{mm:Str→Option Value}{val:Value}{ns:List Str}(X:K.In s.heap) (hc:ClsB K C cd) (I:HI s.heap x C dt dd mm) (hn:∀c,dt≠.cls c) (hn2:∀v,dt≠.cell v) (hfr:∀sl,({ cls:=.ref C,dict:=dd,data:=dt,slots:=sl }:Obj).isFreed=false)
  (hf:findIn K (.ref C) (Str.ofString f)=some none) (hw:Within mm ns) (hl:ns.length≤1000) (L:Loc s.heap env m l) (hs:("self",Value.ref x)∈l) (hv:(v,val)∈l) (hlx:env.locals≠x∧some env.locals≠dd) {Q:Flow→Shared→Prop}
  (hQ:∀h' tk dd',HI h' x C dt dd' (Qjs mm (Str.ofString f) val)→(∀b o,b≠x→some b≠dd→s.heap.get? b=some o→h'.get? b=some o)→(dd'=dd∨∃d,dd'=some d∧s.heap.get? d=none)→(dd.isSome=true→dd'=dd∧∀o,s.heap.get? x=some o→h'.get? x=some o)→Loc h' env m l→Q .next { s with heap:=h',toks:=tk }) :
  wpAny (model P w) A (exec st env) Q E s:=by
 obtain ⟨q1,q2,q3,q4,rfl,hd,hd2⟩:=Qxo hi;refine plainObj_wpAny_Assign_Attribute (Qa4 L hv hd2 (Qa4 L hs hd ?_)) Qm6;refine Ql7 X hc I hn hfr hf hw hl fun h' tk dd' I' k hdd hdd2=>hQ h' tk dd' I' k hdd hdd2 ?_;exact L.mv (fun a=>a=x∨some a=dd) (fun a o nb e=>k a o (fun q=>nb (.inl q)) (fun q=>nb (.inr q)) e) (fun q=>q.elim hlx.1 hlx.2) (I.not_cell hn2)
noncomputable def Qu3 (v1 v2 v3:Value):Str→Option Value:=Qjs (Qjs (Qjs (fun Y=>none) (Str.ofString "kind") v1) (Str.ofString "fields") v2) (Str.ofString "sizes") v3
theorem Qp3 (X:K.In hB) (W:Wd hB Γ mg mb) (hi:Qmu K C 4 Qln Qd6=true) (f1:findIn K (.ref C) (Str.ofString "kind")=some none) (f2:findIn K (.ref C) (Str.ofString "fields")=some none) (f3:findIn K (.ref C) (Str.ofString "sizes")=some none) (hA:AOk 2 A) (b:Base P w hB Γ z g s)
   (hQ:∀x d h' tk,(∀b o,s.heap.get? b=some o→h'.get? b=some o)→s.heap.get? x=none→s.heap.get? d=none→HI h' x C .plain (some d) (Qu3 v1 v2 v3)→Q (.ref x) { s with heap:=h',toks:=tk }) :
  wpAny (model P w) A (call (.ref C) [v1,v2,v3]) Q E s:=by
 refine gk fun Ω κ=>?_;obtain ⟨_,⟨cd,hc⟩,_⟩:=Qgp hi;refine κ ?_;refine Qkt X W hi hA b rfl fun fd ss x s' s₁ m env sc hbody hp hs' hxx I en=>?_;refine m3K hp fun st1 st2 st3 i0=>?_;have k1:=en.keep;have hlx:env.locals≠x∧some env.locals≠some s.heap.objs.size:=by
  have kl:=en.fro.kl;refine ⟨fun q=>?_,fun q=>?_⟩
  ·obtain ⟨sl,e⟩:=I.obj;exact kl ⟨_,by rw [q];exact e⟩
  ·obtain ⟨_,o,_,_,e,_⟩:=I.ns;exact kl ⟨_,by rw [Option.some.inj q];exact e⟩
 have nx:s.heap.get? x=none:=Qn (by rw [hxx];exact Nat.le_succ _);have nd:s.heap.get? s.heap.objs.size=none:=Qe _;have ke:∀{h':Heap} {h:Heap},(∀b o,s.heap.get? b=some o→h.get? b=some o)→(∀b o,b≠x→some b≠some s.heap.objs.size→h.get? b=some o→h'.get? b=some o)→∀b o,s.heap.get? b=some o→h'.get? b=some o:=fun k k' b o e=>
  k' b o (fun q=>by rw [q,nx]at e;exact nomatch e) (fun q=>by rw [Option.some.inj q,nd]at e;exact nomatch e) (k b o e)
 have XK:∀{h':Heap},(∀b o,s.heap.get? b=some o→h'.get? b=some o)→K.In h':=fun k a o e=>k _ _ (Qg b _ _ (X a o e));have ka:∀b o,s.heap.get? b=some o→s₁.heap.get? b=some o:=fun b o e=>k1 _ _ ((fun b o e=>by rw [hs'];exact Heap.get?_push_of_some _ (Heap.get?_push_of_some _ e):∀b o,s.heap.get? b=some o→s'.heap.get? b=some o) _ _ e);obtain ⟨h1,t1,e1⟩:=en.step.eq;subst e1;subst hs';refine wpAny_execs_cons (Qaw (ns:=[]) (ba1 (ba1 i0)) (fun a o e=>Qg en.base _ _ (X a o e)) hc.toClsB (I.keeps fun b o Y e=>k1 _ _ e) (by intro c q;cases q) (by intro c q;cases q) (fun sl=>rfl) f1 Within.nil (by simp) (en.loc rfl) (v:="kind") (val:=v1) (.head _) (.tail _ (.head _)) hlx fun h2 t2 dd2 I2 k2 Y hd2 L2=>?_);obtain ⟨rfl,_⟩:=hd2 rfl;have kb:=ke ka k2;refine wpAny_execs_cons (Qaw (ns:=[Str.ofString "kind"]) (ba2 (ba1 i0)) (XK kb) hc.toClsB I2 (by intro c q;cases q) (by intro c q;cases q) (fun sl=>rfl) f2 (Within.cons _ _ Within.nil) (by decide) L2 (v:="fields") (val:=v2) (.head _) (.tail _ (.tail _ (.head _))) hlx fun h3 t3 dd3 I3 k3 Y hd3 L3=>?_);obtain ⟨rfl,_⟩:=hd3 rfl;have kc:=ke kb k3;refine wpAny_execs_cons (Qaw (ns:=[Str.ofString "fields",Str.ofString "kind"]) (ba2 i0) (XK kc) hc.toClsB I3 (by intro c q;cases q) (by intro c q;cases q) (fun sl=>rfl) f3 (Within.cons _ _ (Within.cons _ _ Within.nil)) (by decide) L3 (v:="sizes") (val:=v3) (.head _) (.tail _ (.tail _ (.tail _ (.head _)))) hlx fun h4 t4 dd4 I4 k4 Y hd4 L4=>?_);obtain ⟨rfl,_⟩:=hd4 rfl;exact wpAny_execs_nil ⟨rfl,hQ x _ h4 t4 (ke kc k4) nx nd I4⟩
end
noncomputable def Yic (sc:Scope) (ss:List Stmt):Prop:=X15 fun r1 r2 ap q1 p q2 c q3 r3 r4 q4 q5 k q6 q7=>A3 (ss=[.Expr (.Call (.Attribute (.Attribute (.Name (Str.ofString "self") r1) (Str.ofString "things") r2) (Str.ofString "append") ap) [.Name (Str.ofString "thing") q1] [] p) q2,
   .Return (some (.BinOp (.Call (.Name c q3) [.Attribute (.Name (Str.ofString "self") r3) (Str.ofString "things") r4] [] q4) .Sub (.Constant (.int 1) k q5) q6)) q7]) ((ap.endLine==p.line)=true) (Q6 sc "len" c=true)
theorem Qwd {sc:Scope}{ss:List Stmt}(h:Quc sc ss=true):Yic sc ss:=by
 refine m2K h fun a b g=>?_;refine Qy6 (ba1 g) fun v q2 g1=>?_;refine mMK g1 fun f ap as p g2 g3=>?_;obtain ⟨r1,r2,rfl,_⟩:=Qbc (ba1 g3);refine m1K (ba2 g3) fun t g4=>?_;refine Qna g4 fun q1 Y=>?_;refine Ydh (ba2 g) fun v q7 g5=>?_;refine mSK g5 fun e g6=>?_;refine Ycr g6 fun l o r q6 g7=>?_;refine dK (ba1 (ba1 g7)) ?_;refine Qng (ba2 (ba1 g7)) fun n k q5 g8=>?_;obtain rfl:=of_decide_eq_true g8;refine mFK (ba2 g7) fun c q3 as q4 g9=>?_;refine m1K (ba2 g9) fun f g10=>?_;obtain ⟨r3,r4,rfl,_⟩:=Qbc g10;exact ⟨r1,r2,ap,q1,p,q2,c,q3,r3,r4,q4,q5,k,q6,q7,rfl,g2,ba1 g9⟩
section
variable {K:Frag}{l:List (String×Value)}
theorem Qbr {o:Expr}{ap p:Pos}{args:List Expr}(hab:attributeBase o name env (eval o env)=eval o env) (hl:(ap.endLine==p.line)=true) (hform:methodCallForm (args.length+0) (backTo p (starEach args env)) []=true)
  (h:wpAny (model P w) A (eval o env) (fun ov s₁=>∀pl,wpAny (model P w) A (getMethod ov name pl) (fun r s₂=>wpAny (model P w) A (callWith p r.1 r.2 (backTo p (starEach args env)) []) Q E s₂) E s₁) E s):wpAny (model P w) A (eval (.Call (.Attribute o name ap) args [] p) env) Q E s:=by
 refine (?_:wpAny _ _ (do
  let ov ←attributeBase o name env (eval o env)
  standAt ap.atName
  methodCall o name ap p env ov (args.length+0) (backTo p (starEach args env)) []) _ _ _)
 refine eqR (hab) ?_;refine wpAny_bind (wpAny_mono h (fun ov s₁ h₁=>wpAny_bind (wpAny_standAt ?_)) fun Y Y x=>x);unfold methodCall;refine eqR (hform) ?_;have hp:methodCallPos true o env ap p=pure p:=by
  unfold methodCallPos;refine eqR (show (!true||ap.endLine==p.line)=true by rw [hl];rfl) ?_;rfl
 refine eqR (hp) ?_;exact wpAny_bind (wpAny_holding (wpAny_mono (h₁ _) (fun r s₂ h₂=>wpAny_bind (wpAny_pure h₂)) fun Y Y x=>x))
theorem Ybx (X:K.In hB) (W:Wd hB Γ mg mb) {f:Addr}(hc:ClsK K HC cd) (hf:findIn K (.ref HC) (Str.ofString "things")=some none) (k2:fdK K fd 2 ["self","thing"]=true) (k3:V9 fd Quc=true) (m2:hB.get? f=some o) (m3:o.data=.func fd) (hA:AOk 1 A) (b:Base P w hB Γ z g s)
  {x:Addr} {d:Option Addr}  {n0:Nat} {tv:Value} (I:HI s.heap x HC .plain d mh) (hm:mh (Str.ofString "things")=some (.ref ll)) (hll:s.heap.get? ll=some (Vs [] n0)) (zl:z ll=none) (fl:Γ.free ll)
  (hR:∀t n h' tk,Base P w hB Γ z g { s with heap:=h',toks:=tk }→(∀a o,a≠ll→s.heap.get? a=some o→h'.get? a=some o)→h'.get? ll=some (Vs [tv] n)→R (.ok (.ret (.int 0 t))) { s with heap:=h',toks:=tk }):codeAny (model P w) A (.call (.ref f) ⟨[.ref x,tv],[]⟩) R s:=by
 obtain ⟨ss,hbody,hp⟩:=Ym k3;refine Jh X W k2 hbody (ρ0:=[none,none]) m2 m3 hA b (.inl ⟨rfl,rfl⟩) rfl (hsN (hsN hs0)) fun s₁ m env E sc fr lc en=>?_;obtain ⟨r1,r2,ap,q1,p,q2,c,q3,r3,r4,q4,q5,k,q6,q7,rfl,hl,hg⟩:=Qwd hp;have hA':=hA.deeper (env:=env);have hd:(Str.ofString "self"==("__debug__":Str))=false:=by decide
 have L0:=en.loc rfl;have F0:=en.fro;have k1:=en.keep;have b1:=en.base;obtain ⟨h1,t1,e1⟩:=en.step.eq;subst e1;have XK:∀{z' s'},Base P w hB Γ z' g s'→K.In s'.heap:=fun b' a o e=>Qg b' _ _ (X a o e);have I1:=I.keeps fun b o Y e=>k1 _ _ e;refine wpAny_execs_cons (wpAny_Expr (Qbr rfl hl rfl (Qgn (n:="things") L0.fn L0.ns (L0.cur _ _ (.head _)) hd (XK b1) hc I1 (by intro c q;cases q) hf hm rfl fun pl=>?_)) (by unfold interactive;rw [L0.fn];rfl) rfl);have hll1:=k1 _ _ hll;refine getMethod_list_append hll1 rfl rfl ?_;refine Calls.callWith_builtin rfl (Qu rfl (wpAny_items_cons (Qa4 (x:="thing") (v:=tv) (L0.keeps fun Y Y e=>e) (.tail _ (.head _)) (by decide:(Str.ofString "thing"==("__debug__":Str))=false) (wpAny_items_nil ?_)) rfl));refine wpAny_list_append_plain (items:=([]:List Value).toArray) ⟨n0,hll1⟩ (fun h2 hp2 hs2=>?_) (by decide);obtain ⟨n2,e2⟩:=hp2;have hlst2:h2.get? ll=some (Vs [tv] n2):=by simpa using e2
 have b2:Base P w hB Γ z g { s with heap:=h2,toks:=t1+1 }:=b1.but hs2 zl fl;have L2:Loc h2 env m _:=L0.mv (h':=h2) (fun a=>a=ll) (fun a o h e=>(hs2.2 a h).trans e) (fun q=>F0.kl ⟨_,by rw [q];exact hll⟩:env.locals≠ll) (fun a u q hc=>by
  subst q;obtain ⟨o,e,d⟩:=hc;rw [hll1]at e;cases e;cases d)
 have I2:HI h2 x HC .plain d mh:=I1.keeps fun b o hb e=>by
  refine (hs2.2 b fun q=>?_).trans e;subst q;rw [hll1]at e;obtain rfl:=Option.some.inj e;rcases hb with rfl|hb
  ·obtain ⟨sl,e⟩:=I1.obj;rw [hll1]at e;exact nomatch e
  ·subst hb;obtain ⟨_,o',_,_,e',d',_⟩:=I1.ns;rw [hll1]at e';cases e';cases d'
 refine wpAny_execs_cons (wpAny_Return_some (wpAny_BinOp ?_));refine wpAny_Call_ofName (Yf W b2 F0.fn F0.gl F0.bi sc hg (.inr (W.bu _ _ rfl)) ?_);refine Yl (.inl ⟨_,rfl⟩) rfl (wpAny_items_cons (Qgn (n:="things") L2.fn L2.ns (L2.cur _ _ (.head _)) hd (XK b2) hc I2 (by intro c q;cases q) hf hm rfl (wpAny_items_nil ?_)) rfl);refine Calls.call_len_list (items:=[tv].toArray) (IsL.isList hlst2) (by simp) ?_;refine wpAny_Constant_int ?_;refine sub_int (hR _ n2 h2 _ (b1.but hs2 zl fl) (fun a o ha e=>?_) hlst2);exact (hs2.2 a ha).trans (k1 _ _ e)
end
noncomputable def Qwv (sc:Scope) (ss:List Stmt):Prop:=X16 fun q1 ap c q2 q3 f1 q4 q5 q6 f2 q7 q8 q9 q10 p q11=>A5 (ss=[.Return (some (.Call (.Attribute (.Name (Str.ofString "self") q1) (Str.ofString "put") ap)
   [.Call (.Name c q2) [.Name (Str.ofString "kind") q3,.Call (.Name f1 q4) [.Name (Str.ofString "items") q5] [] q6,.Call (.Name f2 q7) [.Name (Str.ofString "sizes") q8] [] q9] [] q10] [] p)) q11]) ((ap.endLine==p.line)=true) (Q6 sc "Thing" c=true) (Q6 sc "list" f1=true) (Q6 sc "tuple" f2=true)
theorem Qm4 {sc:Scope}{ss:List Stmt}(h:Qga sc ss=true):Qwv sc ss:=by
 refine mRK h fun e q11 g=>?_;refine mMK g fun x ap as p g1 g2=>?_;refine Qna (ba1 g2) fun q1 Y=>?_;refine m1K (ba2 g2) fun a g3=>?_;refine mFK g3 fun c q2 as q10 g4=>?_;refine m3K (ba2 g4) fun k l t g5=>?_;refine Qna (ba1 (ba1 g5)) fun q3 Y=>?_;refine mFK (ba2 (ba1 g5)) fun f1 q4 as q6 g6=>?_;refine m1K (ba2 g6) fun i g7=>?_;refine Qna g7 fun q5 Y=>?_;refine mFK (ba2 g5) fun f2 q7 as q9 g8=>?_;refine m1K (ba2 g8) fun i g9=>?_;refine Qna g9 fun q8 Y=>?_;exact ⟨q1,ap,c,q2,q3,f1,q4,q5,q6,f2,q7,q8,q9,q10,p,q11,rfl,g1,ba1 g4,ba1 g6,ba1 g8⟩
section
variable {K:Frag}
structure Put2 (P:Program) (w:World) (hB:Heap) (Γ:Gm) (TC:Addr) (z:Z) (g:Gs) (s:Shared) (ll:Addr) (its szd:List D) (z':Z) (s':Shared) (tA td fA:Addr):Prop where
 base:Base P w hB Γ z' g s'
 eq:X2 fun h t=>s'={ s with heap:=h,toks:=t }
 keep:∀a o,a≠ll→Γ.free a→s.heap.get? a=some o→s'.heap.get? a=some o
 le:ZLe z z'
 fresh:∀a o,Γ.free a→s.heap.get? a=some o→z' a=z a
 new:s.heap.get? tA=none∧s.heap.get? td=none∧s.heap.get? fA=none
 zn:z' tA=none∧z' td=none∧z' fA=none
 thing:X2 fun kv vsz=>HI s'.heap tA TC .plain (some td) (Qu3 kv (.ref fA) vsz)∧Rd P w Γ z' vsz (.tup szd)
 flds:X2 fun vs n=>s'.heap.get? fA=some (Vs vs n)∧Rds P w Γ z' vs its
 lst:∃n,s'.heap.get? ll=some (Vs [.ref tA] n)
 ne:fA≠tA∧fA≠td
theorem Qqv (X:K.In hB) (W:Wd hB Γ mg mb) {f fp:Addr}{fdp:FuncData}{op:Obj}(hc:ClsK K HC cd) (hf:findIn K (.ref HC) (Str.ofString "things")=some none) (hT:Qob K TC=true) (k2:fdK K fd 4 ["self","kind","sizes","items"]=true) (k3:V9 fd Qga=true) (m2:hB.get? f=some o) (m3:o.data=.func fd)
  (hp0:Qrn K HC (Str.ofString "put")=some fp) (p2:fdK K fdp 2 ["self","thing"]=true) (p3:V9 fdp Quc=true) (m4:hB.get? fp=some op) (m5:op.data=.func fdp) (hA:AOk 3 A) (b:Base P w hB Γ z g s)
  {x:Addr} {d:Option Addr}  {n0:Nat} {kv szv itv:Value} {its:List D} (I:HI s.heap x HC .plain d mh) (hm:mh (Str.ofString "things")=some (.ref ll)) (hm2:mh (Str.ofString "put")=none) (hll:s.heap.get? ll=some (Vs [] n0)) (zl:z ll=none) (fl:Γ.free ll)
  (rs:Rd P w Γ z szv (.tup szd)) (ri:Rd P w Γ z itv (.lst its)) (hlen:its.length≤1048576)
  (hR:∀t z' s' tA td fA,Put2 P w hB Γ TC z g s ll its szd z' s' tA td fA→R (.ok (.ret (.int 0 t))) s'):codeAny (model P w) A (.call (.ref f) ⟨[.ref x,kv,szv,itv],[]⟩) R s:=by
 unfold Qob Jw at hT;simp only [Bool.and_eq_true,beq_iff_eq]at hT;obtain ⟨⟨⟨⟨⟨t1,t2⟩,t3⟩,t4⟩,t5⟩,t6⟩:=hT;obtain ⟨ss,hbody,hp⟩:=Ym k3;refine Jh X W k2 hbody (ρ0:=[none,none,none,none]) m2 m3 hA b (.inl ⟨rfl,rfl⟩) rfl (hsN (hsN (hsN (hsN hs0)))) fun s₁ m env E sc fr lc en=>?_;obtain ⟨q1,ap,c,q2,q3,f1,q4,q5,q6,f2,q7,q8,q9,q10,p,q11,rfl,hl,g1,g2,g3⟩:=Qm4 hp;have hA':=hA.deeper (env:=env);have L0:=en.loc rfl;have F0:=en.fro;have k1:=en.keep;have b1:=en.base;have XK:∀{z' s'},Base P w hB Γ z' g s'→K.In s'.heap:=fun b' a o e=>Qg b' _ _ (X a o e);refine wpAny_execs_cons (wpAny_Return_some (Qbr rfl hl rfl (Qa4 L0 (.head _) (by decide:(Str.ofString "self"==("__debug__":Str))=false) fun pl=>Qds (XK b1) hc (I.keeps fun b o Y e=>k1 _ _ e) (by intro c q;cases q) hp0 hm2 ?_)));refine Calls.callWith_function (o:=op) (fd:=fdp) (Qu rfl (wpAny_items_cons ?_ rfl));refine wpAny_Call_ofName (Yf W b1 F0.fn F0.gl F0.bi sc g1 (.inl (Qcd X W.g t1)) ?_);refine callWith_K (XK b1) t6 (wpAny_items_cons (Qa4 L0 (.tail _ (.head _)) (by decide:(Str.ofString "kind"==("__debug__":Str))=false) (wpAny_items_cons ?_ rfl)) rfl);refine wpAny_Call_ofName (Yf W b1 F0.fn F0.gl F0.bi sc g2 (.inr (W.bu _ _ rfl)) ?_);refine Yl (.inr ⟨_,rfl⟩) rfl (wpAny_items_cons (Qa4 L0 (.tail _ (.tail _ (.tail _ (.head _)))) (by decide:(Str.ofString "items"==("__debug__":Str))=false) (wpAny_items_nil ?_)) rfl)
 replace ri:=Qc5 ri
 obtain ⟨_,_,_,rfl,ei,ri⟩:=ri;have hli:=ri.length;refine call_list_seq _ (.inl rfl) (b1.zin _ _ ei) rfl rfl (fun h2 c2 k2' e2=>?_) (by rw [List.size_toArray,sizeLine_eq];exact (Z20 0x10000007611012610000066016) hlen hli);obtain ⟨h1,tk1,e1⟩:=en.step.eq;subst e1;have hfA1:h1.get? h1.objs.size=none:=Qe _;have ffA:Γ.free h1.objs.size:=Vc b1 hfA1;have b2:Base P w hB Γ z g { s with heap:=h2,toks:=tk1 }:=b1.grown k2';refine wpAny_items_cons ?_ rfl;refine wpAny_Call_ofName (Yf W b2 F0.fn F0.gl F0.bi sc g3 (.inr (W.bu _ _ rfl)) ?_);refine Yl (.inr ⟨_,rfl⟩) rfl (wpAny_items_cons (Qa4 (L0.keeps k2') (.tail _ (.tail _ (.head _))) (by decide:(Str.ofString "sizes"==("__debug__":Str))=false) (wpAny_items_nil ?_)) rfl);refine Qf7 hA' b2 rs (.inl rfl) fun vsz z3 s3 b3 st3 r3=>wpAny_items_nil ⟨XK b3,?_⟩;have hfA3:=st3.keep _ _ ffA e2;have zfA:z3 h1.objs.size=none:=(st3.fresh _ _ ffA e2).trans (Ql b1.zin hfA1);refine Qp3 X W t2 t3 t4 t5 hA' b3 fun tA td h4 tk4 k4 nA nd IT=>wpAny_items_nil ⟨⟨k4 _ _ (Qg b3 _ _ m4),m5⟩,?_⟩;have b4:Base P w hB Γ z3 g { s3 with heap:=h4,toks:=tk4 }:=b3.grown k4;have to3:∀a o,Γ.free a→s.heap.get? a=some o→s3.heap.get? a=some o:=fun a o fa e=>st3.keep _ _ fa (k2' _ _ (k1 _ _ e));have no3:∀{a},s3.heap.get? a=none→s.heap.get? a=none:=fun {a} ha=>by
  cases q:s.heap.get? a with
  |none=>rfl
  |some o=>have:=to3 _ _ (Vc b3 ha) q;rw [ha]at this;cases this
 have nA0:=no3 nA;have nd0:=no3 nd;have I4:HI h4 x HC .plain d mh:=I.keeps fun b' o hb e=>by
  refine k4 _ _ (to3 _ _ (Y6 b e fun vs n q=>?_) e);subst q;rcases hb with rfl|hb
  ·obtain ⟨sl,e'⟩:=I.obj;rw [e]at e';cases e'
  ·subst hb;obtain ⟨_,o',_,_,e',d',_⟩:=I.ns;rw [e]at e';cases e';cases d'
 refine wpAny_call (Ybx X W hc hf p2 p3 m4 m5 (hA'.le (by decide)) b4 I4 hm (k4 _ _ (to3 _ _ fl hll)) ((st3.fresh _ _ fl (k2' _ _ (k1 _ _ hll))).trans zl:z3 ll=none) fl fun t n h5 tk5 b5 k5 e5=>?_);have lne:∀{a},s.heap.get? a=none→a≠ll:=fun ha q=>by rw [q,hll]at ha;exact nomatch ha
 have nfA:s.heap.get? h1.objs.size=none:=by
  cases q:s.heap.get? h1.objs.size with
  |none=>rfl
  |some o=>have:=k1 _ _ q;rw [hfA1]at this;cases this
 obtain ⟨h3,tk3,e3⟩:=st3.eq;refine hR t z3 _ tA td h1.objs.size ⟨b5,⟨h5,tk5,by rw [e3]⟩,fun a o ha fa e=>k5 _ _ ha (k4 _ _ (to3 _ _ fa e)),st3.le,fun a o fa e=>st3.fresh _ _ fa (k2' _ _ (k1 _ _ e)),⟨nA0,nd0,nfA⟩,⟨Ql b3.zin nA,Ql b3.zin nd,zfA⟩,
  ⟨kv,vsz,IT.keeps fun a o ha e=>k5 _ _ ?_ e,r3⟩,⟨_,_,k5 _ _ (lne nfA) (k4 _ _ hfA3),ri.le st3.le⟩,⟨n,e5⟩,⟨fun q=>?_,fun q=>?_⟩⟩
 ·rcases ha with rfl|ha
  ·exact lne nA0
  ·cases ha;exact lne nd0
 ·rw [←q,hfA3]at nA;cases nA
 ·rw [←q,hfA3]at nd;cases nd
end
noncomputable def Yen (sc:Scope) (ss:List Stmt):Prop:=X10 fun s1 k q1 x ap es p k2 q2 q3=>A5 (ss=s1++[.Return (some (.Tuple [.Constant (.str (Str.ofString "array")) k q1,.Call (.Attribute x (Str.ofString "new_array") ap) es [] p] k2 q2)) q3]) (Qbj sc Qbe Ql0 s1=true) (isE sc Qbe (.var 0) x=true) ((ap.endLine==p.line)=true) (J0 sc Qbe Qld es=true)
theorem Qts {sc:Scope}{ss:List Stmt}(h:Qvg sc ss=true):Yen sc ss:=by
 have g:=ba2 h;generalize eq:ss.drop 2=l at g
 revert eq
 refine mRK g fun e q3 g=>?_;refine Qyj g fun es k2 q2 g1=>?_;refine m2K g1 fun y c g2=>?_;refine Qng (ba1 g2) fun v k q1 g3=>?_;refine dK g3 ?_;refine mMK (ba2 g2) fun x ap as p g4 g5=>?_;intro eq;exact ⟨ss.take 2,k,q1,x,ap,as,p,k2,q2,q3,by rw [←eq,List.take_append_drop],ba1 h,ba1 g5,g4,ba2 g5⟩
section
noncomputable def Ybp (r:Int):D:=.tup [.str (Str.ofString "name"),.str (Str.ofString "Array"),.tup [Jr,.tup [.str (Str.ofString "n"),.int r]]]
theorem Qw7 (hn:2≤n) (r:Int):(orc gl sz n).fn "array_kind" [Jr,.int r] g=some (Ybp r,g):=by
 refine Q7 n rfl (by decide) rfl (by decide) ((Z10 353379606) hn) (ρ:=[vv Jr,vv (.int r)]) ?_;refine Qj (Qp (Qy (d2:=.tup [Jr,.tup [.str (Str.ofString "n"),.int r]]) (Vu ..) (Vi (Qa rfl) (Vi (Vu ..) (Qa rfl))) ?_));refine Q7 (n-1) rfl (by decide) rfl (by decide) ((Z10 0x150815102516) hn) (ρ:=[vv (.str (Str.ofString "Array")),vv (.tup [Jr,.tup [.str (Str.ofString "n"),.int r]])]) ?_;refine Qj (Qp (V5 (Vu ..) (Qa rfl) ?_));refine Qad (a:=.tup [Jr,.tup [.str (Str.ofString "n"),.int r]]) (Qa rfl) ?_
 rfl
theorem Qtm {ss:List Int}{its:List D}(hn:2≤n) (hb:Bd ss) (hl:ss.length≤1048576) (hg:gl "MOST_ITEMS"=some (.int 20000)) (hp:Ya 1 ss≤20000) (hi:(its.length:Int)=Ya 1 ss) :
  Yj (orc gl sz n) Ql0 [vv (.hnd .raw),vv Jr,vv (tI ss),vv (.lst its)] g=some (.nxt,[vv (.hnd .raw),vv Jr,vv (tI ss),vv (.lst its)],g) ∧
  Yd (orc gl sz n) Qld [vv (.hnd .raw),vv Jr,vv (tI ss),vv (.lst its)] g=some ([Ybp ss.length,tI ss,.lst its],g):=by
 constructor
 ·refine Qc (ρ':=[vv (.hnd .raw),vv Jr,vv (tI ss),vv (.lst its)]) (g':=g) ?_ ?_
  ·have:=Qao (O:=orc gl sz n) (ρ:=[vv (.hnd .raw),vv Jr,vv (tI ss),vv (.lst its)]) (g:=g) (g1:=g) (e1:=.var 2) (Qa rfl) (Qtj (gl:=gl) (sz:=sz) hn hb hl hg hp);exact Qd this rfl
  ·refine Qc (Qt (g':=g) (Qq (t:=false) (a:=.int (Ya 1 ss)) (b:=.int (Ya 1 ss)) (g1:=g) (Qao (Qa rfl) (Qof ((Z10 353379606) hn) hb hl)) ?_ ?_) (Qh ..)) (Qh ..)
   ·have:=Vv (O:=orc gl sz n) (ρ:=[vv (.hnd .raw),vv Jr,vv (tI ss),vv (.lst its)]) (g:=g) (g':=g) (xs:=its) (e:=.var 3) (.inl (Qa rfl)) ((Z11 0x100000660100a564e2046046) hp hi);refine eqR (this) ?_;refine eqR (hi) ?_;rfl
   ·simp [Vw,Qg1]
 ·have h1:=Qy (O:=orc gl sz n) (ρ:=[vv (.hnd .raw),vv Jr,vv (tI ss),vv (.lst its)]) (g:=g) (g1:=g) (g2:=g) (e1:=.var 1) (e2:=.bi .len (.cons (.var 2) .nil)) (Qa rfl) (Vv (xs:=ss.map .int) (.inr (Qa rfl)) (by simpa using hl)) (Qw7 (gl:=gl) (sz:=sz) hn _);rw [List.length_map]at h1;exact Qd h1 (Qd (Qd (Qa rfl:Qb (orc gl sz n) (.var 2) [vv (.hnd .raw),vv Jr,vv (tI ss),vv (.lst its)] g=some (tI ss,g)) (Qd (Qd (Qa rfl:Qb (orc gl sz n) (.var 3) [vv (.hnd .raw),vv Jr,vv (tI ss),vv (.lst its)] g=some (.lst its,g)) rfl) rfl)) rfl)
end
section
variable {K:Frag}
theorem Qxr (h:args.any (·.1)=false) (hn:n<30):methodCallForm n args []=true:=by
 unfold methodCallForm;have:args.all (!·.1)=true:=by
  rw [List.all_eq_true];intro x hx;rw [List.any_eq_false]at h;simpa using h x hx
 refine eqR (this) ?_;simp [hn]
theorem Put2.step {its:List D}{z3:Z}{s3:Shared}(b3:Base P w hB Γ z3 g s3) (st:Step Γ z s z3 s3) (p:Put2 P w hB Γ TC z3 g s3 ll its szd z' s' tA td fA):Put2 P w hB Γ TC z g s ll its szd z' s' tA td fA:=by
 refine gk fun Ω κ=>?_;have no3:∀{a},s3.heap.get? a=none→s.heap.get? a=none:=fun {a} ha=>by
  cases q:s.heap.get? a with
  |none=>rfl
  |some o=>have:=st.keep _ _ (Vc b3 ha) q;rw [ha]at this;exact nomatch this
 obtain ⟨h1,t1,e1⟩:=p.eq;obtain ⟨h2,t2,e2⟩:=st.eq;refine κ ?_;exact ⟨p.base,⟨h1,t1,by rw [e1,e2]⟩,fun a o ha fa e=>p.keep _ _ ha fa (st.keep _ _ fa e),st.le.trans p.le,fun a o fa e=>(p.fresh _ _ fa (st.keep _ _ fa e)).trans (st.fresh _ _ fa e),⟨no3 p.new.1,no3 p.new.2.1,no3 p.new.2.2⟩,p.zn,p.thing,p.flds,p.lst,p.ne⟩
theorem Put2.tup {its:List D}(p:Put2 P w hB Γ TC z g s ll its szd z' s' tA td fA) (vs:List Value) :
  Put2 P w hB Γ TC z g s ll its szd (z'.add s'.heap.objs.size (Qae vs 0)) { s' with heap:=s'.heap.push (Qae vs 0) } tA td fA:=by
 refine gk fun Ω κ=>?_;have k:=Qv s'.heap (Qae vs 0);have hn:=Qe s'.heap;have zn:=Ql p.base.zin hn;have ne:∀{a o},s'.heap.get? a=some o→a≠s'.heap.objs.size:=fun e q=>by rw [q,hn]at e;exact nomatch e
 have za:∀{a},a≠s'.heap.objs.size→z'.add s'.heap.objs.size (Qae vs 0) a=z' a:=fun {a} h=>by unfold Z.add;rw [if_neg h]
 have zle:ZLe z' (z'.add s'.heap.objs.size (Qae vs 0)):=Z.le_add zn;obtain ⟨kv,vsz,I,r⟩:=p.thing;obtain ⟨fv,fn,e2,r2⟩:=p.flds;obtain ⟨ln,e3⟩:=p.lst;obtain ⟨h1,t1,e1⟩:=p.eq;have hx:∃o,s'.heap.get? tA=some o:=by obtain ⟨sl,e⟩:=I.obj;exact ⟨_,e⟩
 have hd:∃o,s'.heap.get? td=some o:=by obtain ⟨_,o,_,_,e,_⟩:=I.ns;exact ⟨_,e⟩
 obtain ⟨ox,hx⟩:=hx;obtain ⟨od,hd⟩:=hd;refine κ ?_;refine ⟨(p.base.grown (t:=s'.toks) k).freeze (Heap.get?_push_size _ rfl) zn (Vc p.base hn),⟨_,t1,by rw [e1]⟩,fun a o ha fa e=>k _ _ (p.keep _ _ ha fa e),p.le.trans zle,fun a o fa e=>?_,p.new,⟨(za (ne hx)).trans p.zn.1,(za (ne hd)).trans p.zn.2.1,(za (ne e2)).trans p.zn.2.2⟩,
  ⟨kv,vsz,I.keeps fun a o Y e=>k _ _ e,r.le zle⟩,⟨fv,fn,k _ _ e2,r2.le zle⟩,⟨ln,k _ _ e3⟩,p.ne⟩
 refine (za ?_).trans (p.fresh _ _ fa e);by_cases h:a=ll
 ·refine eqR (h) ?_;exact ne e3
 ·exact ne (p.keep _ _ h fa e)
theorem Qv7 (X:K.In hB) (W:Wd hB Γ mg mb) (hn:3≤n) (hO:OrcOk P w hB Γ mg (n+1) (orc glK sz n)) (hap:Γ.has=true→Γ.two=true→Γ.pA≠Γ.fA) (hhas:Γ.has=true) (hK:Qp7 K HC TC=true) {f:Addr}(hf:fnK K "made"=some (f,fd)) (hA:AOk (n+2) A) (b:Base P w hB Γ z g s)
   {d:Option Addr}  {n0:Nat}  {ss:List Int} {its:List D} (I:HI s.heap Γ.hA HC .plain d mh) (hm:mh (Str.ofString "things")=some (.ref ll)) (hm2:mh (Str.ofString "put")=none) (hm3:mh (Str.ofString "new_array")=none) (hll:s.heap.get? ll=some (Vs [] n0)) (zl:z ll=none) (fl:Γ.free ll)
  (r1:Rd P w Γ z v1 Jr) (r2:Rd P w Γ z v2 (tI ss)) (r3:Rd P w Γ z v3 (.lst its)) (hb:Bd ss) (hl:ss.length≤1048576) (hp:Ya 1 ss≤20000) (hi:(its.length:Int)=Ya 1 ss)
  (hR:∀a z' s' tA td fA,Put2 P w hB Γ TC z g s ll its (ss.map .int) z' s' tA td fA→Rd P w Γ z' (.ref a) Ji→R (.ok (.ret (.ref a))) s'):codeAny (model P w) A (.call (.ref f) ⟨[.ref Γ.hA,v1,v2,v3],[]⟩) R s:=by
 refine gk fun Ω κ=>?_;unfold Qp7 Jw at hK;simp only [Bool.and_eq_true,beq_iff_eq]at hK;obtain ⟨⟨⟨⟨⟨c1,c2⟩,c3⟩,c4⟩,c5⟩,c6⟩:=hK;obtain ⟨cd,cH⟩:=Qg8 c1;obtain ⟨f',fd',k1,k2,k3⟩:=Qa2 c4;rw [hf]at k1;refine κ ?_;cases k1;refine gk fun Ω κ=>?_;obtain ⟨_,o,m2,m3⟩:=Qaa X W.g hf;obtain ⟨fa,fda,oa,a1,a2,a3,a4,a5⟩:=Qdm c5;obtain ⟨fp,fdp,op,p1,p2,p3,p4,p5⟩:=Qdm c6;obtain ⟨sts,hbody,hpp⟩:=Ym k3;obtain ⟨s1,k,q1,x,ap,es,p,kk,q2,q3,rfl,i1,i2,i3,i4⟩:=Qts hpp;refine κ ?_;refine Jh X W k2 hbody (ρ0:=[some (.hnd .raw),some Jr,some (tI ss),some (.lst its)]) m2 m3 hA b (.inl ⟨rfl,rfl⟩) rfl (hsS (.hnd .raw hhas) (hsS r1 (hsS r2 (hsS r3 hs0)))) fun s₁ m env E sc fr lc en=>?_;have hA':=hA.deeper (env:=env);obtain ⟨run1,run2⟩:=Qtm (gl:=glK) (sz:=sz) (g:=g) (n:=n) (its:=its) ((Z10 621819158) hn) hb hl rfl hp hi;refine Yi (Qbo W hO hap Ql0 _ _ _ _ _ _ _ _ _ _ _ _ _ _ _ _ i1 sc hA' en.base en.kp en.fro run1 ⟨fun z2 s2 m2' Y b2 ss2 F2=>?_,fun Y Y Y Y q=>by cases q⟩);have st2:=(((en.step.ss (K:=Qi s.heap) fun c hc=>hc)).trans ss2).step;refine wpAny_execs_cons (wpAny_Return_some (wpAny_Tuple (wpAny_items_cons (wpAny_Constant_str ?_) rfl)));have b2':Base P w hB Γ z2 g { s2 with toks:=s2.toks+1 }:=b2.grown (fun Y Y e=>e);have st2':Step Γ z s z2 { s2 with toks:=s2.toks+1 }:=st2.trans (Step.grown b2 fun Y Y e=>e);refine wpAny_items_cons ?_ rfl;have hab:attributeBase x (Str.ofString "new_array") env (eval x env)=eval x env:=by
  exact Qja (M:=fun x=>attributeBase x (Str.ofString "new_array") env (eval x env)=eval x env) i2 fun Y Y Y Y=>rfl
 have hst:=Vl (env:=env) (pos:=p) i4;have hlen:es.length+0<30:=by
  refine Jy (N:=fun es=>es.length+0<30) i4 fun Y Y Y i5=>?_;refine Jy (N:=fun es=>es.length+1<30) i5 fun Y Y Y i6=>?_;refine Jy (N:=fun es=>es.length+2<30) i6 fun Y Y Y i7=>?_;exact Qcm (N:=fun es=>es.length+3<30) i7 (by decide)
 refine Qbr hab i3 (Qxr hst hlen) (Qic (O:=orc glK sz n) (n:=n+1) 0 _ _ _ _ _ _ _ _ _ _ _ _ _ _ _ i2 sc hA' b2' F2 rfl fun v z3 s3 b3 st3 q4 pl=>?_);have hv:v=.ref Γ.hA:=by cases q4;rfl
 subst hv;have st03:=st2'.trans st3;have I3:HI s3.heap Γ.hA HC .plain d mh:=I.keeps fun b' o hb' e=>by
  refine st03.keep _ _ (Y6 b e fun vs n q=>?_) e;subst q;rcases hb' with rfl|hb'
  ·obtain ⟨sl,e'⟩:=I.obj;rw [e]at e';cases e'
  ·subst hb';obtain ⟨_,o',_,_,e',d',_⟩:=I.ns;rw [e]at e';cases e';cases d'
 refine Qds (fun a o e=>Qg b3 _ _ (X a o e)) cH I3 (by intro c q;cases q) a1 hm3 ?_;refine Calls.callWith_function (o:=oa) (fd:=fda) (Qu hst ((Qbm W hO Qld).1 _ _ _ _ _ _ _ _ _ _ _ _ _ _ _ _ i4 sc hA' b3 ((F2.step (s:={ s2 with toks:=s2.toks+1 }) b2' b3 st3)) run2 fun vs z4 s4 b4 st4 r4=>⟨⟨Qg b4 _ _ (X _ _ a2),a3⟩,?_⟩));have st04:=st03.trans st4;obtain ⟨_,_,_,rfl,rk,rsz,rit⟩:=Ybv r4;have I4:HI s4.heap Γ.hA HC .plain d mh:=I.keeps fun b' o hb' e=>by
  refine st04.keep _ _ (Y6 b e fun vs n q=>?_) e;subst q;rcases hb' with rfl|hb'
  ·obtain ⟨sl,e'⟩:=I.obj;rw [e]at e';cases e'
  ·subst hb';obtain ⟨_,o',_,_,e',d',_⟩:=I.ns;rw [e]at e';cases e';cases d'
 refine wpAny_call (Qqv X W cH c2 c3 a4 a5 (X _ _ a2) a3 p1 p4 p5 (X _ _ p2) p3 (hA'.le ((Z10 0x150735103516) hn)) b4 I4 hm hm2 (st04.keep _ _ fl hll) ((st04.fresh _ _ fl hll).trans zl) fl rsz rit ((Z11 0x100000660100a564e2046046) hp hi) fun t z5 s5 tA td fA pt=>wpAny_items_nil ⟨by simp [sizeLine_eq],?_⟩);refine hR s5.heap.objs.size _ _ tA td fA ((pt.step b4 st04).tup [.str (Str.ofString "array") s2.toks,.int 0 t]) ?_;exact .tup (Z.add_self ..) (.cons (.str _ _) (.cons (.int _ _) .nil))
end
noncomputable def Qdc (h:Heap) (p:Addr→Bool):Heap:=⟨h.objs.mapIdx fun i o=>if p i then o else { cls:=o.cls,data:=.freed },h.life⟩
theorem Qbq (h:Heap) (p:Addr→Bool) (a:Addr):(Qdc h p).get? a=if p a=true then h.get? a else none:=by
 delta Qdc Heap.get?
 dsimp only;rw [Array.getElem?_mapIdx];cases e:h.objs[a]? with
 |none=>
  by_cases hp:p a=true
  ·rw [if_pos hp];rfl
  ·rw [if_neg hp];rfl
 |some o=>
  rw [Option.map_some];by_cases hp:p a=true
  ·rw [if_pos hp,if_pos hp]
  ·rw [if_neg hp,if_neg hp]
section
variable {K:Addr→Prop}
theorem Fro.setVal (F:Fro P w Γ K z h env nm ρ m) {d':D}(hb:ρ[i]?=some (some (.val d))) (hr:∀v,Rd P w Γ z v d→Rd P w Γ z v d') (ho:∀j,¬Y7 (ρ.set i (some (.val d'))) j):Fro P w Γ K z h env nm (ρ.set i (some (.val d'))) m where
 fn:=F.fn
 gl:=F.gl
 bi:=F.bi
 len:=by rw [List.length_set];exact F.len
 nd:=F.nd
 ns:=F.ns
 zl:=F.zl
 kl:=F.kl
 slot:=fun j x b hj hbj=>by
  by_cases q:j=i
  ·subst q;obtain ⟨S1,v,S2,S3⟩:=F.slot j x _ hj hb;rw [List.getElem?_set_self ((List.getElem?_eq_some_iff.mp hb).1:j<ρ.length)]at hbj;obtain rfl:=Option.some.inj hbj;exact ⟨fun q=>S1 rfl,v,S2,hr _ S3⟩
  ·rw [List.getElem?_set_ne (Ne.symm q)]at hbj;exact F.slot j x b hj hbj
 inj:=fun i j x y a hi hj oi=>absurd oi (ho i)
 cinj:=F.cinj
end
noncomputable def Γ2 (pA hA tA fA:Addr):Gm:=⟨pA,hA,tA,fA,true,true,[]⟩
section
variable {K:Addr→Prop}
structure Phase2 (P:Program) (w:World) (mg mb:Str→Option Value) (KF:Frag) (K:Addr→Prop) (env:Env) (nm:List String) (ρ:Q8) (m:Str→Option Value) (sz:List D) (z z':Z) (g2:Gs) (s':Shared) (pA hA tA fA:Addr) (hB2:Heap) (z2:Z):Prop where
 frag:KF.In hB2
 wd:Wd hB2 (Γ2 pA hA tA fA) mg mb
 att:AttOk P w hB2 (Γ2 pA hA tA fA) sz
 base:Base P w hB2 (Γ2 pA hA tA fA) z2 g2 s'
 fro:Fro P w (Γ2 pA hA tA fA) K z2 s'.heap env nm ρ m
 sw:∀v d,Rd P w (Γ1 pA hA) z' v d→Rd P w (Γ2 pA hA tA fA) z2 v d
 ap:pA≠fA
 kp:Kp K s'.heap
set_option tactic.hygienic true in
theorem Yck (X:KF.In hB) (W:Wd hB (Γ1 pA hA) mg mb) (hK:Yc7 KF HC TC=true) (b:Base P w hB (Γ1 pA hA) z g s) (F:Fro P w (Γ1 pA hA) K z s.heap env nm ρ m) (ho:∀i,¬Y7 ρ i) (kp:Kp K s.heap) (kA:K hA∧K dA∧K lA) (pne:pA≠hA∧pA≠dA∧pA≠lA)
  (zn:z hA=none∧z dA=none∧z lA=none)  (I:HI s.heap hA HC .plain (some dA) mh) (hm:mh (Str.ofString "things")=some (.ref lA)) (hm2:mh (Str.ofString "object")=none) (hll:∃n,s.heap.get? lA=some (Vs [] n)) {its:List D} {ss:List Int}
  (p:Put2 P w hB (Γ1 pA hA) TC z g s lA its (ss.map .int) z' s' tA td fA):X2 fun hB2 z2=>Phase2 P w mg mb KF K env nm ρ m (ss.map .int) z z' ⟨g.p0,g.p1,its⟩ s' pA hA tA fA hB2 z2:=by
 obtain ⟨n0,hll⟩:=hll;obtain ⟨kv,vsz,IT,rsz⟩:=p.thing;obtain ⟨fvs,fn,hfA,rfl'⟩:=p.flds;obtain ⟨ln,hlst⟩:=p.lst;have fr1:∀{c},c≠pA→(Γ1 pA hA).free c:=fun h=>⟨fun Y=>h,fun q=>by cases q⟩
 have keep:=Qg b;have keep':=Qg p.base;obtain ⟨tp0,tp1,np,hpen⟩:=b.pen rfl
 replace hpen:s.heap.get? pA=_:=hpen
 obtain ⟨tz,zvs,znn,rfl,htz,hints⟩:X3 fun tz zvs znn=>A3 (vsz=.ref tz) (z' tz=some (Qae zvs znn)) (IntsAre zvs ss):=by
  cases rsz with
  |tup e r=>exact ⟨_,_,_,rfl,e,r.ints⟩
 have hl0:lA≠hA:=fun q=>by obtain ⟨sl,e⟩:=I.obj;rw [←q,hll]at e;exact nomatch e
 have hl1:lA≠dA:=fun q=>by obtain ⟨_,o,_,_,e,d,_⟩:=I.ns;rw [←q,hll]at e;cases e;cases d
 have I':HI s'.heap hA HC .plain (some dA) mh:=I.keeps fun c o hc e=>by
  rcases hc with rfl|hc
  ·exact p.keep _ _ hl0.symm (fr1 pne.1.symm) e
  ·cases hc;exact p.keep _ _ hl1.symm (fr1 pne.2.1.symm) e
 let five:List Addr:=[hA,dA,lA,tA,td]
 let six:List Addr:=five++[tz]
 let pp:Addr→Bool:=fun a=>(hB.get? a).isSome||six.contains a
 let hB2:Heap:=Qdc s'.heap pp
 let z2:Z:=fun a=>if a∈five then s'.heap.get? a else z' a
 have gB:∀a o,hB.get? a=some o→hB2.get? a=some o:=fun a o e=>by
  refine (?_:(Qdc s'.heap pp).get? a=_);rw [Qbq];refine eqR (if_pos (by show ((hB.get? a).isSome||_)=true;rw [e];rfl)) ?_;exact keep' _ _ e
 have g6:∀a o,a∈six→s'.heap.get? a=some o→hB2.get? a=some o:=fun a o ha e=>by
  rw [Qbq];refine eqR (if_pos (by show ((hB.get? a).isSome||six.contains a)=true;rw [List.contains_iff_mem.mpr ha,Bool.or_true])) ?_;exact e
 have z5n:∀a∈five,z' a=none:=by
  have hz:∀{c o},s.heap.get? c=some o→c≠pA→z c=none→z' c=none:=fun e ne zc=>(p.fresh _ _ (fr1 ne) e).trans zc;obtain ⟨sl,e1⟩:=I.obj;obtain ⟨_,o,_,_,e2,_⟩:=I.ns;exact fa (hz e1 pne.1.symm zn.1) (fa (hz e2 pne.2.1.symm zn.2.1) (fa (hz hll pne.2.2.symm zn.2.2) (fa p.zn.1 (fa p.zn.2.1 f0))))
 have zle:ZLe z' z2:=fun a o e=>by
  refine (?_:(if a∈five then _ else _)=_);by_cases h:a∈five
  ·rw [z5n a h]at e;exact nomatch e
  ·refine eqR (if_neg h) ?_;exact e
 have zz:∀{a},a∉five→z2 a=z' a:=fun {a} h=>by show (if a∈five then _ else _)=_;rw [if_neg h]
 have htA:s.heap.get? pA≠none:=by rw [hpen];simp
 have fn5:fA∉five:=by
  have q:∀{c o},s.heap.get? c=some o→fA≠c:=fun e h=>by have n:=p.new.2.2;rw [h,e]at n;exact nomatch n
  obtain ⟨sl,e1⟩:=I.obj;obtain ⟨_,o,_,_,e2,_⟩:=I.ns;exact ni (q e1) (ni (q e2) (ni (q hll) (ni p.ne.1 (ni p.ne.2 List.not_mem_nil))))
 have gle:GLe (Γ1 pA hA) (Γ2 pA hA tA fA):=⟨fun Y=>⟨rfl,rfl,rfl⟩,rfl⟩
 have b2:Base P w hB2 (Γ2 pA hA tA fA) z2 ⟨g.p0,g.p1,its⟩ s':=by
  refine ⟨fun a o e=>?_,fun a o e=>?_,fun Y=>p.base.pen rfl,fun Y=>(zz (ni pne.1 (ni pne.2.1 (ni pne.2.2 (ni (fun h=>htA (h▸p.new.1)) (ni (fun h=>htA (h▸p.new.2.1)) List.not_mem_nil)))):pA∉five)).trans (p.base.zpen rfl),fun Y=>⟨fvs,fn,hfA,(Rd.swaps gle zle).2 rfl'⟩,fun Y=>(zz fn5).trans p.zn.2.2⟩
  ·by_cases h:a∈five
   ·have:z2 a=s'.heap.get? a:=by show (if a∈five then _ else _)=_;rw [if_pos h]
    rw [this]at e;exact e
   ·rw [zz h]at e;exact p.base.zin _ _ e
  ·have e':(Qdc s'.heap pp).get? a=some o:=e;rw [Qbq]at e';split at e'
   ·rename_i hp;by_cases h:a∈five
    ·show (if a∈five then _ else _)=_;rw [if_pos h];exact e'
    ·refine eqR (zz h) ?_;rcases Bool.or_eq_true_iff.mp (hp:((hB.get? a).isSome||six.contains a)=true) with h1|h1
     ·obtain ⟨o',ho'⟩:=Option.isSome_iff_exists.mp h1;have:=keep' _ _ ho';rw [e']at this;obtain rfl:=Option.some.inj this;exact p.base.zB _ _ ho'
     ·have:a=tz:=(List.mem_append.mp (show a∈five++[tz] from (List.contains_iff_mem.mp h1))).elim (fun q=>absurd q h) List.mem_singleton.mp;subst this;have:=p.base.zin _ _ htz;rw [e']at this;obtain rfl:=Option.some.inj this;exact htz
   ·exact nomatch e'
 have W2:Wd hB2 (Γ2 pA hA tA fA) mg mb:=⟨W.g.keeps gB,W.b.keeps gB,W.lim.keeps gB,let ⟨a,o,e,h⟩:=W.low;⟨a,o,gB _ _ e,h⟩,W.bu⟩
 have X2:KF.In hB2:=fun a o e=>gB _ _ (X a o e);have T2:TwoOk P w hB2 (Γ2 pA hA tA fA) (ss.map .int) HC TC:=by
  have m6:∀{a} (i:Nat),six[i]?=some a→a∈six:=fun Y e=>List.mem_of_getElem? e;refine ⟨⟨some dA,mh,lA,ln,I'.keeps fun c o hc e=>g6 _ _ ?_ e,hm,hm2,g6 _ _ (m6 2 rfl) hlst⟩,⟨some td,_,.ref tz,IT.keeps fun c o hc e=>g6 _ _ ?_ e,rfl,rfl,fun zz hz=>?_⟩⟩
  ·exact hc.elim (fun q=>m6 0 (congrArg some q.symm)) fun q=>m6 1 q.symm
  ·exact hc.elim (fun q=>m6 3 (congrArg some q.symm)) fun q=>m6 4 q.symm
  ·exact .tup (hz _ _ (g6 _ _ (m6 5 rfl) (p.base.zin _ _ htz))) (Rds.ofInts hints)
 have sw:∀v d,Rd P w (Γ1 pA hA) z' v d→Rd P w (Γ2 pA hA tA fA) z2 v d:=fun v d r=>r.swap gle zle;have stand5:∀{c o},s.heap.get? c=some o→¬K c→c∉five:=fun e nk=>ni (fun q=>nk (q▸kA.1)) (ni (fun q=>nk (q▸kA.2.1)) (ni (fun q=>nk (q▸kA.2.2)) (ni (fun q=>by rw [q,p.new.1]at e;exact nomatch e) (ni (fun q=>by rw [q,p.new.2.1]at e;exact nomatch e) List.not_mem_nil))));refine ⟨hB2,z2,X2,W2,Qv9 X2 W2 hK T2,b2,?_,sw,fun q=>?_,fun c kc=>?_⟩
 ·refine gk fun Ω κ=>?_;have lf:=Y2 b F.ns;obtain ⟨lo,le,lp,l1,l2,lr⟩:=id F.ns;refine κ ?_;refine F.re ho (fun v d r=>sw v d (r.le p.le)) ⟨lo,le,lp,p.keep _ _ ((fun nk q=>nk (q▸kA.2.2):∀{c},¬K c→c≠lA) F.kl) lf l1,l2,lr⟩ ((zz (stand5 l1 F.kl)).trans ((p.fresh _ _ lf l1).trans F.zl)) F.kl (fun c v o hc e=>?_) (fun c v hc zc kc=>?_)
  ·refine p.keep _ _ (fun q=>?_) (Yp b hc) e;obtain ⟨o',e',d'⟩:=hc;rw [q,hll]at e';cases e';cases d'
  ·have cf:=Yp b hc;obtain ⟨o',e',d'⟩:=hc;exact ⟨(zz (stand5 e' kc)).trans ((p.fresh _ _ cf e').trans zc),kc⟩
 ·have n:=p.new.2.2;rw [←q,hpen]at n;cases n
 ·obtain ⟨o,e⟩:=kp c kc;by_cases h1:c=lA
  ·refine eqR (h1) ?_;exact ⟨_,hlst⟩
  ·by_cases h2:c=pA
   ·obtain ⟨_,_,_,e⟩:=p.base.pen rfl;refine eqR (h2) ?_;exact ⟨_,e⟩
   ·exact ⟨o,p.keep _ _ h1 (fr1 h2) e⟩
end
noncomputable def Yh3 (sc:Scope) (st:Stmt):Prop:=X6 fun q1 f q2 es q3 q4=>A3 (st=.Assign [.Name (Str.ofString "array") q1] (.Call (.Name f q2) es [] q3) q4) (Q6 sc "made" f=true) (J0 sc Y5 Qsj es=true)
theorem Qv2 {sc:Scope}(h:Qt9 sc st=true):Yh3 sc st:=by
 refine Qoq h fun ts v q4 g=>?_;refine m1K (ba1 g) fun t g1=>?_;refine Qna g1 fun q1 Y=>?_;refine mFK (ba2 g) fun f q2 es q3 g2=>?_;exact ⟨q1,f,q2,es,q3,q4,rfl,ba1 g2,ba2 g2⟩
theorem Wd.any (W:Wd hB Γ mg mb):Wd hB Γ' mg mb:=⟨W.g,W.b,W.lim,W.low,W.bu⟩
theorem Qmm (h:Γ.two=false):AttOk P w hB Γ sz:=
 ⟨fun Y Y Y Y Y Y Y Y Y h2=>absurd (h.symm.trans h2) (by decide),fun h2=>absurd (h.symm.trans h2) (by decide)⟩
section
theorem Qwu {ss:List Int}(hb:Bd ss) (hl:ss.length≤3) (c0 c1:Option B) (tl:Q8):Yd (orc glK sz n) Qsj (c0::c1::vv (.hnd .raw)::vv (tI ss)::vv (.lst ((grd [[]] ss).map tI))::tl) g=some ([.hnd .raw,Jr,tI ss,.lst ((rg (Ya 1 ss)).map Ye)],g):=by
 have h64:=Qci hb hl;have gl:=Js ss hb.nn;have p0:0≤Ya 1 ss:=by
  have:∀(l:List Int) (m:Int),0≤m→(∀s∈l,0≤s)→0≤Ya m l:=by
   intro l
   induction l with
   |nil=>intro m hm _;exact hm
   |cons x l ih=>intro m hm h;exact ih _ (Int.mul_nonneg hm (h x (.head _))) fun s hs=>h s (.tail _ hs)
  exact this ss 1 (by decide) hb.nn
 have h2:Qb (orc glK sz n) (.glob "_law_ITEM") (c0::c1::vv (.hnd .raw)::vv (tI ss)::vv (.lst ((grd [[]] ss).map tI))::tl) g=some (Jr,g):=by
  exact Qy8 (by rw [(by cases n<;>rfl:(orc glK sz n).glob=glK)];rfl)
 have hlen:=Vv (O:=orc glK sz n) (ρ:=c0::c1::vv (.hnd .raw)::vv (tI ss)::vv (.lst ((grd [[]] ss).map tI))::tl) (g:=g) (g':=g) (e:=.var 4) (.inl (Qa rfl)) (by simp;exact (Z11 0x10000066010b0264026046) h64 gl);rw [(by simp;exact (Z11 0xa5005460b026) gl p0:(((grd [[]] ss).map tI).length:Int)=Ya 1 ss)]at hlen;have h4:=Ys (O:=orc glK sz n) (ρ:=c0::c1::vv (.hnd .raw)::vv (tI ss)::vv (.lst ((grd [[]] ss).map tI))::tl) (g:=g) (g1:=g) (e:=.int) (h:=Ye) (xs:=rg (Ya 1 ss)) (elt:=.tup (.cons (.str "int") (.cons (.str "Int64") (.cons (.var 0) .nil)))) (t:=.nm 0) (nm:=["place"]) (cap:=[none]) (ρ':=[none])
  (Qck hlen p0 ((Z01 0x10000066044026046) h64)) rfl (fun x hx=>⟨_,rfl,V5 (Vu ..) (Vu ..) (Qa rfl)⟩) (by rw [Q9];exact (Z01 0x100000660b14026046) h64)
 exact Qd (Qa rfl:Qb (orc glK sz n) (.var 2) (c0::c1::vv (.hnd .raw)::vv (tI ss)::vv (.lst ((grd [[]] ss).map tI))::tl) g=some (.hnd .raw,g)) (Qd (Qd h2 (Qd (Qd (Qa rfl:Qb (orc glK sz n) (.var 3) (c0::c1::vv (.hnd .raw)::vv (tI ss)::vv (.lst ((grd [[]] ss).map tI))::tl) g=some (tI ss,g)) (Qd (Qd h4 rfl) rfl)) rfl)) rfl)
end
theorem Yis {a:D}(h:Rds P w Γ z vs [a,b,c,d]):X4 fun v1 v2 v3 v4=>A5 (vs=[v1,v2,v3,v4]) (Rd P w Γ z v1 a) (Rd P w Γ z v2 b) (Rd P w Γ z v3 c) (Rd P w Γ z v4 d):=by
 cases h with
 |cons h1 h=>
 obtain ⟨_,_,_,rfl,h2,h3,h4⟩:=Ybv h;exact ⟨_,_,_,_,rfl,h1,h2,h3,h4⟩
section
variable {K:Addr→Prop}
structure After2 (P:Program) (w:World) (mg mb:Str→Option Value) (KF:Frag) (K':Addr→Prop) (K:Addr→Prop) (s:Shared) (env:Env) (ρ:Q8) (sz:List D) (hB2:Heap) (Γ:Gm) (z2:Z) (g2:Gs) (s':Shared) (m':Str→Option Value):Prop where
 frag:KF.In hB2
 wd:Wd hB2 Γ mg mb
 att:AttOk P w hB2 Γ sz
 base:Base P w hB2 Γ z2 g2 s'
 fro:Fro P w Γ K' z2 s'.heap env Y5 ρ m'
 ap:Γ.has=true→Γ.two=true→Γ.pA≠Γ.fA
 kp:Kp K' s'.heap
 eq:X2 fun h t=>s'={ s with heap:=h,toks:=t }
 keep:∀a o,K a→s.heap.get? a=some o→s'.heap.get? a=some o
 free:∀a,K a→Γ.free a
set_option tactic.hygienic true in
theorem Qzx (X:KF.In hB) (W:Wd hB (Γ1 pA hA) mg mb) (hn:3≤n) (hO:OrcOk P w hB (Γ1 pA hA) mg (n+1) (orc glK [] n)) (hK1:Qp7 KF HC TC=true) (hK2:Yc7 KF HC TC=true) (hA0:AOk (n+2) A) {sc:Scope}(hi:Qt9 sc st=true) (S:ScOk sc env)
  (b:Base P w hB (Γ1 pA hA) z g s) {d0:D} {ss:List Int} (hb:Bd ss) (hl:ss.length≤3)
  (F:Fro P w (Γ1 pA hA) (K1 K hA dA lA) z s.heap env Y5 (vv d0::vv (.hnd .pen)::vv (.hnd .raw)::vv (tI ss)::vv (.lst ((grd [[]] ss).map tI))::List.replicate 10 none) m)
  (kp:Kp (K1 K hA dA lA) s.heap) (hKp:∀a,K a→a≠pA∧a≠lA) (pne:pA≠hA∧pA≠dA∧pA≠lA) (zn:z hA=none∧z dA=none∧z lA=none) (I:HI s.heap hA HC .plain (some dA) (Qjs (fun Y=>none) (Str.ofString "things") (.ref lA))) (hll:∃n,s.heap.get? lA=some (Vs [] n))
  {Q:Flow→Shared→Prop}
  (hQ:∀hB2 Γ z2 s' m',After2 P w mg mb KF (K1 K hA dA lA) K s env (vv d0::vv (.hnd .pen)::vv (.hnd .heap)::vv (tI ss)::vv (.lst ((grd [[]] ss).map tI))::vv Ji::List.replicate 9 none) (ss.map .int) hB2 Γ z2 ⟨g.p0,g.p1,(rg (Ya 1 ss)).map Ye⟩ s' m'→Q .next s') :
  wpAny (model P w) A (exec st env) Q E s:=by
 refine gk fun Ω κ=>?_;obtain ⟨q1,f,q2,es,q3,q4,rfl,g1,g2⟩:=Qv2 hi;have hM:=hK1;unfold Qp7 at hM;simp only [Bool.and_eq_true]at hM;obtain ⟨fa,fd,k1,_,_⟩:=Qa2 hM.1.1.2;obtain ⟨m1,fo,m2,m3⟩:=Qaa X W.g k1;refine κ ?_;refine wpAny_Assign_stores ?_ rfl rfl;refine wpAny_Call_ofName (Yf W b F.fn F.gl F.bi S g1 (.inl m1) ?_);refine Calls.callWith_function (o:=fo) (fd:=fd) (Qu (Vl (env:=env) (pos:=q3) g2) ((Qbm W hO Qsj).1 _ _ _ _ _ _ _ _ _ _ _ _ _ _ _ _ g2 S (hA0.le ((Z10 9939538033))) b F (Qwu hb hl ..) fun vs z1 s1 b1 st1 r1=>⟨⟨Qg b1 _ _ m2,m3⟩,?_⟩));have fr1:∀{c},c≠pA→(Γ1 pA hA).free c:=fun h=>⟨fun Y=>h,fun q=>by cases q⟩
 obtain ⟨v1,v2,v3,v4,rfl,ra,rb,rc,rd⟩:=Yis r1;have hv:v1=.ref hA:=by cases ra;rfl
 subst hv;obtain ⟨n0,hll⟩:=hll;have I1:HI s1.heap hA HC .plain (some dA) (Qjs (fun Y=>none) (Str.ofString "things") (.ref lA)):=I.keeps fun c o hc e=>by
  rcases hc with rfl|hc
  ·exact st1.keep _ _ (fr1 pne.1.symm) e
  ·cases hc;exact st1.keep _ _ (fr1 pne.2.1.symm) e
 have hll1:=st1.keep _ _ (fr1 pne.2.2.symm) hll;have zn1:∀{c o},s.heap.get? c=some o→c≠pA→z c=none→z1 c=none:=fun e ne zc=>(st1.fresh _ _ (fr1 ne) e).trans zc;have hx:∃o,s.heap.get? hA=some o:=by obtain ⟨sl,e⟩:=I.obj;exact ⟨_,e⟩
 have hd:∃o,s.heap.get? dA=some o:=by obtain ⟨_,o,_,_,e,_⟩:=I.ns;exact ⟨_,e⟩
 obtain ⟨ox,hx⟩:=hx;obtain ⟨od,hd⟩:=hd;have z1n:z1 hA=none∧z1 dA=none∧z1 lA=none:=⟨zn1 hx pne.1.symm zn.1,zn1 hd pne.2.1.symm zn.2.1,zn1 hll pne.2.2.symm zn.2.2⟩
 have pnn:0≤Ya 1 ss:=by
  have:=Js ss hb.nn;have h2:∀(l:List Int) (m:Int),0≤m→(∀s∈l,0≤s)→0≤Ya m l:=by
   intro l
   induction l with
   |nil=>intro m hm _;exact hm
   |cons x l ih=>intro m hm h;exact ih _ (Int.mul_nonneg hm (h x (.head _))) fun s hs=>h s (.tail _ hs)
  exact h2 ss 1 (by decide) hb.nn
 refine wpAny_call (Qv7 (TC:=TC) X W hn hO (by intro _ q;exact Bool.noConfusion q) rfl hK1 k1 hA0 b1 I1 rfl rfl rfl hll1 z1n.2.2 (fr1 pne.2.2.symm) rb rc rd hb ((Z10 0x100000660135016) hl) ((Z01 0x4e2046044026046) (Qci hb hl)) ((Z11 0xa5005460b026) (by rw [List.length_map,Q9]:((rg (Ya 1 ss)).map Ye).length=(Ya 1 ss).toNat) pnn) fun a z' s' tA td fA pt rarr=>?_);obtain ⟨hB2,z2,PH⟩:=Yck X W hK2 b1 (F.step b b1 st1) (Qkp rfl:∀i,¬Y7 (vv d0::vv (.hnd .pen)::vv (.hnd .raw)::vv (tI ss)::vv (.lst ((grd [[]] ss).map tI))::List.replicate 10 none) i) (kp.ss b1 (st1.ss kp)) ⟨.inr (.inl rfl),.inr (.inr (.inl rfl)),.inr (.inr (.inr rfl))⟩ pne z1n I1 rfl rfl ⟨n0,hll1⟩ pt;have F2:=PH.fro.setVal (i:=2) (d:=.hnd .raw) (d':=.hnd .heap) rfl (fun v r=>by
  have:v=.ref hA:=by cases r;rfl
  subst this;exact Rd.hnd (Γ:=Γ2 pA hA tA fA) .heap rfl) (Qkp rfl:∀i,¬Y7 ((vv d0::vv (.hnd .pen)::vv (.hnd .raw)::vv (tI ss)::vv (.lst ((grd [[]] ss).map tI))::List.replicate 10 none).set 2 (some (.val (.hnd .heap)))) i)
 refine wpAny_assign_Name (F2.store (i:=5) (x:="array") (b':=.val Ji) PH.base rfl rfl (PH.sw _ _ rarr) (fun Y Y Y q=>by exact nomatch q) fun h' t' m' b3 ss3 F3 Y=>?_);obtain ⟨h1,t1,e1⟩:=pt.eq;obtain ⟨h2,t2,e2⟩:=st1.eq;have fr2:∀c,K c→(Γ2 pA hA tA fA).free c:=fun c kc=>⟨fun Y=>(hKp c kc).1,fun Y q=>by
  obtain ⟨o,e⟩:=kp c (.inl kc);have e1:=st1.keep _ _ (fr1 (hKp c kc).1) e;have n:=pt.new.2.2
  replace q:c=fA:=q
  rw [←q,e1]at n;cases n⟩
 refine hQ hB2 (Γ2 pA hA tA fA) z2 _ m' ⟨PH.frag,PH.wd,PH.att,b3,F3,fun Y Y=>PH.ap,PH.kp.ss b3 ss3,⟨h',t',by rw [e1,e2]⟩,fun c o kc e=>?_,fr2⟩;exact ss3.keep _ _ (.inl kc) (fr2 c kc) (pt.keep _ _ (hKp c kc).2 (fr1 (hKp c kc).1) (st1.keep _ _ (fr1 (hKp c kc).1) e))
end
structure ExcC (h:Heap) (C:Addr) (nm q:Str) (N:Addr) (bs bm:List Value) (hdct:Bool) (sn:List Str) (sub:List Value) (ab:Bool) (col:Option Bool) (dd:Option Addr) (k0 k1 k2 k3 k5:Option Value):Prop where
 obj:h.get? C=some (excClassObj nm q C N bs bm hdct sn sub ab col dd k0 k1 k2 k3 k5 "Exception.__new__")
 exc:bm.contains (.type "Exception")=true
 base:bm.contains (.type "BaseException")=true
 attr:bm.contains (.type "AttributeError")=false
 name:bm.contains (.type "NameError")=false
theorem Qgx {K:Frag}(X:K.In h) (e:Yem K C=true):X16 fun nm q N bs bm hdct sn sub ab col dd k0 k1 k2 k3 k5=>ExcC h C nm q N bs bm hdct sn sub ab col dd k0 k1 k2 k3 k5:=
 mSE e fun o hl e=>by
  obtain ⟨c,dd,dt,⟨l⟩⟩:=o;obtain rfl:c=.type "type":=of_decide_eq_true (ba1 (ba1 e));refine Yi3 (M:=fun dt=>K.lookup C=some ⟨_,dd,dt,⟨l⟩⟩→_) (ba2 (ba1 e)) (fun cd q hl=>?_) hl;obtain ⟨nm,bs,mro,N,qn,hdct,sn,sub,ab,col,hdel⟩:=cd;refine mCK (M:=fun mro=>K.lookup C=some ⟨_,dd,.cls ⟨nm,bs,mro,N,qn,hdct,sn,sub,ab,col,hdel⟩,⟨l⟩⟩→_) (ba1 q) (fun v bm p hl=>?_) hl;obtain rfl:v=.ref C:=of_decide_eq_true (ba1 p)
  replace p:=ba2 p
  obtain rfl:hdel=false:=bn (ba2 q);obtain ⟨k0,k1,k2,k3,k5,rfl⟩:=six_places (l:=l) (beq_iff_eq.mp (ba1 (ba2 e))) (by simpa using ba2 (ba2 e));exact ⟨nm,qn,N,bs,bm,hdct,sn,sub,ab,col,dd,k0,k1,k2,k3,k5,X _ _ hl,ba1 (ba1 (ba1 p)),ba2 (ba1 (ba1 p)),bn (ba2 (ba1 p)),bn (ba2 p)⟩
section
variable {g:Array GenState}{d:Drawn}
variable {nm:Str}{N:Addr}{sub:List Value}{k2:Option Value}
theorem Qri {M:Model}{Q:Unit→Shared→Prop}(x:ExcC h C nm q N bs bm hdct sn sub ab col dd k0 k1 k2 k3 k5) (hq:Q () ⟨h,g,d,t,os⟩) :
  wpAny M A (checkBuiltinCall "Exception.__new__" ⟨.ref C::rest,[]⟩) Q E ⟨h,g,d,t,os⟩:=by
 have F:=PySem.F.excBase_Exception;have hC:=x.obj;have hstar:=F.noStar;unfold checkBuiltinCall;rw [F.newKind,F.newSplit,F.newRow];dsimp only
 repeat (first|refine wpAny_loadPart_at hC ?_|(refine wpAny_isSubtype_exc hC ?_;rw [(by rw [List.contains_cons,x.exc,Bool.or_true]:(Value.ref C::bm).contains (.type "Exception")=true)])|refine wpAny_staticBase_exc hC ?_|refine wpAny_madeBy_exc hC ?_|dsimp only [bne_self_eq_false,Bool.false_eq_true,if_false]|wp_step)
 exact hq
theorem Qwk (x:ExcC h C nm q N bs bm hdct sn sub ab col dd k0 k1 k2 k3 k5) (hrest:rest.length≤sizeLine)
  (hq:R (.ok (.ret (.ref (h.objs.size+1)))) ⟨(h.push { cls:=.type "tuple",data:=.seq rest.toArray }).push { cls:=.ref C,data:=.fields #[.ref h.objs.size,.none,.none,.none,.bool false,.none] },g,d,t,os⟩) :
  codeAny (model prog w) A (.builtin "Exception.__new__" ⟨.ref C::rest,[]⟩) R ⟨h,g,d,t,os⟩:=by
 have F:=PySem.F.excBase_Exception;have hC:=x.obj;have hends:=F.ends;have hcA:(Value.ref C::bm).contains (.type "AttributeError")=false:=by rw [List.contains_cons,x.attr];rfl
 have hcN:(Value.ref C::bm).contains (.type "NameError")=false:=by rw [List.contains_cons,x.name];rfl
 refine codeAny_builtinAt F.entry ?_;unfold Builtin.«BaseException.__new__»;refine PySem.wpAt_bind ?_;refine (?_:PySem.wpAt _ _ _ (stack >>= _) _ _ _);refine PySem.wpAt_bind (PySem.wpAt_stack fun p below=>PySem.wpAt_of_wpAny ?_)
 wp_walk
 refine PySem.wpAt_of_wpAny ?_;refine eqR (F.owner) ?_
 repeat (first|with_reducible refine wpAny_madeHere_exc F.canon hC ?_|with_reducible refine wpAny_loadPart_at hC ?_|(with_reducible refine wpAny_isSubtype_exc hC ?_;first|rw [(by rw [List.contains_cons,x.exc,Bool.or_true]:(Value.ref C::bm).contains (.type "Exception")=true)]|rw [hcA]|rw [hcN])|wp_step)
 refine (?_:R _ _);rw [Heap.size_push];exact hq
theorem Qs3 {K:Frag}{f:Addr}{Q:Fin→Shared→Prop}(X:K.In h) (x:ExcC h C nm q N bs bm hdct sn sub ab col dd k0 k1 k2 k3 k5) (hf:findIn K (.ref C) "__init__"=some (some (.ref f))) (ht:typeIn K (.ref f)=some (.type "function")) (hrest:rest.length≤sizeLine)
  (hq:∀h' e,Heap.MadeExcOf h h' e (.ref C) rest→wpAny (model prog w) A (call (.ref f) (.ref e::rest)) (fun r s'=>r=.none∧Q (.done (.ret (.ref e))) s') E ⟨h',g,d,t,os⟩) :
  wpAny (model prog w) A (Builtin.«type.__call__» ⟨.ref C::rest,[]⟩) Q E ⟨h,g,d,t,os⟩:=by
 have hC:=x.obj
 repeat (first|with_reducible refine wpAny_loadPart_at hC ?_|with_reducible refine wpAny_madeBy_exc hC ?_|wp_step)
 refine codeAny_call_builtin_code (Code.quiet_builtin _ PySem.F.excBase_Exception.quiet) (Qri x ?_);refine Qwk x hrest ?_;refine (?_:wpAny _ _ _ _ _ _);have k:∀b o,h.get? b=some o→((h.push { cls:=.type "tuple",data:=.seq rest.toArray }).push { cls:=.ref C,data:=.fields #[.ref h.objs.size,.none,.none,.none,.bool false,.none] }).get? b=some o:=
  fun b o e=>Heap.get?_push_of_some _ (Heap.get?_push_of_some _ e)
 have X₁:K.In ((h.push { cls:=.type "tuple",data:=.seq rest.toArray }).push { cls:=.ref C,data:=.fields #[.ref h.objs.size,.none,.none,.none,.bool false,.none] }):=fun a o e=>k _ _ (X a o e);have hget:((h.push { cls:=.type "tuple",data:=.seq rest.toArray }).push { cls:=.ref C,data:=.fields #[.ref h.objs.size,.none,.none,.none,.bool false,.none] }).get? (h.objs.size+1)=some
   {cls:=.ref C,data:=.fields #[.ref h.objs.size,.none,.none,.none,.bool false,.none] }:=by heap_get
 unfold isInstance
 repeat (first|with_reducible refine wpAny_loadPart_at hget ?_|(with_reducible refine wpAny_isSubtype_exc (k _ _ hC) ?_;rw [(by simp:(Value.ref C::bm).contains (.ref C)=true)])|wp_step)
 refine (?_:wpAny _ _ (typeLookup (.ref C) _) _ _ _);refine (looks_findIn X₁ hf).here ?_;refine wpAny_holding (wpAny_bind ((bind_fn X₁ _ ht).here ?_));refine wpAny_bind (wpAny_mono (hq _ (h.objs.size+1) ⟨k,Heap.get?_none_of_le (Nat.le_succ _),h.objs.size,hget,Heap.get?_none_of_le (Nat.le_refl _),?_⟩) (fun r s' hr=>?_) fun Y Y x=>x)
 ·exact Heap.get?_push_of_some _ (Heap.get?_push_at rfl rfl)
 ·obtain ⟨rfl,hQ⟩:=hr
  wp_walk
  exact hQ
theorem Que {K:Frag}{f:Addr}(X:K.In h) (x:ExcC h C nm q N bs bm hdct sn sub ab col dd k0 k1 k2 k3 k5) (hf:findIn K (.ref C) "__init__"=some (some (.ref f))) (ht:typeIn K (.ref f)=some (.type "function")) (hrest:rest.length≤sizeLine)
  (hq:∀h' e,Heap.MadeExcOf h h' e (.ref C) rest→wpAny (model prog w) (A.under (.builtin "type.__call__" ⟨.ref C::rest,[]⟩)) (call (.ref f) (.ref e::rest)) (fun r s'=>r=.none∧Q (.ref e) s') E ⟨h',g,d,t,os⟩) :
  wpAny (model prog w) A (call (.ref C) rest) Q E ⟨h,g,d,t,os⟩:=by
 have f1:=tc_lookup;have f2:=tc_bind (.ref C);have hC:=x.obj;have hT:(⟨h,g,d,t,os⟩:Shared).TypeIs (.ref C) "type":=⟨_,hC,rfl⟩
 refine wpAny_call (codeAny_of_tree ?_);refine (?_:wpAny _ _ (callAny (.ref C) _) _ _ _)
 repeat (any_goals (first|assumption|with_reducible refine wpAny_loadPart_at hC ?_|wp_step))
 refine ⟨rfl,?_⟩;refine codeAny_call_builtin_at (Code.quiet_builtin _ (by decide +kernel)) entry_typeCall (wpAny_check_type_call_sub hC (Qs3 X x hf ht hrest fun h' e hm=>?_));exact hq h' e hm
end
section
open PySem PySem.W PySem.Calls PyProof.Rows Builtin Builtin.ObjectAttr
structure ClsE (K:Frag) (C:Addr) (cd:ClassData):Prop extends ClsB K C cd where
 ga:findIn K (.ref C) "__getattribute__"=some (some (.builtin "BaseException.__getattribute__"))
 gm:findIn K (.ref C) "__getattr__"=some none
theorem Qju {K:Frag}(h:Ydn K C=true):(∃cd,ClsE K C cd)∧subIn K (.ref C) (.type "BaseException")=some true∧subIn K (.ref C) (.type "Exception")=some true:=by
 refine gk fun Ω κ=>?_;unfold Ydn at h;simp only [Bool.and_eq_true,beq_iff_eq]at h;obtain ⟨⟨⟨⟨⟨h1,h2⟩,h3⟩,h4⟩,h5⟩,h6⟩:=h;obtain ⟨cd,hc,h7⟩:=any_some h1;simp only [Bool.and_eq_true]at h7;refine κ ?_;exact ⟨⟨cd,⟨hc,h7.1,h7.2,h4⟩,h2,h3⟩,h5,h6⟩
section
variable {K:Frag}{x:Addr}{dt:Data}
theorem Qo1 (X:K.In s.heap) (hc:ClsE K C cd) (hsub:subIn K (.ref C) (.type "BaseException")=some true) (I:HI s.heap x C dt dd m) (hn:∀c,dt≠.cls c) (hf:findIn K (.ref C) name=some none) (hm:m name=some v) (hh:handedIn v=true)
  (h:Q v { s with toks:=s.toks+1 }):wpAny (model prog w) A (getAttr (.ref x) name expr) Q E s:=by
 obtain ⟨ox,od,I',_,ho⟩:=I.at hn;have FB:=PySem.F.attr_Exception;obtain ⟨hh',g,d,t,os⟩:=s;have L0:=I'.type (M:=model prog w)
 delta getAttr getAttrBy
 refine wpAny_bind (wpAny_mkText (wpAny_holding (wpAny_bind (L0.at (wpAny_bind ((looks_findIn (M:=model prog w) X hc.ga).at ?_))))));dsimp only;refine eqR (show (onTheHeap (.ref C)&&Value.builtin "BaseException.__getattribute__"==Value.builtin "object.__getattribute__")=false from by rw [show (Value.builtin "BaseException.__getattribute__"==Value.builtin "object.__getattribute__")=false from by decide +kernel,Bool.and_false]) ?_;refine eqR (if_neg (by decide)) ?_;unfold getAttrByItsOwn;refine wpAny_bind ((looks_hook X (by rw [if_pos (show onTheHeap (.ref C)=true from rfl)];exact hc.gm):Looks (model prog w) hh' (hookBefore (.ref C)) none).at (wpAny_bind (wpAny_attempt (wpAny_holding ?_))));unfold callGetattribute;refine eqR (show (expr&&onTheHeap (Value.builtin "BaseException.__getattribute__"))=false from Bool.and_false _) ?_;refine eqR (if_neg (by decide)) ?_;unfold boundAndCalled;rw [FB.ga.bind];refine wpAny_bind (wpAny_pure ?_);refine (?_:wpAny _ _ (call (.builtin "BaseException.__getattribute__") [.ref x,.str name t]) _ _ _);refine wpAny_call (codeAny_call_builtin FB.ga.plain PySem.F.entry_bexc_ga ?_);refine @check_slot (model prog w) _ _ ⟨hh',g,d,t+1,os⟩ "BaseException.__getattribute__" "BaseException" "__getattribute__" (.ref x) [.str name t] [] _ (by decide +kernel) (by decide +kernel) (I'.type.andThen (looks_subIn X hsub)) (PySem.F.args_bexc_ga (.ref x) (.str name t)) ?_;unfold Builtin.«object.__getattribute__»;refine wpAny_bind (wpAny_pure ?_);refine wpAny_bind (wpAny_pure ?_);refine wpAny_bind (L0.at (wpAny_bind ((looks_find (M:=model prog w) X I' (Qk9 hc.toClsB hf (by rw [ho cd hc.dict,hm]))).at ?_)));refine wpAny_pure ?_;refine (?_:wpAny _ _ (handedOut v) _ _ _);refine eqR (handedOut_of hh) ?_;exact wpAny_pure h
end
section
variable {g:Array GenState}{d:Drawn}
variable {nm:Str}{N:Addr}{sub:List Value}{k2:Option Value}
theorem Qfc {M:Model}{e:Addr}{Q:Unit→Shared→Prop}(x:ExcC h C nm q N bs bm hdct sn sub ab col dd k0 k1 k2 k3 k5) (he:h.get? e=some oe) (hcls:oe.cls=.ref C) (hq:Q () ⟨h,g,d,t,os⟩) :
  wpAny M A (checkBuiltinCall "Exception.__init__" ⟨.ref e::rest,[]⟩) Q E ⟨h,g,d,t,os⟩:=by
 have F:=PySem.F.excBase_Exception;have hC:=x.obj;have hshort:=F.noStar;unfold checkBuiltinCall;rw [F.initKind,F.initSplit,F.initRow];dsimp only
 repeat (first|(with_reducible refine wpAny_loadPart_at he ?_;rw [hcls])|with_reducible refine wpAny_loadPart_at hC ?_|(with_reducible refine wpAny_isSubtype_exc hC ?_;rw [(by rw [List.contains_cons,x.exc,Bool.or_true]:(Value.ref C::bm).contains (.type "Exception")=true)])|wp_step)
 refine wpAny_onRaise ?_;rw [show ∀(a b:String) (n:Nat),Bind.check ⟨.positional,"*","Exception",.self,[⟨"args",.varPos,false⟩]⟩ a b n (List.map (fun x=>x.fst) ({ pos:=Value.ref e::rest }:Args).kw)=pure () from
  fun a b n=>check_star_args _ _ _ _ _ _]
 exact wpAny_pure hq
theorem Qtq {e:Addr}{vs:Array Value}(x:ExcC h C nm q N bs bm hdct sn sub ab col dd k0 k1 k2 k3 k5) (he:h.get? e=some oe) (hcls:oe.cls=.ref C) (hd:oe.data=.fields vs) (h0:vs[0]?=some (.ref t0)) (hrest:rest.length≤sizeLine)
  (hq:Q .none ⟨(h.push { cls:=.type "tuple",data:=.seq rest.toArray }).update e (Obj.mapFields (·.setIfInBounds 0 (.ref h.objs.size))),g,d,t,os⟩) :
  wpAny (model prog w) A (call (.builtin "Exception.__init__") (.ref e::rest)) Q E ⟨h,g,d,t,os⟩:=by
 have F:=PySem.F.excBase_Exception;refine wpAny_call (codeAny_call_builtin F.init.plain F.initEntry (Qfc x he hcls ?_));unfold Builtin.«BaseException.__init__»;refine aN (by simp) ?_
 delta newTuple Builtin.BaseException.bexcPut
 have hsz:0<vs.size:=(Array.getElem?_eq_some_iff.mp h0).1;have he₁:=Heap.get?_push_of_some (h:=h) { cls:=.type "tuple",data:=.seq rest.toArray } he;refine wpAny_bind (wpAny_newObj_type (wpAny_bind (wpAny_bind (wpAny_field he₁ hd h0 (wpAny_bind (wpAny_setField he₁ hd hsz ?_))))) (by show rest.toArray.size≤sizeLine;rw [List.size_toArray];exact hrest));exact wpAny_letGo (wpAny_pure hq)
theorem Qp6 {K:Frag}{T:String}{pl:Sem Bool}{Q:Value×List Value→Shared→Prop}(X:K.In s.heap) (ht:typeOf (.type T)=pure (.type "type")) (hs:Manifest.isStub T=false)
  (e:findCls K (.type T) (.type "type") name=some (.val v)) (hh:handedIn v=true) (h:Q (v,[]) { s with toks:=s.toks+1 }):wpAny (model prog w) A (getMethod (.type T) name pl) Q E s:=by
 have L0:Looks (model prog w) s.heap (typeOf (.type T)) (.type "type"):=Looks.of_pure ht;have hg:findIn K (.type "type") "__getattribute__"=some (some (.builtin "type.__getattribute__")):=type_tga
 delta getMethod specialOf
 refine wpAny_bind (wpAny_bind (L0.here ((looks_findIn X hg).here ?_)));refine aP canon_tga ?_;refine wpAny_bind (wpAny_mono (Q:=fun v=>Q (v,[])) (E:=E) ?_ (fun Y Y z=>wpAny_pure z) fun Y Y z=>z);refine cls_open X (Looks.of_pure (by unfold opaqueClassAbove;dsimp only;rw [hs];rfl:opaqueClassAbove (.type T)=pure none):Looks (model prog w) s.heap (opaqueClassAbove (.type T)) none) L0 hg (looks_hook X (r:=none) (by rfl)) (by show subIn K _ _=_;rfl) e
  (wpAny_pure (by show wpAny _ _ (handedOut v) _ _ _;rw [handedOut_of hh];exact wpAny_pure h))
end
end
noncomputable def Qo4 (sc:Scope) (ss:List Stmt):Prop:=X9 fun x q1 ap q2 q3 p q4 st2 st3=>A5 (ss=[.Expr (.Call (.Attribute (.Name x q1) (Str.ofString "__init__") ap) [.Name (Str.ofString "self") q2,.Name (Str.ofString "message") q3] [] p) q4,st2,st3]) (Q6 sc "Exception" x=true) ((ap.endLine==p.line)=true) (Qd9 "message" "message" st2=true) (Qd9 "spot" "spot" st3=true)
theorem Qi2 {sc:Scope}{ss:List Stmt}(h:Qaz sc ss=true):Qo4 sc ss:=by
 refine m3K h fun a st2 st3 g=>?_;refine Qy6 (ba1 (ba1 g)) fun v q4 g1=>?_;refine mMK g1 fun b ap as p g2 g3=>?_;refine Qmo (ba1 g3) fun x q1 g4=>?_;refine m2K (ba2 g3) fun y m g5=>?_;refine Qna (ba1 g5) fun q2 Y=>?_;refine Qna (ba2 g5) fun q3 Y=>?_;exact ⟨x,q1,ap,q2,q3,p,q4,st2,st3,rfl,g4,g2,ba2 (ba1 g),ba2 g⟩
noncomputable def Qkf (sc:Scope) (ss:List Stmt):Prop:=X10 fun x q1 ap q2 t k q3 p q4 st2=>A4 (ss=[.Expr (.Call (.Attribute (.Name x q1) (Str.ofString "__init__") ap) [.Name (Str.ofString "self") q2,.Constant (.str t) k q3] [] p) q4,st2]) (Q6 sc "RowsError" x=true) ((ap.endLine==p.line)=true) (Qd9 "value" "value" st2=true)
theorem Qe1 {sc:Scope}{ss:List Stmt}(h:Qar sc ss=true):Qkf sc ss:=by
 refine m2K h fun a st2 g=>?_;refine Qy6 (ba1 g) fun v q4 g1=>?_;refine mMK g1 fun b ap as p g2 g3=>?_;refine Qmo (ba1 g3) fun x q1 g4=>?_;refine m2K (ba2 g3) fun y m g5=>?_;refine Qna (ba1 g5) fun q2 Y=>?_;refine Qng (ba2 g5) fun c k q3 g6=>?_;obtain ⟨t,rfl⟩:∃t,c=.str t:=Const.str.elim (motive:=fun c=>∃t,c=.str t) c (eq_of_beq g6) fun t=>⟨t,rfl⟩
 exact ⟨x,q1,ap,q2,t,k,q3,p,q4,st2,rfl,g4,g2,ba2 g⟩
@[elab_as_elim] theorem Yb8 {k:Value→Bool} {v:CFound} {M:CFound→Prop} (h:Yfr k v=true) (g:∀x,k x=true→M (.val x)):M v:=mmK h fun q h=>
 CFound.val.elim (motive:=fun v=>(q:v.ctorIdx=_)→CFound.val.elim (motive:=fun Y=>Bool) v q k=true→M v) v q (fun x Y h=>g x h) q h
structure ThrownK (K:Frag) (TC RC:Addr):Prop where
 n1:Qjc K "Thrown"=some TC
 n2:Qjc K "RowsError"=some RC
 exc:Yem K TC=true
 cls:Ydn K TC=true
 f1:findIn K (.ref TC) (Str.ofString "message")=some none
 f2:findIn K (.ref TC) (Str.ofString "spot")=some none
 f3:findIn K (.ref TC) (Str.ofString "value")=some none
 keep:keepIn K (.ref TC)=true
 init:X3 fun f fd o=>A6 (findIn K (.ref TC) "__init__"=some (some (.ref f))) (typeIn K (.ref f)=some (.type "function")) (K.lookup f=some o) (o.data=.func fd) (fdK K fd 2 ["self","value"]=true) (V9 fd Qar=true)
 rd:readsIn K RC (.type "type")=true
 ga:specialIn K (.ref RC) "__getattribute__"=some (some (.builtin "type.__getattribute__"))
 rinit:X3 fun f fd o=>A6 (findCls K (.ref RC) (.type "type") "__init__"=some (.val (.ref f))) (K.lookup f=some o) (o.data=.func fd) (fdK K fd 3 ["self","message","spot"]=true) (V9 fd Qaz=true) (dsK K fd=some [.none])
 einit:findCls K (.type "Exception") (.type "type") "__init__"=some (.val (.builtin "Exception.__init__"))
theorem Qnd {K:Frag}(h:Qot K TC RC=true):ThrownK K TC RC:=
 baK h fun h h13=>baK h fun h h12=>baK h fun h h11=>baK h fun h h10=>baK h fun h h9=>baK h fun h h8=>baK h fun h h7=>baK h fun h h6=>baK h fun h h5=>baK h fun h h4=>baK h fun h h3=>baK h fun h1 h2=>
  ⟨beq_iff_eq.mp h1,beq_iff_eq.mp h2,h3,h4,beq_iff_eq.mp h5,beq_iff_eq.mp h6,beq_iff_eq.mp h7,h8,mSE h9 fun o e h=>mSE h fun v hv h=>by
   subst hv;exact Ycn (M:=fun v=>findIn K (.ref TC) "__init__"=some (some v)→_) h (fun f h e=>Qsg (ba2 h) fun o fd hl hd q=>⟨f,fd,o,e,beq_iff_eq.mp (ba1 h),hl,hd,ba1 q,ba2 q⟩) e,h10,beq_iff_eq.mp h11,mSE h12 fun c e h=>
   Yb8 (M:=fun c=>findCls K (.ref RC) (.type "type") "__init__"=some c→_) h (fun v h=>Ycn (M:=fun v=>findCls K (.ref RC) (.type "type") "__init__"=some (.val v)→_) h fun f h e=>Qsg h fun o fd hl hd q=>⟨f,fd,o,e,hl,hd,ba1 (ba1 q),ba2 (ba1 q),of_decide_eq_true (ba2 q)⟩) e,
   mSE h13 fun c e h=>Yb8 (M:=fun c=>findCls K (.type "Exception") (.type "type") "__init__"=some c→_) h (fun v h e=>by rw [e,of_decide_eq_true h]) e⟩
section
variable {K:Frag}
theorem Qoj (X:K.In hB) (W:Wd hB Γ mg mb) (hEx:mg (Str.ofString "Exception")=none∧mb (Str.ofString "Exception")=some (.type "Exception")) (T:ThrownK K TC RC) {fR:Addr}(k2:fdK K fd 3 ["self","message","spot"]=true) (k3:V9 fd Qaz=true) (kd:dsK K fd=some [.none]) (m2:hB.get? fR=some o) (m3:o.data=.func fd) (hA:AOk 1 A) (b:Base P w hB Γ z g s)
  {e:Addr} {vs:Array Value} {msg:Value} (I:HI s.heap e TC (.fields vs) none (fun Y=>none)) (h0:vs[0]?=some (.ref t0)) (h1:vs[1]?=some .none) (ze:z e=none)
  (hR:∀d vs' h' tk,(∀b o,b≠e→s.heap.get? b=some o→h'.get? b=some o)→s.heap.get? d=none→HI h' e TC (.fields vs') (some d) (Qjs (Qjs (fun Y=>none) (Str.ofString "message") msg) (Str.ofString "spot") .none)→vs'[1]?=some .none→R (.ok (.ret .none)) { s with heap:=h',toks:=tk }) :
  codeAny (model P w) A (.call (.ref fR) ⟨[.ref e,msg],[]⟩) R s:=by
 refine gk fun Ω κ=>?_;obtain ⟨⟨cd,cE⟩,_,_⟩:=Qju T.cls;obtain ⟨ss,hbody,hp⟩:=Ym k3;refine κ ?_;refine Jh X W k2 hbody (ρ0:=[none,none,none]) m2 m3 hA b (.inr ⟨.none,kd,rfl,rfl⟩) rfl (hsN (hsN (hsN hs0))) fun s₁ m env E sc fr lc en=>?_;obtain ⟨x,q1,ap,q2,q3,p,q4,st2,st3,rfl,g1,hl,i2,i3⟩:=Qi2 hp;have d2:(Str.ofString "message"==("__debug__":Str))=false:=by decide
 have L0:=en.loc rfl;have F0:=en.fro;have k1:=en.keep;have b1:=en.base;obtain ⟨hh1,t1,e1⟩:=en.step.eq;subst e1;refine gk fun Ω κ=>?_;have heB:hB.get? e=none:=by
  cases q:hB.get? e with
  |none=>rfl
  |some o'=>have:=b.zB _ _ q;rw [ze]at this;cases this
 have XK:∀{h':Heap},(∀b o,b≠e→hh1.get? b=some o→h'.get? b=some o)→K.In h':=fun k a o q=>k _ _ (fun q2=>by have:=X a o q;rw [q2,heB]at this;exact nomatch this) (Qg b1 _ _ (X a o q));obtain ⟨sl,ho⟩:=I.obj;have ho1:=k1 _ _ ho;have X1:K.In hh1:=fun a o q=>Qg b1 _ _ (X a o q);obtain ⟨nm,qn,N,bs,bm,hdct,sn,sub,ab,col,ddC,c0,c1,c2,c3,c5,xC⟩:=Qgx X1 T.exc;refine κ ?_;refine wpAny_execs_cons (wpAny_Expr (Qbr rfl hl rfl (Yf W b1 F0.fn F0.gl F0.bi sc g1 (.inr hEx) fun pl=>Qp6 X1 (by rfl) (by decide +kernel) T.einit (by decide +kernel) ?_)) (by unfold interactive;rw [L0.fn];rfl) rfl);refine Calls.callWith_builtin rfl (Qu rfl (wpAny_items_cons (Qa4 (x:="self") (v:=.ref e) (L0.keeps fun Y Y e=>e) (.head _) (by decide:(Str.ofString "self"==("__debug__":Str))=false) (wpAny_items_cons (Qa4 (x:="message") (v:=msg) (L0.keeps fun Y Y e=>e) (.tail _ (.head _)) d2 (wpAny_items_nil ?_)) rfl)) rfl));refine Qtq xC ho1 rfl rfl h0 (by simp [sizeLine_eq]) ?_;generalize hh2:(hh1.push { cls:=.type "tuple",data:=.seq [msg].toArray }).update e (Obj.mapFields (·.setIfInBounds 0 (.ref hh1.objs.size)))=h2;refine gk fun Ω κ=>?_;have k2:∀b o,b≠e→hh1.get? b=some o→h2.get? b=some o:=fun b o hb q=>by
  refine eqL (hh2) ?_;refine eqR (Heap.get?_update_other _ _ (Ne.symm hb)) ?_;exact Heap.get?_push_of_some _ q
 have e2:h2.get? e=some { cls:=.ref TC,dict:=none,data:=.fields (vs.setIfInBounds 0 (.ref hh1.objs.size)),slots:=sl }:=by
  refine eqL (hh2) ?_;exact Heap.get?_update_self _ (Heap.get?_push_of_some _ ho1) rfl
 have hle:env.locals≠e:=fun q=>F0.kl ⟨_,by rw [q];exact ho⟩;have L2:=L0.mv (h':=h2) (fun a=>a=e) (fun a o h q=>k2 _ _ h q) hle (fun a u q hc=>by
  subst q;obtain ⟨o,q,d⟩:=hc;rw [ho1]at q;cases q;cases d)
 obtain ⟨lo,le,lp,l1,_⟩:=id L2.ns;refine κ ?_;refine wpAny_execs_cons (Qaw (ns:=[]) i2 (XK k2) cE.toClsB (⟨⟨sl,e2⟩,fun Y=>rfl⟩:HI h2 e TC (.fields (vs.setIfInBounds 0 (.ref hh1.objs.size))) none (fun Y=>none)) (by intro c q;cases q) (by intro c q;cases q) (fun sl=>rfl) T.f1 Within.nil (by simp) L2 (v:="message") (val:=msg) (.head _) (.tail _ (.head _)) ⟨hle,by simp⟩ fun h3 t3 dd3 I3 k3' hdd Y L3=>?_);rcases hdd with rfl|⟨d,rfl,hd⟩
 ·have:=I3.ns (Str.ofString "message");simp [Qjs]at this
 have k3:∀b o,b≠e→hh1.get? b=some o→h3.get? b=some o:=fun b o hb q=>k3' _ _ hb (by simp) (k2 _ _ hb q);refine wpAny_execs_cons (Qaw (ns:=[Str.ofString "message"]) i3 (XK k3) cE.toClsB I3 (by intro c q;cases q) (by intro c q;cases q) (fun sl=>rfl) T.f2 (Within.cons _ _ Within.nil) (by decide) L3 (v:="spot") (val:=.none) (.head _) (.tail _ (.tail _ (.head _))) ⟨hle,fun q=>by rw [←Option.some.inj q,l1]at hd;cases hd⟩ fun h4 t4 dd4 I4 k4' Y hdd4 L4=>?_);obtain ⟨rfl,_⟩:=hdd4 rfl;have nd:∀{b o},b≠e→hh1.get? b=some o→b≠d:=fun hb q q2=>by
  have:=k2 _ _ hb q;rw [q2,hd]at this;exact nomatch this
 have nds:s.heap.get? d=none:=by
  cases q:s.heap.get? d with
  |none=>rfl
  |some o'=>
   by_cases h:d=e
   ·rw [h,e2]at hd;exact nomatch hd
   ·exact absurd rfl (nd h (k1 _ _ q))
 refine wpAny_execs_nil (hR d _ h4 t4 (fun b o hb q=>k4' _ _ hb (fun q2=>nd hb (k1 _ _ q) (Option.some.inj q2)) (k3 _ _ hb (k1 _ _ q))) nds I4 ?_);refine eqR (Array.getElem?_setIfInBounds_ne (by decide)) ?_;exact h1
end
section
variable {K:Frag}
theorem Qms (X:K.In hB) (W:Wd hB Γ mg mb) (hEx:mg (Str.ofString "Exception")=none∧mb (Str.ofString "Exception")=some (.type "Exception")) (T:ThrownK K TC RC) (hA:AOk 3 A) (b:Base P w hB Γ z g s) {ev:Value}
  (hQ:∀e d vs h' tk mm,(∀b o,s.heap.get? b=some o→h'.get? b=some o)→s.heap.get? e=none→s.heap.get? d=none→HI h' e TC (.fields vs) (some d) mm→mm (Str.ofString "value")=some ev→vs[1]?=some .none→Q (.ref e) { s with heap:=h',toks:=tk }) :
  wpAny (model P w) A (call (.ref TC) [ev]) Q E s:=by
 refine gk fun Ω κ=>?_;obtain ⟨⟨cd,cE⟩,_,_⟩:=Qju T.cls;obtain ⟨f,fd,o,i1,i2,i3,i4,i5,i6⟩:=T.init;obtain ⟨fR,fdR,oR,r1,r2,r3,r4,r5,r6⟩:=T.rinit;have Xs:K.In s.heap:=fun a o q=>Qg b _ _ (X a o q);obtain ⟨nm,qn,N,bs,bm,hdct,sn,sub,ab,col,ddC,c0,c1,c2,c3,c5,xC⟩:=Qgx Xs T.exc;obtain ⟨ss,hbody,hp⟩:=Ym i6;obtain ⟨hs,gg,dd,tt,os⟩:=s;refine κ ?_;refine Que Xs xC i1 i2 (by simp [sizeLine_eq]) fun h' e hm=>?_;obtain ⟨t0,he,_,_⟩:=hm.there;have ze:z e=none:=Ql b.zin hm.new;refine wpAny_call (Jh X W i5 hbody (ρ0:=[none,none]) (X _ _ i3) i4 (hA.tc TC [ev]) (b.grown hm.keeps:Base P w hB Γ z g ⟨h',gg,dd,tt,os⟩) (.inl ⟨rfl,rfl⟩) rfl (hsN (hsN hs0)) fun s₁ m env E sc fr lc en=>?_);obtain ⟨x,q1,ap,q2,st,kk,q3,p,q4,st2,rfl,g1,hl,g2⟩:=Qe1 hp;have L0:=en.loc rfl;have F0:=en.fro;have k1:=en.keep;have b1:=en.base;obtain ⟨hh1,t1,e1⟩:=en.step.eq;subst e1;have X1:K.In hh1:=fun a o q=>Qg b1 _ _ (X a o q);have he1:=k1 _ _ he;refine wpAny_execs_cons (wpAny_Expr (Qbr rfl hl rfl (Yf W b1 F0.fn F0.gl F0.bi sc g1 (.inl (Qcd X W.g T.n2)) fun pl=>method_cls X1 T.ga (cls_value X1 T.rd r1 rfl ?_))) (by unfold interactive;rw [L0.fn];rfl) rfl);refine Calls.callWith_function (o:=oR) (fd:=fdR) (Qu rfl (wpAny_items_cons (Qa4 (x:="self") (v:=.ref e) (L0.keeps fun Y Y e=>e) (.head _) (by decide:(Str.ofString "self"==("__debug__":Str))=false) (wpAny_items_cons (wpAny_Constant_str (wpAny_items_nil ⟨⟨X1 _ _ r2,r3⟩,?_⟩)) rfl)) rfl));refine wpAny_call (Qoj X W hEx T r4 r5 r6 (X _ _ r2) r3 (((hA.tc TC [ev]).deeper (env:=env)).le (by decide)) (z:=z) (g:=g) (Γ:=Γ) (b1.grown (fun Y Y e=>e)) (⟨⟨_,he1⟩,fun Y=>rfl⟩:HI hh1 e TC (.fields #[.ref t0,.none,.none,.none,.bool false,.none]) none (fun Y=>none)) rfl rfl ze fun d vs2 h2 t2 k2 nd I2 hv2=>?_);have hle:env.locals≠e:=fun q=>F0.kl ⟨_,by rw [q];exact he⟩;have L2:=L0.mv (h':=h2) (fun a=>a=e) (fun a o h q=>k2 _ _ h q) hle (fun a u q hc=>by
  subst q;obtain ⟨o,q,d⟩:=hc;rw [he1]at q;cases q;cases d)
 have heB:hB.get? e=none:=by
  cases q:hB.get? e with
  |none=>rfl
  |some o'=>have:=b.zB _ _ q;rw [ze]at this;exact nomatch this
 have X2:K.In h2:=fun a o q=>k2 _ _ (fun q2=>by have:=X a o q;rw [q2,heB]at this;exact nomatch this) (X1 _ _ q);obtain ⟨lo,le,lp,l1,_⟩:=id L0.ns;refine wpAny_execs_cons (Qaw (ns:=[Str.ofString "spot",Str.ofString "message"]) g2 X2 cE.toClsB I2 (by intro c q;cases q) (by intro c q;cases q) (fun sl=>rfl) T.f3 (Within.cons _ _ (Within.cons _ _ Within.nil)) (by decide) L2 (v:="value") (val:=ev) (.head _) (.tail _ (.head _)) ⟨hle,fun q=>(fun q=>by rw [←q,l1]at nd;exact nomatch nd) (Option.some.inj q)⟩ fun h3 t3 dd3 I3 k3 Y hd3 L3=>?_);obtain ⟨rfl,_⟩:=hd3 rfl;have to1:∀b o,hs.get? b=some o→hh1.get? b=some o:=fun b o q=>k1 _ _ (hm.keeps _ _ q);have nee:∀{b o},hs.get? b=some o→b≠e:=fun q q2=>by have n:=hm.new;rw [←q2,q]at n;exact nomatch n
 have ndd:∀{b o},hs.get? b=some o→b≠d:=fun q q2=>by have:=to1 _ _ q;rw [q2,nd]at this;exact nomatch this
 refine wpAny_execs_nil ⟨rfl,hQ e d vs2 h3 t3 _ (fun b o q=>k3 _ _ (nee q) (fun q2=>ndd q (Option.some.inj q2)) (k2 _ _ (nee q) (to1 _ _ q))) hm.new ?_ I3 ?_ hv2⟩
 ·cases q:hs.get? d with
  |none=>rfl
  |some o'=>exact absurd rfl (ndd q)
 ·rfl
end
theorem Qej {es:CEs}{sc:Scope}{ss:List Stmt}(h:Y1 f nm es sc ss=true):X5 fun x q1 es' q2 q3=>A3 (ss=[.Return (some (.Call (.Name x q1) es' [] q2)) q3]) (Q6 sc f x=true) (J0 sc nm es es'=true):=by
 refine mRK h fun e q3 g=>?_;refine mFK g fun x q1 as q2 g1=>?_;exact ⟨x,q1,as,q2,q3,rfl,ba1 g1,ba2 g1⟩
noncomputable def evD (parts:List D):D:=.tup [.str (Str.ofString "struct"),.tup [.str (Str.ofString "name"),.str (Str.ofString "BoundsError"),.tup []],.tup parts]
section
theorem Qup (hn:1≤n) (x:String):(orc gl sz n).fn "error_kind" [.str (Str.ofString x)] g=some (.tup [.str (Str.ofString "name"),.str (Str.ofString x),.tup []],g):=by
 refine Q7 n rfl (by decide) rfl (by decide) ((Z10 353375510) hn) (ρ:=[vv (.str (Str.ofString x))]) ?_;exact Qj (Qp (V5 (Vu ..) (Qa rfl) rfl))
theorem Qym (hn:2≤n) (parts:List D):Yd (orc gl sz n) Qkc [vv (.str (Str.ofString "BoundsError")),vv (.tup parts)] g=some ([evD parts],g):=by
 have h1:(orc gl sz n).fn "error_value" [.str (Str.ofString "BoundsError"),.tup parts] g=some (evD parts,g):=by
  refine Q7 n rfl (by decide) rfl (by decide) ((Z10 353379606) hn) (ρ:=[vv (.str (Str.ofString "BoundsError")),vv (.tup parts)]) ?_;refine Qj (Qp (V5 (Vu ..) (Qao (Qa rfl) (Qup ((Z10 0x150815102516) hn) "BoundsError")) ?_));refine Qad (a:=.tup parts) (Qa rfl) ?_
  rfl
 have:=Qy (O:=orc gl sz n) (ρ:=[vv (.str (Str.ofString "BoundsError")),vv (.tup parts)]) (g:=g) (e1:=.var 0) (e2:=.var 1) (Qa rfl) (Qa rfl) h1;exact Qd this rfl
theorem Qmn {r:CEs}(h1:Qb O e ρ g=some (d,g1)) (h2:Yd O r ρ g1=some (ds,g2)):Yd O (.cons e r) ρ g=some (d::ds,g2):=Qd h1 (Qd h2 rfl)
theorem Qz9 (hn:1≤n) (v:D) (es:List Int) (hl:es.length≤1048576):Yd (orc gl sz n) Qy5 [vv v,vv (lI es)] g=some ([.str (Str.ofString "BoundsError"),.tup [v,.tup [.str (Str.ofString "tuple"),.tup (es.map Ye)]]],g):=by
 have h1:∀(ρ:Q8) x,ρ[0]?=some (vv (.int x))→Qb (orc gl sz n) (.fn "int_value" (.cons (.var 0) .nil)) ρ g=some (Ye x,g):=fun ρ x hx=>by
  refine Qao (Qa hx) ?_;obtain ⟨m,rfl⟩:∃m,n=m+1:=⟨n-1,(Z10 0x15150870201516) hn⟩
  rfl
 have h2:=Ys (O:=orc gl sz n) (ρ:=[vv v,vv (lI es)]) (g:=g) (g1:=g) (e:=.int) (h:=Ye) (xs:=es) (elt:=.fn "int_value" (.cons (.var 0) .nil)) (t:=.nm 0) (it:=.over (.var 1)) (nm:=["index"]) (cap:=[none]) (ρ':=[none])
  (Yc (.inl (Qa rfl)) (by simpa using hl)) rfl (fun x hx=>⟨_,rfl,h1 _ _ rfl⟩) hl
 exact Qmn (Vu ..:Qb (orc gl sz n) (.str "BoundsError") [vv v,vv (lI es)] g=some (.str (Str.ofString "BoundsError"),g)) (Qmn (Vi (O:=orc gl sz n) (ρ:=[vv v,vv (lI es)]) (g:=g) (g1:=g) (l:=.var 0) (Qa rfl) (Vi (l:=.str "tuple") (Vu ..) (Qay (g':=g) h2 (by simpa using hl)))) rfl)
end
section
variable {K:Frag}
structure ExcS (P:Program) (w:World) (hB:Heap) (Γ:Gm) (TC:Addr) (z:Z) (g:Gs) (s:Shared) (z':Z) (s':Shared) (e:Addr):Prop where
 base:Base P w hB Γ z' g s'
 step:Step Γ z s z' s'
 new:s.heap.get? e=none
 zn:z' e=none
 exc:X5 fun d vs mm v parts=>A6 (HI s'.heap e TC (.fields vs) (some d) mm) (z' d=none) (mm (Str.ofString "value")=some v) (Rd P w Γ z' v (evD parts)) (vs[1]?=some .none) (s.heap.get? d=none)
theorem ExcS.pre {e:Addr}(b1:Base P w hB Γ z1 g s1) (st:Step Γ z s z1 s1) (x:ExcS P w hB Γ TC z1 g s1 z' s' e):ExcS P w hB Γ TC z g s z' s' e:=by
 have no:∀{a},s1.heap.get? a=none→s.heap.get? a=none:=fun {a} ha=>by
  cases q:s.heap.get? a with
  |none=>rfl
  |some o=>have:=st.keep _ _ (Vc b1 ha) q;rw [ha]at this;exact nomatch this
 obtain ⟨d,vs,mm,v,parts,h1,h2,h3,h4,h5,h6⟩:=x.exc;exact ⟨x.base,st.trans x.step,no x.new,x.zn,d,vs,mm,v,parts,h1,h2,h3,h4,h5,no h6⟩
theorem Qkd (X:K.In hB) (W:Wd hB Γ mg mb) (hEx:mg (Str.ofString "Exception")=none∧mb (Str.ofString "Exception")=some (.type "Exception")) (T:ThrownK K TC RC) (hn:3≤n) (hO:OrcOk P w hB Γ mg (n+1) (orc glK sz n)) {f:Addr}(k2:fdK K fd 2 ["name","parts"]=true) (k3:V9 fd (Y1 "Thrown" ["name","parts"] Qkc)=true) (m2:hB.get? f=some o) (m3:o.data=.func fd) (hA:AOk (n+2) A) (b:Base P w hB Γ z g s)
   (r1:Rd P w Γ z v1 (.str (Str.ofString "BoundsError"))) (r2:Rd P w Γ z v2 (.tup parts))  (hR:∀e z' s',ExcS P w hB Γ TC z g s z' s' e→R (.ok (.ret (.ref e))) s'):codeAny (model P w) A (.call (.ref f) ⟨[v1,v2],[]⟩) R s:=by
 refine gk fun Ω κ=>?_;obtain ⟨ss,hbody,hp⟩:=Ym k3;refine κ ?_;refine Jh X W k2 hbody (ρ0:=[some (.str (Str.ofString "BoundsError")),some (.tup parts)]) m2 m3 hA b (.inl ⟨rfl,rfl⟩) rfl (hsS r1 (hsS r2 hs0)) fun s₁ m env E sc fr lc en=>?_;obtain ⟨x,q1,es,q2,q3,rfl,g1,g2⟩:=Qej hp;have hA':=hA.deeper (env:=env);have F0:=en.fro;have b1:=en.base;have hst:=Vl (env:=env) (pos:=q2) g2;have X1:K.In s₁.heap:=fun a o q=>Qg b1 _ _ (X a o q);refine wpAny_execs_cons (wpAny_Return_some (wpAny_Call_ofName (Yf W b1 F0.fn F0.gl F0.bi sc g1 (.inl (Qcd X W.g T.n1)) ?_)));refine callWith_of (by rw [hst];rfl) (keeps_K T.keep) (Qu hst ((Qbm W hO Qkc).1 _ _ _ _ _ _ _ _ _ _ _ _ _ _ _ _ g2 sc hA' b1 F0 (Qym ((Z10 621819158) hn) parts) fun vs z2 s2 b2 st2 r2=>?_));obtain ⟨ev,rfl,ra⟩:=Yee r2;refine ⟨fun a o q=>Qg b2 _ _ (X a o q),?_⟩;refine Qms X W hEx T (hA'.le ((Z10 0x150735103516) hn)) b2 fun e d vs' h' tk mm kp ne nd I hm hv=>?_;have b3:Base P w hB Γ z2 g { s2 with heap:=h',toks:=tk }:=b2.grown kp;have st3:Step Γ z2 s2 z2 { s2 with heap:=h',toks:=tk }:=Step.grown b2 kp;have xs:ExcS P w hB Γ TC z2 g s2 z2 { s2 with heap:=h',toks:=tk } e:=⟨b3,st3,ne,Ql b2.zin ne,d,vs',mm,ev,parts,I,Ql b2.zin nd,hm,ra,hv,nd⟩
 exact hR e z2 _ (xs.pre b2 (en.step.trans st2))
theorem Qni (X:K.In hB) (W:Wd hB Γ mg mb) (hEx:mg (Str.ofString "Exception")=none∧mb (Str.ofString "Exception")=some (.type "Exception")) (T:ThrownK K TC RC) (hn:3≤n) (hO:OrcOk P w hB Γ mg (n+1) (orc glK sz n)) (kt:okK K "thrown" 2 ["name","parts"] (Y1 "Thrown" ["name","parts"] Qkc)=true) {f:Addr}(k2:fdK K fd 2 ["value","indices"]=true) (k3:V9 fd (Y1 "thrown" ["value","indices"] Qy5)=true) (m2:hB.get? f=some o) (m3:o.data=.func fd) (hA:AOk (n+3) A) (b:Base P w hB Γ z g s)
   {es:List Int} (r1:Rd P w Γ z v1 vd) (r2:Rd P w Γ z v2 (lI es)) (hl:es.length≤1048576)  (hR:∀e z' s',ExcS P w hB Γ TC z g s z' s' e→R (.ok (.ret (.ref e))) s'):codeAny (model P w) A (.call (.ref f) ⟨[v1,v2],[]⟩) R s:=by
 refine gk fun Ω κ=>?_;obtain ⟨ft,fdt,t1,t2,t3⟩:=Qa2 kt;obtain ⟨t4,ot,t5,t6⟩:=Qaa X W.g t1;obtain ⟨ss,hbody,hp⟩:=Ym k3;refine κ ?_;refine Jh X W k2 hbody (ρ0:=[some vd,some (lI es)]) m2 m3 hA b (.inl ⟨rfl,rfl⟩) rfl (hsS r1 (hsS r2 hs0)) fun s₁ m env E sc fr lc en=>?_;obtain ⟨x,q1,es',q2,q3,rfl,g1,g2⟩:=Qej hp;have hA':=hA.deeper (env:=env);have F0:=en.fro;have b1:=en.base;refine wpAny_execs_cons (wpAny_Return_some (wpAny_Call_ofName (Yf W b1 F0.fn F0.gl F0.bi sc g1 (.inl t4) ?_)));refine Calls.callWith_function (o:=ot) (fd:=fdt) (Qu (Vl (env:=env) (pos:=q2) g2) ((Qbm W hO Qy5).1 _ _ _ _ _ _ _ _ _ _ _ _ _ _ _ _ g2 sc (hA'.le ((Z10 9939538033))) b1 F0 (Qz9 ((Z10 353383702) hn) vd es hl) fun vs z2 s2 b2 st2 r2=>⟨⟨Qg b2 _ _ t5,t6⟩,?_⟩));obtain ⟨_,_,rfl,ra,rb⟩:=Qz8 r2;refine wpAny_call (Qkd X W hEx T hn hO t2 t3 t5 t6 (hA'.le ((Z10 9939603569))) b2 ra rb fun e z3 s3 x=>?_);exact hR e z3 s3 (x.pre b2 (en.step.trans st2))
end
noncomputable def Trc (h B:Heap) (e C:Addr) (dd:Option Addr) (fl:Option Value):Prop:=
 X2 fun sl vs=>h.get? e=some { cls:=.ref C,dict:=dd,data:=.fields vs,slots:=sl }∧(match fl with
  |none=>vs[1]?=some .none
  |some v=>X3 fun T oT ts=>A6 (vs[1]?=some (.ref T)) (B.get? T=none) (T≠e) (h.get? T=some oT) (oT.data=.fields ts) (ts[3]?=some v))
theorem Trc.size {vs:Array Value}{v:Value}(h:vs[1]?=some v):1<vs.size:=(Array.getElem?_eq_some_iff.mp h).1
structure Fly (B:Heap) (l:List Env) (e C:Addr) (dd:Option Addr) (fl:Option Value) (h:Heap):Prop where
 stays:B.StaysIn h
 new:B.get? e=none
 frames:h.FunFrames B l
 trc:Trc h B e C dd fl
section
variable {M:Model}{B:Heap}{e:Addr}
theorem Qia {vs:Array Value}{sl:Array (Option Value)}{head:Value}{hadNext:Bool}{Q:Unit→Shared→Prop}(hfr:A.frames=some (env::outer)) (hf:env.frame=some L) (hk:B.StaysIn s.heap) (hn:B.get? e=none) (hl:s.heap.FunFrames B (env::outer))
  (he:s.heap.get? e=some { cls:=.ref C,dict:=dd,data:=.fields vs,slots:=sl }) (hsz:1<vs.size) (hQ:∀h',Fly B (env::outer) e C dd (some (rawInt L)) h'→s.heap.UpToSlots h'→Q () { s with heap:=h' }) :
  wpAny M A (do let a ←frameOf env;let pl ←entryPlaceOf L hadNext;let b ←EntryCells.newEntry head a .none (rawInt L) .none pl;setField (.ref e) 1 b) Q E s:=by
 have nofr:e∉(env::outer).filterMap (·.frame):=fun hm=>by
  obtain ⟨_,o,ho,hnf⟩:=hl.mem hm;rw [he]at ho;cases ho;exact hnf vs rfl
 refine wpAny_bind (wpAny_frameOf_fun hfr hl hf fun h1 hs1=>wpAny_bind (wpAny_entryPlaceOf fun pl hpl=>?_))
 delta EntryCells.newEntry newFields
 refine wpAny_bind (wpAny_newObj_type ?_ (hpl.sizeOk5 _ _ _ _ _));generalize hT:({ cls:=.type "traceback",dict:=none,data:=.fields ([head,.ref L,.none,rawInt L,.none]++(if pl.isEmpty then List.replicate 6 Value.none else pl)).toArray }:Obj)=oT;have he1:=(hs1.2.1 e nofr).trans he;have he2:=Heap.get?_push_of_some (h:=h1) oT he1;have hk1:B.StaysIn h1:=fun b o hb=>(hs1.2.1 b fun hm=>by rw [(hl.mem hm).1]at hb;exact nomatch hb).trans (hk b o hb);refine wpAny_setField he2 rfl hsz (hQ _ ?_ ?_)
 ·have neT:h1.objs.size≠e:=Nat.ne_of_gt (Heap.lt_size he1);have keep:∀b o,b≠e→h1.get? b=some o→((h1.push oT).update e (Obj.mapFields (·.setIfInBounds 1 (Value.ref h1.objs.size)))).get? b=some o:=fun b o hb hbo=>by
   refine eqR (Heap.get?_update_other _ _ (Ne.symm hb)) ?_;exact Heap.get?_push_of_some _ hbo
  refine ⟨fun b o hb=>keep b o (fun q=>by rw [q,hn]at hb;exact nomatch hb) (hk1 b o hb),hn,hl.of_keeps fun b o hb hnf=>?_,sl,_,Heap.get?_update_self _ he2 rfl,h1.objs.size,oT,_,by simp [hsz],hk1.fresh,neT,?_,by rw [←hT],?_⟩
  ·obtain ⟨sl',hs'⟩:=hs1.2.2 b o hb;exact ⟨_,keep b _ (fun q=>by rw [q,he]at hb;cases hb;exact hnf vs rfl) hs',rfl⟩
  ·refine eqR (Heap.get?_update_other _ _ (Ne.symm neT)) ?_;exact Heap.get?_push_size _ (by rw [←hT];rfl)
  ·first|(rfl;done)|(rcases hpl with rfl|⟨_,_,_,_,_,_,_,rfl⟩<;>simp)
 ·intro b o hb hnf;obtain ⟨sl',hs'⟩:=hs1.2.2 b o hb;refine ⟨sl',?_⟩;rw [Heap.get?_update_other _ _ (fun q=>by rw [←q,he]at hb;cases hb;exact hnf vs rfl)];exact Heap.get?_push_of_some _ hs'
theorem Qlv {fl:Option Value}{Q:Unit→Shared→Prop}(hfr:A.frames=some (env::outer)) (hf:env.frame=some L) (F:Fly B (env::outer) e C dd fl s.heap) (hfl:fl=none∨fl=some .none)
  (hQ:∀h',Fly B (env::outer) e C dd (some (rawInt L)) h'→s.heap.UpToSlots h'→Q () { s with heap:=h' }):wpAny M A (noteFrame (.ref e) env) Q E s:=by
 obtain ⟨sl,vs,he,ht⟩:=F.trc;unfold noteFrame;simp only [hf];rcases hfl with rfl|rfl
 ·have h1:vs[1]?=some .none:=ht;refine wpAny_bind (wpAny_field he rfl h1 ?_);refine aN (by decide) ?_;exact Qia hfr hf F.stays F.new F.frames he (Trc.size h1) hQ
 ·obtain ⟨T,oT,ts,h1,hB,hne,hT,hd,h3⟩:=ht;refine wpAny_bind (wpAny_field he rfl h1 ?_);refine aP (show (Value.ref T != Value.none)=true from by rfl) ?_;refine wpAny_bind (wpAny_field hT hd h3 ?_);refine aN (show ¬((Value.none==rawInt L)=true) from by simp [rawInt]) ?_;refine wpAny_bind (wpAny_setField hT hd (Array.getElem?_eq_some_iff.mp h3).1 ?_);have other:∀b,b≠T→(s.heap.update T (Obj.mapFields (·.setIfInBounds 3 Value.none))).get? b=s.heap.get? b:=fun b hb=>Heap.get?_update_other _ _ (Ne.symm hb);have nr:∀b o,s.heap.get? b=some o→(∀vs,o.data≠.fields vs)→b≠T:=fun b o hb hnf q=>by
   rw [q,hT]at hb;cases hb;exact hnf ts hd
  refine Qia (s:={ s with heap:=s.heap.update T (Obj.mapFields (·.setIfInBounds 3 Value.none)) }) hfr hf (fun b o hb=>(other b fun q=>by rw [q,hB]at hb;exact nomatch hb).trans (F.stays b o hb)) F.new (F.frames.of_keeps fun b o hb hnf=>⟨o,(other b (nr b o hb hnf)).trans hb,rfl⟩)
   ((other e (Ne.symm hne)).trans he) (Trc.size h1) fun h' F' U=>hQ h' F' fun b o hb hnf=>?_
  exact U b o ((other b (nr b o hb hnf)).trans hb) hnf
theorem Qgk {l:List Env}{Q:Unit→Shared→Prop}(F:Fly B l e C dd (some v) s.heap) (hQ:∀h',Fly B l e C dd (some .none) h'→s.heap.UpToSlots h'→Q () { s with heap:=h' }):wpAny M A (setFlight (.ref e) none) Q E s:=by
 refine gk fun Ω κ=>?_;obtain ⟨sl,vs,he,T,oT,ts,h1,hB,hne,hT,hd,h3⟩:=F.trc;have hs3:=(Array.getElem?_eq_some_iff.mp h3).1;have other:∀b,b≠T→(s.heap.update T (Obj.mapFields (·.setIfInBounds 3 ((none:Option Addr).elim Value.none fun f=>rawInt f)))).get? b=s.heap.get? b:=fun b hb=>Heap.get?_update_other _ _ (Ne.symm hb);have nr:∀b o,s.heap.get? b=some o→(∀vs,o.data≠.fields vs)→b≠T:=fun b o hb hnf q=>by
  rw [q,hT]at hb;cases hb;exact hnf ts hd
 refine κ ?_;unfold setFlight;refine wpAny_bind (wpAny_field he rfl h1 ?_);refine aP (show (Value.ref T != Value.none)=true from by rfl) ?_;refine wpAny_setField hT hd hs3 (hQ _ ⟨fun b o hb=>(other b fun q=>by rw [q,hB]at hb;exact nomatch hb).trans (F.stays b o hb),F.new,F.frames.of_keeps fun b o hb hnf=>⟨o,(other b (nr b o hb hnf)).trans hb,rfl⟩,sl,vs,(other e (Ne.symm hne)).trans he,T,_,_,h1,hB,hne,Heap.get?_update_self _ hT (Obj.isFreed_of_fields (Obj.data_mapFields hd _)),Obj.data_mapFields hd _,by simp [hs3]⟩ fun b o hb hnf=>⟨o.slots,(other b (nr b o hb hnf)).trans hb⟩)
theorem Qrb {fl:Option Value}{Q:Unit→Shared→Prop}(hfr:A.frames=some (env::outer)) (hf:env.frame=some L) (F:Fly B (env::outer) e C dd fl s.heap) (hfl:fl=none∨fl=some .none)
  (hQ:∀h',Fly B outer e C dd (some .none) h'→s.heap.UpToSlots h'→Q () { s with heap:=h' }):wpAny M A (leaving env (.ref e)) Q E s:=by
 unfold leaving;refine wpAny_bind (Qlv hfr hf F hfl fun h1 F1 U1=>Qgk (s:={ s with heap:=h1 }) F1 fun h2 F2 U2=>?_);exact hQ h2 ⟨F2.stays,F2.new,F2.frames.2.2,F2.trc⟩ (U1.trans U2)
end
section
variable {M:Model}
theorem Qqm {e:Addr}(he:h.get? e=some o):Looks M h (typeOf (.ref e)) o.cls:=(Looks.ld he).andThen .now
noncomputable def Ybh (C:Addr) (E:Value→Shared→Prop) (v:Value) (s₁:Shared):Prop:=
 X4 fun e dd sl vs=>A5 (v=.ref e) (s₁.heap.get? e=some { cls:=.ref C,dict:=dd,data:=.fields vs,slots:=sl }) (vs[1]?=some .none) (X16 fun nm q N bs bm hdct sn sub ab col ddC k0 k1 k2 k3 k5=>ExcC s₁.heap C nm q N bs bm hdct sn sub ab col ddC k0 k1 k2 k3 k5) (E (.ref e) s₁)
theorem Qrr {x:Expr}{Q:Flow→Shared→Prop}(hh:A.handled=none) (h:wpAny M A (eval x env) (Ybh C E) E s):wpAny M A (exec (.Raise (some x) none pos) env) Q E s:=by
 refine (?_:wpAny M A (do standAt pos;raiseStmt env (some (do let v ←eval x env;standAt pos;pure v)) none) Q E s);refine wpAny_bind (wpAny_standAt ?_);unfold raiseStmt;refine wpAny_bind (wpAny_bind (wpAny_mono h (fun v s₁ h₁=>wpAny_bind (wpAny_standAt (wpAny_pure ?_))) fun Y Y x=>x));obtain ⟨e,dd,sl,vs,rfl,he,h1,⟨nm,q,N,bs,bm,hdct,sn,sub,ab,col,ddC,k0,k1,k2,k3,k5,xC⟩,hE⟩:=h₁;obtain ⟨hp,g,d,tk,os⟩:=s₁;have hC:=xC.obj;have hnt:∀{Q':Bool→Shared→Prop},Q' false ⟨hp,g,d,tk,os⟩→wpAny M A (isType (.ref e)) Q' E ⟨hp,g,d,tk,os⟩:=by
  intro Q' hq;dsimp only [isType,loadHead];exact wpAny_bind (wpAny_loadPart he (wpAny_pure hq))
 have hty:∀{Q':Value→Shared→Prop},Q' (.ref C) ⟨hp,g,d,tk,os⟩→wpAny M A (typeOf (.ref e)) Q' E ⟨hp,g,d,tk,os⟩:=by
  intro Q' hq;exact (Qqm he).at hq
 refine wpAny_bind (wpAny_pure ?_);refine wpAny_bind (wpAny_holding ?_)
 delta excFromValue isExcClass
 refine wpAny_bind (wpAny_bind (hnt ?_));refine aN Bool.false_ne_true ?_;refine wpAny_pure ?_;refine aN Bool.false_ne_true ?_;unfold isInstance;refine wpAny_bind (wpAny_bind (hty (wpAny_isSubtype_exc hC ?_)));refine eqR ((by rw [List.contains_cons,xC.base,Bool.or_true]:(Value.ref C::bm).contains (.type "BaseException")=true)) ?_;dsimp only [if_true];refine wpAny_pure ?_;refine wpAny_bind (hnt ?_);refine aN Bool.false_ne_true ?_;unfold raisedInstance;refine wpAny_bind (wpAny_bind (hty (wpAny_bind ((Qqm hC).at ?_))));refine aP (show ((Value.type "type":Value)==Value.type "type")=true from by decide) ?_;refine wpAny_pure ?_;unfold setFlight;refine wpAny_bind (wpAny_bind (wpAny_field he rfl h1 ?_));refine aN (by decide) ?_;exact wpAny_pure (wpAny_raiseNew_none hh hE)
end
noncomputable def Yau (sc:Scope) (ss:List Stmt):Prop:=X9 fun s1 t x q1 es q2 q3 q4 rest=>A5 (ss=s1++.If t [.Raise (some (.Call (.Name x q1) es [] q2)) none q3] [] q4::rest) (Qbj sc Yq Qap s1=true) (isE sc Yq Qdn t=true) (Q6 sc "bounds_fault" x=true) (J0 sc Yq Qcw es=true)
theorem Qpu {sc:Scope}{ss:List Stmt}(h:Qgh sc ss=true):Yau sc ss:=by
 have g:=ba2 h;generalize eq:ss.drop 3=l at g
 revert eq
 refine mCK g fun s r g=>?_;refine Ydv g fun t b o q4 g1=>?_;refine mEK (ba1 (ba1 g1)) ?_;refine m1K (ba2 g1) fun u g2=>?_;refine Yhv g2 fun e c q3 g3=>?_;refine mNK (ba1 g3) ?_;refine mSK (ba2 g3) fun e g4=>?_;refine mFK g4 fun x q1 es q2 g5=>?_;intro eq;exact ⟨ss.take 3,t,x,q1,es,q2,q3,q4,r,by rw [←eq,List.take_append_drop],ba1 h,ba2 (ba1 g1),ba1 g5,ba2 g5⟩
noncomputable def Qbt (h:Heap) (l:List Env):Prop:=∀env∈l,env.scope.kind≠.module∧X2 fun L m=>env.frame=some L∧h.Ns L m
theorem Qbt.keeps {l:List Env}(o:Qbt h l) (k:∀a o m,h.Ns a m→h.get? a=some o→h'.get? a=some o):Qbt h' l:=fun env he=>by
 refine gk fun Ω κ=>?_;obtain ⟨h1,L,m,h2,h3⟩:=o env he;obtain ⟨ob,es,ep,e,r⟩:=id h3;refine κ ?_;exact ⟨h1,L,m,h2,ob,es,ep,k _ _ _ h3 e,r⟩
theorem Qbt.fun_frames {h B:Heap}:∀{l:List Env},Qbt h l→(∀a∈l.filterMap (·.frame),B.get? a=none)→h.FunFrames B l
 |[],_,_=>trivial
 |env::l,o,hb=>by
  refine gk fun Ω κ=>?_;obtain ⟨h1,L,m,h2,ob,es,ep,e,d,_⟩:=o env (.head _);refine κ ?_;refine ⟨h1,⟨L,ob,h2,hb L (List.mem_filterMap.mpr ⟨env,.head _,h2⟩),e,fun vs q=>by rw [d]at q;cases q⟩,Qbt.fun_frames (fun x hx=>o x (.tail _ hx)) fun a ha=>hb a ?_⟩;obtain ⟨x,hx,q⟩:=List.mem_filterMap.mp ha;exact List.mem_filterMap.mpr ⟨x,.tail _ hx,q⟩
section
variable {K:Frag}{ss:List Int}
structure Flew (P:Program) (w:World) (hB:Heap) (Γ:Gm) (TC:Addr) (z:Z) (g:Gs) (s:Shared) (outer:List Env) (z':Z) (s':Shared) (B h':Heap) (e d Lv:Addr) (mm:Str→Option Value) (vs:Array Value) (v:Value) (parts:List D):Prop where
 base:Base P w hB Γ z' g s'
 step:Step Γ z s z' s'
 new:s.heap.get? e=none
 ze:z' e=none
 inst:HI s'.heap e TC (.fields vs) (some d) mm
 zd:z' d=none
 dn:s.heap.get? d=none
 val:mm (Str.ofString "value")=some v
 rd:Rd P w Γ z' v (evD parts)
 lv:s.heap.get? Lv=none
 zl:z' Lv=none
 lne:Lv≠d∧Lv≠e
 inB:∀a o,s'.heap.get? a=some o→a≠e→a≠Lv→a∉outer.filterMap (·.frame)→B.get? a=some o
 notB:∀a o,B.get? a=some o→a≠e∧a≠Lv∧a∉outer.filterMap (·.frame)∧s'.heap.get? a=some o
 fly:Fly B outer e TC (some d) (some .none) h'
 up:s'.heap.UpToSlots h'
set_option tactic.hygienic true in
theorem Qmr (X:K.In hB) (W:Wd hB Γ mg mb) (hEx:mg (Str.ofString "Exception")=none∧mb (Str.ofString "Exception")=some (.type "Exception")) (T:ThrownK K TC RC) (hn:4≤n) (hO:OrcOk P w hB Γ mg (n+1) (orc glK (ss.map .int) n)) (hap:Γ.has=true→Γ.two=true→Γ.pA≠Γ.fA)
  (kt:okK K "thrown" 2 ["name","parts"] (Y1 "Thrown" ["name","parts"] Qkc)=true) (kb:okK K "bounds_fault" 2 ["value","indices"] (Y1 "thrown" ["value","indices"] Qy5)=true) {f:Addr}   (k2:fdK K fd 3 Yq=true) (k3:V9 fd Qgh=true) (m2:hB.get? f=some o) (m3:o.data=.func fd)
  (hA:AOk (n+4) A)  (hfr:A.frames=some outer) (hou:Qbt s.heap outer) (b:Base P w hB Γ z g s)      (r1:Rd P w Γ z v1 (.hnd .heap)) (r2:Rd P w Γ z v2 vd) (r3:Rd P w Γ z v3 (.lst (qs.map (·.pd))))
  (hv:Lay (ss.map .int) vd p ss fs) (hq:Qdl ss qs) (hbad:∃q∈qs,∃s,QBad s q)
  (hR:∀z' s' B h' e d Lv mm vs v parts,Flew P w hB Γ TC z g s outer z' s' B h' e d Lv mm vs v parts→R (.error (.ref e)) { s' with heap:=h' }):codeAny (model P w) A (.call (.ref f) ⟨[v1,v2,v3],[]⟩) R s:=by
 refine gk fun Ω κ=>?_;obtain ⟨fb,fdb,b1',b2',b3'⟩:=Qa2 kb;obtain ⟨mb1,ob,mb2,mb3⟩:=Qaa X W.g b1';obtain ⟨sts,hbody,hp⟩:=Ym k3;obtain ⟨ev1,ev2,ev3,ev4⟩:=Yaw (gl:=glK) (g:=g) (m:=n) hn hv hq hbad;refine κ ?_;refine Qux X W k2 hbody (ρ0:=[some (.hnd .heap),some vd,some (.lst (qs.map (·.pd)))]) m2 m3 hA b (.inl ⟨rfl,rfl⟩) rfl (hsS r1 (hsS r2 (hsS r3 hs0))) fun s₁ m en=>?_;obtain ⟨s1,t,x,q1,es,q2,q3,q4,rest,rfl,i1,i2,i3,i4⟩:=Qpu hp;have hA':=hA.deeper (env:=callEnvC fd s.heap.objs.size f);have hA1:AOk (n+1) (A.deeper (callEnvC fd s.heap.objs.size f)):=hA'.le ((Z10 0x350715071));have st0:=(en.step.ss (K:=Qi s.heap) fun c hc=>hc)
 refine Yi (Qbo W hO hap Qap _ _ _ _ _ _ _ _ _ _ _ _ _ _ _ _ i1 Qb9 hA1 en.base en.kp en.fro ev1 ⟨fun z2 s2 m2' Y b2 ss2 F2=>?_,fun Y Y Y Y q=>by cases q⟩);refine wpAny_execs_cons (wpAny_If ((Qxe W hO Qdn).2 _ _ _ _ _ _ _ _ _ _ _ _ _ _ _ i2 Qb9 hA1 b2 F2 ev2 fun z3 s3 b3 st3=>?_));refine eqR (if_pos rfl) ?_;have F3:=F2.step b2 b3 st3;refine wpAny_execs_cons (Qrr (C:=TC) hA'.hh ?_);refine wpAny_Call_ofName (Yf W b3 F3.fn F3.gl F3.bi Qb9 i3 (.inl mb1) ?_);refine Calls.callWith_function (o:=ob) (fd:=fdb) (Qu (Vl (env:=callEnvC fd s.heap.objs.size f) (pos:=q2) i4) ((Qbm W hO Qcw).1 _ _ _ _ _ _ _ _ _ _ _ _ _ _ _ _ i4 Qb9 hA1 b3 F3 ev3 fun vs4 z4 s4 b4 st4 r4=>⟨⟨Qg b4 _ _ mb2,mb3⟩,?_⟩));have F4:=F3.step b3 b4 st4;obtain ⟨_,_,rfl,ra,rb⟩:=Qz8 r4;refine wpAny_call (Qni X W hEx T ((Z10 890258710) hn) hO kt b2' b3' mb2 mb3 (es:=qs.map (·.ed)) (hA'.le ((Z10 0x350735071))) b4 ra rb (Nat.le_trans ev4 (by decide)) fun e z5 s5 xs=>?_);refine gk fun Ω κ=>?_;obtain ⟨d,vs,mm,val,parts,I,zd,hval,rv,hv1,nd⟩:=xs.exc;have st04:=(((st0.trans ss2).step).trans st3).trans st4;have st05:=st04.trans xs.step;have no:∀{a},s4.heap.get? a=none→s.heap.get? a=none:=fun {a} ha=>by
  cases q:s.heap.get? a with
  |none=>rfl
  |some o=>have:=st04.keep _ _ (Vc b4 ha) q;rw [ha]at this;exact nomatch this
 obtain ⟨lo,le,lp,l1,l2,_⟩:=id F4.ns;have lfree:=Y2 b4 F4.ns;obtain ⟨sl,he⟩:=I.obj;refine κ ?_;refine ⟨e,some d,sl,vs,rfl,he,hv1,Qgx (fun a o q=>Qg xs.base _ _ (X a o q):K.In s5.heap) T.exc,?_⟩;have hfl:(callEnvC fd s.heap.objs.size f).frame=some s.heap.objs.size:=rfl
 replace l1:s4.heap.get? s.heap.objs.size=some lo:=l1
 replace lfree:Γ.free s.heap.objs.size:=lfree
 let pp:Addr→Bool:=fun a=>!(a==e)&&!(a==s.heap.objs.size)&&!(outer.filterMap (·.frame)).contains a
 have gB:∀a,(Qdc s5.heap pp).get? a=if (a≠e∧a≠s.heap.objs.size∧a∉outer.filterMap (·.frame)) then s5.heap.get? a else none:=fun a=>by
  rw [Qbq];by_cases h:(a≠e∧a≠s.heap.objs.size∧a∉outer.filterMap (·.frame))
  ·refine eqR (if_pos h) ?_;rw [if_pos];simp only [pp,Bool.and_eq_true,Bool.not_eq_true',beq_eq_false_iff_ne,ne_eq];exact ⟨⟨h.1,h.2.1⟩,by rw [←Bool.not_eq_true,List.contains_iff_mem];exact h.2.2⟩
  ·refine eqR (if_neg h) ?_;rw [if_neg];intro q;simp only [pp,Bool.and_eq_true,Bool.not_eq_true',beq_eq_false_iff_ne,ne_eq]at q;exact h ⟨q.1.1,q.1.2,fun hm=>by rw [List.contains_iff_mem.mpr hm]at q;cases q.2⟩
 have inB:∀a o,s5.heap.get? a=some o→a≠e→a≠s.heap.objs.size→a∉outer.filterMap (·.frame)→(Qdc s5.heap pp).get? a=some o:=fun a o q h1 h2 h3=>by
  rw [gB];refine eqR (if_pos ⟨h1,h2,h3⟩) ?_;exact q
 have notB:∀a o,(Qdc s5.heap pp).get? a=some o→a≠e∧a≠s.heap.objs.size∧a∉outer.filterMap (·.frame)∧s5.heap.get? a=some o:=fun a o q=>by
  rw [gB]at q;split at q
  ·rename_i h;exact ⟨h.1,h.2.1,h.2.2,q⟩
  ·exact nomatch q
 have none_of:∀{a},(∀o,(Qdc s5.heap pp).get? a=some o→False)→(Qdc s5.heap pp).get? a=none:=fun {a} h=>by
  cases q:(Qdc s5.heap pp).get? a with
  |none=>rfl
  |some o=>exact (h o q).elim
 have FL:Fly (Qdc s5.heap pp) (callEnvC fd s.heap.objs.size f::outer) e TC (some d) none s5.heap:=by
  refine ⟨fun a o q=>(notB a o q).2.2.2,none_of fun o q=>(notB _ _ q).1 rfl,⟨by rw [F4.fn];decide,⟨_,lo,hfl,none_of fun o q=>(notB _ _ q).2.1 rfl,(xs.step.keep _ _ lfree l1),fun vs q=>by rw [l2]at q;cases q⟩,Qbt.fun_frames (hou.keeps fun a o m hn q=>st05.keep _ _ (Y2 b hn) q:Qbt s5.heap outer) fun a ha=>none_of fun o q=>(notB _ _ q).2.2.1 ha⟩,sl,vs,he,hv1⟩
 refine Qrb (Around.frames_deeper hfr:(A.deeper (callEnvC fd s.heap.objs.size f)).frames=some (callEnvC fd s.heap.objs.size f::outer)) hfl FL (.inl rfl) fun h6 FL6 U6=>?_;exact hR z5 s5 _ h6 e d s.heap.objs.size mm vs val parts ⟨xs.base,st05,no xs.new,xs.zn,I,zd,no nd,hval,rv,(Qe _:s.heap.get? s.heap.objs.size=none),((xs.step.fresh _ _ lfree l1).trans (F4.zl:z4 s.heap.objs.size=none):z5 s.heap.objs.size=none),⟨(fun q=>by rw [q,nd]at l1;exact nomatch l1:s.heap.objs.size≠d),(fun q=>by have n:=xs.new;rw [q,n]at l1;exact nomatch l1:s.heap.objs.size≠e)⟩,inB,notB,FL6,U6⟩
end
section
theorem Qrw {e:Expr}{kk:Nat}{kp:Pos}(hk:k<1000) (h:wpAny (model P w) A (eval e env) (fun o s₁=>X4 fun a vs n v=>A4 (o=.ref a) (s₁.heap.get? a=some (Qae vs n)) (vs[k]?=some v) (Q v { s₁ with toks:=s₁.toks+1 })) E s) :
  wpAny (model P w) A (eval (.Subscript e (.Constant (.int (k:Int)) kk kp) pos) env) Q E s:=by
 refine Qj8 rfl (wpAny_mono h (fun o s₁ h₁=>?_) fun Y Y x=>x);obtain ⟨a,vs,n,v,rfl,e1,e2,hQ⟩:=h₁;refine wpAny_Constant_int ⟨_,_,slot_tuple_getitem.lookup,⟨_,e1,rfl⟩,?_⟩;exact PySem.P.getItem_tuple (k:=k) (n:=n) (items:=vs.toArray) e1 (by omega) (by omega) (by rw [List.size_toArray];exact seqIndex_of ((Z10 41044)) (by simpa using ((List.getElem?_eq_some_iff.mp e2).1))) (by simpa using e2) hQ
theorem Ybe {t u:Tok}(hu:A.units+64<cLine) (h:Q (.bool true) s):wpAny (model P w) A (compareOp .Eq (.str (Str.ofString "BoundsError") t) (.str (Str.ofString "BoundsError") u)) Q E s:=by
 obtain ⟨as,ra⟩:=Qe5 (P:=P) (w:=w) (Γ:=Γ0) (z:=fun Y=>none) (h:=s.heap) (fun Y Y e=>by cases e) (Rd.str (Str.ofString "BoundsError") t) rfl;obtain ⟨bs,rb⟩:=Qe5 (P:=P) (w:=w) (Γ:=Γ0) (z:=fun Y=>none) (h:=s.heap) (fun Y Y e=>by cases e) (Rd.str (Str.ofString "BoundsError") u) rfl;refine eq_dataH ra rb (by decide +kernel) (by decide +kernel) hu ?_;have:PyData.eqv (.str (Str.ofString "BoundsError")) (.str (Str.ofString "BoundsError"))=true:=by decide +kernel
 refine eqR (this) ?_;exact h
end
section
variable {B:Heap}{e d Lv:Addr}{mm:Str→Option Value}{vs:Array Value}
theorem Qax {l:List Env}(ho:Qbt h l) (ha:a∈l.filterMap (·.frame)):∃m,h.Ns a m:=by
 refine gk fun Ω κ=>?_;obtain ⟨x,hx,q⟩:=List.mem_filterMap.mp ha;obtain ⟨_,L,m,h2,h3⟩:=ho x hx;rw [h2]at q;obtain rfl:=Option.some.inj q;refine κ ?_;exact ⟨m,h3⟩
theorem Qfu (x:h.Ns a m) (e:h.get? a=some (Vs us n)):False:=by
 obtain ⟨o,es,ep,e',d,_⟩:=x;rw [e]at e';cases e';cases d
theorem Flew.baseAt (fl:Flew P w hB Γ TC z g s outer z' s' B h' e d Lv mm vs v parts) (hz:∀a∈outer.filterMap (·.frame),z' a=none) (hb:Base P w hB Γ z g s) (ho:Qbt s.heap outer) {H:Heap}{t:Nat}(k:B.StaysIn H):Base P w hB Γ z' g { s' with heap:=H,toks:=t }:=by
 have inH:∀a o,s.heap.get? a≠none→a∉outer.filterMap (·.frame)→s'.heap.get? a=some o→H.get? a=some o:=fun a o hs hf ho'=>
  k _ _ (fl.inB _ _ ho' (fun q=>hs (q▸fl.new)) (fun q=>hs (q▸fl.lv)) hf)
 refine ⟨fun a o q=>k _ _ (fl.inB _ _ (fl.base.zin _ _ q) (fun q2=>by rw [q2,fl.ze]at q;exact nomatch q) (fun q2=>by rw [q2,fl.zl]at q;exact nomatch q) fun hm=>by rw [hz _ hm]at q;exact nomatch q),fl.base.zB,fun hh=>?_,fl.base.zpen,fun hh=>?_,fl.base.zflds⟩
 ·obtain ⟨t0,u0,n0,q0⟩:=hb.pen hh;obtain ⟨t1,u1,n1,q1⟩:=fl.base.pen hh;refine ⟨t1,u1,n1,inH _ _ (by rw [q0];simp) (fun hm=>?_) q1⟩;obtain ⟨m,hn⟩:=Qax ho hm;exact Qfu hn q0
 ·refine gk fun Ω κ=>?_;obtain ⟨vs0,n0,q0,_⟩:=hb.flds hh;obtain ⟨vs1,n1,q1,r1⟩:=fl.base.flds hh;refine κ ?_;refine ⟨vs1,n1,inH _ _ (by rw [q0];simp) (fun hm=>?_) q1,r1⟩;obtain ⟨m,hn⟩:=Qax ho hm;exact Qfu hn q0
end
noncomputable def Yfa (e:Expr):Prop:=X11 fun r1 r2 k1 p1 p2 k2 p3 p4 k3 p5 p6=>e=.Compare (.Subscript (.Subscript (.Attribute (.Name (Str.ofString "error") r1) (Str.ofString "value") r2) (.Constant (.int ((1:Nat):Int)) k1 p1) p2) (.Constant (.int ((1:Nat):Int)) k2 p3) p4) [.Eq] [.Constant (.str (Str.ofString "BoundsError")) k3 p5] p6
theorem Qth {e:Expr}(h:Yfv e=true):Yfa e:=by
 refine Qmz h fun l os rs p6 g=>?_;refine dK (ba1 (ba1 g)) ?_;refine m1K (ba2 (ba1 g)) fun r g1=>?_;refine Qng g1 fun c k3 p5 g2=>?_;obtain rfl:=of_decide_eq_true g2;refine Qjh (ba2 g) fun b i p4 g3=>?_;refine Qng (ba1 g3) fun c k2 p3 g4=>?_;obtain rfl:=of_decide_eq_true g4;refine Qjh (ba2 g3) fun f j p2 g5=>?_;refine Qng (ba1 g5) fun c k1 p1 g6=>?_;obtain rfl:=of_decide_eq_true g6;obtain ⟨r1,r2,rfl,_⟩:=Qbc (ba2 g5);exact ⟨r1,r2,k1,p1,p2,k2,p3,p4,k3,p5,p6,rfl⟩
noncomputable def Qtx (sc:Scope) (ss:List Stmt):Prop:=X12 fun x q1 es q2 q3 y q4 c q5 q6 q7 rest=>A6 (ss=.Try [.Expr (.Call (.Name x q1) es [] q2) q3] [.ExceptHandler (some (.Name y q4)) (some (Str.ofString "error")) [.Return (some c) q5] q6] [] [] q7::rest) (Q6 sc "view_of" x=true) (J0 sc Qc2 Quo es=true) (Q6 sc "Thrown" y=true) (Yfv c=true) (sc.names.lookup (Str.ofString "error")=some .local)
theorem Qjr {sc:Scope}{ss:List Stmt}(h:Qeq sc ss=true):Qtx sc ss:=by
 refine mCK h fun s rest g=>?_;refine Yiu (ba1 g) fun b hs o fi q7 g1=>?_;refine mEK (ba1 (ba1 (ba1 g1))) ?_;refine mEK (ba2 (ba1 (ba1 g1))) ?_;refine m1K (ba2 (ba1 g1)) fun u g2=>?_;refine Qy6 g2 fun v q3 g3=>?_;refine mFK g3 fun x q1 es q2 g4=>?_;refine m1K (ba2 g1) fun w g5=>?_;refine Yh2 g5 fun t n bd q6 g6=>?_;refine mSK (ba1 (ba1 g6)) fun t g7=>?_;refine Qmo g7 fun y q4 g8=>?_;refine mSK (ba2 (ba1 g6)) fun n g9=>?_;refine Yha g9 fun Y=>?_;refine mRK (ba2 g6) fun c q5 g10=>?_;exact ⟨x,q1,es,q2,q3,y,q4,c,q5,q6,q7,rest,rfl,ba1 g4,ba2 g4,g8,g10,eq_of_beq (ba2 g)⟩
section
variable {K:Frag}{ss:List Int}
structure Refd (P:Program) (w:World) (hB:Heap) (Γ:Gm) (z:Z) (g:Gs) (s:Shared) (outer:List Env) (z':Z) (s':Shared):Prop where
 base:Base P w hB Γ z' g s'
 eq:X2 fun h t=>s'={ s with heap:=h,toks:=t }
 keep:∀a o,Γ.free a→a∉outer.filterMap (·.frame)→s.heap.get? a=some o→s'.heap.get? a=some o
 ns:∀a m,s.heap.Ns a m→s'.heap.Ns a m
 le:ZLe z z'
 fresh:∀a o,Γ.free a→s.heap.get? a=some o→z' a=z a
theorem Qmv (X:K.In hB) (W:Wd hB Γ mg mb) (hEx:mg (Str.ofString "Exception")=none∧mb (Str.ofString "Exception")=some (.type "Exception")) (T:ThrownK K TC RC) (hn:4≤n) (hO:OrcOk P w hB Γ mg (n+1) (orc glK (ss.map .int) n)) (hap:Γ.has=true→Γ.two=true→Γ.pA≠Γ.fA)
  (kt:okK K "thrown" 2 ["name","parts"] (Y1 "Thrown" ["name","parts"] Qkc)=true) (kb:okK K "bounds_fault" 2 ["value","indices"] (Y1 "thrown" ["value","indices"] Qy5)=true) (kv:okK K "view_of" 3 Yq Qgh=true) {f:Addr}   (k2:fdK K fd 3 Qc2=true) (k3:V9 fd Qeq=true) (m2:hB.get? f=some o) (m3:o.data=.func fd)
  (hA:AOk (n+5) A)  (hfr:A.frames=some outer) (hou:Qbt s.heap outer) (hoz:∀a∈outer.filterMap (·.frame),z a=none) (b:Base P w hB Γ z g s)      (r1:Rd P w Γ z v1 (.hnd .heap)) (r2:Rd P w Γ z v2 vd) (r3:Rd P w Γ z v3 (.lst (qs.map (·.pd))))
  (hv:Lay (ss.map .int) vd p ss fs) (hq:Qdl ss qs) (hbad:∃q∈qs,∃s,QBad s q)
  (hR:∀z' s',Refd P w hB Γ z g s outer z' s'→R (.ok (.ret (.bool true))) s'):codeAny (model P w) A (.call (.ref f) ⟨[v1,v2,v3],[]⟩) R s:=by
 refine gk fun Ω κ=>?_;obtain ⟨fv,fdv,kv1,kv2,kv3⟩:=Qa2 kv;obtain ⟨mv1,ov,mv2,mv3⟩:=Qaa X W.g kv1;obtain ⟨⟨cd,cE⟩,cs1,cs2⟩:=Qju T.cls;obtain ⟨sts,hbody,hp⟩:=Ym k3;refine κ ?_;refine Jh X W k2 hbody (ρ0:=[some (.hnd .heap),some vd,some (.lst (qs.map (·.pd)))]) m2 m3 hA b (.inl ⟨rfl,rfl⟩) rfl (hsS r1 (hsS r2 (hsS r3 hs0))) fun s₁ m env E sc fr lc en=>?_;obtain ⟨x,q1,es,q2,q3,y,q4,c,q5,q6,q7,rest,rfl,i1,i2,i3,i4,i5⟩:=Qjr hp;obtain ⟨u1,u2,ck1,cp1,cp2,ck2,cp3,cp4,ck3,cp5,cp6,rfl⟩:=Qth i4;have hA':=hA.deeper (env:=env);have hfr':(A.deeper env).frames=some (env::outer):=Around.frames_deeper hfr;have F0:=en.fro;have hfl:=fr;have gsn:s.heap.get? env.locals=none:=lc▸Qe _;have ev:Yd (orc glK (ss.map .int) n) Quo ([some (.hnd .heap),some vd,some (.lst (qs.map (·.pd)))].map Qi1++List.replicate (Qc2.length-[some (D.hnd .heap),some vd,some (.lst (qs.map (·.pd)))].length) none) g=some ([.hnd .heap,vd,.lst (qs.map (·.pd))],g):=by
  exact Qd (Qa rfl:Qb (orc glK (ss.map .int) n) (.var 0) ([some (.hnd .heap),some vd,some (.lst (qs.map (·.pd)))].map Qi1++List.replicate (Qc2.length-[some (D.hnd .heap),some vd,some (.lst (qs.map (·.pd)))].length) none) g=some (.hnd .heap,g)) (Qd (Qd (Qa rfl:Qb (orc glK (ss.map .int) n) (.var 1) ([some (.hnd .heap),some vd,some (.lst (qs.map (·.pd)))].map Qi1++List.replicate (Qc2.length-[some (D.hnd .heap),some vd,some (.lst (qs.map (·.pd)))].length) none) g=some (vd,g)) (Qd (Qd (Qa rfl:Qb (orc glK (ss.map .int) n) (.var 2) ([some (.hnd .heap),some vd,some (.lst (qs.map (·.pd)))].map Qi1++List.replicate (Qc2.length-[some (D.hnd .heap),some vd,some (.lst (qs.map (·.pd)))].length) none) g=some (.lst (qs.map (·.pd)),g)) rfl) rfl)) rfl)
 refine wpAny_execs_cons (wpAny_Try_except ?_);refine wpAny_execs_cons (wpAny_Expr ?_ (by unfold interactive;rw [F0.fn];rfl) rfl);refine wpAny_Call_ofName (Yf W en.base F0.fn F0.gl F0.bi sc i1 (.inl mv1) ?_);refine Calls.callWith_function (o:=ov) (fd:=fdv) (Qu (Vl (env:=env) (pos:=q2) i2) ((Qbm W hO Quo).1 _ _ _ _ _ _ _ _ _ _ _ _ _ _ _ _ i2 sc (hA'.le ((Z10 0x450715071)):AOk (n+1) (A.deeper env)) en.base F0 ev fun vs2 z2 s2 b2 st2 r2'=>⟨⟨Qg b2 _ _ mv2,mv3⟩,?_⟩));cases r2' with
 |cons ra rr=>
 obtain ⟨_,_,rfl,rb,rc⟩:=Qz8 rr;have F2:=F0.step en.base b2 st2;have hou2:Qbt s2.heap (env::outer):=fun env he=>by
  rcases List.mem_cons.mp he with rfl|he
  ·exact ⟨by rw [F2.fn];decide,_,m,hfl,F2.ns⟩
  ·obtain ⟨h1,L,m',h2,h3⟩:=hou env he;obtain ⟨ob,es',ep,e,rr⟩:=id h3;exact ⟨h1,L,m',h2,ob,es',ep,st2.keep _ _ (Y2 b h3) (en.keep _ _ e),rr⟩
 refine wpAny_call (Qmr X W hEx T hn hO hap kt kb kv2 kv3 mv2 mv3 hA' hfr' hou2 b2 ra rb rc hv hq hbad fun z5 s5 B h6 e d Lv mm vs v parts FW=>?_);refine gk fun Ω κ=>?_;obtain ⟨lo,les,lep,l1,l2,_⟩:=id F2.ns
 replace l1:s2.heap.get? env.locals=some lo:=l1
 have lfree:Γ.free env.locals:=Y2 b2 F2.ns;have outz:∀a∈outer.filterMap (·.frame),z5 a=none∧a≠env.locals:=fun a ha=>by
  obtain ⟨m',hm⟩:=Qax hou ha;have ff:=Y2 b hm;obtain ⟨ob,es',ep,e',_⟩:=id hm;refine ⟨(FW.step.fresh _ _ ff (st2.keep _ _ ff (en.keep _ _ e'))).trans ((st2.fresh _ _ ff (en.keep _ _ e')).trans (hoz a ha)),fun q=>?_⟩;rw [q,gsn]at e';exact nomatch e'
 have hz5:∀a∈(env::outer).filterMap (·.frame),z5 a=none:=fun a ha=>by
  rw [List.filterMap_cons,hfl]at ha;rcases List.mem_cons.mp ha with rfl|ha
  ·exact (FW.step.fresh _ _ lfree l1).trans (F2.zl:z2 env.locals=none)
  ·exact (outz a ha).1
 have baseH:∀{H:Heap} {t:Nat},B.StaysIn H→Base P w hB Γ z5 g { s5 with heap:=H,toks:=t }:=fun k=>FW.baseAt hz5 b2 hou2 k;refine κ ?_;refine Qlv hfr' hfl FW.fly (.inr rfl) fun h7 F7 U7=>?_;refine Qgk F7 fun h8 F8 U8=>?_;have b8:=baseH (t:=s5.toks) F8.stays;refine wpAny_handleBy_cons (codeAny_handlers_test (Yf W b8 F2.fn F2.gl F2.bi sc i3 (.inl (Qcd X W.g T.n1)) ?_)) (by intro q;cases q);refine gk fun Ω κ=>?_;have X8:K.In h8:=fun a o q=>Qg b8 _ _ (X a o q);obtain ⟨nm,qn,N,bs,bm,hdct,sn,sub,ab,col,ddC,c0,c1,c2,c3,c5,xC⟩:=Qgx X8 T.exc;obtain ⟨sl8,vs8,he8,_⟩:=F8.trc;refine κ ?_;refine wpAny_excMatches_sub_self xC.obj he8 rfl xC.base (codeAny_handlers_suite_as ?_);refine Qgk F8 fun h9 F9 U9=>?_;have Uall:s5.heap.UpToSlots h9:=((FW.up.trans U7).trans U8).trans U9;have ns5:s5.heap.Ns env.locals m:=by
  obtain ⟨o1,es1,ep1,e1,rr⟩:=id (F2.ns:s2.heap.Ns env.locals m);exact ⟨o1,es1,ep1,FW.step.keep _ _ lfree e1,rr⟩
 have hkl:env.kindOf (Str.ofString "error")=some .local:=sc.lo _ i5;have hpk:(env.scope.kind==.class||(env.scope.kind==.module&&env.locals != env.globals))=false:=by rw [F2.fn];rfl
 refine wpAny_storeName_local hkl (Uall.ns ns5) (fun h10 hn10 hs10=>?_) hpk;refine gk fun Ω κ=>?_;have lrne:∀{a o},s.heap.get? a=some o→a≠env.locals:=fun q q2=>by rw [q2,gsn]at q;exact nomatch q
 have inFr:∀{a},a∉(env::outer).filterMap (·.frame)→a≠env.locals∧a∉outer.filterMap (·.frame):=fun h=>by
  rw [List.filterMap_cons,hfl]at h;exact ⟨fun q=>h (q▸.head _),fun q=>h (.tail _ q)⟩
 have mkFr:∀{a},a≠env.locals→a∉outer.filterMap (·.frame)→a∉(env::outer).filterMap (·.frame):=fun h1 h2 h=>by
  rw [List.filterMap_cons,hfl]at h;rcases List.mem_cons.mp h with h|h
  ·exact h1 h
  ·exact h2 h
 have st02:∀{a o},Γ.free a→s.heap.get? a=some o→s2.heap.get? a=some o:=fun ff q=>st2.keep _ _ ff (en.keep _ _ q);have outS:∀{a},a∈outer.filterMap (·.frame)→s2.heap.get? a≠none:=fun ha q=>by
  obtain ⟨m',hm⟩:=Qax hou ha;obtain ⟨ob,es',ep,e',_⟩:=id hm;rw [st02 (Y2 b hm) e']at q;exact nomatch q
 have B10:B.StaysIn h10:=fun a o q=>(hs10.2 a (inFr (FW.notB a o q).2.2.1).1).trans (F9.stays a o q);obtain ⟨sl9,vs9,he9,_⟩:=F9.trc;obtain ⟨hde,od,ed,edp,hd5,hd6⟩:=FW.inst.ns;have b10:Base P w hB Γ z5 g { s5 with heap:=h10,toks:=s5.toks+1 }:=baseH B10;obtain ⟨a0,w1,w2,w3,nv,rfl,ea0,rw2⟩:X5 fun a0 w1 w2 w3 nv=>A3 (v=.ref a0) (z5 a0=some (Qae [w1,w2,w3] nv)) (Rd P w Γ z5 w2 (.tup [.str (Str.ofString "name"),.str (Str.ofString "BoundsError"),.tup []])):=by
  have r:=FW.rd;unfold evD at r
  replace r:=Jx r
  obtain ⟨_,_,_,rfl,e1,r⟩:=r;obtain ⟨_,_,_,rfl,ra,rb,rc⟩:=Ybv r;exact ⟨_,_,_,_,_,rfl,e1,rb⟩
 obtain ⟨a1,x1,tk1,x3,nv1,rfl,ea1⟩:X5 fun a1 x1 tk1 x3 nv1=>w2=.ref a1∧z5 a1=some (Qae [x1,.str (Str.ofString "BoundsError") tk1,x3] nv1):=by
  obtain ⟨_,_,_,rfl,e1,r⟩:=Jx rw2;obtain ⟨_,_,_,rfl,ra,rb,rc⟩:=Ybv r;cases rb;exact ⟨_,_,_,_,_,rfl,e1⟩
 have fin:∀t,wpAny (model P w) (A.deeper env) (do bindName env (Str.ofString "error") .none;unbindBehindTheSuite env (Str.ofString "error") q6) (fun Y s'=>R (.ok (.ret (.bool true))) s')
   E { s5 with heap:=h10,toks:=t }:=fun t=>by
  refine wpAny_nameGoes hkl hn10 hpk fun h11 m11 hn11 hs11=>?_;have B11:B.StaysIn h11:=fun a o q=>(hs11.2 a (inFr (FW.notB a o q).2.2.1).1).trans (B10 a o q);obtain ⟨h1,t1,e1⟩:=en.step.eq;obtain ⟨h2,t2,e2⟩:=st2.eq;obtain ⟨h5,t5,e5⟩:=FW.step.eq;refine hR z5 _ ⟨baseH B11,⟨h11,t+1,by rw [e5,e2,e1]⟩,fun a o ff hf q=>?_,fun a m' hn=>?_,st2.le.trans FW.step.le,fun a o ff q=>(FW.step.fresh _ _ ff (st02 ff q)).trans (st2.fresh _ _ ff (en.keep _ _ q))⟩
  ·have q2:=st02 ff q;refine B11 _ _ (FW.inB _ _ (FW.step.keep _ _ ff q2) (fun q3=>?_) (fun q3=>?_) (mkFr (lrne q) hf))
   ·have n:=FW.new;rw [←q3,q2]at n;exact nomatch n
   ·have n:=FW.lv;rw [←q3,q2]at n;exact nomatch n
  ·have ff:=Y2 b hn;obtain ⟨ob,es',ep,e',rr⟩:=id hn;obtain ⟨o9,es9,ep9,e9,rr9⟩:=(Uall.ns (a:=a) (m:=m') ⟨ob,es',ep,FW.step.keep _ _ ff (st02 ff e'),rr⟩)
   have ne:=lrne e';exact ⟨o9,es9,ep9,(hs11.2 a ne).trans ((hs10.2 a ne).trans e9),rr9⟩
 refine κ ?_;refine wpAny_execs_cons (wpAny_Return_some (wpAny_Compare1 (Qrw (by decide) (Qrw (by decide) (Attribute_any_ (Qk5 F2.fn hn10 (.inl ⟨hkl,by simp⟩:Cur h10 env (fun y=>if y=Str.ofString "error" then some (.ref e) else m y) (Str.ofString "error") (.ref e)) (by decide:(Str.ofString "error"==("__debug__":Str))=false) (Qo1 (fun a o q=>Qg b10 _ _ (X a o q):K.In h10) cE cs1 (⟨⟨sl9,((hs10.2 e (fun q=>by have n:=FW.new;rw [q,l1]at n;exact nomatch n:e≠env.locals)).trans he9)⟩,hde,od,ed,edp,B10 _ _ (FW.inB d od hd5 hde FW.lne.1.symm (mkFr (fun q=>by have n:=FW.dn;rw [q,l1]at n;exact nomatch n:d≠env.locals) fun h=>outS h FW.dn)),hd6⟩:HI h10 e TC (.fields vs9) (some d) mm) (by intro c q;cases q) T.f3 FW.val rfl ?_)) rfl)))));refine ⟨a0,_,_,_,rfl,b10.zin _ _ ea0,rfl,a1,_,_,_,rfl,b10.zin _ _ ea1,rfl,wpAny_Constant_str (Ybe ?_ ?_)⟩
 ·have:=hA'.uni;refine (?_:(A.deeper env).units+64<cLine);exact (Z30 0x240260702c82645174e07706) this
 ·exact fin _
end
noncomputable def Yi1 (sc:Scope) (ss:List Stmt):Prop:=X12 fun st1 sA st2 sB x q1 es q2 q3 b3 q4 r=>A8 (ss=st1::(sA++st2::(sB++.If (.UnaryOp .Not (.Call (.Name x q1) es [] q2) q3) b3 [] q4::r))) (Qty sc st1=true) (Qbj sc Y5 Qlb sA=true) (Qt9 sc st2=true) (Qbj sc Y5 Qd4 sB=true) (Q6 sc "_law_is_refused" x=true) (J0 sc Y5 Qlm es=true) (Qbj sc Y5 Qep r=true)
theorem Qyg {sc:Scope}{ss:List Stmt}(h:Qzr sc ss=true):Yi1 sc ss:=by
 refine mCK h fun st1 r1 g=>?_;have gg:=ba2 g;generalize e2:r1.drop 2=l2 at gg
 revert e2
 refine mCK gg fun st2 r2 g1=>?_;have gh:=ba2 g1;generalize e3:r2.drop 4=l3 at gh
 revert e3
 refine mCK gh fun s3 r g2=>?_;refine Ydv (ba1 g2) fun t b3 o q4 g3=>?_;refine mEK (ba1 g3) ?_;refine Ydr (ba2 g3) fun op v q3 g4=>?_;refine dK (ba1 g4) ?_;refine mFK (ba2 g4) fun x q1 es q2 g5=>?_;intro e3 e2;refine ⟨st1,r1.take 2,st2,r2.take 4,x,q1,es,q2,q3,b3,q4,r,?_,ba1 (ba1 g),ba2 (ba1 g),ba1 (ba1 g1),ba2 (ba1 g1),ba1 g5,ba2 g5,ba2 g2⟩;refine eqL (e3) ?_;rw [List.take_append_drop,←e2,List.take_append_drop]
section
variable {K:Frag}{XC:Addr}
theorem Qzq (X:K.In s.heap) (W:Wd s.heap Γ0 mg mb) (hEx:mg (Str.ofString "Exception")=none∧mb (Str.ofString "Exception")=some (.type "Exception")) (hK:Yfm K HC TC XC RC=true) (hS:Qfp P w srt) {f:Addr}(hf:fnK K "law"=some (f,fd))
  (hA:AOk 16 A) (hfr:A.frames=some []) {L:Value} {ns:List Int} (hl:ns.length≤1048576) (r:Rd P w Γ0 (fun a=>s.heap.get? a) L (.lst (ns.map .int)))
  (hR:∀h' t,(∀a o,s.heap.get? a=some o→h'.get? a=some o)→R (.ok (.ret (.bool true))) { s with heap:=h',toks:=t }):codeAny (model P w) A (.call (.ref f) ⟨[L],[]⟩) R s:=by
 refine gk fun Ω κ=>?_;unfold Yfm at hK;simp only [Bool.and_eq_true]at hK;obtain ⟨⟨⟨⟨⟨⟨⟨⟨⟨⟨⟨hF,hG⟩,hP⟩,hH⟩,hM⟩,hT2⟩,hTh⟩,kt⟩,kb⟩,kv⟩,kr⟩,kl⟩:=hK;obtain ⟨f',fd',k1,k2,k3⟩:=Qa2 kl;rw [hf]at k1;cases k1;obtain ⟨_,o,m2,m3⟩:=Qaa X W.g hf;obtain ⟨sts,hbody,hp⟩:=Ym k3;obtain ⟨st1,sA,st2,sB,x,q1,es,q2,q3,b3,q4,rest,rfl,i1,iA,i2,iB,ix,ies,iC⟩:=Qyg hp
 let g0:Gs:=⟨0,0,[]⟩
 refine κ ?_;refine Jh X W k2 hbody (ρ0:=[some (.lst (ns.map .int))]) m2 m3 hA (⟨fun Y Y e=>e,fun Y Y e=>e,fun q=>(by exact nomatch q),fun q=>(by exact nomatch q),fun q=>(by exact nomatch q),fun q=>by cases q⟩:Base P w s.heap Γ0 (fun a=>s.heap.get? a) g0 s) (.inl ⟨rfl,rfl⟩) rfl (hsS r hs0) fun s1 m env E sc fr lc en=>?_;have hA':=hA.deeper (env:=env);refine wpAny_execs_cons (Yaa X W (Qpy X W hF hG (by intro q;exact nomatch q) hS (Qmm rfl) 0:OrcOk P w s.heap Γ0 mg 1 (orc glK [] 0)) hP hH (hA'.le (by decide)) i1 sc hl en.base en.kp en.fro fun pA hA0 dA lA z2 g2 s2 m2' n0 n1 A1=>?_);have s0n:∀{a},s1.heap.get? a=none→s.heap.get? a=none:=fun {a} ha=>by
  cases q:s.heap.get? a with
  |none=>rfl
  |some o=>have:=en.keep _ _ q;rw [ha]at this;exact nomatch this
 have W1:Wd s.heap (Γ1 pA hA0) mg mb:=W.any;have hO1:OrcOk P w s.heap (Γ1 pA hA0) mg 11 (orc glK [] 10):=Qpy X W1 hF hG (by intro _ q;exact Bool.noConfusion q) hS (Qmm rfl) 10;have fr1:∀{c},c≠pA→(Γ1 pA hA0).free c:=fun h=>⟨fun Y=>h,fun q=>by cases q⟩
 have k0:∀a,Qi s.heap a→a≠pA∧a≠lA:=fun a ⟨o,e⟩=>⟨fun q=>(by rw [q,s0n A1.new.1]at e;exact nomatch e),fun q=>(by rw [q,s0n A1.new.2.2.2]at e;exact nomatch e)⟩
 obtain ⟨ss,g3,hbd,hl1,hl3,hfl,runA⟩:=Qwz (gl:=glK) (sz:=[]) (n:=10) g2 (by decide) (vv (.lst (ns.map .int))) (vv (.hnd .raw));have hb:Bd ss:=fun s hs=>by have:=hbd s hs;exact (Z01 0x4504005474504015476) this
 refine Yi (Qbo W1 hO1 (by intro _ q;exact Bool.noConfusion q) Qlb _ _ _ _ _ _ _ _ _ _ _ _ _ _ _ _ iA sc (hA'.le (by decide)) A1.base A1.kp A1.fro runA ⟨fun z3 s3 m3' Y b3' ss3 F3=>?_,fun Y Y Y Y q=>by cases q⟩);have I3:HI s3.heap hA0 HC .plain (some dA) (Qjs (fun Y=>none) (Str.ofString "things") (.ref lA)):=A1.inst.keeps fun b o hb e=>by
  rcases hb with rfl|hb
  ·exact ss3.keep _ _ (.inr (.inl rfl)) (fr1 A1.pne.1.symm) e
  ·cases hb;exact ss3.keep _ _ (.inr (.inr (.inl rfl))) (fr1 A1.pne.2.1.symm) e
 obtain ⟨nl,hll⟩:=A1.lst;refine wpAny_execs_cons (Qzx (n:=10) (K:=Qi s.heap) (HC:=HC) (TC:=TC) X W1 (by decide) hO1 hM hT2 (hA'.le (by decide)) i2 sc b3' (d0:=.lst (ns.map .int)) hb hl3 F3 (A1.kp.ss b3' ss3) k0 A1.pne (⟨(ss3.fresh _ (.inr (.inl rfl)) (fr1 A1.pne.1.symm)).trans A1.zn.1,(ss3.fresh _ (.inr (.inr (.inl rfl))) (fr1 A1.pne.2.1.symm)).trans A1.zn.2.1,(ss3.fresh _ (.inr (.inr (.inr rfl))) (fr1 A1.pne.2.2.symm)).trans A1.zn.2.2⟩:z3 hA0=none∧z3 dA=none∧z3 lA=none) I3 ⟨nl,(ss3.keep _ _ (.inr (.inr (.inr rfl))) (fr1 A1.pne.2.2.symm) hll)⟩ fun hB2 Γ z4 s4 m4 A2=>?_);refine gk fun Ω κ=>?_;have hO2:OrcOk P w hB2 Γ mg 11 (orc glK (ss.map .int) 10):=Qpy A2.frag A2.wd hF hG A2.ap hS A2.att 10;obtain ⟨c6,c7,c8,c9,c10,c11,g5,qs,g6,ρ',g7,runB,hnc,evB,hq,hbad,runC⟩:=Qwl (gl:=glK) (n:=10) (by decide) hbd hl1 hl3 (⟨rfl,by have:=Qci hb hl3;rw [Q9];exact (Z01 0x100000660b14026046) this⟩:FOk (⟨g3.p0,g3.p1,(rg (Ya 1 ss)).map Ye⟩:Gs) (rg (Ya 1 ss))) (vv (.lst (ns.map .int)));refine κ ?_;refine Yi (Qbo A2.wd hO2 A2.ap Qd4 _ _ _ _ _ _ _ _ _ _ _ _ _ _ _ _ iB sc (hA'.le (by decide)) A2.base A2.kp A2.fro runB ⟨fun z5 s5 m5 Y b5 ss5 F5=>?_,fun Y Y Y Y q=>by cases q⟩);have kp5:=A2.kp.ss b5 ss5;refine gk fun Ω κ=>?_;obtain ⟨f2,fdr,r1,r2,r3⟩:=Qa2 kr;obtain ⟨mr1,or,mr2,mr3⟩:=Qaa A2.frag A2.wd.g r1;have evR:Yd (orc glK (ss.map .int) 10) Qlm [vv (.lst (ns.map .int)),vv (.hnd .pen),vv (.hnd .heap),vv (tI ss),vv (.lst ((grd [[]] ss).map tI)),vv Ji,c6,c7,c8,c9,c10,c11,none,none,none] g5=some ([.hnd .heap,Ji,.lst (qs.map (·.pd))],g6):=by
  exact Qd (Qa rfl:Qb (orc glK (ss.map .int) 10) (.var 2) [vv (.lst (ns.map .int)),vv (.hnd .pen),vv (.hnd .heap),vv (tI ss),vv (.lst ((grd [[]] ss).map tI)),vv Ji,c6,c7,c8,c9,c10,c11,none,none,none] g5=some (.hnd .heap,g5)) (Qd (Qd (Qa rfl:Qb (orc glK (ss.map .int) 10) (.var 5) [vv (.lst (ns.map .int)),vv (.hnd .pen),vv (.hnd .heap),vv (tI ss),vv (.lst ((grd [[]] ss).map tI)),vv Ji,c6,c7,c8,c9,c10,c11,none,none,none] g5=some (Ji,g5)) (Qd (Qd evB rfl) rfl)) rfl)
 refine κ ?_;refine wpAny_execs_cons (wpAny_If (wpAny_isTrue_Not ?_));refine (?_:wpAny _ _ (do let v ←eval (.Call (.Name x q1) es [] q2) env;standAt (Expr.Call (.Name x q1) es [] q2).pos;holding [v] (truthy v)) _ _ _);refine wpAny_bind (wpAny_Call_ofName (Yf A2.wd b5 F5.fn F5.gl F5.bi sc ix (.inl mr1) ?_));refine Calls.callWith_function (o:=or) (fd:=fdr) (Qu (Vl (env:=env) (pos:=q2) ies) ((Qbm A2.wd hO2 Qlm).1 _ _ _ _ _ _ _ _ _ _ _ _ _ _ _ _ ies sc (hA'.le (by decide)) b5 F5 evR fun vs6 z6 s6 b6 st6 r6=>⟨⟨Qg b6 _ _ mr2,mr3⟩,?_⟩));have F6:=F5.step b5 b6 st6;have ss6:=st6.ss kp5;obtain ⟨_,_,_,rfl,ra,rb,rc⟩:=Ybv r6;have hou:Qbt s6.heap [env]:=fun env he=>by
  rcases List.mem_cons.mp he with rfl|he
  ·exact ⟨by rw [F6.fn];decide,_,m5,fr,F6.ns⟩
  ·exact nomatch he
 have hfm:[env].filterMap (·.frame)=[env.locals]:=by rw [List.filterMap_cons,fr];rfl
 have zl6:z6 env.locals=none:=F6.zl;refine wpAny_call (Qmv (n:=10) A2.frag A2.wd hEx (Qnd hTh) (by decide) hO2 A2.ap kt kb kv r2 r3 mr2 mr3 hA' (Around.frames_deeper hfr:(A.deeper env).frames=some [env]) hou (fun a ha=>by rw [hfm]at ha;rcases List.mem_cons.mp ha with rfl|ha;exact zl6;cases ha) b6 ra rb rc (Qgz hb hl3) hq hbad fun z7 s7 RF=>?_);refine wpAny_bind (wpAny_standAt (wpAny_holding (wpAny_truthy_bool ?_)));refine eqR (if_neg (by decide)) ?_;refine wpAny_execs_nil ?_;have nin:∀{a},a≠env.locals→a∉[env].filterMap (·.frame):=fun h hm=>by
  rw [hfm]at hm;rcases List.mem_cons.mp hm with h'|h'
  ·exact h h'
  ·exact nomatch h'
 have ns6:s6.heap.Ns env.locals m5:=F6.ns;have cellne:∀{c v},s6.heap.IsCell c v→c≠env.locals:=fun ⟨o,e,d⟩ q=>by
  obtain ⟨o',es',ep,e',d',_⟩:=ns6;rw [q,e']at e;cases e;rw [d']at d;cases d
 have F7:Fro P w Γ (K1 (Qi s.heap) hA0 dA lA) z7 s7.heap env Y5 [vv (.lst (ns.map .int)),vv (.hnd .pen),vv (.hnd .heap),vv (tI ss),vv (.lst ((grd [[]] ss).map tI)),vv Ji,c6,c7,c8,c9,c10,c11,none,none,none] m5:=by
  refine F6.re (Qkp ?_) (fun v d r=>r.le RF.le) (RF.ns _ _ F6.ns) ?_ F6.kl (fun c v o hc e=>RF.keep _ _ (Yp b6 hc) (nin (cellne hc)) e) (fun c v hc zc kc=>⟨?_,kc⟩)
  ·have nco:∀c∈[c6,c7,c8,c9,c10,c11],Yd5 c=true:=fun c hc=>by
    rcases hnc c hc with rfl|⟨d,rfl⟩<;>rfl
   simp only [List.all_cons,List.all_nil,Bool.and_true,nco c6 (by exact .head _),nco c7 (mI 1 rfl),nco c8 (mI 2 rfl),nco c9 (mI 3 rfl),nco c10 (mI 4 rfl),nco c11 (mI 5 rfl)]
   rfl
  ·obtain ⟨o',es',ep,e',_⟩:=id ns6;exact (RF.fresh _ _ (Y2 b6 ns6) e').trans zl6
  ·have cf:=Yp b6 hc;obtain ⟨o',e',_⟩:=hc;exact (RF.fresh _ _ cf e').trans zc
 have kp7:Kp (K1 (Qi s.heap) hA0 dA lA) s7.heap:=fun a ka=>by
  obtain ⟨o,e⟩:=(kp5.ss b6 ss6) a ka;by_cases hf:Γ.free a
  ·exact ⟨o,RF.keep _ _ hf (nin fun q=>(F6.kl:¬K1 (Qi s.heap) hA0 dA lA env.locals) (q▸ka)) e⟩
  ·unfold Gm.free at hf;by_cases h1:Γ.has=true∧a=Γ.pA
   ·obtain ⟨t,u,n,q⟩:=RF.base.pen h1.1;exact ⟨_,by rw [h1.2];exact q⟩
   ·have h1':Γ.has=true→a≠Γ.pA:=fun x y=>h1 ⟨x,y⟩;by_cases h2:Γ.two=true
    ·have h3:a=Γ.fA:=Classical.byContradiction fun q=>hf ⟨h1',fun Y=>q⟩;obtain ⟨vs,n,q,_⟩:=RF.base.flds h2;exact ⟨_,by rw [h3];exact q⟩
    ·exact absurd ⟨h1',fun q=>absurd q h2⟩ hf
 refine Qbo A2.wd hO2 A2.ap Qep _ _ _ _ _ _ _ _ _ _ _ _ _ _ _ _ iC sc (hA'.le (by decide)) RF.base kp7 F7 runC ⟨fun Y Y Y q=>(by exact nomatch q),fun d v z8 s8 q b8 ss8 r8=>?_⟩;cases q;refine eqR (Vt r8) ?_;refine gk fun Ω κ=>?_;obtain ⟨h1,t1,e1⟩:=en.step.eq;obtain ⟨h2,t2,e2⟩:=A1.eq;obtain ⟨h3,t3,e3⟩:=ss3.eq;obtain ⟨h4,t4,e4⟩:=A2.eq;obtain ⟨h5,t5,e5⟩:=ss5.eq;obtain ⟨h6,t6,e6⟩:=st6.eq;obtain ⟨h7,t7,e7⟩:=RF.eq;obtain ⟨h8,t8,e8⟩:=ss8.eq;have key:s8={ s with heap:=h8,toks:=t8 }:=by rw [e8,e7,e6,e5,e4,e3,e2,e1]
 have keepAll:∀a o,s.heap.get? a=some o→s8.heap.get? a=some o:=fun a o e=>by
  have ka:Qi s.heap a:=⟨o,e⟩
  have ff:=A2.free a ka;exact ss8.keep _ _ (.inl ka) ff (RF.keep _ _ ff (nin fun q=>by rw [q,(lc▸Qe _:s.heap.get? env.locals=none)]at e;exact nomatch e) (ss6.keep _ _ (.inl ka) ff (ss5.keep _ _ (.inl ka) ff (A2.keep _ _ ka (ss3.keep _ _ (.inl ka) (fr1 (k0 a ka).1) (A1.keep _ _ ka (en.keep _ _ e)))))))
 refine κ ?_;rw [key]at keepAll ⊢;exact hR h8 t8 keepAll
end
noncomputable abbrev SS':=StateT SortSt Sem
noncomputable abbrev TT (α:Type):=SortSt→Option (α×SortSt)
noncomputable def tP {α:Type} (a:α):TT α:=fun st=>some (a,st)
noncomputable def tB {α β:Type} (m:TT α) (f:α→TT β):TT β:=fun st=>@Option.rec (α×SortSt) (fun Y=>Option (β×SortSt)) none (fun r=>@Prod.rec α SortSt (fun Y=>Option (β×SortSt)) f r) (m st)
noncomputable def tL {β:Type} (g:Nat→β→TT (ForInStep β)) (n:Nat):Nat→β→TT β:=@Nat.rec (fun Y=>Nat→β→TT β) (fun Y c=>tP c) (fun Y ih i c=>tB (g i c) fun r=>@ForInStep.rec β (fun Y=>TT β) tP (ih (i+1)) r) n
noncomputable def Yb3:Value→Bool
 |.int _ _=>true
 |_=>false
noncomputable def tLt (x y:Keyed):TT (Option Bool):=fun st=>@Bool.rec (fun Y=>Option (Option Bool×SortSt)) none (some (some (decide (numOf x.1<numOf y.1)),st)) (Yb3 x.1&&Yb3 y.1)
noncomputable def tlL (l:List Keyed):List Keyed:=@List.rec Keyed (fun Y=>List Keyed) [] (fun Y t Y=>t) l
noncomputable def dr8 (l:List Keyed):List Keyed:=tlL (tlL (tlL (tlL (tlL (tlL (tlL (tlL l)))))))
noncomputable def Ygv (l:List Keyed) (i:Nat):Option Keyed:=@List.rec Keyed (fun Y=>Nat→Option Keyed) (fun Y=>none) (fun a Y ih i=>@Nat.rec (fun Y=>Option Keyed) (some a) (fun n Y=>ih n) i) l i
noncomputable def Yhn (j k:Nat):List Keyed→Option Keyed:=@Nat.rec (fun Y=>List Keyed→Option Keyed) (fun l=>Ygv l j) (fun Y ih l=>ih (dr8 l)) k
noncomputable def nth (l:List Keyed) (i:Nat):Option Keyed:=Yhn (i % 8) (i / 8) l
theorem Qxp (l:List Keyed):∀i,Ygv l i=l[i]?:=by
 induction l with
 |nil=>intro i;rfl
 |cons a l ih=>intro i;cases i with
  |zero=>rfl
  |succ n=>exact ih n
theorem Qaj (l:List Keyed) (i:Nat):(tlL l)[i]?=l[i+1]?:=by cases l<;>rfl
theorem Qwb (j:Nat):∀(k:Nat) (l:List Keyed),Yhn j k l=l[8*k+j]?:=fun k=>by
 induction k with
 |zero=>intro l;rw [Nat.mul_zero,Nat.zero_add];exact Qxp l j
 |succ k ih=>
  intro l;refine (ih (dr8 l)).trans ?_;rw [dr8,Qaj,Qaj,Qaj,Qaj,Qaj,Qaj,Qaj,Qaj];exact congrArg (fun i=>l[i]?) (Nat.add_right_comm (8*k) j 8)
theorem Qu1 (l:List Keyed) (i:Nat):nth l i=l[i]?:=(Qwb _ _ l).trans (congrArg (fun i=>l[i]?) (Nat.div_add_mod i 8))
noncomputable def tE (arr:Array Keyed) (i:Nat):TT Keyed:=fun st=>@Option.rec Keyed (fun Y=>Option (Keyed×SortSt)) none (fun p=>some (p,st)) (nth arr.toList i)
noncomputable def Sim {α:Type} (m:SS' α) (p:TT α):Prop:=∀(P:Program) (w:World) (A:Around) (E:Value→Shared→Prop) (s:Shared) (st:SortSt) (r:α×SortSt),kindOf st=oneType'→p st=some r→kindOf r.2=oneType'∧∀Q:α→SortSt→Prop,Q r.1 r.2→wpS (model P w) A E s m Q st
noncomputable abbrev Tw {α:Type} (m:SS' α):Type:={p:TT α // Sim m p}
section
variable {m:SS' α}{p:TT α}{x y:SS' α}{f:α→SS' β}{q:α→TT β}
noncomputable def Vm:Tw m:=⟨fun Y=>none,fun Y Y Y Y Y Y Y Y e=>by cases e⟩
theorem Qg3 {a:α}:Sim (pure a) (tP a):=fun Y Y Y Y Y Y Y k e=>by cases e;exact ⟨k,fun Y h=>wpS_pure h⟩
noncomputable def Y0 {a:α}:Tw (pure a):=⟨tP a,Qg3⟩
theorem Ql4 (h:Sim m p) (k:∀a,Sim (f a) (q a)):Sim (m >>= f) (tB p q):=fun P w A E s st r o e=>by
 unfold tB at e;cases e1:p st with
 |none=>rw [e1]at e;cases e
 |some r1=>
  rw [e1]at e;have a:=h P w A E s st r1 o e1;have b:=k r1.1 P w A E s r1.2 r a.1 e;exact ⟨b.1,fun Q hQ=>wpS_bind (a.2 _ (b.2 Q hQ))⟩
noncomputable def Qw (h:Tw m) (k:∀a,Tw (f a)):Tw (m >>= f):=⟨tB h.1 fun a=>(k a).1,Ql4 h.2 fun a=>(k a).2⟩
noncomputable def Yk {τ:Type} {m:SS' (Option τ)} {f:Option τ→SS' β} (h:Tw m) (k:∀a,Tw (f (some a))):Tw (m >>= f):=Qw h fun a=>@Option.rec τ (fun a=>Tw (f a)) Vm k a
noncomputable def Yg {ρ τ:Type} {m:SS' (Option ρ×τ)} {f:Option ρ×τ→SS' β} (h:Tw m) (k:∀v,Tw (f (none,v))) (k1:∀r v,Tw (f (some r,v))):Tw (m >>= f):=Qw h fun a=>@Option.rec ρ (fun r=>∀v,Tw (f (r,v))) k k1 a.1 a.2
noncomputable def V7:Tw (get:SS' SortSt):=⟨fun st=>some (st,st),fun P w A E s st r o e=>by
 cases e;exact ⟨o,fun Q hQ=>wpS_get hQ⟩⟩
noncomputable def Qem {f:SortSt→SortSt} (h:∀st,kindOf (f st)=kindOf st):Tw (modify f):=⟨fun st=>some (⟨⟩,f st),fun P w A E s st r o e=>by
 cases e;exact ⟨(h st).trans o,fun Q hQ=>wpS_modify hQ⟩⟩
noncomputable def Qys (k:SortKind):Bool:=by
 cases k
 ·exact false
 ·exact true
 ·exact false
theorem Qsu {k:SortKind}(h:Qys k=true):k=oneType':=by cases k<;>first|rfl|cases h
noncomputable def Qe4 {s':SortSt}:Tw (set s'):=⟨fun Y=>@Bool.rec (fun Y=>Option (PUnit×SortSt)) none (some (⟨⟩,s')) (Qys (kindOf s')),fun P w A E s st r o e=>by
 cases h:Qys (kindOf s') with
 |false=>rw [h]at e;cases e
 |true=>rw [h]at e;cases e;exact ⟨Qsu h,fun Q hQ=>(wpAny_pure ⟨rfl,hQ⟩:wpAny (model P w) A _ _ E s)⟩⟩
noncomputable def Qe9 {t:String}:Tw (liftM (unsupported t:Sem α)):=Vm
noncomputable def Vr {t:String}:Tw (liftM (rule t)):=⟨tP ⟨⟩,fun P w A E s st r o e=>by
 cases e;exact ⟨o,fun Q hQ=>wpS_lift (wpAny_rule ⟨rfl,hQ⟩)⟩⟩
theorem Qrl (h:Yb3 v=true):∃n t,v=.int n t:=by
 cases v<;>first|exact ⟨_,_,rfl⟩|cases h
theorem Yca {x y:Keyed}:Sim (lt' x y) (tLt x y):=fun P w A E s st r o e=>by
 obtain ⟨x,p⟩:=x;obtain ⟨y,q⟩:=y;unfold tLt at e;cases hx:Yb3 x with
 |false=>rw [hx]at e;cases e
 |true=>
 cases hy:Yb3 y with
 |false=>rw [hx,hy]at e;cases e
 |true=>
 obtain ⟨a,t,rfl⟩:=Qrl hx;obtain ⟨b,u,rfl⟩:=Qrl hy;cases e;exact ⟨o,fun Q hQ=>by
  rw [lt'_eq];refine wpS_bind (wpS_get ?_);rw [o,keyLt'_oneType];refine wpS_bind (wpS_lift (wpAny_attempt (oneLt_int ⟨rfl,?_⟩)));exact wpS_pure hQ⟩
noncomputable def sLt {x y:Keyed}:Tw ((sortPriv% PySem.Builtin.lt) x y):=⟨tLt x y,Yca⟩
noncomputable def Y3 {arr:Array Keyed} {i:Nat}:Tw ((sortPriv% PySem.Builtin.elem) arr i):=⟨tE arr i,fun P w A E s st r o e=>by
 unfold tE at e;cases e1:nth arr.toList i with
 |none=>rw [e1]at e;cases e
 |some v=>
  rw [e1]at e;cases e;exact ⟨o,fun Q hQ=>by refine (?_:wpS _ _ _ _ (elem' arr i) _ _);rw [elem'_eq,show arr[i]?=some v from (Array.getElem?_toList ..).symm.trans ((Qu1 ..).symm.trans e1)];exact wpS_pure hQ⟩⟩
noncomputable def Qb0 {c:Prop} {d:Decidable c} (h:Tw x) (k:Tw y):Tw (@ite _ c d x y):=⟨@Decidable.rec c (fun Y=>TT α) (fun Y=>k.1) (fun Y=>h.1) d,by
 cases d with
 |isTrue q=>exact h.2
 |isFalse q=>exact k.2⟩
theorem Qw1 {f:Nat→β→SS' (ForInStep β)}{g:Nat→β→TT (ForInStep β)}(h:∀i c,Sim (f i c) (g i c)) {a b:Nat}{c:β}:Sim (forIn [a:b] c f) (tL g (b-a) a c):=by
 rw [Std.Legacy.Range.forIn_eq_forIn_range'];rw [show ([a:b]:Std.Legacy.Range).size=b-a by simp [Std.Legacy.Range.size]];refine (?_:Sim (forIn (List.range' a (b-a) 1) c f) _);generalize b-a=n
 induction n generalizing a c with
 |zero=>exact Qg3
 |succ n ih=>
  rw [List.range'_succ,List.forIn_cons];refine Ql4 (h a c) fun r=>?_;cases r with
  |done c=>exact Qg3
  |yield c=>exact ih
noncomputable def Qcx {β:Type} {f:Nat→β→SS' (ForInStep β)} (h:∀i c,Tw (f i c)) {a b:Nat} {c:β}:Tw (forIn [a:b] c f):=⟨tL (fun i c=>(h i c).1) (b-a) a c,Qw1 fun i c=>(h i c).2⟩
end
noncomputable def Yat (i j:Nat):Tw ((sortPriv% PySem.Builtin.ltAt) i j):=by
  first|refine Yk ?_ fun v=>?_|refine Yg ?_ (fun v=>?_) fun r v=>?_|refine Qw ?_ fun v=>?_
  repeat (first
   |(with_reducible first
     |refine Qw V7 fun g=>?_
     |refine Yk ?_ fun v=>?_
     |refine Yg ?_ (fun v=>?_) fun r v=>?_
     |refine Qw ?_ fun v=>?_
     |exact sLt
     |exact Y3
     |exact Y0
     |refine Qb0 ?_ ?_
     |exact Vr
     |exact V7
     |exact Qem fun Y=>rfl
     |exact Qe9
     |exact Qe4
     |refine Qcx fun Y v=>?_)
   |dsimp only
   |(cases v with
    |none=>exact Vm
    |some v=>?_)
   |(cases r with
    |none=>?_
    |some v=>?_)
   |(cases v with
    |mk r v=>?_))
noncomputable def Yhz {i j:Nat}:Tw ((sortPriv% PySem.Builtin.reverseSlice) i j):=Qem fun Y=>rfl
noncomputable def dlL (l:List Keyed) (d:Nat):List Keyed:=@List.rec Keyed (fun Y=>Nat→List Keyed) (fun Y=>[]) (fun a t ih d=>@Nat.rec (fun Y=>List Keyed) t (fun d Y=>a::ih d) d) l d
noncomputable def inL (x:Keyed) (d:Nat) (l:List Keyed) (j:Nat):List Keyed:=@List.rec Keyed (fun Y=>Nat→List Keyed) (fun Y=>[x]) (fun a t ih j=>@Nat.rec (fun Y=>List Keyed) (x::dlL (a::t) d) (fun j Y=>a::ih j) j) l j
noncomputable def mvL (l:List Keyed) (x:Keyed) (i j:Nat):List Keyed:=inL x (i-j) l j
theorem Yax (l:List Keyed):∀d,dlL l d=l.eraseIdx d:=by
 induction l with
 |nil=>intro d;rfl
 |cons a l ih=>intro d;cases d with
  |zero=>rfl
  |succ d=>exact congrArg (a::·) (ih d)
theorem Qzv (x:Keyed) (d:Nat) (l:List Keyed):∀j,inL x d l j=l.take j++x::(l.drop j).eraseIdx d:=by
 induction l with
 |nil=>intro j;cases j<;>rfl
 |cons a l ih=>intro j;cases j with
  |zero=>exact congrArg (x::·) (Yax (a::l) d)
  |succ j=>exact congrArg (a::·) (ih j)
theorem Qrf {xs:Array Keyed}{x:Keyed}(hx:xs[i]?=some x) (hj:j≤i):bubble xs i (i-j)=⟨mvL xs.toList x i j⟩:=by
 have hi:i<xs.size:=(Array.getElem?_eq_some_iff.mp hx).1;refine Array.ext' (List.ext_getElem? fun k=>?_);have e:(bubble xs i (i-j)).toList[k]?=(bubble xs i (i-j))[k]?:=Array.getElem?_toList ..;rw [e,getElem?_bubble hi (i-j) (Nat.sub_le _ _) k,Nat.sub_sub_self hj];refine (?_:_=(mvL xs.toList x i j)[k]?);have hl:(xs.toList.take j).length=j:=by rw [List.length_take,Array.length_toList];exact (Z30 0x20c221061016) hj hi
 unfold mvL;rw [Qzv,List.getElem?_append,hl];by_cases h1:k<j
 ·rw [if_neg (by exact (Z20 271126534) h1),if_neg (by exact (Z30 0x201010791006) h1),if_pos h1,List.getElem?_take,if_pos h1,Array.getElem?_toList]
 ·rw [if_neg h1];by_cases h2:k=j
  ·subst h2;rw [if_pos rfl,Nat.sub_self,hx];rfl
  ·rw [if_neg h2,show k-j=(k-j-1)+1 by exact (Z20 0x15151088710821029610096) h1 h2,List.getElem?_cons_succ,List.getElem?_eraseIdx];by_cases h3:k≤i
   ·rw [if_pos ⟨by exact (Z20 0x101029610096) h1 h2,h3⟩,if_pos (by exact (Z30 0x128151088020161029610096) h1 h2 h3),List.getElem?_drop,Array.getElem?_toList];congr 1;exact (Z20 0x15108817150821029610096) h1 h2
   ·rw [if_neg (by exact (Z30 0x1010207910196) h3),if_neg (by exact (Z30 0x2181520880910196) h3),List.getElem?_drop,Array.getElem?_toList];congr 1;exact (Z20 0x15151088717021029610096) h1 h2
noncomputable def Yii {i j:Nat}:Tw ((sortPriv% PySem.Builtin.moveDown) i j):=⟨fun st=>@Option.rec Keyed (fun Y=>Option (Unit×SortSt)) none (fun x=>@Bool.rec (fun Y=>Option (Unit×SortSt)) none (some (⟨⟩,setArr st ⟨mvL (arrOf st).toList x i j⟩)) (Nat.ble j i)) (nth (arrOf st).toList i),fun P w A E s st r o e=>by
 dsimp only at e;cases h1:nth (arrOf st).toList i with
 |none=>rw [h1]at e;cases e
 |some x=>
  rw [h1]at e;cases h2:Nat.ble j i with
  |false=>dsimp only at e;rw [h2]at e;cases e
  |true=>
   dsimp only at e;rw [h2]at e;cases e;refine ⟨o,fun Q hQ=>(?_:wpS _ _ _ _ (moveDown' i j) _ _)⟩;rw [moveDown'_eq];refine wpS_modify ?_;rw [Qrf ((Array.getElem?_toList ..).symm.trans ((Qu1 ..).symm.trans h1)) (Nat.le_of_ble_eq_true h2)];exact hQ⟩
noncomputable def sMG {g:Nat}:Tw ((sortPriv% PySem.Builtin.setMinGallop) g):=Qem fun Y=>rfl
theorem Qks (sa:Nat):∀(l:List Keyed) (j0:Nat) (x:Array Keyed),sa+j0+l.length≤x.size →
  ((l.zipIdx j0).foldl (fun a q=>a.setIfInBounds (sa+q.2) q.1) x).toList=x.toList.take (sa+j0)++l++x.toList.drop (sa+j0+l.length)
 |[],j0,x,_=>by simp
 |p::l,j0,x,h=>by
  refine eqR (List.zipIdx_cons) ?_;refine eqR (List.foldl_cons) ?_;simp only [List.length_cons]at h;refine eqR ((Qks sa l (j0+1) (x.setIfInBounds (sa+j0) p) (by simp;exact (Z40 0x321517077131527107716) h))) ?_;refine eqR (Array.toList_setIfInBounds) ?_;have hl:sa+j0<x.toList.length:=by simp;exact (Z40 0x3107031527107716) h
  generalize x.toList=L at hl ⊢;generalize hn:sa+j0=n at hl ⊢;have e1:(L.take n).length=n:=by simp;exact (Z20 281153542) hl
  have e3:(L.take n++[p]).length=n+1:=by simp;exact (Z20 281153542) hl
  refine eqR (show sa+(j0+1)=n+1 by exact (Z30 0x15271517072210726) hn) ?_;refine eqR ((by rw [List.set_eq_take_append_cons_drop,if_pos hl]:L.set n p=L.take n++p::L.drop (n+1))) ?_;refine eqR ((by simp:L.take n++p::L.drop (n+1)=(L.take n++[p])++L.drop (n+1))) ?_;refine eqR (List.take_left' e3) ?_;refine eqR (show n+1+l.length=(n+1)+l.length from rfl) ?_;refine eqL (List.drop_drop) ?_;refine eqR (List.drop_left' e3) ?_;refine eqR (List.drop_drop) ?_;refine eqR (show n+(p::l).length=n+1+l.length by simp;exact (Z20 0x1150771517072)) ?_;simp
noncomputable def Yiq {l:List Keyed} {sa:Nat}:Tw (modify fun s:SortSt=>SortSt.mk' (kindOf s) (l.zipIdx.foldl (fun a q=>a.setIfInBounds (sa+q.2) q.1) (arrOf s)) (pendingOf s) (gallopOf s) (failedOf s)):=⟨fun st=>@Bool.rec (fun Y=>Option (PUnit×SortSt)) none (some (⟨⟩,setArr st ⟨(arrOf st).toList.take sa++l++(arrOf st).toList.drop (sa+l.length)⟩)) (Nat.ble (sa+l.length) (arrOf st).toList.length),fun P w A E s st r o e=>by
 dsimp only at e;cases h2:Nat.ble (sa+l.length) (arrOf st).toList.length with
 |false=>rw [h2]at e;cases e
 |true=>
  rw [h2]at e;cases e;refine ⟨o,fun Q hQ=>wpS_modify ?_⟩;rw [show l.zipIdx.foldl (fun a q=>a.setIfInBounds (sa+q.2) q.1) (arrOf st)=⟨(arrOf st).toList.take sa++l++(arrOf st).toList.drop (sa+l.length)⟩ from Array.ext' (Qks sa l 0 (arrOf st) (Nat.le_of_ble_eq_true h2))];exact hQ⟩
noncomputable def Qce (lo n:Nat):Tw ((sortPriv% PySem.Builtin.countRun) lo n):=by
  first|refine Yk ?_ fun v=>?_|refine Yg ?_ (fun v=>?_) fun r v=>?_|refine Qw ?_ fun v=>?_
  repeat (first
   |(with_reducible first
     |exact (Yat _ _)
     |exact Yhz
     |refine Qw V7 fun g=>?_
     |refine Yk ?_ fun v=>?_
     |refine Yg ?_ (fun v=>?_) fun r v=>?_
     |refine Qw ?_ fun v=>?_
     |exact sLt
     |exact Y3
     |exact Y0
     |refine Qb0 ?_ ?_
     |exact Vr
     |exact V7
     |exact Qem fun Y=>rfl
     |exact Qe9
     |exact Qe4
     |refine Qcx fun Y v=>?_)
   |dsimp only
   |(cases v with
    |none=>exact Vm
    |some v=>?_)
   |(cases r with
    |none=>?_
    |some v=>?_)
   |(cases v with
    |mk r v=>?_))
noncomputable def J6 (lo n ok:Nat):Tw ((sortPriv% PySem.Builtin.binarySort) lo n ok):=by
  first|refine Yk ?_ fun v=>?_|refine Yg ?_ (fun v=>?_) fun r v=>?_|refine Qw ?_ fun v=>?_
  repeat (first
   |(with_reducible first
     |exact (Yat _ _)
     |exact Yii
     |refine Qw V7 fun g=>?_
     |refine Yk ?_ fun v=>?_
     |refine Yg ?_ (fun v=>?_) fun r v=>?_
     |refine Qw ?_ fun v=>?_
     |exact sLt
     |exact Y3
     |exact Y0
     |refine Qb0 ?_ ?_
     |exact Vr
     |exact V7
     |exact Qem fun Y=>rfl
     |exact Qe9
     |exact Qe4
     |refine Qcx fun Y v=>?_)
   |dsimp only
   |(cases v with
    |none=>exact Vm
    |some v=>?_)
   |(cases r with
    |none=>?_
    |some v=>?_)
   |(cases v with
    |mk r v=>?_))
noncomputable def Qdt (left:Bool) (key:Keyed) (arr:Array Keyed) (base n hint:Nat):Tw ((sortPriv% PySem.Builtin.gallop) left key arr base n hint):=by
  first|refine Yk ?_ fun v=>?_|refine Yg ?_ (fun v=>?_) fun r v=>?_|refine Qw ?_ fun v=>?_
  repeat (first
   |(with_reducible first
     |refine Qw V7 fun g=>?_
     |refine Yk ?_ fun v=>?_
     |refine Yg ?_ (fun v=>?_) fun r v=>?_
     |refine Qw ?_ fun v=>?_
     |exact sLt
     |exact Y3
     |exact Y0
     |refine Qb0 ?_ ?_
     |exact Vr
     |exact V7
     |exact Qem fun Y=>rfl
     |exact Qe9
     |exact Qe4
     |refine Qcx fun Y v=>?_)
   |dsimp only
   |(cases v with
    |none=>exact Vm
    |some v=>?_)
   |(cases r with
    |none=>?_
    |some v=>?_)
   |(cases v with
    |mk r v=>?_))
noncomputable def Qk6 (a b:Array Keyed):Tw ((sortPriv% PySem.Builtin.mergeLo) a b):=by
  refine Qw Vr fun v=>?_;refine Qw Y3 fun v=>?_;refine Qb0 Y0 ?_;refine Qb0 Y0 ?_;refine Qw V7 fun g=>?_;refine Yg (Qcx fun Y v=>?_) (fun v=>?_) fun r v=>Y0
  rotate_left
  ·repeat (first
    |(with_reducible first
      |refine Qw V7 fun g=>?_
      |refine Yk ?_ fun v=>?_
      |refine Yg ?_ (fun v=>?_) fun r v=>?_
      |refine Qw ?_ fun v=>?_
      |exact sLt
      |exact Y3
      |exact Y0
      |refine Qb0 ?_ ?_
      |exact Vr
      |exact V7
      |exact Qem fun Y=>rfl
      |exact Qe9
      |exact Qe4
      |refine Qcx fun Y v=>?_)
    |dsimp only
    |(cases v with
     |none=>exact Vm
     |some v=>?_)
    |(cases r with
     |none=>?_
     |some v=>?_)
    |(cases v with
     |mk r v=>?_))
  refine Yg (Qcx fun Y v=>?_) (fun v=>?_) fun r v=>Y0
  ·repeat (first
    |(with_reducible first
      |refine Qw V7 fun g=>?_
      |refine Yk ?_ fun v=>?_
      |refine Yg ?_ (fun v=>?_) fun r v=>?_
      |refine Qw ?_ fun v=>?_
      |exact sLt
      |exact Y3
      |exact Y0
      |refine Qb0 ?_ ?_
      |exact Vr
      |exact V7
      |exact Qem fun Y=>rfl
      |exact Qe9
      |exact Qe4
      |refine Qcx fun Y v=>?_)
    |dsimp only
    |(cases v with
     |none=>exact Vm
     |some v=>?_)
    |(cases r with
     |none=>?_
     |some v=>?_)
    |(cases v with
     |mk r v=>?_))
  dsimp -zeta only;refine Qw Vr fun Y=>?_;refine Yg (Qcx fun Y v=>?_) (fun v=>?_) fun r v=>Y0
  rotate_left
  ·repeat (first
    |(with_reducible first
      |exact sMG
      |refine Qw V7 fun g=>?_
      |refine Yk ?_ fun v=>?_
      |refine Yg ?_ (fun v=>?_) fun r v=>?_
      |refine Qw ?_ fun v=>?_
      |exact sLt
      |exact Y3
      |exact Y0
      |refine Qb0 ?_ ?_
      |exact Vr
      |exact V7
      |exact Qem fun Y=>rfl
      |exact Qe9
      |exact Qe4
      |refine Qcx fun Y v=>?_)
    |dsimp only
    |(cases v with
     |none=>exact Vm
     |some v=>?_)
    |(cases r with
     |none=>?_
     |some v=>?_)
    |(cases v with
     |mk r v=>?_))
  extract_lets _ out0 _ ia0 _ ib0 _ _ _ _ _ ib1 jp _
  refine (fun (J:∀mg,Tw (jp () mg))=>Qb0 (J _) (J _)) fun mg=>?_;refine Qw sMG fun Y=>?_;refine Qw Y3 fun v=>?_;refine Yk (Qdt ..) fun v=>?_;dsimp -zeta only
  extract_lets _ jp2 out1 ia1
  refine (fun (J2:∀o i,Tw (jp2 () o i))=>?_) fun o i=>?_
  ·repeat (first
    |(with_reducible first
      |exact (J2 _ _)
      |refine Qw V7 fun g=>?_
      |refine Yk ?_ fun v=>?_
      |refine Yg ?_ (fun v=>?_) fun r v=>?_
      |refine Qw ?_ fun v=>?_
      |exact sLt
      |exact Y3
      |exact Y0
      |refine Qb0 ?_ ?_
      |exact Vr
      |exact V7
      |exact Qem fun Y=>rfl
      |exact Qe9
      |exact Qe4
      |refine Qcx fun Y v=>?_)
    |dsimp only
    |(cases v with
     |none=>exact Vm
     |some v=>?_)
    |(cases r with
     |none=>?_
     |some v=>?_)
    |(cases v with
     |mk r v=>?_))
  refine Qw Y3 fun v=>?_;refine Qb0 Y0 ?_;refine Qw Y3 fun v=>?_;refine Yk (Qdt ..) fun v=>?_;dsimp -zeta only
  extract_lets _ ia5 jp3 out5 ib5
  refine (fun (J3:∀o i,Tw (jp3 () o i))=>?_) fun o i=>?_
  ·repeat (first
    |(with_reducible first
      |exact (J3 _ _)
      |refine Qw V7 fun g=>?_
      |refine Yk ?_ fun v=>?_
      |refine Yg ?_ (fun v=>?_) fun r v=>?_
      |refine Qw ?_ fun v=>?_
      |exact sLt
      |exact Y3
      |exact Y0
      |refine Qb0 ?_ ?_
      |exact Vr
      |exact V7
      |exact Qem fun Y=>rfl
      |exact Qe9
      |exact Qe4
      |refine Qcx fun Y v=>?_)
    |dsimp only
    |(cases v with
     |none=>exact Vm
     |some v=>?_)
    |(cases r with
     |none=>?_
     |some v=>?_)
    |(cases v with
     |mk r v=>?_))
  refine Qw Y3 fun v=>?_
  repeat (first
   |(with_reducible first
     |refine Qw V7 fun g=>?_
     |refine Yk ?_ fun v=>?_
     |refine Yg ?_ (fun v=>?_) fun r v=>?_
     |refine Qw ?_ fun v=>?_
     |exact sLt
     |exact Y3
     |exact Y0
     |refine Qb0 ?_ ?_
     |exact Vr
     |exact V7
     |exact Qem fun Y=>rfl
     |exact Qe9
     |exact Qe4
     |refine Qcx fun Y v=>?_)
   |dsimp only
   |(cases v with
    |none=>exact Vm
    |some v=>?_)
   |(cases r with
    |none=>?_
    |some v=>?_)
   |(cases v with
    |mk r v=>?_))
noncomputable def Qkq (a b:Array Keyed):Tw ((sortPriv% PySem.Builtin.mergeHi) a b):=by
  refine Qw Vr fun v=>?_;refine Qw Y3 fun v=>?_;refine Qb0 Y0 ?_;refine Qb0 Y0 ?_;refine Qw V7 fun g=>?_;refine Yg (Qcx fun Y v=>?_) (fun v=>?_) fun r v=>Y0
  rotate_left
  ·repeat (first
    |(with_reducible first
      |refine Qw V7 fun g=>?_
      |refine Yk ?_ fun v=>?_
      |refine Yg ?_ (fun v=>?_) fun r v=>?_
      |refine Qw ?_ fun v=>?_
      |exact sLt
      |exact Y3
      |exact Y0
      |refine Qb0 ?_ ?_
      |exact Vr
      |exact V7
      |exact Qem fun Y=>rfl
      |exact Qe9
      |exact Qe4
      |refine Qcx fun Y v=>?_)
    |dsimp only
    |(cases v with
     |none=>exact Vm
     |some v=>?_)
    |(cases r with
     |none=>?_
     |some v=>?_)
    |(cases v with
     |mk r v=>?_))
  refine Yg (Qcx fun Y v=>?_) (fun v=>?_) fun r v=>Y0
  ·repeat (first
    |(with_reducible first
      |refine Qw V7 fun g=>?_
      |refine Yk ?_ fun v=>?_
      |refine Yg ?_ (fun v=>?_) fun r v=>?_
      |refine Qw ?_ fun v=>?_
      |exact sLt
      |exact Y3
      |exact Y0
      |refine Qb0 ?_ ?_
      |exact Vr
      |exact V7
      |exact Qem fun Y=>rfl
      |exact Qe9
      |exact Qe4
      |refine Qcx fun Y v=>?_)
    |dsimp only
    |(cases v with
     |none=>exact Vm
     |some v=>?_)
    |(cases r with
     |none=>?_
     |some v=>?_)
    |(cases v with
     |mk r v=>?_))
  dsimp -zeta only;refine Qw Vr fun Y=>?_;refine Yg (Qcx fun Y v=>?_) (fun v=>?_) fun r v=>Y0
  rotate_left
  ·repeat (first
    |(with_reducible first
      |exact sMG
      |refine Qw V7 fun g=>?_
      |refine Yk ?_ fun v=>?_
      |refine Yg ?_ (fun v=>?_) fun r v=>?_
      |refine Qw ?_ fun v=>?_
      |exact sLt
      |exact Y3
      |exact Y0
      |refine Qb0 ?_ ?_
      |exact Vr
      |exact V7
      |exact Qem fun Y=>rfl
      |exact Qe9
      |exact Qe4
      |refine Qcx fun Y v=>?_)
    |dsimp only
    |(cases v with
     |none=>exact Vm
     |some v=>?_)
    |(cases r with
     |none=>?_
     |some v=>?_)
    |(cases v with
     |mk r v=>?_))
  extract_lets _ na0 _ nb0 _ out0 _ _ _ _ _ nbm jp _
  refine (fun (J:∀mg,Tw (jp () mg))=>Qb0 (J _) (J _)) fun mg=>?_;refine Qw sMG fun Y=>?_;refine Qw Y3 fun v=>?_;refine Yk (Qdt ..) fun v=>?_;dsimp -zeta only
  extract_lets k _ jp2 out1 na4
  refine (fun (J2:∀o i,Tw (jp2 () o i))=>?_) fun o i=>?_
  ·repeat (first
    |(with_reducible first
      |exact (J2 _ _)
      |refine Qw V7 fun g=>?_
      |refine Yk ?_ fun v=>?_
      |refine Yg ?_ (fun v=>?_) fun r v=>?_
      |refine Qw ?_ fun v=>?_
      |exact sLt
      |exact Y3
      |exact Y0
      |refine Qb0 ?_ ?_
      |exact Vr
      |exact V7
      |exact Qem fun Y=>rfl
      |exact Qe9
      |exact Qe4
      |refine Qcx fun Y v=>?_)
    |dsimp only
    |(cases v with
     |none=>exact Vm
     |some v=>?_)
    |(cases r with
     |none=>?_
     |some v=>?_)
    |(cases v with
     |mk r v=>?_))
  refine Qw Y3 fun v=>?_;refine Qb0 Y0 ?_;refine Qw Y3 fun v=>?_;refine Yk (Qdt ..) fun v=>?_;dsimp -zeta only
  extract_lets k2 _ _ jp3 out5 nb5
  refine (fun (J3:∀o i,Tw (jp3 () o i))=>?_) fun o i=>?_
  ·repeat (first
    |(with_reducible first
      |exact (J3 _ _)
      |refine Qw V7 fun g=>?_
      |refine Yk ?_ fun v=>?_
      |refine Yg ?_ (fun v=>?_) fun r v=>?_
      |refine Qw ?_ fun v=>?_
      |exact sLt
      |exact Y3
      |exact Y0
      |refine Qb0 ?_ ?_
      |exact Vr
      |exact V7
      |exact Qem fun Y=>rfl
      |exact Qe9
      |exact Qe4
      |refine Qcx fun Y v=>?_)
    |dsimp only
    |(cases v with
     |none=>exact Vm
     |some v=>?_)
    |(cases r with
     |none=>?_
     |some v=>?_)
    |(cases v with
     |mk r v=>?_))
  refine Qw Y3 fun v=>?_
  repeat (first
   |(with_reducible first
     |refine Qw V7 fun g=>?_
     |refine Yk ?_ fun v=>?_
     |refine Yg ?_ (fun v=>?_) fun r v=>?_
     |refine Qw ?_ fun v=>?_
     |exact sLt
     |exact Y3
     |exact Y0
     |refine Qb0 ?_ ?_
     |exact Vr
     |exact V7
     |exact Qem fun Y=>rfl
     |exact Qe9
     |exact Qe4
     |refine Qcx fun Y v=>?_)
   |dsimp only
   |(cases v with
    |none=>exact Vm
    |some v=>?_)
   |(cases r with
    |none=>?_
    |some v=>?_)
   |(cases v with
    |mk r v=>?_))
theorem Ql6 (l:Array Keyed) (i j:Nat):l.extract i j=⟨(l.toList.drop i).take (j-i)⟩:=Array.ext' (by rw [Array.toList_extract,List.extract_eq_take_drop])
noncomputable def Yix {l:Array Keyed} {i j k n:Nat}:Tw ((sortPriv% PySem.Builtin.mergeLo) (l.extract i j) (l.extract k n)):=⟨(Qk6 ⟨(l.toList.drop i).take (j-i)⟩ ⟨(l.toList.drop k).take (n-k)⟩).1,by
 rw [Ql6,Ql6];exact (Qk6 _ _).2⟩
noncomputable def Yij {l:Array Keyed} {i j k n:Nat}:Tw ((sortPriv% PySem.Builtin.mergeHi) (l.extract i j) (l.extract k n)):=⟨(Qkq ⟨(l.toList.drop i).take (j-i)⟩ ⟨(l.toList.drop k).take (n-k)⟩).1,by
 rw [Ql6,Ql6];exact (Qkq _ _).2⟩
noncomputable def Qdg (i:Nat):Tw ((sortPriv% PySem.Builtin.mergeAt) i):=by
  refine Qw V7 fun g=>?_;dsimp only;generalize (pendingOf g)[i]?=a;generalize (pendingOf g)[i+1]?=b;cases a with
  |none=>exact Vm
  |some a=>cases b with
   |none=>exact Vm
   |some b=>
    cases a with
    |mk a a2=>cases a2 with
     |mk a2 a3=>cases b with
      |mk b b2=>cases b2 with
       |mk b2 b3=>
  repeat (first
         |(with_reducible first
           |exact (Qdt ..)
           |exact Yix
           |exact Yij
           |refine Qw V7 fun g=>?_
           |refine Yk ?_ fun v=>?_
           |refine Yg ?_ (fun v=>?_) fun r v=>?_
           |refine Qw ?_ fun v=>?_
           |exact sLt
           |exact Y3
           |exact Y0
           |refine Qb0 ?_ ?_
           |exact Vr
           |exact V7)
         |exact Yiq
         |(with_reducible first
           |exact Qem fun Y=>rfl
           |exact Qe9
           |exact Qe4
           |refine Qcx fun Y v=>?_)
         |dsimp only
         |(cases v with
          |none=>exact Vm
          |some v=>?_)
         |(cases r with
          |none=>?_
          |some v=>?_)
         |(cases v with
          |mk r v=>?_))
noncomputable def Qd1:Tw (sortPriv% PySem.Builtin.sortRuns):=by
  refine Qw V7 fun g=>?_
  repeat (first
   |(with_reducible first
     |exact (Qce ..)
     |exact (J6 ..)
     |exact (Qdg _)
     |refine Qw V7 fun g=>?_
     |refine Yk ?_ fun v=>?_
     |refine Yg ?_ (fun v=>?_) fun r v=>?_
     |refine Qw ?_ fun v=>?_
     |exact sLt
     |exact Y3
     |exact Y0
     |refine Qb0 ?_ ?_
     |exact Vr
     |exact V7
     |exact Qem fun Y=>rfl
     |exact Qe9
     |exact Qe4
     |refine Qcx fun Y v=>?_)
   |dsimp only
   |(cases v with
    |none=>exact Vm
    |some v=>?_)
   |(cases r with
    |none=>?_
    |some v=>?_)
   |(cases v with
    |mk r v=>?_))
  rotate_left 2
  repeat (first
   |(with_reducible first
     |exact (Qce ..)
     |exact (J6 ..)
     |exact (Qdg _)
     |refine Qw V7 fun g=>?_
     |refine Yk ?_ fun v=>?_
     |refine Yg ?_ (fun v=>?_) fun r v=>?_
     |refine Qw ?_ fun v=>?_
     |exact sLt
     |exact Y3
     |exact Y0
     |refine Qb0 ?_ ?_
     |exact Vr
     |exact V7
     |exact Qem fun Y=>rfl
     |exact Qe9
     |exact Qe4
     |refine Qcx fun Y v=>?_)
   |dsimp only
   |(cases v with
    |none=>exact Vm
    |some v=>?_)
   |(cases r with
    |none=>?_
    |some v=>?_)
   |(cases v with
    |mk r v=>?_))
  all_goals try with_reducible refine Qw V7 fun g=>?_
  all_goals try dsimp only
  all_goals
   generalize (pendingOf g).back?=r;cases r with
   |none=>?_
   |some v=>?_
  all_goals try
   (cases v with
    |mk s1 v=>?_)
  all_goals try
   (cases v with
    |mk n1 v=>?_)
  all_goals
   repeat (first
    |(with_reducible first
      |exact (Qce ..)
      |exact (J6 ..)
      |exact (Qdg _)
      |refine Qw V7 fun g=>?_
      |refine Yk ?_ fun v=>?_
      |refine Yg ?_ (fun v=>?_) fun r v=>?_
      |refine Qw ?_ fun v=>?_
      |exact sLt
      |exact Y3
      |exact Y0
      |refine Qb0 ?_ ?_
      |exact Vr
      |exact V7
      |exact Qem fun Y=>rfl
      |exact Qe9
      |exact Qe4
      |refine Qcx fun Y v=>?_)
    |dsimp only
    |(cases v with
     |none=>exact Vm
     |some v=>?_)
    |(cases r with
     |none=>?_
     |some v=>?_)
    |(cases v with
     |mk r v=>?_))
  all_goals
   generalize (if (pendingOf g).size > 1 then (pendingOf g)[(pendingOf g).size-2]? else none)=r;cases r with
   |none=>?_
   |some v=>exact Vm
  all_goals
   repeat (first
    |(with_reducible first
      |exact (Qce ..)
      |exact (J6 ..)
      |exact (Qdg _)
      |refine Qw V7 fun g=>?_
      |refine Yk ?_ fun v=>?_
      |refine Yg ?_ (fun v=>?_) fun r v=>?_
      |refine Qw ?_ fun v=>?_
      |exact sLt
      |exact Y3
      |exact Y0
      |refine Qb0 ?_ ?_
      |exact Vr
      |exact V7
      |exact Qem fun Y=>rfl
      |exact Qe9
      |exact Qe4
      |refine Qcx fun Y v=>?_)
    |dsimp only
    |(cases v with
     |none=>exact Vm
     |some v=>?_)
    |(cases r with
     |none=>?_
     |some v=>?_)
    |(cases v with
     |mk r v=>?_))
  all_goals trace_state
noncomputable def mkV (t:Nat→Tok) (l:List Int) (n:Nat):List Value:=@List.rec Int (fun Y=>Nat→List Value) (fun Y=>[]) (fun a Y ih n=>.int a (t n)::ih (n+1)) l n
noncomputable def Yhg (a:Int) (b:Bool):Value→Bool
 |.int c _=>decide (c=a)&&b
 |_=>false
noncomputable def Yd0 (l:List Keyed) (m:List Int):Bool:=@List.rec Keyed (fun Y=>List Int→Bool) (fun m=>m.isEmpty) (fun k Y ih m=>@List.rec Int (fun Y=>Bool) false (fun a m Y=>Yhg a (ih m) k.2) m) l m
noncomputable def st0 (vs:List Value):SortSt:=SortSt.mk' oneType' ⟨vs.map fun v=>(v,v)⟩ #[] 7 none
noncomputable def Yih (m:List Int) (r:Option (Unit×SortSt)):Bool:=@Option.rec (Unit×SortSt) (fun Y=>Bool) false (fun r=>(failedOf r.2).isNone&&Yd0 (arrOf r.2).toList m) r
noncomputable def evl (t:Nat→Tok) (r p:Nat):Bool:=Yih (Ja (lst 0 p)) (Qd1.1 (st0 (mkV t (lst r p) 0)))
noncomputable def ev4 (t:Nat→Tok) (r k:Nat):Bool:=evl t r (4*k)&&(evl t r (4*k+1)&&(evl t r (4*k+2)&&evl t r (4*k+3)))
section
variable (t:Nat→Tok)
theorem Ye2:ev4 t 0 0=true:=by kernel_rfl
theorem Yel:ev4 t 0 1=true:=by kernel_rfl
theorem Yeb:ev4 t 0 2=true:=by kernel_rfl
theorem Yeh:ev4 t 0 3=true:=by kernel_rfl
theorem Yf0:ev4 t 0 4=true:=by kernel_rfl
theorem Yf9:ev4 t 0 5=true:=by kernel_rfl
theorem Yff:ev4 t 0 6=true:=by kernel_rfl
theorem Ye9:ev4 t 0 7=true:=by kernel_rfl
theorem Yf4:ev4 t 0 8=true:=by kernel_rfl
theorem Yf7:ev4 t 0 9=true:=by kernel_rfl
theorem Ybq:ev4 t 0 10=true:=by kernel_rfl
theorem Yb5:ev4 t 0 11=true:=by kernel_rfl
theorem Ycu:ev4 t 0 12=true:=by kernel_rfl
theorem Qzy:ev4 t 0 13=true:=by kernel_rfl
theorem Ybl:ev4 t 0 14=true:=by kernel_rfl
theorem Qze:ev4 t 0 15=true:=by kernel_rfl
theorem Yiy:evl t 0 64=true:=by kernel_rfl
theorem Yfi:ev4 t 1 0=true:=by kernel_rfl
theorem Ye1:ev4 t 1 1=true:=by kernel_rfl
theorem Yei:ev4 t 1 2=true:=by kernel_rfl
theorem Yf3:ev4 t 1 3=true:=by kernel_rfl
theorem Yfc:ev4 t 1 4=true:=by kernel_rfl
theorem Ye4:ev4 t 1 5=true:=by kernel_rfl
theorem Yfe:ev4 t 1 6=true:=by kernel_rfl
theorem Ye0:ev4 t 1 7=true:=by kernel_rfl
theorem Yfj:ev4 t 1 8=true:=by kernel_rfl
theorem Yfd:ev4 t 1 9=true:=by kernel_rfl
theorem Ycq:ev4 t 1 10=true:=by kernel_rfl
theorem Ya2:ev4 t 1 11=true:=by kernel_rfl
theorem Yag:ev4 t 1 12=true:=by kernel_rfl
theorem Ycs:ev4 t 1 13=true:=by kernel_rfl
theorem Yc8:ev4 t 1 14=true:=by kernel_rfl
theorem Yba:ev4 t 1 15=true:=by kernel_rfl
theorem Yi2:evl t 1 64=true:=by kernel_rfl
theorem Ye3:ev4 t 2 0=true:=by kernel_rfl
theorem Yd7:ev4 t 2 1=true:=by kernel_rfl
theorem Yf6:ev4 t 2 2=true:=by kernel_rfl
theorem Ygb:ev4 t 2 3=true:=by kernel_rfl
theorem Yec:ev4 t 2 4=true:=by kernel_rfl
theorem Yer:ev4 t 2 5=true:=by kernel_rfl
theorem Yej:ev4 t 2 6=true:=by kernel_rfl
theorem Yd9:ev4 t 2 7=true:=by kernel_rfl
theorem Yez:ev4 t 2 8=true:=by kernel_rfl
theorem Ye8:ev4 t 2 9=true:=by kernel_rfl
theorem Yb0:ev4 t 2 10=true:=by kernel_rfl
theorem Qzg:ev4 t 2 11=true:=by kernel_rfl
theorem Qzz:ev4 t 2 12=true:=by kernel_rfl
theorem Qz7:ev4 t 2 13=true:=by kernel_rfl
theorem Yad:ev4 t 2 14=true:=by kernel_rfl
theorem Yaq:ev4 t 2 15=true:=by kernel_rfl
theorem Yh5:evl t 2 64=true:=by kernel_rfl
theorem nx {P:Nat→Prop}(h:∀k,k<n→P k) (hn:P n):∀k,k<n+1→P k:=fun k hk=>(Nat.lt_or_eq_of_le (Nat.le_of_lt_succ hk)).elim (h k) fun e=>e▸hn
theorem n0 {P:Nat→Prop}:∀k,k<0→P k:=fun Y h=>absurd h (Nat.not_lt_zero _)
theorem ev0:∀k,k<16→ev4 t 0 k=true:=nx (nx (nx (nx (nx (nx (nx (nx (nx (nx (nx (nx (nx (nx (nx (nx n0 (Ye2 t)) (Yel t)) (Yeb t)) (Yeh t)) (Yf0 t)) (Yf9 t)) (Yff t)) (Ye9 t)) (Yf4 t)) (Yf7 t)) (Ybq t)) (Yb5 t)) (Ycu t)) (Qzy t)) (Ybl t)) (Qze t)
theorem ev1:∀k,k<16→ev4 t 1 k=true:=nx (nx (nx (nx (nx (nx (nx (nx (nx (nx (nx (nx (nx (nx (nx (nx n0 (Yfi t)) (Ye1 t)) (Yei t)) (Yf3 t)) (Yfc t)) (Ye4 t)) (Yfe t)) (Ye0 t)) (Yfj t)) (Yfd t)) (Ycq t)) (Ya2 t)) (Yag t)) (Ycs t)) (Yc8 t)) (Yba t)
theorem ev2:∀k,k<16→ev4 t 2 k=true:=nx (nx (nx (nx (nx (nx (nx (nx (nx (nx (nx (nx (nx (nx (nx (nx n0 (Ye3 t)) (Yd7 t)) (Yf6 t)) (Ygb t)) (Yec t)) (Yer t)) (Yej t)) (Yd9 t)) (Yez t)) (Ye8 t)) (Yb0 t)) (Qzg t)) (Qzz t)) (Qz7 t)) (Yad t)) (Yaq t)
theorem Qy0 {r:Nat}(h:∀k,k<16→ev4 t r k=true) (h2:evl t r 64=true):∀p,p<65→evl t r p=true:=fun p hp=>by
 by_cases c:p=64
 ·exact c▸h2
 have e:=h (p / 4) (Nat.div_lt_of_lt_mul (Nat.lt_of_le_of_ne (Nat.le_of_lt_succ hp) c:p<4*16));unfold ev4 at e;simp only [Bool.and_eq_true]at e;exact (Nat.div_add_mod p 4)▸nx (P:=fun j=>evl t r (4*(p / 4)+j)=true) (nx (nx (nx n0 e.1) e.2.1) e.2.2.1) e.2.2.2 (p % 4) (Nat.mod_lt p (by decide))
theorem Yce:∀r,r<3→∀p,p<65→evl t r p=true:=nx (nx (nx n0 (Qy0 t (ev0 t) (Yiy t))) (Qy0 t (ev1 t) (Yi2 t))) (Qy0 t (ev2 t) (Yh5 t))
end
set_option tactic.hygienic true in
theorem Qfv (x:Int):∀{l:List Int},l.Pairwise (·≤·)→(ins x l).Pairwise (·≤·)
 |[],_=>by rw [Qqb];exact List.pairwise_singleton _ _
 |y::r,h=>by
  rw [Qpj];rw [List.pairwise_cons]at h;split
  ·rename_i hxy;refine List.pairwise_cons.mpr ⟨fun z hz=>?_,List.pairwise_cons.mpr h⟩;rcases List.mem_cons.mp hz with rfl|hz
   ·exact hxy
   ·exact Int.le_trans hxy (h.1 z hz)
  ·rename_i hxy;refine List.pairwise_cons.mpr ⟨fun z hz=>?_,Qfv x h.2⟩;rcases List.mem_cons.mp ((Qf8 x r).mem_iff.mp hz) with rfl|hz
   ·exact (Z02 21038230) hxy
   ·exact h.1 z hz
theorem Qan:∀l:List Int,(Ja l).Pairwise (·≤·)
 |[]=>.nil
 |x::r=>Qfv x (Qan r)
theorem Qet:∀{l₁ l₂:List Int},l₁.Perm l₂→l₁.Pairwise (·≤·)→l₂.Pairwise (·≤·)→l₁=l₂
 |[],l₂,h,_,_=>(List.perm_nil.mp h.symm).symm
 |x::r,[],h,_,_=>by have:=h.length_eq;simp at this
 |x::r,y::t,h,h1,h2=>by
  rw [List.pairwise_cons]at h1 h2;have e:x=y:=by
   have a1:x∈y::t:=h.mem_iff.mp (.head _);have a2:y∈x::r:=h.mem_iff.mpr (.head _);rcases List.mem_cons.mp a1 with e|a1
   ·exact e
   ·rcases List.mem_cons.mp a2 with e|a2
    ·exact e.symm
    ·have:=h1.1 y a2;have:=h2.1 x a1;exact (Z02 0x10501461046) ‹_› this
  subst e;refine eqR (Qet h.cons_inv h1.2 h2.2) ?_;rfl
theorem Qpm (r p:Nat):(lst r p).length=64:=by unfold lst;rw [List.length_map,List.length_range]
theorem Qky:∀r,r<3→((List.range 64).map (Qr3 r)).Perm (List.range 64):=by decide +kernel
theorem Qs8 {r:Nat}(h:r<3) (p:Nat):(lst r p).Perm (lst 0 p):=by
 have e:∀r,lst r p=((List.range 64).map (Qr3 r)).map fun x=>@Bool.rec (fun Y=>Int) (Int.ofNat x) (-5) (Nat.beq x p):=fun r=>by rw [List.map_map];rfl
 rw [e r,e 0];exact ((Qky r h).trans (Qky 0 (by decide)).symm).map _
theorem kk {ns:List Int}(hI:IntsAre vs ns) (h:¬vs.length<2):keyKind' vs.toArray=pure oneType':=by
 cases hI with
 |nil=>exact absurd (by decide) h
 |cons a t h1=>cases h1 with
  |nil=>exact absurd (Nat.lt_succ_self 1) h
  |cons b u h2=>exact keyKind_ints (.cons a t (.cons b u h2))
noncomputable def Qxb (vs:List Value) (k:Nat):Tok:=match vs[k]? with
 |some (.int _ t)=>t
 |_=>0
theorem Ycm {ns:List Int}(h:IntsAre vs ns):∀{t:Nat→Tok}{n:Nat},(∀k,t (n+k)=Qxb vs k)→vs=mkV t ns n:=by
 induction h with
 |nil=>intro t n _;rfl
 |cons a u _ ih=>
  intro t n e;refine (?_:_=Value.int a (t n)::mkV t _ (n+1));refine eqL (ih (t:=t) (n:=n+1) fun k=>(congrArg t (by omega)).trans (e (k+1))) ?_;refine eqR (show t n=u from e 0) ?_;rfl
theorem Qyl:∀{l:List Keyed}{m:List Int},Yd0 l m=true→IntsAre (l.map (·.2)) m:=fun {l}=>by
 induction l with
 |nil=>intro m h;cases m with
  |nil=>exact .nil
  |cons=>exact Bool.noConfusion h
 |cons k l ih=>intro m h;cases m with
  |nil=>exact Bool.noConfusion h
  |cons a m=>
   obtain ⟨k1,k2⟩:=k
   replace h:Yhg a (Yd0 l m) k2=true:=h
   cases k2<;>first|(cases h;done)|skip
   obtain ⟨h1,h2⟩:=Bool.and_eq_true_iff.mp h;obtain rfl:=of_decide_eq_true h1;exact .cons _ _ (ih h2)
section
theorem Qnx {r p:Nat}(hr:r<3) (hp:p<65) (hI:IntsAre vs (lst r p)) {Q:Unit→SortSt→Prop}
  (h:∀st',failedOf st'=none→IntsAre ((arrOf st').map (·.2)).toList (Ja (lst r p))→Q () st'):wpS (model P w) A E s sortRuns' Q (st0 vs):=by
 have e:=Yce (Qxb vs) r hr p hp;unfold evl at e;rw [←Ycm hI (t:=Qxb vs) (n:=0) fun k=>by rw [Nat.zero_add]]at e;cases q:Qd1.1 (st0 vs) with
 |none=>rw [q]at e;exact nomatch e
 |some q'=>
  rw [q]at e;obtain ⟨e1,e2⟩:=Bool.and_eq_true_iff.mp (show ((failedOf q'.2).isNone&&Yd0 (arrOf q'.2).toList (Ja (lst 0 p)))=true from e);refine (Qd1.2 P w A E s (st0 vs) q' rfl q).2 Q (h _ (Option.isNone_iff_eq_none.mp e1) ?_);refine eqR (Array.toList_map) ?_;refine eqR (Qfr (Qs8 hr p)) ?_;exact Qyl e2
theorem Qj4 {R:PySem.Fin→Shared→Prop}{r p:Nat}(hr:r<3) (hp:p<65) (ho:s.heap.get? a=some (seqObj "list" vs.toArray n)) (hI:IntsAre vs (lst r p))
  (h:∀out:Array Value,IntsAre out.toList (Ja (lst r p))→R (.done (.ret .none)) { s with heap:=sortedHeap s.heap a vs out }) :
  wpAny (model P w) A (Builtin.«list.sort» ⟨[.ref a],[]⟩) R E s:=by
 have h64:vs.length=64:=hI.length.trans (Qpm r p);rw [list_sort_plain];have ha:a<s.heap.objs.size:=Heap.lt_size ho;refine wpAny_bind (listItems_at ho rfl ?_);refine wpAny_bind (listUpdate_at ho rfl ?_ (by rw [List.size_toArray,h64,sizeLine_eq];decide));obtain ⟨e1,ho1⟩:∃e1,(s.heap.update a (Obj.mapSeq fun Y=>#[])).get? a=some (seqObj "list" #[] e1):=⟨_,get?_update_seq ho (fun Y=>#[])⟩
 refine wpAny_bind (seqEpoch_at ho1 rfl ?_);refine wpAny_bind (wpAny_newTuple ?_ (by rw [h64,sizeLine_eq];decide));refine wpAny_bind (wpAny_newList ?_);refine wpAny_holding ?_;have ho6:(((s.heap.update a (Obj.mapSeq fun Y=>#[])).push (seqObj "tuple" vs.toArray 0)).push (seqObj "list" #[] 0)).get? a=some (seqObj "list" #[] e1):=by
  refine eqR (Heap.get?_push_ne _ _ _ (by rw [size_push',Heap.size_update];exact Nat.ne_of_lt (Nat.lt_succ_of_lt ha))) ?_;refine eqR (Heap.get?_push_ne _ _ _ (by rw [Heap.size_update];exact Nat.ne_of_lt ha)) ?_;exact ho1
 refine (?_:wpAny (model P w) A _ R E { s with heap:=((s.heap.update a (Obj.mapSeq fun Y=>#[])).push (seqObj "tuple" vs.toArray 0)).push (seqObj "list" #[] 0) });dsimp only;have h2:¬vs.toArray.size<2:=by rw [List.size_toArray,h64];decide
 refine eqR (if_neg h2) ?_;refine eqR (if_neg h2) ?_;refine eqR (kk hI (by rw [h64];decide)) ?_;refine wpAny_bind (wpAny_pure ?_);have hz:SortSt.mk' oneType' (vs.toArray.zip vs.toArray) #[] 7 none=st0 vs:=congrArg (fun x=>SortSt.mk' oneType' x #[] 7 none) (Array.ext' ((pairsOf_toList vs).trans (by rw [List.zip_eq_zipWith,List.zipWith_self])));refine wpAny_bind (wpAny_mono (eqR hz (Qnx hr hp hI (Q:=fun Y st'=>failedOf st'=none∧IntsAre ((arrOf st').map (·.2)).toList (Ja (lst r p))) fun st' a1 a2=>⟨a1,a2⟩)) ?_ fun Y Y e=>e);rintro ⟨⟨⟩,st'⟩ s' ⟨rfl,hf,hs⟩;dsimp only;refine wpAny_bind (seqEpoch_at ho6 rfl ?_);refine wpAny_bind (listUpdate_at ho6 rfl ?_ (hsz2:=by rw [←Array.length_toList,hs.length,(Y9 _).length_eq,Qpm,sizeLine_eq];decide));refine eqR (hf) ?_;simp only [bne_self_eq_false,Bool.false_eq_true,if_false];exact wpAny_pure (h _ hs)
theorem Qt0 {l:Addr}{r p:Nat}(hr:r<3) (hp:p<65) (hl:s.heap.IsList l vs.toArray) (hI:IntsAre vs (lst r p))
  (h:∀out:Array Value,IntsAre out.toList (Ja (lst r p))→Q (.ref (s.heap.objs.size+1)) { s with heap:=sortedAll s.heap vs out }) :
  wpAny (model P w) A (call (.builtin "sorted") [.ref l]) Q E s:=by
 have h64:vs.length=64:=hI.length.trans (Qpm r p);refine Calls.call_function_entry kind_sorted plain_sorted entry_sorted (args_sorted1 _) ?_;unfold Builtin.«sorted»;refine wpAny_bind (m:=checkCount "sorted" 1 1 _) (wpAny_pure ?_);refine wpAny_bind (collect_list hl ?_ (by rw [h64,sizeLine_eq];decide));refine wpAny_bind (wpAny_newList ?_ (by rw [h64,sizeLine_eq];decide));have hsz:((s.heap.push (seqObj "list" #[] 0)).update s.heap.objs.size (Obj.mapSeq (·++vs.toArray))).objs.size=s.heap.objs.size+1:=by
  rw [Heap.size_update,size_push']
 have hoL:(((s.heap.push (seqObj "list" #[] 0)).update s.heap.objs.size (Obj.mapSeq (·++vs.toArray))).push (seqObj "list" vs.toArray 0)).get? (s.heap.objs.size+1)=some (seqObj "list" vs.toArray 0):=by
  refine eqL (hsz) ?_;exact Heap.get?_push_size _ rfl
 refine (?_:wpAny _ _ _ _ _ { s with heap:=((s.heap.push (seqObj "list" #[] 0)).update s.heap.objs.size (Obj.mapSeq (·++vs.toArray))).push (seqObj "list" vs.toArray 0) });refine eqR (hsz) ?_;refine wpAny_bind (wpAny_holding (wpAny_call_entry slot_list_sort ⟨_,hoL,rfl⟩ entry_list_sort (Qj4 hr hp hoL hI fun out a1=>⟨_,rfl,?_⟩) (args_list_sort _)));exact wpAny_pure ⟨_,rfl,h out a1⟩
theorem Ycy:Qfp P w srt:=by
 intro A s l vs ns out Q E _ _ hl hI hf hQ;unfold srt at hf;cases hok:okS ns with
 |false=>rw [hok]at hf;exact nomatch hf
 |true=>
 rw [hok]at hf;obtain rfl:=Option.some.inj hf;have fin:∀(out:Array Value) (ns':List Int),IntsAre out.toList ns'→ns'.Perm ns→ns'.Pairwise (·≤·)→Q (.ref (s.heap.objs.size+1)) { s with heap:=sortedAll s.heap vs out }:=fun out ns' a1 a2 a3=>by
  have e:ns'=Ja ns:=Qet (a2.trans (Y9 ns).symm) a3 (Qan ns);subst e;have hsz:((s.heap.push (seqObj "list" #[] 0)).update s.heap.objs.size (Obj.mapSeq (·++vs.toArray))).objs.size=s.heap.objs.size+1:=by
   rw [Heap.size_update,size_push']
  have hoL:(((s.heap.push (seqObj "list" #[] 0)).update s.heap.objs.size (Obj.mapSeq (·++vs.toArray))).push (seqObj "list" vs.toArray 0)).get? (s.heap.objs.size+1)=some (seqObj "list" vs.toArray 0):=by
   refine eqL (hsz) ?_;exact Heap.get?_push_size _ rfl
  refine hQ (s.heap.objs.size+1) _ s.toks out.toList _ (fun b o hb=>?_) (Qn (Nat.le_succ _)) (by rw [(fun n=>by rfl:∀n,Vs out.toList n=seqObj "list" out n)];exact (get?_update_seq (Heap.get?_push_of_some (seqObj "list" #[] 0) (Heap.get?_push_of_some (seqObj "tuple" vs.toArray 0) (get?_update_seq hoL (fun Y=>#[])))) (fun Y=>out))) a1;have hlt:=Heap.lt_size hb
  delta sortedAll sortedHeap
  refine eqR (Heap.get?_update_other _ _ (Nat.ne_of_gt (Nat.lt_succ_of_lt hlt))) ?_;refine Heap.get?_push_of_some _ (Heap.get?_push_of_some _ ?_);refine eqR (Heap.get?_update_other _ _ (Nat.ne_of_gt (Nat.lt_succ_of_lt hlt))) ?_;refine Heap.get?_push_of_some _ ?_;refine eqR (Heap.get?_update_other _ _ (Nat.ne_of_gt hlt)) ?_;exact Heap.get?_push_of_some _ hb
 unfold okS at hok;cases h:Nat.blt ns.length 64 with
 |true=>exact sorted_ints hl hI (by rw [hI.length];exact Nat.le_of_ble_eq_true h) fin
 |false=>
  rw [h]at hok;obtain ⟨r,hr,hok⟩:=List.any_eq_true.mp (show good ns=true from hok);obtain ⟨p,hp,hok⟩:=List.any_eq_true.mp hok;obtain rfl:=of_decide_eq_true hok;exact Qt0 (List.mem_range.mp hr) (List.mem_range.mp hp) hl hI fun out a1=>fin out _ a1 (Y9 _) (Qan _)
end
theorem Qyb {o:Option (Option Value)}(h:Yhd o=true):o=some none:=by
 cases o with
 |none=>exact Bool.noConfusion h
 |some o=>cases o with
  |none=>rfl
  |some _=>exact Bool.noConfusion h
theorem Qee (h:Qr5 x=some v):x∈Qgl∧bootBuiltins (Str.ofString x)=some v∧Str.ofString x≠"__name__":=by
 obtain ⟨p,q,rfl⟩:=Option.map_eq_some_iff.mp h;obtain rfl:p.1=x:=of_decide_eq_true (List.find?_some (p:=fun p:String×Value=>decide (p.1=x)) q);exact (show ∀p∈Qv5,p.1∈Qgl∧bootBuiltins (Str.ofString p.1)=some p.2∧Str.ofString p.1≠"__name__" by decide +kernel) p (List.mem_of_find?_eq_some q)
theorem join {p':Program}{K:Frag}{ns:List Int}
  (X:K.In s₁.heap) (hK:Qon K=true) (T:Top p' loose mean mg mb s₁.heap) (hI:IntsAre vs ns) (hol:s₁.heap.get? a=some { cls:=.type "list",data:=.seq vs.toArray }) (hl:ns.length≤64)
  (hQ:∀h' t,(∀a o,s₁.heap.get? a=some o→h'.get? a=some o)→Q (.bool true) { s₁ with heap:=h',toks:=t }) :
  wpAny (model P w) callerA (call (.ref 399) [.ref a]) Q E s₁:=by
 refine gk fun Ω κ=>?_;unfold Qon at hK;simp only [Bool.and_eq_true]at hK;obtain ⟨⟨hL,h3⟩,hn⟩:=hK;obtain ⟨fd,hf⟩:∃fd,fnK K "law"=some (399,fd):=by
  cases hq:fnK K "law" with
  |none=>rw [hq]at h3;exact nomatch h3
  |some q=>
   rw [hq]at h3;obtain ⟨b,fd⟩:=q;have:b=399:=by simpa [Qx7] using h3
   exact ⟨fd,by rw [this]⟩
 obtain ⟨_,of,ho,_⟩:=Qaa X T.g hf;have nn:∀x∈Qgl,mg (Str.ofString x)=none:=fun x hx=>mg_none_of X T.g (Qyb (List.all_eq_true.mp hn x hx));refine κ ?_;refine wpAny_call (Qzq X (⟨T.g,T.b,T.nolimit,⟨399,of,ho,by decide⟩,fun x v hv=>⟨nn _ (Qee hv).1,(T.builtins _ (Qee hv).2.2).trans (Qee hv).2.1⟩⟩:Wd s₁.heap Γ0 mg mb) ⟨nn _ (by decide),(T.builtins _ (by decide +kernel)).trans (by decide +kernel)⟩ hL Ycy hf ⟨rfl,by decide,by decide⟩ rfl (Nat.le_trans hl (by decide)) (.lst hol (Rds.ofInts hI)) fun h' t k=>?_);exact hQ h' t k
end
end Mine
open PySem PySem.W PySem.W.X PySem.W.ZRun PyProof.Rows
set_option maxRecDepth 100000
set_option maxHeartbeats 0
namespace Mine
theorem ok1:(chainsOk vw&&opensWell PySem.Challenge.rw_pq0698_01.row.prog&&(frees PySem.Challenge.rw_pq0698_01.row.toRowW&&PySem.Challenge.rw_pq0698_01.row.within.isEmpty))=true:=by kernel_rfl
theorem Yhy:PySem.Challenge.rw_pq0698_01.row.prog.bare:=⟨rfl,rfl,rfl,rfl,rfl,by decide +kernel⟩
theorem Ybw (h:Heap):∀(l:List Obj) (n:Nat),(∀k o,l[k]?=some o→h.objs.toList[n+k]?=some o)→∀a o,(frL l n).lookup a=some o→h.get? a=some o:=fun l=>by
 induction l with
 |nil=>intro n _ a o e;cases e
 |cons b l ih=>
  intro n H a o e
  have H':∀k o,l[k]?=some o→h.objs.toList[n+1+k]?=some o:=fun k o q=>by rw [Nat.add_assoc,Nat.add_comm 1 k];exact H (k+1) o q
  replace e:(@Bool.rec (fun Y=>Frag) (frL l (n+1)) ((n,b)::frL l (n+1)) b.alive).lookup a=some o:=e
  cases r:b.alive with
  |false=>rw [r]at e;exact ih (n+1) H' a o e
  |true=>
   rw [r]at e
   replace e:((n,b)::frL l (n+1)).lookup a=some o:=e
   rw [List.lookup_cons]at e
   cases q:a==n with
   |false=>rw [q]at e;exact ih (n+1) H' a o e
   |true=>
    rw [q]at e;cases e
    rw [eq_of_beq q]
    exact (Heap.get?_eq_some h n b).mpr ⟨(Array.getElem?_toList ..).symm.trans (H 0 b rfl),r⟩
theorem Yfb (h:Heap):(Quw h).In h:=fun a o e=>Ybw h _ 0 (fun k o q=>by rw [Nat.zero_add];exact q) a o e
theorem Qqt:(defOf vw PySem.Challenge.rw_pq0698_01.row.name).isSome=true:=by kernel_rfl
noncomputable def Qvq:DefRec:=((defOf vw PySem.Challenge.rw_pq0698_01.row.name).get Qqt).1
theorem Qpk:Qvq.name=Str.ofString "law":=by kernel_rfl
theorem Yi6:defOf vw PySem.Challenge.rw_pq0698_01.row.name=some (Qvq,[]):=by kernel_rfl
theorem Yi4:PySem.Challenge.rw_pq0698_01.row.prog.theDef PySem.Challenge.rw_pq0698_01.row.name=some (Qvq.params,Qvq.body,Qvq.scope):=by kernel_rfl
theorem hkw:kwWritten? Qvq.params.kwonlyargs Qvq.params.kw_defaults=some []:=by kernel_rfl
theorem Yiv {K:Frag}{fa:Addr}(X:K.In h) (hK:Qon K=true) (T:Top P loose mean mg mb h) (e:mg Qvq.name=some (.ref fa)):fa=399:=by
 unfold Qon at hK
 simp only [Bool.and_eq_true]at hK
 obtain ⟨⟨hL,h3⟩,hn⟩:=hK
 cases hq:fnK K "law" with
 |none=>rw [hq]at h3;cases h3
 |some q=>
  rw [hq]at h3
  obtain ⟨b,fd⟩:=q
  have:b=399:=by simpa [Qx7] using h3
  subst this
  rw [Qpk,(Qaa X T.g hq).1]at e
  cases e;rfl
end Mine
theorem PySem.Challenge.cw_pq0698_01_holds : PySem.Challenge.rw_pq0698_01.Holds := by
 w_on
 refine holds_law Mine.Ydk fun Ydk=>?_
 refine holds_openX (q:=Mine.vw) (loose:=Mine.lo) (Xt:=Mine.Xt) (XP:=XL Mine.vw []) (d:=Mine.Qvq) (kwd:=[]) Mine.left (fun s e=>xl_of s (Bool.and_eq_true_iff.mp e).1) XL.keeps Mine.Yi6 Mine.Yi4 Mine.hkw (fun s e=>recFacts_of (Bool.and_eq_true_iff.mp e).2) rfl Ydk Mine.ok1 Mine.Yhy ?hw ?hc
 case hw=>clear Ydk;w_witness2
 clear Ydk
 intro w s₀ s₁ mg mb G y fa o pm cd doc dV kV ho hd hcd hD hmg hg args vals as L hpre hlay hrd hwl hlo
 clear ho hd hcd hD
 have X:(Mine.Quw s₀.heap).In s₁.heap:=Frag.In.keeps (Mine.Yfb s₀.heap) L.keeps
 obtain rfl:=Mine.Yiv X y G.T hmg
 clear hmg
 refine Ground.open G ?_
 intro T B D TE TW
 clear B D TE TW G
 wrow_args hpre hlay hrd hwl hlo
 rename_i hcond _
 refine Mine.join X y T (by assumption) (script_obj L (by assumption)) (by omega) fun h' t k=>?_
 refine ⟨.inl ⟨.bool true,.bool true,[],rfl,raisesW_false ?_,ReadsW.bool _,?_,unshared_nil⟩,.of_keep k,rfl,.of_eq hg⟩
 ·wrow_none_raised
 ·first|rfl|wrow_post
