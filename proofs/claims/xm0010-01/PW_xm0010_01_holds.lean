import PyProof.Rows.All
import Wide.All
import OpenK.AllK
import Wide.FinOn
import PySem.Challenge.RW_xm0010_01
set_option maxRecDepth 100000
set_option linter.all false
set_option tactic.hygienic false
set_option genSizeOf false
set_option genSizeOfSpec false
set_option genInjectivity false
section
open PySem PySem.W
namespace Mine
inductive PV where
 | none
 | bool (b:Bool)
 | int (i:Int)
 | str (s:List Nat)
 | tup (l:List PV)
 | list (l:List PV)
 | mref (a:Nat)
 | fn (f:Nat)
 | bi (b:Nat)
 | dict (ks:List (List Nat)) (vs:List PV)
 | cls
 deriving Inhabited
variable (C:Cx)
variable {C}
variable (C)
variable {C}
inductive Bop where | add | sub | mul | mod | pow
 deriving DecidableEq
inductive Cop where | eq | ne | lt | le | gt | ge | is | isnot | isin | notin
 deriving DecidableEq
inductive Mth where | append | join | find | extend
 deriving DecidableEq
mutual
inductive E where
 | cst (v:PV)
 | loc (i:Nat)
 | glo (g:Nat)
 | bin (o:Bop) (a b:E)
 | cmp (o:Cop) (a b:E)
 | cmp2 (o p:Cop) (a b c:E)
 | bnd (es:Es)
 | bor (es:Es)
 | not (a:E)
 | neg (a:E)
 | ite (t:T) (a b:E)
 | call (f:E) (as:Es)
 | mkobj (g i:Nat) (a:E)
 | meth (m:Mth) (o:E) (as:Es)
 | jrep (sep:List Nat) (x:E) (a b:List Nat)
 | attr (o:E) (i:Nat)
 | sub (o i:E)
 | subk (o:E) (i:Int)
 | slc (o:E) (lo hi:Eo)
 | tup (es:Es)
 | lst (es:Es)
 | mls (es:Es)
 | dic (ks:List (List Nat)) (es:Es)
 | comp (elt:E) (tg:Sum Nat (List Nat)) (n:Nat) (it:It) (cond:Ts) (caps:List Nat)
 | comp2 (elt:E) (it it2:It)
inductive Es where
 | nil
 | cons (e:E) (es:Es)
inductive Eo where
 | no
 | so (e:E)
inductive T where
 | not (t:T)
 | and (ts:Ts)
 | or (ts:Ts)
 | cmp (o:Cop) (a b:E)
 | cmp2 (o p:Cop) (a b c:E)
 | val (e:E)
inductive Ts where
 | nil
 | cons (t:T) (ts:Ts)
inductive It where
 | val (e:E)
 | range (g:Nat) (e:E)
 | zip (a b:E)
end
mutual
inductive S where
 | asg (i:Nat) (e:E)
 | asgT (is:List Nat) (e:E)
 | setattr (o:E) (i:Nat) (e:E)
 | setslc (o e:E)
 | aug (i:Nat) (o:Bop) (e:E)
 | augattr (ob:E) (i:Nat) (o:Bop) (e:E)
 | ifs (t:T) (a b:Ss)
 | whl (t:T) (b:Ss)
 | for (tg:Sum Nat (List Nat)) (it:It) (b:Ss)
 | ret (e:E)
 | ret0
 | expr (e:E)
 | raise
 | brk
inductive Ss where
 | nil
 | cons (s:S) (ss:Ss)
end
end Mine
end
section
open PySem PySem.W PySem.Calls
namespace Mine
open PyProof.Rows
section
variable {C:Cx} {A:Around} {s:Shared} {τ:Tags} {M:Mem}
noncomputable def opOf:Bop→Operator
 | .add=>.Add | .sub=>.Sub | .mul=>.Mult | .mod=>.Mod | .pow=>.Pow
end
section
variable {C:Cx} {A:Around} {s:Shared} {τ:Tags} {M:Mem} {d:Nat}
noncomputable def copOf:Cop→CmpOp
 | .eq=>.Eq | .ne=>.NotEq | .lt=>.Lt | .le=>.LtE | .gt=>.Gt | .ge=>.GtE | .is=>.Is | .isnot=>.IsNot | .isin=>.In | .notin=>.NotIn
end
section
variable {C:Cx} {A:Around} {s:Shared} {τ:Tags} {M:Mem} {d:Nat}
noncomputable def mthName:Mth→Str
 | .append=>"append" | .join=>"join" | .find=>"find" | .extend=>"extend"
end
section
variable {C:Cx} {A:Around} {s:Shared} {τ:Tags} {M:Mem} {d:Nat}
noncomputable def bvT:Nat→Value
 | 0=>.builtin "len" | 1=>.type "str" | 2=>.builtin "chr" | 3=>.builtin "ord" | 4=>.builtin "isinstance" | 5=>.type "list" | 6=>.type "tuple" | 7=>.type "range" | _=>.builtin "max"
end
structure Kn where
 gn:List Str
 an:List (List Nat)
 ini:Nat
structure Fs where
 vars:List Str
 sc:List (Str×NameKind)
noncomputable def kBoolOp (x:Expr) (K:BoolOp→(List Expr)→Pos→Bool):Bool:=if w:x.ctorIdx=0 then @Expr.BoolOp.elim (fun _=>Bool) x w K else false
noncomputable def kBinOp (x:Expr) (K:Expr→Operator→Expr→Pos→Bool):Bool:=if w:x.ctorIdx=2 then @Expr.BinOp.elim (fun _=>Bool) x w K else false
noncomputable def kUnaryOp (x:Expr) (K:UnaryOp→Expr→Pos→Bool):Bool:=if w:x.ctorIdx=3 then @Expr.UnaryOp.elim (fun _=>Bool) x w K else false
noncomputable def kIfExp (x:Expr) (K:Expr→Expr→Expr→Pos→Bool):Bool:=if w:x.ctorIdx=5 then @Expr.IfExp.elim (fun _=>Bool) x w K else false
noncomputable def kDict (x:Expr) (K:(List (Option Expr))→(List Expr)→Pos→Bool):Bool:=if w:x.ctorIdx=6 then @Expr.Dict.elim (fun _=>Bool) x w K else false
noncomputable def kListComp (x:Expr) (K:Expr→(List Comprehension)→Scope→Pos→Bool):Bool:=if w:x.ctorIdx=8 then @Expr.ListComp.elim (fun _=>Bool) x w K else false
noncomputable def kCompare (x:Expr) (K:Expr→(List CmpOp)→(List Expr)→Pos→Bool):Bool:=if w:x.ctorIdx=15 then @Expr.Compare.elim (fun _=>Bool) x w K else false
noncomputable def kCall (x:Expr) (K:Expr→(List Expr)→(List Keyword)→Pos→Bool):Bool:=if w:x.ctorIdx=16 then @Expr.Call.elim (fun _=>Bool) x w K else false
noncomputable def kConstant (x:Expr) (K:Const→Nat→Pos→Bool):Bool:=if w:x.ctorIdx=19 then @Expr.Constant.elim (fun _=>Bool) x w K else false
noncomputable def kAttribute (x:Expr) (K:Expr→Str→Pos→Bool):Bool:=if w:x.ctorIdx=20 then @Expr.Attribute.elim (fun _=>Bool) x w K else false
noncomputable def kSubscript (x:Expr) (K:Expr→Expr→Pos→Bool):Bool:=if w:x.ctorIdx=21 then @Expr.Subscript.elim (fun _=>Bool) x w K else false
noncomputable def kName (x:Expr) (K:Str→Pos→Bool):Bool:=if w:x.ctorIdx=23 then @Expr.Name.elim (fun _=>Bool) x w K else false
noncomputable def kList (x:Expr) (K:(List Expr)→Pos→Bool):Bool:=if w:x.ctorIdx=24 then @Expr.List.elim (fun _=>Bool) x w K else false
noncomputable def kTuple (x:Expr) (K:(List Expr)→Nat→Pos→Bool):Bool:=if w:x.ctorIdx=25 then @Expr.Tuple.elim (fun _=>Bool) x w K else false
noncomputable def kSlice (x:Expr) (K:(Option Expr)→(Option Expr)→(Option Expr)→Pos→Bool):Bool:=if w:x.ctorIdx=26 then @Expr.Slice.elim (fun _=>Bool) x w K else false
noncomputable def sIs (x:Str) (s:List Nat):Bool:=x == ⟨s.toArray⟩
noncomputable def oneL {α:Type} (l:List α) (K:α→Bool):Bool:=match l with
 | []=>false
 | x :: r=>r.isEmpty && K x
noncomputable def unc {α:Type} (l:List α) (K:α→List α→Bool):Bool:=match l with
 | []=>false
 | x :: r=>K x r
noncomputable def oK {α:Type} (l:Option α) (K:α→Bool):Bool:=match l with
 | none=>false
 | some x=>K x
noncomputable def nO {α:Type} (l:Option α) (c:Bool):Bool:=match l with
 | none=>c
 | some x=>false
noncomputable def twoL {α:Type} (l:List α) (K:α→α→Bool):Bool:=unc l fun x r=>oneL r fun y=>K x y
noncomputable def kGen (g:Comprehension) (K:Expr→Expr→List Expr→Bool):Bool:=g.is_async == 0 && K g.target g.iter g.ifs
noncomputable def kS (c:Const) (K:Str→Bool):Bool:=if w:c.ctorIdx=5 then @Const.str.elim (fun _=>Bool) c w K else false
noncomputable def kLit (x:Expr) (s:List Nat):Bool:=kConstant x fun c _ _=>kS c fun x=>sIs x s
noncomputable def constIs (v:PV) (c:Const):Bool:=match v with
 | .none=>c == .none
 | .bool a=>c == .bool a
 | .int i=>c == .int i
 | .str s=>c == .str ⟨s.toArray⟩
 | _=>false
noncomputable def cstOk (v:PV) (x:Expr):Bool:=kConstant x fun c _ _=>constIs v c
noncomputable def locOk (f:Fs) (i:Nat) (x:Str):Bool:=f.vars[i]? == some x && (f.sc.lookup x == some .local || f.sc.lookup x == some .cell || f.sc.lookup x == some .free) && !(x == ("__debug__" : Str)) && !(x == ("__classdict__" : Str))
noncomputable def gloOk (k:Kn) (f:Fs) (g:Nat) (x:Str):Bool:=k.gn[g]? == some x && f.sc.lookup x == some .globalImplicit && !(x == ("__debug__" : Str))
noncomputable def isStar (x:Expr):Bool:=x.ctorIdx == 22
noncomputable def isCall (x:Expr):Bool:=x.ctorIdx == 16
noncomputable def plainTest (x:Expr):Bool:=!(x.ctorIdx == 3 || x.ctorIdx == 0 || x.ctorIdx == 5 || x.ctorIdx == 15)
noncomputable def calleeOk (x:Expr):Bool:=x.ctorIdx == 23 || x.ctorIdx == 21
noncomputable def notSet (x:Expr):Bool:=!(x.ctorIdx == 7)
noncomputable def nmOf (x:Expr):Str:=if w:x.ctorIdx=23 then @Expr.Name.elim (fun _=>Str) x w fun a _=>a else Str.empty
noncomputable def namesOf (x:Expr):List Str:=if w:x.ctorIdx=25 then @Expr.Tuple.elim (fun _=>List Str) x w fun a _ _=>a.map nmOf else [nmOf x]
noncomputable def nmOk (f:Fs) (i:Nat) (x:Expr):Bool:=kName x fun x _=>f.vars[i]? == some x && f.sc.lookup x == some .local
noncomputable def nmsOk (f:Fs):List Nat→List Expr→Bool
 | [],es=>es.isEmpty
 | i :: is,es=>unc es fun e es=>nmOk f i e && nmsOk f is es
noncomputable def tgtOk (f:Fs) (t:Sum Nat (List Nat)) (e:Expr):Bool:=match t with
 | .inl i=>nmOk f i e
 | .inr is=>kTuple e fun es _ _=>nmsOk f is es
noncomputable def rk (sc:List (Str×NameKind)) (n:Str) (kd:NameKind):NameKind:=if kd == .free && sc.lookup n == some .cell then .cell else kd
noncomputable def relab (sc:List (Str×NameKind)) (names:List (Str×NameKind)):List (Str×NameKind):=names.map fun x=>(x.1,rk sc x.1 x.2)
noncomputable def inner (f:Fs) (n:Nat) (tgt:Expr) (caps:List Nat) (scope:Scope):Fs :=
 { vars:=(namesOf tgt).take n++caps.filterMap fun i=>f.vars[i]?,sc:=relab f.sc scope.names }
noncomputable def nodupB:List Str→Bool
 | []=>true
 | x :: xs=>!xs.contains x && nodupB xs
noncomputable def compOk (f:Fs) (tg:Sum Nat (List Nat)) (n:Nat) (caps:List Nat) (scope:Scope) (tgt:Expr):Bool :=
 (namesOf tgt).length == n && decide (scope.kind = .function) && scope.names.all (fun x=>!(x.2 == .cell)) && scope.names.all (fun x=>!(x.2 == .local) || scope.names.lookup x.1 == some .local) &&
 scope.names.all (fun x=>!(x.2 == .free) || f.sc.lookup x.1 == some .cell) &&
 caps.all (fun i=>match f.vars[i]? with | some x=>scope.names.lookup x == some .free && f.sc.lookup x == some .cell | none=>false) && nodupB (inner f n tgt caps scope).vars
noncomputable def attrIs (k:Kn) (i:Nat) (name:Str):Bool:=oK k.an[i]? fun a=>sIs name a
noncomputable def keysOk:List (List Nat)→List (Option Expr)→Bool
 | [],es=>es.isEmpty
 | k :: ks,es=>unc es fun e es=>oK e (fun e=>kLit e k) && keysOk ks es
noncomputable def nodupL:List (List Nat)→Bool
 | []=>true
 | x :: xs=>!xs.contains x && nodupL xs
noncomputable def inner2 (f:Fs) (a b:Str) (scope:Scope):Fs:={ vars:=[a,b],sc:=relab f.sc scope.names }
noncomputable def comp2Ok (scope:Scope) (a b:Str):Bool :=
 decide (scope.kind = .function) && scope.names.all (fun x=>x.2 == .local || x.2 == .globalImplicit) && scope.names.all (fun x=>!(x.2 == .local) || scope.names.lookup x.1 == some .local) &&
 scope.names.lookup a == some .local && scope.names.lookup b == some .local && !(a == b)
section
variable (k:Kn)
mutual
noncomputable def mE:Fs→E→Expr→Bool
 | f,.cst v,x=>cstOk v x
 | f,.loc i,x=>kName x fun x _=>locOk f i x
 | f,.glo g,x=>kName x fun x _=>gloOk k f g x
 | f,.bin o a b,x=>kBinOp x fun l op r _=>opOf o == op && (mE f a l && mE f b r)
 | f,.cmp o a b,x=>kCompare x fun l ops rs _=>oneL ops fun op=>oneL rs fun r=>copOf o == op && (!behindInMarks op r && (mE f a l && mE f b r))
 | f,.cmp2 o p a b c,x=>kCompare x fun l ops rs _=>twoL ops fun op op2=>twoL rs fun r r2=>copOf o == op && (copOf p == op2 && (!behindInMarks op2 r2 && (mE f a l && (mE f b r && mE f c r2))))
 | f,.bnd es,x=>kBoolOp x fun op vs _=>BoolOp.And == op && mEs f es vs
 | f,.bor es,x=>kBoolOp x fun op vs _=>BoolOp.Or == op && mEs f es vs
 | f,.not a,x=>kUnaryOp x fun op x _=>UnaryOp.Not == op && mE f a x
 | f,.neg a,x=>kUnaryOp x fun op x _=>UnaryOp.USub == op && mE f a x
 | f,.ite t a b,x=>kIfExp x fun x y z _=>mT f t x && (mE f a y && mE f b z)
 | f,.call fn as,x=>kCall x fun c args kws _=>kws.isEmpty && (calleeOk c && (mE f fn c && (!args.isEmpty && mEs f as args)))
 | f,.meth m o as,x=>kCall x fun c args kws pos=>kAttribute c fun v name ap=>kws.isEmpty && (mthName m == name && (!isCall v && ((ap.endLine == pos.line) && (Nat.blt args.length 29 && (!args.isEmpty && (mE f o v && mEs f as args))))))
 | f,.attr o i,x=>kAttribute x fun v name _=>attrIs k i name && (!isCall v && mE f o v)
 | f,.subk o i,x=>kSubscript x fun v s _=>mE f o v && (decide (0 ≤ i∧i < 1000) && cstOk (.int i) s)
 | f,.sub o i,x=>kSubscript x fun v s _=>mE f o v && mE f i s
 | f,.slc o lo hi,x=>kSubscript x fun v s _=>kSlice s fun l u st _=>nO st (mE f o v && (mO f lo l && mO f hi u))
 | f,.tup es,x=>kTuple x fun vs _ _=>Nat.ble vs.length 1000 && mEs f es vs
 | f,.lst es,x=>kList x fun vs _=>Nat.ble vs.length 1000 && mEs f es vs
 | f,.mls es,x=>kList x fun vs _=>Nat.ble vs.length 1000 && mEs f es vs
 | f,.jrep sep y a b,x=>kCall x fun c args kws p2=>twoL args fun u v=>kAttribute c fun i rn ap2=>kCall i fun ci ca ki p1=>kAttribute ci fun s jn ap1=>oneL ca fun z =>
   kws.isEmpty && (ki.isEmpty && (("replace" : Str) == rn && (("join" : Str) == jn && ((ap2.endLine == p2.line) && ((ap1.endLine == p1.line) && (kLit s sep && (kLit u a && (kLit v b && (!isStar z && mE f y z)))))))))
 | f,.dic ks es,x=>kDict x fun keys vals _=>keysOk ks keys && (Nat.blt 0 keys.length && (Nat.ble keys.length 15 && ((keys.length == vals.length) && (nodupL ks && mEs f es vals))))
 | f,.mkobj g i a,x=>kCall x fun c args kws _=>kName c fun n _=>oneL args fun y=>kws.isEmpty && (gloOk k f g n && ((i == k.ini) && (!isStar y && mE f a y)))
 | f,.comp2 elt it it2,x=>kListComp x fun x gens scope _=>twoL gens fun g1 g2=>kGen g1 fun t1 i1 f1=>kGen g2 fun t2 i2 f2=>kName t1 fun a _=>kName t2 fun b _=>f1.isEmpty && (f2.isEmpty &&
   (comp2Ok scope a b && (notSet i1 && (notSet i2 && (mIt f it i1 && (mIt (inner2 f a b scope) it2 i2 && mE (inner2 f a b scope) elt x))))))
 | f,.comp elt tg n it cond caps,x=>kListComp x fun x gens scope _=>oneL gens fun g=>kGen g fun tgt iter ifs=>compOk f tg n caps scope tgt && (tgtOk (inner f n tgt caps scope) tg tgt && (notSet iter && (mIt f it iter && (mTs (inner f n tgt caps scope) cond ifs && mE (inner f n tgt caps scope) elt x))))
noncomputable def mEs:Fs→Es→List Expr→Bool
 | f,.nil,xs=>xs.isEmpty
 | f,.cons e es,xs=>unc xs fun x xs=>!isStar x && (mE f e x && mEs f es xs)
noncomputable def mO:Fs→Eo→Option Expr→Bool
 | f,.no,x=>nO x true
 | f,.so e,x=>oK x fun x=>mE f e x
noncomputable def mIt:Fs→It→Expr→Bool
 | f,.val e,x=>mE f e x
 | f,.zip _ _,_=>false
 | f,.range g e,x=>kCall x fun c args kws _=>kName c fun n _=>oneL args fun a=>kws.isEmpty && (gloOk k f g n && (!isStar a && mE f e a))
noncomputable def mT:Fs→T→Expr→Bool
 | f,.not t,x=>kUnaryOp x fun op x _=>UnaryOp.Not == op && mT f t x
 | f,.and ts,x=>kBoolOp x fun op vs _=>BoolOp.And == op && mTs f ts vs
 | f,.or ts,x=>kBoolOp x fun op vs _=>BoolOp.Or == op && mTs f ts vs
 | f,.cmp o a b,x=>kCompare x fun l ops rs _=>oneL ops fun op=>oneL rs fun r=>copOf o == op && (!behindInMarks op r && (mE f a l && mE f b r))
 | f,.cmp2 o p a b c,x=>kCompare x fun l ops rs _=>twoL ops fun op op2=>twoL rs fun r r2=>copOf o == op && (copOf p == op2 && (!behindInMarks op2 r2 && (mE f a l && (mE f b r && mE f c r2))))
 | f,.val e,x=>plainTest x && mE f e x
noncomputable def mTs:Fs→Ts→List Expr→Bool
 | f,.nil,xs=>xs.isEmpty
 | f,.cons t ts,xs=>unc xs fun x xs=>mT f t x && mTs f ts xs
end
end
end Mine
end
section
open PySem PySem.W PySem.Calls
namespace Mine
open PyProof.Rows
noncomputable def sReturn (x:Stmt) (K:(Option Expr)→Pos→Bool):Bool:=if w:x.ctorIdx=3 then @Stmt.Return.elim (fun _=>Bool) x w K else false
noncomputable def sAssign (x:Stmt) (K:(List Expr)→Expr→Pos→Bool):Bool:=if w:x.ctorIdx=5 then @Stmt.Assign.elim (fun _=>Bool) x w K else false
noncomputable def sAugAssign (x:Stmt) (K:Expr→Operator→Expr→Pos→Bool):Bool:=if w:x.ctorIdx=7 then @Stmt.AugAssign.elim (fun _=>Bool) x w K else false
noncomputable def sFor' (x:Stmt) (K:Expr→Expr→(List Stmt)→(List Stmt)→Pos→Bool):Bool:=if w:x.ctorIdx=9 then @Stmt.For.elim (fun _=>Bool) x w K else false
noncomputable def sWhile (x:Stmt) (K:Expr→(List Stmt)→(List Stmt)→Pos→Bool):Bool:=if w:x.ctorIdx=11 then @Stmt.While.elim (fun _=>Bool) x w K else false
noncomputable def sIf (x:Stmt) (K:Expr→(List Stmt)→(List Stmt)→Pos→Bool):Bool:=if w:x.ctorIdx=12 then @Stmt.If.elim (fun _=>Bool) x w K else false
noncomputable def sExpr (x:Stmt) (K:Expr→Pos→Bool):Bool:=if w:x.ctorIdx=24 then @Stmt.Expr.elim (fun _=>Bool) x w K else false
noncomputable def sBreak (x:Stmt) (K:Pos→Bool):Bool:=if w:x.ctorIdx=26 then @Stmt.Break.elim (fun _=>Bool) x w K else false
noncomputable def notComp (x:Expr):Bool:=!(x.ctorIdx == 8 || x.ctorIdx == 9 || x.ctorIdx == 10)
noncomputable def notTup (x:Expr):Bool:=!(x.ctorIdx == 25)
noncomputable def swapC (x:Str) (px:Pos) (scope:Scope) (pos:Pos):Bool:=px.line == pos.line && !(scope.names.any fun y=>y.1 == x && (y.2 == .local || y.2 == .cell))
noncomputable def swapOk (x:Str) (px:Pos) (v:Expr):Bool:=kListComp v fun _ _ scope pos=>swapC x px scope pos
section
variable (k:Kn)
mutual
noncomputable def mS:Fs→S→Stmt→Bool
 | f,.asg i e,x=>sAssign x fun ts v _=>oneL ts fun t=>kName t fun x px=>f.vars[i]? == some x && (f.sc.lookup x == some .local && ((notComp v || swapOk x px v) && mE k f e v))
 | f,.asgT is e,x=>sAssign x fun ts v _=>oneL ts fun t=>kTuple t fun es _ _=>nmsOk f is es && (notComp v && (notTup v && mE k f e v))
 | f,.setattr o i e,x=>sAssign x fun ts v _=>oneL ts fun t=>kAttribute t fun ov name _=>attrIs k i name && (notComp v && (mE k f o ov && mE k f e v))
 | f,.setslc o e,x=>sAssign x fun ts v _=>oneL ts fun t=>kSubscript t fun ov sl _=>kSlice sl fun l u st _=>nO l (nO u (nO st (notComp v && (mE k f o ov && mE k f e v))))
 | f,.aug i o e,x=>sAugAssign x fun t op v _=>kName t fun x px=>f.vars[i]? == some x && (f.sc.lookup x == some .local && (opOf o == op && mE k f e v))
 | f,.augattr ob i o e,x=>sAugAssign x fun t op v _=>kAttribute t fun ov name _=>attrIs k i name && (opOf o == op && (mE k f ob ov && mE k f e v))
 | f,.ifs t a b,x=>sIf x fun x y z _=>mT k f t x && (mSs f a y && mSs f b z)
 | f,.whl t b,x=>sWhile x fun x y z _=>z.isEmpty && (mT k f t x && mSs f b y)
 | f,.for tg it b,x=>sFor' x fun t x y z _=>z.isEmpty && (tgtOk f tg t && (notSet x && (mIt k f it x && mSs f b y)))
 | f,.ret e,x=>sReturn x fun v _=>oK v fun v=>mE k f e v
 | f,.ret0,x=>sReturn x fun v _=>nO v true
 | f,.expr e,x=>sExpr x fun v _=>notComp v && mE k f e v
 | f,.raise,x=>x.ctorIdx == 16
 | f,.brk,x=>sBreak x fun _=>true
noncomputable def mSs:Fs→Ss→List Stmt→Bool
 | f,.nil,xs=>xs.isEmpty
 | f,.cons s ss,xs=>unc xs fun x xs=>mS f s x && mSs f ss xs
end
end
end Mine
end
section
open PySem PySem.W PySem.Calls
set_option tactic.hygienic true
namespace Mine
open PyProof.Rows
structure Fn where
 np:Nat
 f:Fs
 body:Ss
noncomputable def namesB (F:Fn):Bool:=nodupB F.f.vars && decide (F.np ≤ F.f.vars.length) && (F.f.vars.take F.np).all fun x=>F.f.sc.lookup x == some .local || F.f.sc.lookup x == some .cell
end Mine
end
section
open PySem PySem.W
namespace Mine
noncomputable abbrev gi:NameKind:=.globalImplicit
noncomputable def theKn:Kn:={ gn:=[Str.ofString "len",Str.ofString "str",Str.ofString "chr",Str.ofString "ord",Str.ofString "isinstance",Str.ofString "list",Str.ofString "tuple",Str.ofString "range",Str.ofString "SHORT_WORDS",Str.ofString "PRIMARY_LEVEL",Str.ofString "BINDING",Str.ofString "logical_sort",Str.ofString "show_range_of",Str.ofString "show_names",Str.ofString "show_array",Str.ofString "show_kind",Str.ofString "default_behind",Str.ofString "show_choices",Str.ofString "show_components",Str.ofString "show_words",Str.ofString "show_record",Str.ofString "binding_of",Str.ofString "SIMPLE_LEVEL",Str.ofString "show_simple",Str.ofString "show_derived",Str.ofString "show_number_type",Str.ofString "RESERVED",Str.ofString "UNARY_NAMES",Str.ofString "BINARY_NAMES",Str.ofString "small_sign",Str.ofString "SMALL_LETTERS",Str.ofString "FIGURES",Str.ofString "is_name_letter",Str.ofString "is_reserved",Str.ofString "is_name_part",Str.ofString "MOST_FIGURES",Str.ofString "max",Str.ofString "BASED_FIGURES",Str.ofString "MOST_POWER",Str.ofString "read_numeral",Str.ofString "make_ratio",Str.ofString "power_of",Str.ofString "is_graphic",Str.ofString "is_prefix",Str.ofString "SINGLES",Str.ofString "COMPOUNDS",Str.ofString "delimiter_token",Str.ofString "tick_token",Str.ofString "string_token",Str.ofString "number_token",Str.ofString "name_token",Str.ofString "LINE_ENDS",Str.ofString "GAPS",Str.ofString "remark_behind",Str.ofString "one_token",Str.ofString "token_ahead",Str.ofString "is_sign",Str.ofString "is_word",Str.ofString "take_sign",Str.ofString "take_word",Str.ofString "take_token",Str.ofString "peek_token",Str.ofString "MOST_HIGH",Str.ofString "tree_parts",Str.ofString "MOST_NESTED",Str.ofString "check_height",Str.ofString "bounded_tree",Str.ofString "logical_tree",Str.ofString "relation_tree",Str.ofString "simple_tree",Str.ofString "logical_word",Str.ofString "RELATIONS",Str.ofString "relation_sign",Str.ofString "member_tree",Str.ofString "NAMES",Str.ofString "term_tree",Str.ofString "factor_tree",Str.ofString "primary_tree",Str.ofString "name_tree",Str.ofString "bracket_tree",Str.ofString "selected_tree",Str.ofString "assocs_here",Str.ofString "attribute_tree",Str.ofString "symbol_name",Str.ofString "need_name",Str.ofString "MARK_ATTRIBUTES",Str.ofString "close_nest",Str.ofString "need_sign",Str.ofString "parse_expr",Str.ofString "open_nest",Str.ofString "WORDS_AS_ATTRIBUTES",Str.ofString "extent_tree",Str.ofString "parse_range",Str.ofString "parse_choice",Str.ofString "assoc_here",Str.ofString "assoc_row",Str.ofString "lone_bracket",Str.ofString "refuse_ranges",Str.ofString "is_mark",Str.ofString "parse_name",Str.ofString "parse_discrete",Str.ofString "parse_literal",Str.ofString "need_word",Str.ofString "parse_mark",Str.ofString "is_box_ahead",Str.ofString "parse_discrete_range",Str.ofString "parse_subtype",Str.ofString "parse_index",Str.ofString "parse_default",Str.ofString "parse_names",Str.ofString "parse_variant",Str.ofString "parse_component",Str.ofString "parse_components",Str.ofString "parse_choice_list",Str.ofString "MOST_VARIANTS",Str.ofString "parse_record",Str.ofString "parse_derived",Str.ofString "parse_simple",Str.ofString "parse_composed",Str.ofString "parse_access",Str.ofString "parse_array",Str.ofString "parse_fixed",Str.ofString "parse_enumeration",Str.ofString "_law_next",Str.ofString "_law_value",Str.ofString "_law_extent",Str.ofString "_law_marks",Str.ofString "_law_parts",Str.ofString "_law_first",Str.ofString "_law_subtype",Str.ofString "_law_names",Str.ofString "_law_record",Str.ofString "_law_discrete",Str.ofString "_law_listed",Str.ofString "_law_words",Str.ofString "_law_between",Str.ofString "_law_inside",Str.ofString "_law_declared",Str.ofString "_law_spelled",Str.ofString "_law_flagged",Str.ofString "Reader",Str.ofString "tokens_of",Str.ofString "_law_spelled_discs",Str.ofString "parse_discriminants",Str.ofString "parse_definition",Str.ofString "_law_heard",Str.ofString "show_discs",Str.ofString "show_definition",Str.ofString "_law_show_parts",Str.ofString "_law_show",Str.ofString "_law_discs",Str.ofString "_law_definition"],an:=[[116,111,107,101,110,115],[97,116],[110,101,115,116],[100,101,101,112],[112,97,114,115,101,95,101,120,112,114],[112,97,114,115,101,95,110,97,109,101],[112,97,114,115,101,95,100,105,115,99,114,101,116,101],[112,97,114,115,101,95,99,104,111,105,99,101,115],[112,97,114,115,101,95,100,101,99,108,97,114,97,116,105,111,110,115],[112,97,114,115,101,95,102,111,114,109,97,108,115],[112,97,114,115,101,95,115,116,97,116,101,109,101,110,116,115],[112,97,114,115,101,95,115,101,113,117,101,110,99,101],[112,97,114,115,101,95,104,97,110,100,108,101,114,115],[112,97,114,115,101,95,104,97,110,100,108,101,100],[112,97,114,115,101,95,105,116,101,109]],ini:=33 }
noncomputable def f_logical_sort:Fn:=⟨1,⟨["tree"],[("tree",.local),("SHORT_WORDS",gi)]⟩,
 (.cons (.ifs (.cmp .isin (.subk (.loc 0) 0) (.glo 8)) (.cons (.ret (.subk (.loc 0) 0)) .nil) .nil) (.cons (.ifs (.and (.cons (.cmp .eq (.subk (.loc 0) 0) (.cst (.str [98,105,110]))) (.cons (.cmp .isin (.subk (.loc 0) 1) (.tup (.cons (.cst (.str [97,110,100])) (.cons (.cst (.str [111,114])) (.cons (.cst (.str [120,111,114])) .nil))))) .nil))) (.cons (.ret (.subk (.loc 0) 1)) .nil) .nil) (.cons (.ret (.cst (.str []))) .nil)))⟩
noncomputable def f_binding_of:Fn:=⟨1,⟨["tree"],[("tree",.local),("logical_sort",gi),("BINDING",gi),("PRIMARY_LEVEL",gi)]⟩,
 (.cons (.ifs (.cmp .ne (.call (.glo 11) (.cons (.loc 0) .nil)) (.cst (.str []))) (.cons (.ret (.cst (.int 1))) .nil) .nil) (.cons (.ifs (.cmp .eq (.subk (.loc 0) 0) (.cst (.str [98,105,110]))) (.cons (.ret (.subk (.sub (.glo 10) (.subk (.loc 0) 1)) 0)) .nil) .nil) (.cons (.ifs (.cmp .eq (.subk (.loc 0) 0) (.cst (.str [117,110]))) (.cons (.ret (.ite (.cmp .isin (.subk (.loc 0) 1) (.cst (.str [43,45]))) (.cst (.int 3)) (.cst (.int 5)))) .nil) .nil) (.cons (.ifs (.cmp .isin (.subk (.loc 0) 0) (.tup (.cons (.cst (.str [105,110])) (.cons (.cst (.str [110,111,116,105,110])) .nil)))) (.cons (.ret (.cst (.int 2))) .nil) .nil) (.cons (.ret (.glo 9)) .nil)))))⟩
noncomputable def f_show_range_of:Fn:=⟨2,⟨["listers","tree","text"],[("listers",.local),("tree",.local),("text",.local)]⟩,
 (.cons (.ifs (.cmp .ne (.subk (.loc 1) 0) (.cst (.str [115,117,98]))) (.cons (.ret (.call (.sub (.loc 0) (.cst (.str [115,104,111,119]))) (.cons (.loc 1) .nil))) .nil) .nil) (.cons (.asg 2 (.call (.sub (.loc 0) (.cst (.str [115,104,111,119]))) (.cons (.subk (.loc 1) 1) .nil))) (.cons (.ifs (.cmp .is (.subk (.loc 1) 2) (.cst .none)) (.cons (.ret (.loc 2)) .nil) .nil) (.cons (.ifs (.cmp .eq (.subk (.subk (.loc 1) 2) 0) (.cst (.str [114,97,110,103,101]))) (.cons (.ret (.bin .add (.bin .add (.loc 2) (.cst (.str [32,114,97,110,103,101,32]))) (.call (.sub (.loc 0) (.cst (.str [115,104,111,119]))) (.cons (.subk (.subk (.loc 1) 2) 1) .nil)))) .nil) .nil) (.cons (.ret (.bin .add (.bin .add (.bin .add (.loc 2) (.cst (.str [40]))) (.call (.sub (.loc 0) (.cst (.str [97,115,115,111,99,115]))) (.cons (.subk (.subk (.loc 1) 2) 1) .nil))) (.cst (.str [41])))) .nil)))))⟩
noncomputable def f_show_choices:Fn:=⟨2,⟨["listers","choices","texts","choice"],[("listers",.local),("choices",.local),("texts",.local),("choice",.local),("show_range_of",gi)]⟩,
 (.cons (.asg 2 (.mls .nil)) (.cons (.for (.inl 3) (.val (.loc 1)) (.cons (.expr (.meth .append (.loc 2) (.cons (.ite (.cmp .eq (.loc 3) (.tup (.cons (.cst (.str [111,116,104,101,114,115])) .nil))) (.cst (.str [111,116,104,101,114,115])) (.call (.glo 12) (.cons (.loc 0) (.cons (.loc 3) .nil)))) .nil))) .nil)) (.cons (.ret (.meth .join (.cst (.str [32,124,32])) (.cons (.loc 2) .nil))) .nil)))⟩
noncomputable def f_show_names:Fn:=⟨1,⟨["names"],[("names",.local)]⟩,
 (.cons (.ret (.meth .join (.cst (.str [44,32])) (.cons (.loc 0) .nil))) .nil)⟩
noncomputable def f_default_behind:Fn:=⟨2,⟨["listers","node"],[("listers",.local),("node",.local)]⟩,
 (.cons (.ret (.ite (.cmp .is (.loc 1) (.cst .none)) (.cst (.str [])) (.bin .add (.cst (.str [32,58,61,32])) (.call (.sub (.loc 0) (.cst (.str [115,104,111,119]))) (.cons (.loc 1) .nil))))) .nil)⟩
noncomputable def f_show_array:Fn:=⟨2,⟨["listers","definition","texts","index","text"],[("listers",.local),("definition",.local),("texts",.local),("index",.local),("text",.local),("show_range_of",gi),("show_names",gi)]⟩,
 (.cons (.asg 2 (.mls .nil)) (.cons (.for (.inl 3) (.val (.subk (.loc 1) 1)) (.cons (.asg 4 (.call (.glo 12) (.cons (.loc 0) (.cons (.loc 3) .nil)))) (.cons (.expr (.meth .append (.loc 2) (.cons (.ite (.val (.subk (.loc 1) 2)) (.loc 4) (.bin .add (.loc 4) (.cst (.str [32,114,97,110,103,101,32,60,62])))) .nil))) .nil))) (.cons (.ret (.bin .add (.bin .add (.bin .add (.cst (.str [97,114,114,97,121,32,40])) (.call (.glo 13) (.cons (.loc 2) .nil))) (.cst (.str [41,32,111,102,32]))) (.call (.glo 12) (.cons (.loc 0) (.cons (.subk (.loc 1) 3) .nil))))) .nil)))⟩
noncomputable def f_show_kind:Fn:=⟨2,⟨["listers","tree"],[("listers",.local),("tree",.local),("show_array",gi),("show_range_of",gi)]⟩,
 (.cons (.ifs (.cmp .eq (.subk (.loc 1) 0) (.cst (.str [97,114,114,97,121]))) (.cons (.ret (.call (.glo 14) (.cons (.loc 0) (.cons (.loc 1) .nil)))) .nil) .nil) (.cons (.ret (.call (.glo 12) (.cons (.loc 0) (.cons (.loc 1) .nil)))) .nil))⟩
noncomputable def f_show_discs:Fn:=⟨2,⟨["listers","discs"],[("listers",.cell),("discs",.local)]⟩,
 (.cons (.ifs (.cmp .is (.loc 1) (.cst .none)) (.cons (.ret (.cst (.str []))) .nil) .nil) (.cons (.ifs (.cmp .eq (.loc 1) (.cst (.str [98,111,120]))) (.cons (.ret (.cst (.str [32,40,60,62,41]))) .nil) .nil) (.cons (.ret (.bin .add (.bin .add (.cst (.str [32,40])) (.meth .join (.cst (.str [59,32])) (.cons (.comp (.bin .add (.bin .add (.bin .add (.call (.glo 13) (.cons (.loc 0) .nil)) (.cst (.str [32,58,32]))) (.call (.glo 15) (.cons (.loc 3) (.cons (.loc 1) .nil)))) (.call (.glo 16) (.cons (.loc 3) (.cons (.loc 2) .nil)))) (.inr [0,1,2]) 3 (.val (.loc 1)) .nil [0]) .nil))) (.cst (.str [41])))) .nil)))⟩
noncomputable def f_show_words:Fn:=⟨2,⟨["flags","words","text","k"],[("flags",.local),("words",.local),("text",.local),("k",.local),("range",gi),("len",gi)]⟩,
 (.cons (.asg 2 (.cst (.str []))) (.cons (.for (.inl 3) (.range 7 (.call (.glo 0) (.cons (.loc 0) .nil))) (.cons (.ifs (.val (.sub (.loc 0) (.loc 3))) (.cons (.aug 2 .add (.bin .add (.sub (.loc 1) (.loc 3)) (.cst (.str [32])))) .nil) .nil) .nil)) (.cons (.ret (.loc 2)) .nil)))⟩
noncomputable def f_show_components:Fn:=⟨3,⟨["listers","components","variant","text","names","kind","default","choices","inner","inner_variant"],[("listers",.local),("components",.local),("variant",.local),("text",.local),("names",.local),("kind",.local),("default",.local),("choices",.local),("inner",.local),("inner_variant",.local),("show_names",gi),("show_kind",gi),("default_behind",gi),("show_choices",gi),("show_components",gi)]⟩,
 (.cons (.asg 3 (.cst (.str []))) (.cons (.for (.inr [4,5,6]) (.val (.loc 1)) (.cons (.aug 3 .add (.bin .add (.bin .add (.bin .add (.bin .add (.call (.glo 13) (.cons (.loc 4) .nil)) (.cst (.str [32,58,32]))) (.call (.glo 15) (.cons (.loc 0) (.cons (.loc 5) .nil)))) (.call (.glo 16) (.cons (.loc 0) (.cons (.loc 6) .nil)))) (.cst (.str [59,32])))) .nil)) (.cons (.ifs (.cmp .isnot (.loc 2) (.cst .none)) (.cons (.aug 3 .add (.bin .add (.bin .add (.cst (.str [99,97,115,101,32])) (.subk (.loc 2) 0)) (.cst (.str [32,105,115,32])))) (.cons (.for (.inr [7,8,9]) (.val (.subk (.loc 2) 1)) (.cons (.aug 3 .add (.bin .add (.bin .add (.bin .add (.cst (.str [119,104,101,110,32])) (.call (.glo 17) (.cons (.loc 0) (.cons (.loc 7) .nil)))) (.cst (.str [32,61,62,32]))) (.call (.glo 18) (.cons (.loc 0) (.cons (.loc 8) (.cons (.loc 9) .nil)))))) .nil)) (.cons (.ret (.bin .add (.loc 3) (.cst (.str [101,110,100,32,99,97,115,101,59,32])))) .nil))) .nil) (.cons (.ret (.ite (.cmp .eq (.loc 3) (.cst (.str []))) (.cst (.str [110,117,108,108,59,32])) (.loc 3))) .nil))))⟩
noncomputable def f_show_record:Fn:=⟨2,⟨["listers","definition","head"],[("listers",.local),("definition",.local),("head",.local),("show_words",gi),("show_components",gi)]⟩,
 (.cons (.asg 2 (.call (.glo 19) (.cons (.tup (.cons (.subk (.loc 1) 5) (.cons (.subk (.loc 1) 3) (.cons (.subk (.loc 1) 4) .nil)))) (.cons (.tup (.cons (.cst (.str [97,98,115,116,114,97,99,116])) (.cons (.cst (.str [116,97,103,103,101,100])) (.cons (.cst (.str [108,105,109,105,116,101,100])) .nil)))) .nil)))) (.cons (.ifs (.and (.cons (.cmp .eq (.subk (.loc 1) 1) (.lst .nil)) (.cons (.cmp .is (.subk (.loc 1) 2) (.cst .none)) .nil))) (.cons (.ret (.bin .add (.loc 2) (.cst (.str [110,117,108,108,32,114,101,99,111,114,100])))) .nil) .nil) (.cons (.ret (.bin .add (.bin .add (.bin .add (.loc 2) (.cst (.str [114,101,99,111,114,100,32]))) (.call (.glo 18) (.cons (.loc 0) (.cons (.subk (.loc 1) 1) (.cons (.subk (.loc 1) 2) .nil))))) (.cst (.str [101,110,100,32,114,101,99,111,114,100])))) .nil)))⟩
noncomputable def f_show_derived:Fn:=⟨2,⟨["listers","definition","head"],[("listers",.local),("definition",.local),("head",.local),("show_words",gi),("show_range_of",gi),("show_record",gi)]⟩,
 (.cons (.asg 2 (.bin .add (.bin .add (.call (.glo 19) (.cons (.tup (.cons (.subk (.loc 1) 3) .nil)) (.cons (.tup (.cons (.cst (.str [97,98,115,116,114,97,99,116])) .nil)) .nil))) (.cst (.str [110,101,119,32]))) (.call (.glo 12) (.cons (.loc 0) (.cons (.subk (.loc 1) 1) .nil))))) (.cons (.ifs (.cmp .is (.subk (.loc 1) 2) (.cst .none)) (.cons (.ret (.loc 2)) .nil) .nil) (.cons (.ret (.bin .add (.bin .add (.loc 2) (.cst (.str [32,119,105,116,104,32]))) (.call (.glo 20) (.cons (.loc 0) (.cons (.subk (.loc 1) 2) .nil))))) .nil)))⟩
noncomputable def f_show_simple:Fn:=⟨2,⟨["listers","tree","text"],[("listers",.local),("tree",.local),("text",.local),("binding_of",gi),("SIMPLE_LEVEL",gi)]⟩,
 (.cons (.asg 2 (.call (.sub (.loc 0) (.cst (.str [115,104,111,119]))) (.cons (.loc 1) .nil))) (.cons (.ret (.ite (.cmp .lt (.call (.glo 21) (.cons (.loc 1) .nil)) (.glo 22)) (.bin .add (.bin .add (.cst (.str [40])) (.loc 2)) (.cst (.str [41]))) (.loc 2))) .nil))⟩
noncomputable def f_show_number_type:Fn:=⟨2,⟨["listers","definition","text"],[("listers",.local),("definition",.local),("text",.local),("show_simple",gi)]⟩,
 (.cons (.ifs (.cmp .eq (.subk (.loc 1) 0) (.cst (.str [105,110,116,114,97,110,103,101]))) (.cons (.ret (.bin .add (.cst (.str [114,97,110,103,101,32])) (.call (.sub (.loc 0) (.cst (.str [115,104,111,119]))) (.cons (.subk (.loc 1) 1) .nil)))) .nil) .nil) (.cons (.ifs (.cmp .eq (.subk (.loc 1) 0) (.cst (.str [109,111,100,117,108,97,114]))) (.cons (.ret (.bin .add (.cst (.str [109,111,100,32])) (.call (.sub (.loc 0) (.cst (.str [115,104,111,119]))) (.cons (.subk (.loc 1) 1) .nil)))) .nil) .nil) (.cons (.asg 2 (.bin .add (.cst (.str [100,101,108,116,97,32])) (.call (.glo 23) (.cons (.loc 0) (.cons (.subk (.loc 1) 1) .nil))))) (.cons (.ifs (.cmp .isnot (.subk (.loc 1) 2) (.cst .none)) (.cons (.aug 2 .add (.bin .add (.cst (.str [32,114,97,110,103,101,32])) (.call (.sub (.loc 0) (.cst (.str [115,104,111,119]))) (.cons (.subk (.loc 1) 2) .nil)))) .nil) .nil) (.cons (.ret (.loc 2)) .nil)))))⟩
noncomputable def f_show_definition:Fn:=⟨2,⟨["listers","definition","word","marks","mode"],[("listers",.cell),("definition",.local),("word",.local),("marks",.local),("mode",.local),("show_names",gi),("show_number_type",gi),("show_array",gi),("show_record",gi),("show_range_of",gi),("show_derived",gi),("show_words",gi)]⟩,
 (.cons (.asg 2 (.subk (.loc 1) 0)) (.cons (.asg 3 (.dic [[100,105,115,99,114,101,116,101],[97,110,121,114,97,110,103,101],[97,110,121,109,111,100],[97,110,121,100,101,108,116,97]] (.cons (.cst (.str [40,60,62,41])) (.cons (.cst (.str [114,97,110,103,101,32,60,62])) (.cons (.cst (.str [109,111,100,32,60,62])) (.cons (.cst (.str [100,101,108,116,97,32,60,62])) .nil)))))) (.cons (.ifs (.cmp .isin (.loc 2) (.loc 3)) (.cons (.ret (.sub (.loc 3) (.loc 2))) .nil) .nil) (.cons (.ifs (.cmp .eq (.loc 2) (.cst (.str [101,110,117,109]))) (.cons (.ret (.bin .add (.bin .add (.cst (.str [40])) (.call (.glo 13) (.cons (.comp (.call (.sub (.loc 1) (.cst (.str [115,104,111,119]))) (.cons (.loc 0) .nil)) (.inl 0) 1 (.val (.subk (.loc 1) 1)) .nil [0]) .nil))) (.cst (.str [41])))) .nil) .nil) (.cons (.ifs (.cmp .isin (.loc 2) (.tup (.cons (.cst (.str [105,110,116,114,97,110,103,101])) (.cons (.cst (.str [109,111,100,117,108,97,114])) (.cons (.cst (.str [102,105,120,101,100])) .nil))))) (.cons (.ret (.call (.glo 25) (.cons (.loc 0) (.cons (.loc 1) .nil)))) .nil) .nil) (.cons (.ifs (.cmp .eq (.loc 2) (.cst (.str [97,114,114,97,121]))) (.cons (.ret (.call (.glo 14) (.cons (.loc 0) (.cons (.loc 1) .nil)))) .nil) .nil) (.cons (.ifs (.cmp .eq (.loc 2) (.cst (.str [114,101,99,111,114,100]))) (.cons (.ret (.call (.glo 20) (.cons (.loc 0) (.cons (.loc 1) .nil)))) .nil) .nil) (.cons (.ifs (.cmp .eq (.loc 2) (.cst (.str [97,99,99,101,115,115]))) (.cons (.asg 4 (.ite (.cmp .eq (.subk (.loc 1) 2) (.cst (.str []))) (.cst (.str [])) (.bin .add (.subk (.loc 1) 2) (.cst (.str [32]))))) (.cons (.ret (.bin .add (.bin .add (.cst (.str [97,99,99,101,115,115,32])) (.loc 4)) (.call (.glo 12) (.cons (.loc 0) (.cons (.subk (.loc 1) 1) .nil))))) .nil)) .nil) (.cons (.ifs (.cmp .eq (.loc 2) (.cst (.str [100,101,114,105,118,101,100]))) (.cons (.ret (.call (.glo 24) (.cons (.loc 0) (.cons (.loc 1) .nil)))) .nil) .nil) (.cons (.ifs (.cmp .eq (.loc 2) (.cst (.str [101,120,116,101,110,115,105,111,110]))) (.cons (.ret (.bin .add (.bin .add (.bin .add (.call (.glo 19) (.cons (.tup (.cons (.subk (.loc 1) 2) .nil)) (.cons (.tup (.cons (.cst (.str [97,98,115,116,114,97,99,116])) .nil)) .nil))) (.cst (.str [110,101,119,32]))) (.call (.glo 12) (.cons (.loc 0) (.cons (.subk (.loc 1) 1) .nil)))) (.cst (.str [32,119,105,116,104,32,112,114,105,118,97,116,101])))) .nil) .nil) (.cons (.ret (.bin .add (.call (.glo 19) (.cons (.tup (.cons (.subk (.loc 1) 3) (.cons (.subk (.loc 1) 1) (.cons (.subk (.loc 1) 2) .nil)))) (.cons (.tup (.cons (.cst (.str [97,98,115,116,114,97,99,116])) (.cons (.cst (.str [116,97,103,103,101,100])) (.cons (.cst (.str [108,105,109,105,116,101,100])) .nil)))) .nil))) (.cst (.str [112,114,105,118,97,116,101])))) .nil)))))))))))⟩
noncomputable def f_is_reserved:Fn:=⟨1,⟨["word"],[("word",.local),("RESERVED",gi)]⟩,
 (.cons (.ret (.cmp .isin (.loc 0) (.glo 26))) .nil)⟩
noncomputable def f_small_sign:Fn:=⟨1,⟨["sign"],[("sign",.local),("chr",gi),("ord",gi)]⟩,
 (.cons (.ifs (.cmp2 .le .le (.cst (.str [65])) (.loc 0) (.cst (.str [90]))) (.cons (.ret (.call (.glo 2) (.cons (.bin .add (.call (.glo 3) (.cons (.loc 0) .nil)) (.cst (.int 32))) .nil))) .nil) .nil) (.cons (.ret (.loc 0)) .nil))⟩
noncomputable def f_is_name_letter:Fn:=⟨1,⟨["sign"],[("sign",.local),("small_sign",gi),("SMALL_LETTERS",gi)]⟩,
 (.cons (.ret (.bnd (.cons (.cmp .ne (.loc 0) (.cst (.str []))) (.cons (.cmp .isin (.call (.glo 29) (.cons (.loc 0) .nil)) (.glo 30)) .nil)))) .nil)⟩
noncomputable def f_is_name_part:Fn:=⟨1,⟨["sign"],[("sign",.local),("is_name_letter",gi),("FIGURES",gi)]⟩,
 (.cons (.ret (.bor (.cons (.call (.glo 32) (.cons (.loc 0) .nil)) (.cons (.bnd (.cons (.cmp .ne (.loc 0) (.cst (.str []))) (.cons (.cmp .isin (.loc 0) (.glo 31)) .nil))) .nil)))) .nil)⟩
noncomputable def f_is_graphic:Fn:=⟨1,⟨["sign"],[("sign",.local),("ord",gi)]⟩,
 (.cons (.ret (.bnd (.cons (.cmp .ne (.loc 0) (.cst (.str []))) (.cons (.bor (.cons (.cmp2 .le .le (.cst (.int 32)) (.call (.glo 3) (.cons (.loc 0) .nil)) (.cst (.int 126))) (.cons (.cmp2 .le .le (.cst (.int 160)) (.call (.glo 3) (.cons (.loc 0) .nil)) (.cst (.int 255))) .nil))) .nil)))) .nil)⟩
noncomputable def f_name_token:Fn:=⟨3,⟨["text","at","line","end","name"],[("text",.local),("at",.local),("line",.local),("end",.local),("name",.local),("len",gi),("is_name_part",gi),("LexFault",gi),("small_sign",gi),("is_reserved",gi)]⟩,
 (.cons (.asg 3 (.loc 1)) (.cons (.asg 4 (.cst (.str []))) (.cons (.whl (.and (.cons (.cmp .lt (.loc 3) (.call (.glo 0) (.cons (.loc 0) .nil))) (.cons (.or (.cons (.val (.call (.glo 34) (.cons (.sub (.loc 0) (.loc 3)) .nil))) (.cons (.cmp .eq (.sub (.loc 0) (.loc 3)) (.cst (.str [95]))) .nil))) .nil))) (.cons (.ifs (.and (.cons (.cmp .eq (.sub (.loc 0) (.loc 3)) (.cst (.str [95]))) (.cons (.not (.val (.call (.glo 34) (.cons (.slc (.loc 0) (.so (.bin .add (.loc 3) (.cst (.int 1)))) (.so (.bin .add (.loc 3) (.cst (.int 2))))) .nil)))) .nil))) (.cons .raise .nil) .nil) (.cons (.aug 4 .add (.call (.glo 29) (.cons (.sub (.loc 0) (.loc 3)) .nil))) (.cons (.aug 3 .add (.cst (.int 1))) .nil)))) (.cons (.ifs (.val (.call (.glo 33) (.cons (.loc 4) .nil))) (.cons (.ret (.tup (.cons (.tup (.cons (.cst (.str [119,111,114,100])) (.cons (.loc 4) (.cons (.loc 2) .nil)))) (.cons (.loc 3) .nil)))) .nil) .nil) (.cons (.ret (.tup (.cons (.tup (.cons (.cst (.str [110,97,109,101])) (.cons (.loc 4) (.cons (.loc 2) .nil)))) (.cons (.loc 3) .nil)))) .nil)))))⟩
noncomputable def f_read_numeral:Fn:=⟨4,⟨["text","at","base","line","value","count","end","figure"],[("text",.local),("at",.local),("base",.local),("line",.local),("value",.local),("count",.local),("end",.local),("figure",.local),("len",gi),("BASED_FIGURES",gi),("small_sign",gi),("max",gi),("LexFault",gi),("MOST_FIGURES",gi)]⟩,
 (.cons (.asg 4 (.cst (.int 0))) (.cons (.asg 5 (.cst (.int 0))) (.cons (.asg 6 (.loc 1)) (.cons (.whl (.cmp .lt (.loc 6) (.call (.glo 0) (.cons (.loc 0) .nil))) (.cons (.asg 7 (.meth .find (.glo 37) (.cons (.call (.glo 29) (.cons (.sub (.loc 0) (.loc 6)) .nil)) .nil))) (.cons (.ifs (.and (.cons (.cmp .eq (.sub (.loc 0) (.loc 6)) (.cst (.str [95]))) (.cons (.cmp .gt (.loc 5) (.cst (.int 0))) .nil))) (.cons (.aug 6 .add (.cst (.int 1))) (.cons (.asg 7 (.ite (.cmp .lt (.loc 6) (.call (.glo 0) (.cons (.loc 0) .nil))) (.meth .find (.glo 37) (.cons (.call (.glo 29) (.cons (.slc (.loc 0) (.so (.loc 6)) (.so (.bin .add (.loc 6) (.cst (.int 1))))) .nil)) .nil)) (.neg (.cst (.int 1))))) (.cons (.ifs (.or (.cons (.cmp .lt (.loc 7) (.cst (.int 0))) (.cons (.cmp .ge (.loc 7) (.call (.glo 36) (.cons (.loc 2) (.cons (.cst (.int 10)) .nil)))) .nil))) (.cons .raise .nil) .nil) .nil))) .nil) (.cons (.ifs (.or (.cons (.cmp .lt (.loc 7) (.cst (.int 0))) (.cons (.and (.cons (.cmp .le (.loc 2) (.cst (.int 10))) (.cons (.cmp .ge (.loc 7) (.cst (.int 10))) .nil))) .nil))) (.cons .brk .nil) .nil) (.cons (.ifs (.cmp .ge (.loc 7) (.loc 2)) (.cons .raise .nil) .nil) (.cons (.ifs (.cmp .eq (.loc 5) (.glo 35)) (.cons .raise .nil) .nil) (.cons (.asg 4 (.bin .add (.bin .mul (.loc 4) (.loc 2)) (.loc 7))) (.cons (.aug 5 .add (.cst (.int 1))) (.cons (.aug 6 .add (.cst (.int 1))) .nil))))))))) (.cons (.ifs (.cmp .eq (.loc 5) (.cst (.int 0))) (.cons .raise .nil) .nil) (.cons (.ret (.tup (.cons (.loc 4) (.cons (.loc 5) (.cons (.loc 6) .nil))))) .nil))))))⟩
noncomputable def f_power_of:Fn:=⟨3,⟨["text","at","line","sign","begin","value","count","end"],[("text",.local),("at",.local),("line",.local),("sign",.local),("begin",.local),("value",.local),("count",.local),("end",.local),("small_sign",gi),("read_numeral",gi),("MOST_POWER",gi),("LexFault",gi)]⟩,
 (.cons (.ifs (.cmp .ne (.call (.glo 29) (.cons (.slc (.loc 0) (.so (.loc 1)) (.so (.bin .add (.loc 1) (.cst (.int 1))))) .nil)) (.cst (.str [101]))) (.cons (.ret (.tup (.cons (.cst (.int 0)) (.cons (.loc 1) .nil)))) .nil) .nil) (.cons (.asg 3 (.slc (.loc 0) (.so (.bin .add (.loc 1) (.cst (.int 1)))) (.so (.bin .add (.loc 1) (.cst (.int 2)))))) (.cons (.asg 4 (.ite (.or (.cons (.cmp .eq (.loc 3) (.cst (.str [43]))) (.cons (.cmp .eq (.loc 3) (.cst (.str [45]))) .nil))) (.bin .add (.loc 1) (.cst (.int 2))) (.bin .add (.loc 1) (.cst (.int 1))))) (.cons (.asgT [5,6,7] (.call (.glo 39) (.cons (.loc 0) (.cons (.loc 4) (.cons (.cst (.int 10)) (.cons (.loc 2) .nil)))))) (.cons (.ifs (.cmp .gt (.loc 5) (.glo 38)) (.cons .raise .nil) .nil) (.cons (.ret (.tup (.cons (.ite (.cmp .eq (.loc 3) (.cst (.str [45]))) (.neg (.loc 5)) (.loc 5)) (.cons (.loc 7) .nil)))) .nil))))))⟩
noncomputable def f_number_token:Fn:=⟨3,⟨["text","at","line","base","value","count","end","is_based","places","has_point","part","power","behind"],[("text",.local),("at",.local),("line",.local),("base",.local),("value",.local),("count",.local),("end",.local),("is_based",.local),("places",.local),("has_point",.local),("part",.local),("power",.local),("behind",.local),("read_numeral",gi),("LexFault",gi),("power_of",gi),("is_name_part",gi),("make_ratio",gi)]⟩,
 (.cons (.asg 3 (.cst (.int 10))) (.cons (.asgT [4,5,6] (.call (.glo 39) (.cons (.loc 0) (.cons (.loc 1) (.cons (.cst (.int 10)) (.cons (.loc 2) .nil)))))) (.cons (.asg 7 (.cmp .eq (.slc (.loc 0) (.so (.loc 6)) (.so (.bin .add (.loc 6) (.cst (.int 1))))) (.cst (.str [35])))) (.cons (.ifs (.val (.loc 7)) (.cons (.asg 3 (.loc 4)) (.cons (.ifs (.or (.cons (.cmp .lt (.loc 3) (.cst (.int 2))) (.cons (.cmp .gt (.loc 3) (.cst (.int 16))) .nil))) (.cons .raise .nil) .nil) (.cons (.asgT [4,5,6] (.call (.glo 39) (.cons (.loc 0) (.cons (.bin .add (.loc 6) (.cst (.int 1))) (.cons (.loc 3) (.cons (.loc 2) .nil)))))) .nil))) .nil) (.cons (.asg 8 (.cst (.int 0))) (.cons (.asg 9 (.bnd (.cons (.cmp .eq (.slc (.loc 0) (.so (.loc 6)) (.so (.bin .add (.loc 6) (.cst (.int 1))))) (.cst (.str [46]))) (.cons (.cmp .ne (.slc (.loc 0) (.so (.bin .add (.loc 6) (.cst (.int 1)))) (.so (.bin .add (.loc 6) (.cst (.int 2))))) (.cst (.str [46]))) .nil)))) (.cons (.ifs (.val (.loc 9)) (.cons (.asgT [10,8,6] (.call (.glo 39) (.cons (.loc 0) (.cons (.bin .add (.loc 6) (.cst (.int 1))) (.cons (.loc 3) (.cons (.loc 2) .nil)))))) (.cons (.asg 4 (.bin .add (.bin .mul (.loc 4) (.bin .pow (.loc 3) (.loc 8))) (.loc 10))) .nil)) .nil) (.cons (.ifs (.val (.loc 7)) (.cons (.ifs (.cmp .ne (.slc (.loc 0) (.so (.loc 6)) (.so (.bin .add (.loc 6) (.cst (.int 1))))) (.cst (.str [35]))) (.cons .raise .nil) .nil) (.cons (.aug 6 .add (.cst (.int 1))) .nil)) .nil) (.cons (.asgT [11,12] (.call (.glo 41) (.cons (.loc 0) (.cons (.loc 6) (.cons (.loc 2) .nil))))) (.cons (.ifs (.and (.cons (.not (.val (.loc 9))) (.cons (.or (.cons (.cmp .lt (.loc 11) (.cst (.int 0))) (.cons (.and (.cons (.cmp .eq (.slc (.loc 0) (.so (.bin .add (.loc 6) (.cst (.int 1)))) (.so (.bin .add (.loc 6) (.cst (.int 2))))) (.cst (.str [45]))) (.cons (.cmp .gt (.loc 12) (.loc 6)) .nil))) .nil))) .nil))) (.cons .raise .nil) .nil) (.cons (.ifs (.or (.cons (.val (.call (.glo 34) (.cons (.slc (.loc 0) (.so (.loc 12)) (.so (.bin .add (.loc 12) (.cst (.int 1))))) .nil))) (.cons (.cmp .eq (.slc (.loc 0) (.so (.loc 12)) (.so (.bin .add (.loc 12) (.cst (.int 1))))) (.cst (.str [95]))) .nil))) (.cons .raise .nil) .nil) (.cons (.ifs (.not (.val (.loc 9))) (.cons (.ret (.tup (.cons (.tup (.cons (.cst (.str [105,110,116])) (.cons (.bin .mul (.loc 4) (.bin .pow (.loc 3) (.loc 11))) (.cons (.loc 2) .nil)))) (.cons (.loc 12) .nil)))) .nil) .nil) (.cons (.ifs (.cmp .lt (.loc 11) (.loc 8)) (.cons (.ret (.tup (.cons (.tup (.cons (.cst (.str [114,101,97,108])) (.cons (.call (.glo 40) (.cons (.loc 4) (.cons (.bin .pow (.loc 3) (.bin .sub (.loc 8) (.loc 11))) .nil))) (.cons (.loc 2) .nil)))) (.cons (.loc 12) .nil)))) .nil) .nil) (.cons (.ret (.tup (.cons (.tup (.cons (.cst (.str [114,101,97,108])) (.cons (.call (.glo 40) (.cons (.bin .mul (.loc 4) (.bin .pow (.loc 3) (.bin .sub (.loc 11) (.loc 8)))) (.cons (.cst (.int 1)) .nil))) (.cons (.loc 2) .nil)))) (.cons (.loc 12) .nil)))) .nil))))))))))))))⟩
noncomputable def f_is_prefix:Fn:=⟨1,⟨["tokens","kind","value","line"],[("tokens",.local),("kind",.local),("value",.local),("line",.local),("len",gi)]⟩,
 (.cons (.ifs (.cmp .eq (.call (.glo 0) (.cons (.loc 0) .nil)) (.cst (.int 0))) (.cons (.ret (.cst (.bool false))) .nil) .nil) (.cons (.asgT [1,2,3] (.sub (.loc 0) (.bin .sub (.call (.glo 0) (.cons (.loc 0) .nil)) (.cst (.int 1))))) (.cons (.ret (.bor (.cons (.cmp .eq (.loc 1) (.cst (.str [110,97,109,101]))) (.cons (.cmp .eq (.loc 1) (.cst (.str [115,116,114,105,110,103]))) (.cons (.bnd (.cons (.cmp .eq (.loc 1) (.cst (.str [111,112]))) (.cons (.cmp .eq (.loc 2) (.cst (.str [41]))) .nil))) (.cons (.bnd (.cons (.cmp .eq (.loc 1) (.cst (.str [119,111,114,100]))) (.cons (.cmp .eq (.loc 2) (.cst (.str [97,108,108]))) .nil))) .nil)))))) .nil)))⟩
noncomputable def f_tick_token:Fn:=⟨4,⟨["text","at","line","tokens"],[("text",.local),("at",.local),("line",.local),("tokens",.local),("is_prefix",gi),("is_graphic",gi),("ord",gi)]⟩,
 (.cons (.ifs (.and (.cons (.not (.val (.call (.glo 43) (.cons (.loc 3) .nil)))) (.cons (.val (.call (.glo 42) (.cons (.slc (.loc 0) (.so (.bin .add (.loc 1) (.cst (.int 1)))) (.so (.bin .add (.loc 1) (.cst (.int 2))))) .nil))) (.cons (.cmp .eq (.slc (.loc 0) (.so (.bin .add (.loc 1) (.cst (.int 2)))) (.so (.bin .add (.loc 1) (.cst (.int 3))))) (.cst (.str [39]))) .nil)))) (.cons (.ret (.tup (.cons (.tup (.cons (.cst (.str [99,104,97,114])) (.cons (.call (.glo 3) (.cons (.sub (.loc 0) (.bin .add (.loc 1) (.cst (.int 1)))) .nil)) (.cons (.loc 2) .nil)))) (.cons (.bin .add (.loc 1) (.cst (.int 3))) .nil)))) .nil) .nil) (.cons (.ret (.tup (.cons (.tup (.cons (.cst (.str [111,112])) (.cons (.cst (.str [39])) (.cons (.loc 2) .nil)))) (.cons (.bin .add (.loc 1) (.cst (.int 1))) .nil)))) .nil))⟩
noncomputable def f_delimiter_token:Fn:=⟨3,⟨["text","at","line"],[("text",.local),("at",.local),("line",.local),("COMPOUNDS",gi),("SINGLES",gi),("LexFault",gi)]⟩,
 (.cons (.ifs (.cmp .isin (.slc (.loc 0) (.so (.loc 1)) (.so (.bin .add (.loc 1) (.cst (.int 2))))) (.glo 45)) (.cons (.ret (.tup (.cons (.tup (.cons (.cst (.str [111,112])) (.cons (.slc (.loc 0) (.so (.loc 1)) (.so (.bin .add (.loc 1) (.cst (.int 2))))) (.cons (.loc 2) .nil)))) (.cons (.bin .add (.loc 1) (.cst (.int 2))) .nil)))) .nil) .nil) (.cons (.ifs (.cmp .isin (.sub (.loc 0) (.loc 1)) (.glo 44)) (.cons (.ret (.tup (.cons (.tup (.cons (.cst (.str [111,112])) (.cons (.sub (.loc 0) (.loc 1)) (.cons (.loc 2) .nil)))) (.cons (.bin .add (.loc 1) (.cst (.int 1))) .nil)))) .nil) .nil) (.cons .raise .nil)))⟩
noncomputable def f_one_token:Fn:=⟨4,⟨["text","at","line","tokens","sign"],[("text",.local),("at",.local),("line",.local),("tokens",.local),("sign",.local),("is_name_letter",gi),("name_token",gi),("FIGURES",gi),("number_token",gi),("string_token",gi),("tick_token",gi),("delimiter_token",gi)]⟩,
 (.cons (.asg 4 (.sub (.loc 0) (.loc 1))) (.cons (.ifs (.val (.call (.glo 32) (.cons (.loc 4) .nil))) (.cons (.ret (.call (.glo 50) (.cons (.loc 0) (.cons (.loc 1) (.cons (.loc 2) .nil))))) .nil) .nil) (.cons (.ifs (.cmp .isin (.loc 4) (.glo 31)) (.cons (.ret (.call (.glo 49) (.cons (.loc 0) (.cons (.loc 1) (.cons (.loc 2) .nil))))) .nil) .nil) (.cons (.ifs (.cmp .eq (.loc 4) (.cst (.str [34]))) (.cons (.ret (.call (.glo 48) (.cons (.loc 0) (.cons (.loc 1) (.cons (.loc 2) .nil))))) .nil) .nil) (.cons (.ifs (.cmp .eq (.loc 4) (.cst (.str [39]))) (.cons (.ret (.call (.glo 47) (.cons (.loc 0) (.cons (.loc 1) (.cons (.loc 2) (.cons (.loc 3) .nil)))))) .nil) .nil) (.cons (.ret (.call (.glo 46) (.cons (.loc 0) (.cons (.loc 1) (.cons (.loc 2) .nil))))) .nil))))))⟩
noncomputable def f_remark_behind:Fn:=⟨2,⟨["text","at","end"],[("text",.local),("at",.local),("end",.local),("len",gi),("LINE_ENDS",gi)]⟩,
 (.cons (.asg 2 (.loc 1)) (.cons (.whl (.and (.cons (.cmp .lt (.loc 2) (.call (.glo 0) (.cons (.loc 0) .nil))) (.cons (.cmp .notin (.sub (.loc 0) (.loc 2)) (.glo 51)) .nil))) (.cons (.aug 2 .add (.cst (.int 1))) .nil)) (.cons (.ret (.loc 2)) .nil)))⟩
noncomputable def f_tokens_of:Fn:=⟨1,⟨["text","tokens","at","line","token"],[("text",.local),("tokens",.local),("at",.local),("line",.local),("token",.local),("len",gi),("GAPS",gi),("remark_behind",gi),("one_token",gi)]⟩,
 (.cons (.asg 1 (.mls .nil)) (.cons (.asg 2 (.cst (.int 0))) (.cons (.asg 3 (.cst (.int 1))) (.cons (.whl (.cmp .lt (.loc 2) (.call (.glo 0) (.cons (.loc 0) .nil))) (.cons (.ifs (.cmp .isin (.sub (.loc 0) (.loc 2)) (.glo 52)) (.cons (.ifs (.cmp .eq (.sub (.loc 0) (.loc 2)) (.cst (.str [10]))) (.cons (.aug 3 .add (.cst (.int 1))) .nil) .nil) (.cons (.aug 2 .add (.cst (.int 1))) .nil)) (.cons (.ifs (.cmp .eq (.slc (.loc 0) (.so (.loc 2)) (.so (.bin .add (.loc 2) (.cst (.int 2))))) (.cst (.str [45,45]))) (.cons (.asg 2 (.call (.glo 53) (.cons (.loc 0) (.cons (.loc 2) .nil)))) .nil) (.cons (.asgT [4,2] (.call (.glo 54) (.cons (.loc 0) (.cons (.loc 2) (.cons (.loc 3) (.cons (.loc 1) .nil)))))) (.cons (.expr (.meth .append (.loc 1) (.cons (.loc 4) .nil))) .nil))) .nil)) .nil)) (.cons (.ret (.loc 1)) .nil)))))⟩
noncomputable def f_init:Fn:=⟨3,⟨["self","tokens","at"],[("self",.local),("tokens",.local),("at",.local)]⟩,
 (.cons (.setattr (.loc 0) 0 (.loc 1)) (.cons (.setattr (.loc 0) 1 (.loc 2)) (.cons (.setattr (.loc 0) 2 (.cst (.int 0))) (.cons (.setattr (.loc 0) 3 (.cst (.int 0))) (.cons (.setattr (.loc 0) 4 (.cst .none)) (.cons (.setattr (.loc 0) 5 (.cst .none)) (.cons (.setattr (.loc 0) 6 (.cst .none)) (.cons (.setattr (.loc 0) 7 (.cst .none)) (.cons (.setattr (.loc 0) 8 (.cst .none)) (.cons (.setattr (.loc 0) 9 (.cst .none)) (.cons (.setattr (.loc 0) 10 (.cst .none)) (.cons (.setattr (.loc 0) 11 (.cst .none)) (.cons (.setattr (.loc 0) 12 (.cst .none)) (.cons (.setattr (.loc 0) 13 (.cst .none)) (.cons (.setattr (.loc 0) 14 (.cst .none)) .nil)))))))))))))))⟩
noncomputable def f_token_ahead:Fn:=⟨2,⟨["reader","ahead","spot"],[("reader",.local),("ahead",.local),("spot",.local),("len",gi)]⟩,
 (.cons (.asg 2 (.bin .add (.attr (.loc 0) 1) (.loc 1))) (.cons (.ifs (.cmp .lt (.loc 2) (.call (.glo 0) (.cons (.attr (.loc 0) 0) .nil))) (.cons (.ret (.sub (.attr (.loc 0) 0) (.loc 2))) .nil) .nil) (.cons (.ifs (.cmp .eq (.attr (.loc 0) 0) (.lst .nil)) (.cons (.ret (.tup (.cons (.cst (.str [])) (.cons (.cst (.str [])) (.cons (.cst (.int 1)) .nil))))) .nil) .nil) (.cons (.ret (.tup (.cons (.cst (.str [])) (.cons (.cst (.str [])) (.cons (.subk (.sub (.attr (.loc 0) 0) (.neg (.cst (.int 1)))) 2) .nil))))) .nil))))⟩
noncomputable def f_peek_token:Fn:=⟨1,⟨["reader"],[("reader",.local),("token_ahead",gi)]⟩,
 (.cons (.ret (.call (.glo 55) (.cons (.loc 0) (.cons (.cst (.int 0)) .nil)))) .nil)⟩
noncomputable def f_take_token:Fn:=⟨1,⟨["reader","token"],[("reader",.local),("token",.local),("token_ahead",gi)]⟩,
 (.cons (.asg 1 (.call (.glo 55) (.cons (.loc 0) (.cons (.cst (.int 0)) .nil)))) (.cons (.augattr (.loc 0) 1 .add (.cst (.int 1))) (.cons (.ret (.loc 1)) .nil)))⟩
noncomputable def f_is_sign:Fn:=⟨3,⟨["reader","sign","ahead"],[("reader",.local),("sign",.local),("ahead",.local),("token_ahead",gi)]⟩,
 (.cons (.ret (.cmp .eq (.slc (.call (.glo 55) (.cons (.loc 0) (.cons (.loc 2) .nil))) .no (.so (.cst (.int 2)))) (.tup (.cons (.cst (.str [111,112])) (.cons (.loc 1) .nil))))) .nil)⟩
noncomputable def f_is_word:Fn:=⟨3,⟨["reader","word","ahead"],[("reader",.local),("word",.local),("ahead",.local),("token_ahead",gi)]⟩,
 (.cons (.ret (.cmp .eq (.slc (.call (.glo 55) (.cons (.loc 0) (.cons (.loc 2) .nil))) .no (.so (.cst (.int 2)))) (.tup (.cons (.cst (.str [119,111,114,100])) (.cons (.loc 1) .nil))))) .nil)⟩
noncomputable def f_take_sign:Fn:=⟨2,⟨["reader","sign"],[("reader",.local),("sign",.local),("is_sign",gi)]⟩,
 (.cons (.ifs (.not (.val (.call (.glo 56) (.cons (.loc 0) (.cons (.loc 1) .nil))))) (.cons (.ret (.cst (.bool false))) .nil) .nil) (.cons (.augattr (.loc 0) 1 .add (.cst (.int 1))) (.cons (.ret (.cst (.bool true))) .nil)))⟩
noncomputable def f_take_word:Fn:=⟨2,⟨["reader","word"],[("reader",.local),("word",.local),("is_word",gi)]⟩,
 (.cons (.ifs (.not (.val (.call (.glo 57) (.cons (.loc 0) (.cons (.loc 1) .nil))))) (.cons (.ret (.cst (.bool false))) .nil) .nil) (.cons (.augattr (.loc 0) 1 .add (.cst (.int 1))) (.cons (.ret (.cst (.bool true))) .nil)))⟩
noncomputable def f_need_sign:Fn:=⟨2,⟨["reader","sign"],[("reader",.local),("sign",.local),("take_sign",gi),("refuse_here",gi)]⟩,
 (.cons (.ifs (.not (.val (.call (.glo 58) (.cons (.loc 0) (.cons (.loc 1) .nil))))) (.cons .raise .nil) .nil) .nil)⟩
noncomputable def f_need_word:Fn:=⟨2,⟨["reader","word"],[("reader",.local),("word",.local),("take_word",gi),("refuse_here",gi)]⟩,
 (.cons (.ifs (.not (.val (.call (.glo 59) (.cons (.loc 0) (.cons (.loc 1) .nil))))) (.cons .raise .nil) .nil) .nil)⟩
noncomputable def f_need_name:Fn:=⟨1,⟨["reader"],[("reader",.local),("peek_token",gi),("refuse_here",gi),("take_token",gi)]⟩,
 (.cons (.ifs (.cmp .ne (.subk (.call (.glo 61) (.cons (.loc 0) .nil)) 0) (.cst (.str [110,97,109,101]))) (.cons .raise .nil) .nil) (.cons (.ret (.subk (.call (.glo 60) (.cons (.loc 0) .nil)) 1)) .nil))⟩
noncomputable def f_tree_parts:Fn:=⟨1,⟨["tree","parts","part","one"],[("tree",.local),("parts",.local),("part",.local),("one",.local),("isinstance",gi),("tuple",gi),("list",gi),("len",gi)]⟩,
 (.cons (.asg 1 (.mls .nil)) (.cons (.for (.inl 2) (.val (.slc (.loc 0) (.so (.cst (.int 1))) .no)) (.cons (.ifs (.val (.call (.glo 4) (.cons (.loc 2) (.cons (.glo 6) .nil)))) (.cons (.expr (.meth .append (.loc 1) (.cons (.loc 2) .nil))) .nil) (.cons (.ifs (.val (.call (.glo 4) (.cons (.loc 2) (.cons (.glo 5) .nil)))) (.cons (.for (.inl 3) (.val (.loc 2)) (.cons (.ifs (.and (.cons (.cmp .eq (.call (.glo 0) (.cons (.loc 3) .nil)) (.cst (.int 2))) (.cons (.val (.call (.glo 4) (.cons (.subk (.loc 3) 1) (.cons (.glo 6) .nil)))) (.cons (.or (.cons (.cmp .is (.subk (.loc 3) 0) (.cst .none)) (.cons (.val (.call (.glo 4) (.cons (.subk (.loc 3) 0) (.cons (.glo 5) .nil)))) .nil))) .nil)))) (.cons (.expr (.meth .extend (.loc 1) (.cons (.bin .add (.bor (.cons (.subk (.loc 3) 0) (.cons (.lst .nil) .nil))) (.lst (.cons (.subk (.loc 3) 1) .nil))) .nil))) .nil) (.cons (.expr (.meth .append (.loc 1) (.cons (.loc 3) .nil))) .nil)) .nil)) .nil) .nil) .nil)) .nil)) (.cons (.ret (.loc 1)) .nil)))⟩
noncomputable def f_check_height:Fn:=⟨2,⟨["reader","tree","level","turn"],[("reader",.local),("tree",.local),("level",.local),("turn",.local),("range",gi),("MOST_HIGH",gi),("refuse_here",gi)]⟩,
 (.cons (.asg 2 (.lst (.cons (.loc 1) .nil))) (.cons (.for (.inl 3) (.range 7 (.glo 62)) (.cons (.asg 2 (.comp2 (.loc 1) (.val (.loc 2)) (.val (.call (.glo 63) (.cons (.loc 0) .nil))))) (.cons (.ifs (.cmp .eq (.loc 2) (.lst .nil)) (.cons .ret0 .nil) .nil) .nil))) (.cons .raise .nil)))⟩
noncomputable def f_open_nest:Fn:=⟨1,⟨["reader"],[("reader",.local),("MOST_NESTED",gi),("refuse_here",gi)]⟩,
 (.cons (.augattr (.loc 0) 2 .add (.cst (.int 1))) (.cons (.ifs (.cmp .gt (.attr (.loc 0) 2) (.glo 64)) (.cons .raise .nil) .nil) .nil))⟩
noncomputable def f_close_nest:Fn:=⟨1,⟨["reader"],[("reader",.local)]⟩,
 (.cons (.augattr (.loc 0) 2 .sub (.cst (.int 1))) .nil)⟩
noncomputable def f_bounded_tree:Fn:=⟨2,⟨["reader","tree"],[("reader",.local),("tree",.local),("check_height",gi)]⟩,
 (.cons (.ifs (.cmp .eq (.attr (.loc 0) 2) (.cst (.int 0))) (.cons (.expr (.call (.glo 65) (.cons (.loc 0) (.cons (.loc 1) .nil)))) .nil) .nil) (.cons (.ret (.loc 1)) .nil))⟩
noncomputable def f_parse_expr:Fn:=⟨1,⟨["reader"],[("reader",.local),("bounded_tree",gi),("logical_tree",gi),("relation_tree",gi),("simple_tree",gi)]⟩,
 (.cons (.ret (.call (.glo 66) (.cons (.loc 0) (.cons (.call (.glo 67) (.cons (.loc 0) (.cons (.call (.glo 68) (.cons (.loc 0) (.cons (.call (.glo 69) (.cons (.loc 0) .nil)) .nil))) .nil))) .nil)))) .nil)⟩
noncomputable def f_parse_simple:Fn:=⟨1,⟨["reader"],[("reader",.local),("bounded_tree",gi),("simple_tree",gi)]⟩,
 (.cons (.ret (.call (.glo 66) (.cons (.loc 0) (.cons (.call (.glo 69) (.cons (.loc 0) .nil)) .nil)))) .nil)⟩
noncomputable def f_logical_word:Fn:=⟨1,⟨["reader"],[("reader",.local),("is_word",gi)]⟩,
 (.cons (.ifs (.val (.call (.glo 57) (.cons (.loc 0) (.cons (.cst (.str [97,110,100])) .nil)))) (.cons (.ret (.ite (.val (.call (.glo 57) (.cons (.loc 0) (.cons (.cst (.str [116,104,101,110])) (.cons (.cst (.int 1)) .nil))))) (.tup (.cons (.cst (.str [97,110,100,116,104,101,110])) (.cons (.cst (.int 2)) .nil))) (.tup (.cons (.cst (.str [97,110,100])) (.cons (.cst (.int 1)) .nil))))) .nil) .nil) (.cons (.ifs (.val (.call (.glo 57) (.cons (.loc 0) (.cons (.cst (.str [111,114])) .nil)))) (.cons (.ret (.ite (.val (.call (.glo 57) (.cons (.loc 0) (.cons (.cst (.str [101,108,115,101])) (.cons (.cst (.int 1)) .nil))))) (.tup (.cons (.cst (.str [111,114,101,108,115,101])) (.cons (.cst (.int 2)) .nil))) (.tup (.cons (.cst (.str [111,114])) (.cons (.cst (.int 1)) .nil))))) .nil) .nil) (.cons (.ifs (.val (.call (.glo 57) (.cons (.loc 0) (.cons (.cst (.str [120,111,114])) .nil)))) (.cons (.ret (.tup (.cons (.cst (.str [120,111,114])) (.cons (.cst (.int 1)) .nil)))) .nil) .nil) (.cons (.ret (.tup (.cons (.cst (.str [])) (.cons (.cst (.int 0)) .nil)))) .nil))))⟩
noncomputable def f_logical_tree:Fn:=⟨2,⟨["reader","tree","sort","word","size","right"],[("reader",.local),("tree",.local),("sort",.local),("word",.local),("size",.local),("right",.local),("logical_word",gi),("refuse_here",gi),("relation_tree",gi),("simple_tree",gi)]⟩,
 (.cons (.asg 2 (.subk (.call (.glo 70) (.cons (.loc 0) .nil)) 0)) (.cons (.whl (.val (.cst (.bool true))) (.cons (.asgT [3,4] (.call (.glo 70) (.cons (.loc 0) .nil))) (.cons (.ifs (.cmp .eq (.loc 3) (.cst (.str []))) (.cons (.ret (.loc 1)) .nil) .nil) (.cons (.ifs (.cmp .ne (.loc 3) (.loc 2)) (.cons .raise .nil) .nil) (.cons (.augattr (.loc 0) 1 .add (.loc 4)) (.cons (.asg 5 (.call (.glo 68) (.cons (.loc 0) (.cons (.call (.glo 69) (.cons (.loc 0) .nil)) .nil)))) (.cons (.ifs (.cmp .eq (.loc 4) (.cst (.int 2))) (.cons (.asg 1 (.tup (.cons (.loc 3) (.cons (.loc 1) (.cons (.loc 5) .nil))))) .nil) (.cons (.asg 1 (.tup (.cons (.cst (.str [98,105,110])) (.cons (.loc 3) (.cons (.loc 1) (.cons (.loc 5) .nil)))))) .nil)) .nil))))))) .nil))⟩
noncomputable def f_relation_sign:Fn:=⟨1,⟨["reader","token"],[("reader",.local),("token",.local),("peek_token",gi),("RELATIONS",gi)]⟩,
 (.cons (.asg 1 (.call (.glo 61) (.cons (.loc 0) .nil))) (.cons (.ifs (.and (.cons (.cmp .eq (.subk (.loc 1) 0) (.cst (.str [111,112]))) (.cons (.cmp .isin (.subk (.loc 1) 1) (.glo 71)) .nil))) (.cons (.ret (.subk (.loc 1) 1)) .nil) .nil) (.cons (.ret (.cst (.str []))) .nil)))⟩
noncomputable def f_relation_tree:Fn:=⟨2,⟨["reader","tree","sign"],[("reader",.local),("tree",.local),("sign",.local),("relation_sign",gi),("simple_tree",gi),("is_word",gi),("member_tree",gi),("refuse_here",gi)]⟩,
 (.cons (.asg 2 (.call (.glo 72) (.cons (.loc 0) .nil))) (.cons (.ifs (.cmp .ne (.loc 2) (.cst (.str []))) (.cons (.augattr (.loc 0) 1 .add (.cst (.int 1))) (.cons (.asg 1 (.tup (.cons (.cst (.str [98,105,110])) (.cons (.loc 2) (.cons (.loc 1) (.cons (.call (.glo 69) (.cons (.loc 0) .nil)) .nil)))))) .nil)) (.cons (.ifs (.val (.call (.glo 57) (.cons (.loc 0) (.cons (.cst (.str [105,110])) .nil)))) (.cons (.augattr (.loc 0) 1 .add (.cst (.int 1))) (.cons (.asg 1 (.tup (.cons (.cst (.str [105,110])) (.cons (.loc 1) (.cons (.call (.glo 73) (.cons (.loc 0) .nil)) .nil))))) .nil)) (.cons (.ifs (.and (.cons (.val (.call (.glo 57) (.cons (.loc 0) (.cons (.cst (.str [110,111,116])) .nil)))) (.cons (.val (.call (.glo 57) (.cons (.loc 0) (.cons (.cst (.str [105,110])) (.cons (.cst (.int 1)) .nil))))) .nil))) (.cons (.augattr (.loc 0) 1 .add (.cst (.int 2))) (.cons (.asg 1 (.tup (.cons (.cst (.str [110,111,116,105,110])) (.cons (.loc 1) (.cons (.call (.glo 73) (.cons (.loc 0) .nil)) .nil))))) .nil)) (.cons (.ret (.loc 1)) .nil)) .nil)) .nil)) (.cons (.ifs (.cmp .ne (.call (.glo 72) (.cons (.loc 0) .nil)) (.cst (.str []))) (.cons .raise .nil) .nil) (.cons (.ret (.loc 1)) .nil))))⟩
noncomputable def f_member_tree:Fn:=⟨1,⟨["reader","tree"],[("reader",.local),("tree",.local),("simple_tree",gi),("take_sign",gi),("NAMES",gi),("refuse_here",gi)]⟩,
 (.cons (.asg 1 (.call (.glo 69) (.cons (.loc 0) .nil))) (.cons (.ifs (.val (.call (.glo 58) (.cons (.loc 0) (.cons (.cst (.str [46,46])) .nil)))) (.cons (.ret (.tup (.cons (.cst (.str [114,97,110,103,101])) (.cons (.loc 1) (.cons (.call (.glo 69) (.cons (.loc 0) .nil)) .nil))))) .nil) .nil) (.cons (.ifs (.cmp .notin (.subk (.loc 1) 0) (.glo 74)) (.cons .raise .nil) .nil) (.cons (.ret (.loc 1)) .nil))))⟩
noncomputable def f_simple_tree:Fn:=⟨1,⟨["reader","sign","tree"],[("reader",.local),("sign",.local),("tree",.local),("is_sign",gi),("take_token",gi),("term_tree",gi)]⟩,
 (.cons (.asg 1 (.cst (.str []))) (.cons (.ifs (.or (.cons (.val (.call (.glo 56) (.cons (.loc 0) (.cons (.cst (.str [43])) .nil)))) (.cons (.val (.call (.glo 56) (.cons (.loc 0) (.cons (.cst (.str [45])) .nil)))) .nil))) (.cons (.asg 1 (.subk (.call (.glo 60) (.cons (.loc 0) .nil)) 1)) .nil) .nil) (.cons (.asg 2 (.call (.glo 75) (.cons (.loc 0) .nil))) (.cons (.ifs (.cmp .ne (.loc 1) (.cst (.str []))) (.cons (.asg 2 (.tup (.cons (.cst (.str [117,110])) (.cons (.loc 1) (.cons (.loc 2) .nil))))) .nil) .nil) (.cons (.whl (.or (.cons (.val (.call (.glo 56) (.cons (.loc 0) (.cons (.cst (.str [43])) .nil)))) (.cons (.val (.call (.glo 56) (.cons (.loc 0) (.cons (.cst (.str [45])) .nil)))) (.cons (.val (.call (.glo 56) (.cons (.loc 0) (.cons (.cst (.str [38])) .nil)))) .nil)))) (.cons (.asg 1 (.subk (.call (.glo 60) (.cons (.loc 0) .nil)) 1)) (.cons (.asg 2 (.tup (.cons (.cst (.str [98,105,110])) (.cons (.loc 1) (.cons (.loc 2) (.cons (.call (.glo 75) (.cons (.loc 0) .nil)) .nil)))))) .nil))) (.cons (.ret (.loc 2)) .nil))))))⟩
noncomputable def f_term_tree:Fn:=⟨1,⟨["reader","tree","sign"],[("reader",.local),("tree",.local),("sign",.local),("factor_tree",gi),("is_sign",gi),("is_word",gi),("take_token",gi)]⟩,
 (.cons (.asg 1 (.call (.glo 76) (.cons (.loc 0) .nil))) (.cons (.whl (.or (.cons (.val (.call (.glo 56) (.cons (.loc 0) (.cons (.cst (.str [42])) .nil)))) (.cons (.val (.call (.glo 56) (.cons (.loc 0) (.cons (.cst (.str [47])) .nil)))) (.cons (.val (.call (.glo 57) (.cons (.loc 0) (.cons (.cst (.str [109,111,100])) .nil)))) (.cons (.val (.call (.glo 57) (.cons (.loc 0) (.cons (.cst (.str [114,101,109])) .nil)))) .nil))))) (.cons (.asg 2 (.subk (.call (.glo 60) (.cons (.loc 0) .nil)) 1)) (.cons (.asg 1 (.tup (.cons (.cst (.str [98,105,110])) (.cons (.loc 2) (.cons (.loc 1) (.cons (.call (.glo 76) (.cons (.loc 0) .nil)) .nil)))))) .nil))) (.cons (.ret (.loc 1)) .nil)))⟩
noncomputable def f_factor_tree:Fn:=⟨1,⟨["reader","word","tree"],[("reader",.local),("word",.local),("tree",.local),("is_word",gi),("take_token",gi),("primary_tree",gi),("take_sign",gi)]⟩,
 (.cons (.ifs (.or (.cons (.val (.call (.glo 57) (.cons (.loc 0) (.cons (.cst (.str [97,98,115])) .nil)))) (.cons (.val (.call (.glo 57) (.cons (.loc 0) (.cons (.cst (.str [110,111,116])) .nil)))) .nil))) (.cons (.asg 1 (.subk (.call (.glo 60) (.cons (.loc 0) .nil)) 1)) (.cons (.ret (.tup (.cons (.cst (.str [117,110])) (.cons (.loc 1) (.cons (.call (.glo 77) (.cons (.loc 0) .nil)) .nil))))) .nil)) .nil) (.cons (.asg 2 (.call (.glo 77) (.cons (.loc 0) .nil))) (.cons (.ifs (.val (.call (.glo 58) (.cons (.loc 0) (.cons (.cst (.str [42,42])) .nil)))) (.cons (.asg 2 (.tup (.cons (.cst (.str [98,105,110])) (.cons (.cst (.str [42,42])) (.cons (.loc 2) (.cons (.call (.glo 77) (.cons (.loc 0) .nil)) .nil)))))) .nil) .nil) (.cons (.ret (.loc 2)) .nil))))⟩
noncomputable def f_primary_tree:Fn:=⟨1,⟨["reader","kind","value","line"],[("reader",.local),("kind",.local),("value",.local),("line",.local),("peek_token",gi),("is_sign",gi),("bracket_tree",gi),("take_word",gi),("name_tree",gi)]⟩,
 (.cons (.asgT [1,2,3] (.call (.glo 61) (.cons (.loc 0) .nil))) (.cons (.ifs (.or (.cons (.cmp .eq (.loc 1) (.cst (.str [105,110,116]))) (.cons (.cmp .eq (.loc 1) (.cst (.str [99,104,97,114]))) .nil))) (.cons (.augattr (.loc 0) 1 .add (.cst (.int 1))) (.cons (.ret (.tup (.cons (.loc 1) (.cons (.loc 2) .nil)))) .nil)) .nil) (.cons (.ifs (.cmp .eq (.loc 1) (.cst (.str [114,101,97,108]))) (.cons (.augattr (.loc 0) 1 .add (.cst (.int 1))) (.cons (.ret (.tup (.cons (.cst (.str [114,101,97,108])) (.cons (.subk (.loc 2) 0) (.cons (.subk (.loc 2) 1) .nil))))) .nil)) .nil) (.cons (.ifs (.and (.cons (.cmp .eq (.loc 1) (.cst (.str [115,116,114,105,110,103]))) (.cons (.not (.val (.call (.glo 56) (.cons (.loc 0) (.cons (.cst (.str [40])) (.cons (.cst (.int 1)) .nil)))))) (.cons (.not (.val (.call (.glo 56) (.cons (.loc 0) (.cons (.cst (.str [46])) (.cons (.cst (.int 1)) .nil)))))) .nil)))) (.cons (.augattr (.loc 0) 1 .add (.cst (.int 1))) (.cons (.ret (.tup (.cons (.cst (.str [115,116,114,105,110,103])) (.cons (.loc 2) .nil)))) .nil)) .nil) (.cons (.ifs (.and (.cons (.cmp .eq (.loc 1) (.cst (.str [111,112]))) (.cons (.cmp .eq (.loc 2) (.cst (.str [40]))) .nil))) (.cons (.ret (.call (.glo 79) (.cons (.loc 0) .nil))) .nil) .nil) (.cons (.ifs (.val (.call (.glo 59) (.cons (.loc 0) (.cons (.cst (.str [110,117,108,108])) .nil)))) (.cons (.ret (.tup (.cons (.cst (.str [110,117,108,108])) .nil))) .nil) .nil) (.cons (.ifs (.val (.call (.glo 59) (.cons (.loc 0) (.cons (.cst (.str [110,101,119])) .nil)))) (.cons (.ret (.tup (.cons (.cst (.str [110,101,119])) (.cons (.call (.glo 78) (.cons (.loc 0) .nil)) .nil)))) .nil) .nil) (.cons (.ret (.call (.glo 78) (.cons (.loc 0) .nil))) .nil))))))))⟩
noncomputable def f_parse_name:Fn:=⟨1,⟨["reader"],[("reader",.local),("bounded_tree",gi),("name_tree",gi)]⟩,
 (.cons (.ret (.call (.glo 66) (.cons (.loc 0) (.cons (.call (.glo 78) (.cons (.loc 0) .nil)) .nil)))) .nil)⟩
noncomputable def f_name_tree:Fn:=⟨1,⟨["reader","tree"],[("reader",.local),("tree",.local),("peek_token",gi),("symbol_name",gi),("need_name",gi),("take_sign",gi),("selected_tree",gi),("is_sign",gi),("assocs_here",gi),("bracket_tree",gi),("attribute_tree",gi)]⟩,
 (.cons (.ifs (.cmp .eq (.subk (.call (.glo 61) (.cons (.loc 0) .nil)) 0) (.cst (.str [115,116,114,105,110,103]))) (.cons (.asg 1 (.tup (.cons (.cst (.str [110,97,109,101])) (.cons (.call (.glo 83) (.cons (.loc 0) .nil)) .nil)))) .nil) (.cons (.asg 1 (.tup (.cons (.cst (.str [110,97,109,101])) (.cons (.call (.glo 84) (.cons (.loc 0) .nil)) .nil)))) .nil)) (.cons (.whl (.val (.cst (.bool true))) (.cons (.ifs (.val (.call (.glo 58) (.cons (.loc 0) (.cons (.cst (.str [46])) .nil)))) (.cons (.asg 1 (.call (.glo 80) (.cons (.loc 0) (.cons (.loc 1) .nil)))) .nil) (.cons (.ifs (.val (.call (.glo 56) (.cons (.loc 0) (.cons (.cst (.str [40])) .nil)))) (.cons (.asg 1 (.tup (.cons (.cst (.str [97,112,112,108,121])) (.cons (.loc 1) (.cons (.call (.glo 81) (.cons (.loc 0) .nil)) .nil))))) .nil) (.cons (.ifs (.and (.cons (.val (.call (.glo 56) (.cons (.loc 0) (.cons (.cst (.str [39])) .nil)))) (.cons (.val (.call (.glo 56) (.cons (.loc 0) (.cons (.cst (.str [40])) (.cons (.cst (.int 1)) .nil))))) .nil))) (.cons (.augattr (.loc 0) 1 .add (.cst (.int 1))) (.cons (.ret (.tup (.cons (.cst (.str [113,117,97,108])) (.cons (.loc 1) (.cons (.call (.glo 79) (.cons (.loc 0) .nil)) .nil))))) .nil)) (.cons (.ifs (.val (.call (.glo 58) (.cons (.loc 0) (.cons (.cst (.str [39])) .nil)))) (.cons (.asg 1 (.call (.glo 82) (.cons (.loc 0) (.cons (.loc 1) .nil)))) .nil) (.cons (.ret (.loc 1)) .nil)) .nil)) .nil)) .nil)) .nil)) .nil))⟩
noncomputable def f_selected_tree:Fn:=⟨2,⟨["reader","tree","kind","value","line"],[("reader",.local),("tree",.local),("kind",.local),("value",.local),("line",.local),("take_word",gi),("peek_token",gi),("symbol_name",gi),("chr",gi),("need_name",gi)]⟩,
 (.cons (.ifs (.val (.call (.glo 59) (.cons (.loc 0) (.cons (.cst (.str [97,108,108])) .nil)))) (.cons (.ret (.tup (.cons (.cst (.str [97,108,108])) (.cons (.loc 1) .nil)))) .nil) .nil) (.cons (.asgT [2,3,4] (.call (.glo 61) (.cons (.loc 0) .nil))) (.cons (.ifs (.cmp .eq (.loc 2) (.cst (.str [115,116,114,105,110,103]))) (.cons (.ret (.tup (.cons (.cst (.str [115,101,108,101,99,116])) (.cons (.loc 1) (.cons (.call (.glo 83) (.cons (.loc 0) .nil)) .nil))))) .nil) .nil) (.cons (.ifs (.cmp .eq (.loc 2) (.cst (.str [99,104,97,114]))) (.cons (.augattr (.loc 0) 1 .add (.cst (.int 1))) (.cons (.ret (.tup (.cons (.cst (.str [115,101,108,101,99,116])) (.cons (.loc 1) (.cons (.bin .add (.bin .add (.cst (.str [39])) (.call (.glo 2) (.cons (.loc 3) .nil))) (.cst (.str [39]))) .nil))))) .nil)) .nil) (.cons (.ret (.tup (.cons (.cst (.str [115,101,108,101,99,116])) (.cons (.loc 1) (.cons (.call (.glo 84) (.cons (.loc 0) .nil)) .nil))))) .nil)))))⟩
noncomputable def f_attribute_tree:Fn:=⟨2,⟨["reader","tree","kind","value","line","rows"],[("reader",.local),("tree",.local),("kind",.local),("value",.local),("line",.local),("rows",.local),("peek_token",gi),("WORDS_AS_ATTRIBUTES",gi),("refuse_here",gi),("MARK_ATTRIBUTES",gi),("take_sign",gi),("open_nest",gi),("parse_expr",gi),("need_sign",gi),("close_nest",gi)]⟩,
 (.cons (.asgT [2,3,4] (.call (.glo 61) (.cons (.loc 0) .nil))) (.cons (.ifs (.and (.cons (.cmp .ne (.loc 2) (.cst (.str [110,97,109,101]))) (.cons (.or (.cons (.cmp .ne (.loc 2) (.cst (.str [119,111,114,100]))) (.cons (.cmp .notin (.loc 3) (.glo 90)) .nil))) .nil))) (.cons .raise .nil) .nil) (.cons (.augattr (.loc 0) 1 .add (.cst (.int 1))) (.cons (.asg 5 (.mls .nil)) (.cons (.ifs (.and (.cons (.cmp .notin (.loc 3) (.glo 85)) (.cons (.val (.call (.glo 58) (.cons (.loc 0) (.cons (.cst (.str [40])) .nil)))) .nil))) (.cons (.expr (.call (.glo 89) (.cons (.loc 0) .nil))) (.cons (.expr (.meth .append (.loc 5) (.cons (.call (.glo 88) (.cons (.loc 0) .nil)) .nil))) (.cons (.whl (.val (.call (.glo 58) (.cons (.loc 0) (.cons (.cst (.str [44])) .nil)))) (.cons (.expr (.meth .append (.loc 5) (.cons (.call (.glo 88) (.cons (.loc 0) .nil)) .nil))) .nil)) (.cons (.expr (.call (.glo 87) (.cons (.loc 0) (.cons (.cst (.str [41])) .nil)))) (.cons (.expr (.call (.glo 86) (.cons (.loc 0) .nil))) .nil))))) .nil) (.cons (.ret (.tup (.cons (.cst (.str [116,105,99,107])) (.cons (.loc 1) (.cons (.loc 3) (.cons (.loc 5) .nil)))))) .nil))))))⟩
noncomputable def f_parse_discrete:Fn:=⟨1,⟨["reader"],[("reader",.local),("bounded_tree",gi),("extent_tree",gi),("simple_tree",gi)]⟩,
 (.cons (.ret (.call (.glo 66) (.cons (.loc 0) (.cons (.call (.glo 91) (.cons (.loc 0) (.cons (.call (.glo 69) (.cons (.loc 0) .nil)) .nil))) .nil)))) .nil)⟩
noncomputable def f_extent_tree:Fn:=⟨2,⟨["reader","tree"],[("reader",.local),("tree",.local),("take_sign",gi),("simple_tree",gi),("NAMES",gi),("take_word",gi),("parse_range",gi)]⟩,
 (.cons (.ifs (.val (.call (.glo 58) (.cons (.loc 0) (.cons (.cst (.str [46,46])) .nil)))) (.cons (.ret (.tup (.cons (.cst (.str [114,97,110,103,101])) (.cons (.loc 1) (.cons (.call (.glo 69) (.cons (.loc 0) .nil)) .nil))))) .nil) .nil) (.cons (.ifs (.and (.cons (.cmp .isin (.subk (.loc 1) 0) (.glo 74)) (.cons (.val (.call (.glo 59) (.cons (.loc 0) (.cons (.cst (.str [114,97,110,103,101])) .nil)))) .nil))) (.cons (.ret (.tup (.cons (.cst (.str [115,117,98])) (.cons (.loc 1) (.cons (.tup (.cons (.cst (.str [114,97,110,103,101])) (.cons (.call (.glo 92) (.cons (.loc 0) .nil)) .nil))) .nil))))) .nil) .nil) (.cons (.ret (.loc 1)) .nil)))⟩
noncomputable def f_parse_range:Fn:=⟨1,⟨["reader","tree"],[("reader",.local),("tree",.local),("simple_tree",gi),("take_sign",gi),("bounded_tree",gi),("refuse_here",gi)]⟩,
 (.cons (.asg 1 (.call (.glo 69) (.cons (.loc 0) .nil))) (.cons (.ifs (.val (.call (.glo 58) (.cons (.loc 0) (.cons (.cst (.str [46,46])) .nil)))) (.cons (.ret (.call (.glo 66) (.cons (.loc 0) (.cons (.tup (.cons (.cst (.str [114,97,110,103,101])) (.cons (.loc 1) (.cons (.call (.glo 69) (.cons (.loc 0) .nil)) .nil)))) .nil)))) .nil) .nil) (.cons (.ifs (.or (.cons (.cmp .ne (.subk (.loc 1) 0) (.cst (.str [116,105,99,107]))) (.cons (.cmp .ne (.subk (.loc 1) 2) (.cst (.str [114,97,110,103,101]))) .nil))) (.cons .raise .nil) .nil) (.cons (.ret (.call (.glo 66) (.cons (.loc 0) (.cons (.loc 1) .nil)))) .nil))))⟩
noncomputable def f_parse_choice:Fn:=⟨1,⟨["reader","tree"],[("reader",.local),("tree",.local),("take_word",gi),("extent_tree",gi),("simple_tree",gi),("logical_tree",gi),("relation_tree",gi),("bounded_tree",gi)]⟩,
 (.cons (.ifs (.val (.call (.glo 59) (.cons (.loc 0) (.cons (.cst (.str [111,116,104,101,114,115])) .nil)))) (.cons (.ret (.tup (.cons (.cst (.str [111,116,104,101,114,115])) .nil))) .nil) .nil) (.cons (.asg 1 (.call (.glo 91) (.cons (.loc 0) (.cons (.call (.glo 69) (.cons (.loc 0) .nil)) .nil)))) (.cons (.ifs (.and (.cons (.cmp .ne (.subk (.loc 1) 0) (.cst (.str [114,97,110,103,101]))) (.cons (.cmp .ne (.subk (.loc 1) 0) (.cst (.str [115,117,98]))) .nil))) (.cons (.asg 1 (.call (.glo 67) (.cons (.loc 0) (.cons (.call (.glo 68) (.cons (.loc 0) (.cons (.loc 1) .nil))) .nil)))) .nil) .nil) (.cons (.ret (.call (.glo 66) (.cons (.loc 0) (.cons (.loc 1) .nil)))) .nil))))⟩
noncomputable def f_assoc_here:Fn:=⟨1,⟨["reader","first","choices"],[("reader",.local),("first",.local),("choices",.local),("parse_choice",gi),("is_sign",gi),("refuse_here",gi),("take_sign",gi),("need_sign",gi),("parse_expr",gi)]⟩,
 (.cons (.asg 1 (.call (.glo 93) (.cons (.loc 0) .nil))) (.cons (.ifs (.and (.cons (.not (.val (.call (.glo 56) (.cons (.loc 0) (.cons (.cst (.str [124])) .nil))))) (.cons (.not (.val (.call (.glo 56) (.cons (.loc 0) (.cons (.cst (.str [61,62])) .nil))))) .nil))) (.cons (.ifs (.cmp .eq (.loc 1) (.tup (.cons (.cst (.str [111,116,104,101,114,115])) .nil))) (.cons .raise .nil) .nil) (.cons (.ret (.tup (.cons (.cst .none) (.cons (.loc 1) .nil)))) .nil)) .nil) (.cons (.asg 2 (.mls (.cons (.loc 1) .nil))) (.cons (.whl (.val (.call (.glo 58) (.cons (.loc 0) (.cons (.cst (.str [124])) .nil)))) (.cons (.expr (.meth .append (.loc 2) (.cons (.call (.glo 93) (.cons (.loc 0) .nil)) .nil))) .nil)) (.cons (.expr (.call (.glo 87) (.cons (.loc 0) (.cons (.cst (.str [61,62])) .nil)))) (.cons (.ret (.tup (.cons (.loc 2) (.cons (.call (.glo 88) (.cons (.loc 0) .nil)) .nil)))) .nil))))))⟩
noncomputable def f_assoc_row:Fn:=⟨1,⟨["reader","rows","one"],[("reader",.local),("rows",.local),("one",.local),("assoc_here",gi),("take_sign",gi),("refuse_here",gi)]⟩,
 (.cons (.asg 1 (.mls (.cons (.call (.glo 94) (.cons (.loc 0) .nil)) .nil))) (.cons (.whl (.val (.call (.glo 58) (.cons (.loc 0) (.cons (.cst (.str [44])) .nil)))) (.cons (.asg 2 (.call (.glo 94) (.cons (.loc 0) .nil))) (.cons (.ifs (.and (.cons (.cmp .is (.subk (.loc 2) 0) (.cst .none)) (.cons (.cmp .isnot (.subk (.sub (.loc 1) (.neg (.cst (.int 1)))) 0) (.cst .none)) .nil))) (.cons .raise .nil) .nil) (.cons (.expr (.meth .append (.loc 1) (.cons (.loc 2) .nil))) .nil)))) (.cons (.ret (.loc 1)) .nil)))⟩
noncomputable def f_assocs_here:Fn:=⟨1,⟨["reader","rows"],[("reader",.local),("rows",.local),("need_sign",gi),("open_nest",gi),("assoc_row",gi),("close_nest",gi)]⟩,
 (.cons (.expr (.call (.glo 87) (.cons (.loc 0) (.cons (.cst (.str [40])) .nil)))) (.cons (.expr (.call (.glo 89) (.cons (.loc 0) .nil))) (.cons (.asg 1 (.call (.glo 95) (.cons (.loc 0) .nil))) (.cons (.expr (.call (.glo 87) (.cons (.loc 0) (.cons (.cst (.str [41])) .nil)))) (.cons (.expr (.call (.glo 86) (.cons (.loc 0) .nil))) (.cons (.ret (.loc 1)) .nil))))))⟩
noncomputable def f_bracket_tree:Fn:=⟨1,⟨["reader","tree","rows"],[("reader",.local),("tree",.local),("rows",.local),("need_sign",gi),("open_nest",gi),("is_word",gi),("assoc_row",gi),("refuse_ranges",gi),("len",gi),("lone_bracket",gi),("close_nest",gi)]⟩,
 (.cons (.expr (.call (.glo 87) (.cons (.loc 0) (.cons (.cst (.str [40])) .nil)))) (.cons (.expr (.call (.glo 89) (.cons (.loc 0) .nil))) (.cons (.ifs (.and (.cons (.val (.call (.glo 57) (.cons (.loc 0) (.cons (.cst (.str [110,117,108,108])) .nil)))) (.cons (.val (.call (.glo 57) (.cons (.loc 0) (.cons (.cst (.str [114,101,99,111,114,100])) (.cons (.cst (.int 1)) .nil))))) .nil))) (.cons (.augattr (.loc 0) 1 .add (.cst (.int 2))) (.cons (.asg 1 (.tup (.cons (.cst (.str [97,103,103,114])) (.cons (.lst .nil) .nil)))) .nil)) (.cons (.asg 2 (.call (.glo 95) (.cons (.loc 0) .nil))) (.cons (.expr (.call (.glo 97) (.cons (.loc 0) (.cons (.loc 2) .nil)))) (.cons (.ifs (.and (.cons (.cmp .eq (.call (.glo 0) (.cons (.loc 2) .nil)) (.cst (.int 1))) (.cons (.cmp .is (.subk (.subk (.loc 2) 0) 0) (.cst .none)) .nil))) (.cons (.asg 1 (.call (.glo 96) (.cons (.loc 0) (.cons (.subk (.subk (.loc 2) 0) 1) .nil)))) .nil) (.cons (.asg 1 (.tup (.cons (.cst (.str [97,103,103,114])) (.cons (.loc 2) .nil)))) .nil)) .nil)))) (.cons (.expr (.call (.glo 87) (.cons (.loc 0) (.cons (.cst (.str [41])) .nil)))) (.cons (.expr (.call (.glo 86) (.cons (.loc 0) .nil))) (.cons (.ret (.loc 1)) .nil))))))⟩
noncomputable def f_is_mark:Fn:=⟨1,⟨["tree"],[("tree",.local),("is_mark",gi)]⟩,
 (.cons (.ifs (.or (.cons (.cmp .eq (.subk (.loc 0) 0) (.cst (.str [110,97,109,101]))) (.cons (.cmp .eq (.subk (.loc 0) 0) (.cst (.str [115,101,108,101,99,116]))) .nil))) (.cons (.ret (.cmp .notin (.subk (.sub (.loc 0) (.neg (.cst (.int 1)))) 0) (.cst (.str [39,34])))) .nil) .nil) (.cons (.ret (.bnd (.cons (.cmp .eq (.subk (.loc 0) 0) (.cst (.str [116,105,99,107]))) (.cons (.cmp .isin (.subk (.loc 0) 2) (.tup (.cons (.cst (.str [98,97,115,101])) (.cons (.cst (.str [99,108,97,115,115])) .nil)))) (.cons (.cmp .eq (.subk (.loc 0) 3) (.lst .nil)) (.cons (.call (.glo 98) (.cons (.subk (.loc 0) 1) .nil)) .nil)))))) .nil))⟩
noncomputable def f_parse_mark:Fn:=⟨1,⟨["reader","tree"],[("reader",.local),("tree",.local),("parse_name",gi),("is_mark",gi),("refuse_here",gi)]⟩,
 (.cons (.asg 1 (.call (.glo 99) (.cons (.loc 0) .nil))) (.cons (.ifs (.not (.val (.call (.glo 98) (.cons (.loc 1) .nil)))) (.cons .raise .nil) .nil) (.cons (.ret (.loc 1)) .nil)))⟩
noncomputable def f_parse_subtype:Fn:=⟨1,⟨["reader","tree","constraint"],[("reader",.local),("tree",.local),("constraint",.local),("parse_name",gi),("is_mark",gi),("refuse_here",gi),("take_word",gi),("parse_range",gi)]⟩,
 (.cons (.asg 1 (.call (.glo 99) (.cons (.loc 0) .nil))) (.cons (.asg 2 (.cst .none)) (.cons (.ifs (.cmp .eq (.subk (.loc 1) 0) (.cst (.str [97,112,112,108,121]))) (.cons (.asg 2 (.tup (.cons (.cst (.str [97,112,112,108,121])) (.cons (.subk (.loc 1) 2) .nil)))) (.cons (.asg 1 (.subk (.loc 1) 1)) .nil)) .nil) (.cons (.ifs (.not (.val (.call (.glo 98) (.cons (.loc 1) .nil)))) (.cons .raise .nil) .nil) (.cons (.ifs (.and (.cons (.cmp .is (.loc 2) (.cst .none)) (.cons (.val (.call (.glo 59) (.cons (.loc 0) (.cons (.cst (.str [114,97,110,103,101])) .nil)))) .nil))) (.cons (.asg 2 (.tup (.cons (.cst (.str [114,97,110,103,101])) (.cons (.call (.glo 92) (.cons (.loc 0) .nil)) .nil)))) .nil) .nil) (.cons (.ret (.tup (.cons (.cst (.str [115,117,98])) (.cons (.loc 1) (.cons (.loc 2) .nil))))) .nil))))))⟩
noncomputable def f_parse_discrete_range:Fn:=⟨1,⟨["reader","tree"],[("reader",.local),("tree",.local),("parse_discrete",gi),("is_mark",gi),("refuse_here",gi)]⟩,
 (.cons (.asg 1 (.call (.glo 100) (.cons (.loc 0) .nil))) (.cons (.ifs (.or (.cons (.cmp .eq (.subk (.loc 1) 0) (.cst (.str [114,97,110,103,101]))) (.cons (.and (.cons (.cmp .eq (.subk (.loc 1) 0) (.cst (.str [116,105,99,107]))) (.cons (.cmp .eq (.subk (.loc 1) 2) (.cst (.str [114,97,110,103,101]))) .nil))) .nil))) (.cons (.ret (.loc 1)) .nil) .nil) (.cons (.ifs (.not (.val (.call (.glo 98) (.cons (.ite (.cmp .eq (.subk (.loc 1) 0) (.cst (.str [115,117,98]))) (.subk (.loc 1) 1) (.loc 1)) .nil)))) (.cons .raise .nil) .nil) (.cons (.ret (.ite (.cmp .eq (.subk (.loc 1) 0) (.cst (.str [115,117,98]))) (.loc 1) (.tup (.cons (.cst (.str [115,117,98])) (.cons (.loc 1) (.cons (.cst .none) .nil)))))) .nil))))⟩
noncomputable def f_parse_choice_list:Fn:=⟨1,⟨["reader","choices"],[("reader",.local),("choices",.local),("parse_choice",gi),("take_sign",gi),("len",gi),("refuse_here",gi)]⟩,
 (.cons (.asg 1 (.mls (.cons (.call (.glo 93) (.cons (.loc 0) .nil)) .nil))) (.cons (.whl (.val (.call (.glo 58) (.cons (.loc 0) (.cons (.cst (.str [124])) .nil)))) (.cons (.expr (.meth .append (.loc 1) (.cons (.call (.glo 93) (.cons (.loc 0) .nil)) .nil))) .nil)) (.cons (.ifs (.and (.cons (.cmp .isin (.tup (.cons (.cst (.str [111,116,104,101,114,115])) .nil)) (.loc 1)) (.cons (.cmp .gt (.call (.glo 0) (.cons (.loc 1) .nil)) (.cst (.int 1))) .nil))) (.cons .raise .nil) .nil) (.cons (.ret (.loc 1)) .nil))))⟩
noncomputable def f_parse_names:Fn:=⟨1,⟨["reader","names"],[("reader",.local),("names",.local),("need_name",gi),("take_sign",gi)]⟩,
 (.cons (.asg 1 (.mls (.cons (.call (.glo 84) (.cons (.loc 0) .nil)) .nil))) (.cons (.whl (.val (.call (.glo 58) (.cons (.loc 0) (.cons (.cst (.str [44])) .nil)))) (.cons (.expr (.meth .append (.loc 1) (.cons (.call (.glo 84) (.cons (.loc 0) .nil)) .nil))) .nil)) (.cons (.ret (.loc 1)) .nil)))⟩
noncomputable def f_parse_default:Fn:=⟨1,⟨["reader"],[("reader",.local),("take_sign",gi),("parse_expr",gi)]⟩,
 (.cons (.ifs (.val (.call (.glo 58) (.cons (.loc 0) (.cons (.cst (.str [58,61])) .nil)))) (.cons (.ret (.call (.glo 88) (.cons (.loc 0) .nil))) .nil) .nil) (.cons (.ret (.cst .none)) .nil))⟩
noncomputable def f_parse_literal:Fn:=⟨1,⟨["reader","kind","value","line"],[("reader",.local),("kind",.local),("value",.local),("line",.local),("peek_token",gi),("take_token",gi),("need_name",gi)]⟩,
 (.cons (.asgT [1,2,3] (.call (.glo 61) (.cons (.loc 0) .nil))) (.cons (.ifs (.cmp .eq (.loc 1) (.cst (.str [99,104,97,114]))) (.cons (.expr (.call (.glo 60) (.cons (.loc 0) .nil))) (.cons (.ret (.tup (.cons (.cst (.str [99,104,97,114])) (.cons (.loc 2) .nil)))) .nil)) .nil) (.cons (.ret (.tup (.cons (.cst (.str [110,97,109,101])) (.cons (.call (.glo 84) (.cons (.loc 0) .nil)) .nil)))) .nil)))⟩
noncomputable def f_parse_enumeration:Fn:=⟨1,⟨["reader","literals"],[("reader",.local),("literals",.local),("need_sign",gi),("parse_literal",gi),("take_sign",gi)]⟩,
 (.cons (.expr (.call (.glo 87) (.cons (.loc 0) (.cons (.cst (.str [40])) .nil)))) (.cons (.asg 1 (.mls (.cons (.call (.glo 101) (.cons (.loc 0) .nil)) .nil))) (.cons (.whl (.val (.call (.glo 58) (.cons (.loc 0) (.cons (.cst (.str [44])) .nil)))) (.cons (.expr (.meth .append (.loc 1) (.cons (.call (.glo 101) (.cons (.loc 0) .nil)) .nil))) .nil)) (.cons (.expr (.call (.glo 87) (.cons (.loc 0) (.cons (.cst (.str [41])) .nil)))) (.cons (.ret (.tup (.cons (.cst (.str [101,110,117,109])) (.cons (.loc 1) .nil)))) .nil)))))⟩
noncomputable def f_is_box_ahead:Fn:=⟨1,⟨["reader","ahead"],[("reader",.local),("ahead",.local),("token_ahead",gi),("is_sign",gi),("is_word",gi)]⟩,
 (.cons (.asg 1 (.cst (.int 0))) (.cons (.whl (.and (.cons (.cmp .eq (.subk (.call (.glo 55) (.cons (.loc 0) (.cons (.loc 1) .nil))) 0) (.cst (.str [110,97,109,101]))) (.cons (.val (.call (.glo 56) (.cons (.loc 0) (.cons (.cst (.str [46])) (.cons (.bin .add (.loc 1) (.cst (.int 1))) .nil))))) .nil))) (.cons (.aug 1 .add (.cst (.int 2))) .nil)) (.cons (.whl (.and (.cons (.val (.call (.glo 56) (.cons (.loc 0) (.cons (.cst (.str [39])) (.cons (.bin .add (.loc 1) (.cst (.int 1))) .nil))))) (.cons (.cmp .eq (.slc (.call (.glo 55) (.cons (.loc 0) (.cons (.bin .add (.loc 1) (.cst (.int 2))) .nil))) .no (.so (.cst (.int 2)))) (.tup (.cons (.cst (.str [110,97,109,101])) (.cons (.cst (.str [98,97,115,101])) .nil)))) .nil))) (.cons (.aug 1 .add (.cst (.int 2))) .nil)) (.cons (.ret (.bnd (.cons (.call (.glo 57) (.cons (.loc 0) (.cons (.cst (.str [114,97,110,103,101])) (.cons (.bin .add (.loc 1) (.cst (.int 1))) .nil)))) (.cons (.call (.glo 56) (.cons (.loc 0) (.cons (.cst (.str [60,62])) (.cons (.bin .add (.loc 1) (.cst (.int 2))) .nil)))) .nil)))) .nil))))⟩
noncomputable def f_parse_index:Fn:=⟨1,⟨["reader","tree"],[("reader",.local),("tree",.local),("is_box_ahead",gi),("parse_discrete_range",gi),("parse_mark",gi),("need_word",gi),("need_sign",gi)]⟩,
 (.cons (.ifs (.not (.val (.call (.glo 104) (.cons (.loc 0) .nil)))) (.cons (.ret (.tup (.cons (.call (.glo 105) (.cons (.loc 0) .nil)) (.cons (.cst (.bool true)) .nil)))) .nil) .nil) (.cons (.asg 1 (.call (.glo 103) (.cons (.loc 0) .nil))) (.cons (.expr (.call (.glo 102) (.cons (.loc 0) (.cons (.cst (.str [114,97,110,103,101])) .nil)))) (.cons (.expr (.call (.glo 87) (.cons (.loc 0) (.cons (.cst (.str [60,62])) .nil)))) (.cons (.ret (.tup (.cons (.loc 1) (.cons (.cst (.bool false)) .nil)))) .nil)))))⟩
noncomputable def f_parse_array:Fn:=⟨1,⟨["reader","tree","is_bound","indexes","is_next"],[("reader",.local),("tree",.local),("is_bound",.local),("indexes",.local),("is_next",.local),("need_sign",gi),("parse_index",gi),("take_sign",gi),("refuse_here",gi),("need_word",gi),("take_word",gi),("parse_subtype",gi)]⟩,
 (.cons (.expr (.call (.glo 87) (.cons (.loc 0) (.cons (.cst (.str [40])) .nil)))) (.cons (.asgT [1,2] (.call (.glo 107) (.cons (.loc 0) .nil))) (.cons (.asg 3 (.mls (.cons (.loc 1) .nil))) (.cons (.whl (.val (.call (.glo 58) (.cons (.loc 0) (.cons (.cst (.str [44])) .nil)))) (.cons (.asgT [1,4] (.call (.glo 107) (.cons (.loc 0) .nil))) (.cons (.ifs (.cmp .ne (.loc 4) (.loc 2)) (.cons .raise .nil) .nil) (.cons (.expr (.meth .append (.loc 3) (.cons (.loc 1) .nil))) .nil)))) (.cons (.expr (.call (.glo 87) (.cons (.loc 0) (.cons (.cst (.str [41])) .nil)))) (.cons (.expr (.call (.glo 102) (.cons (.loc 0) (.cons (.cst (.str [111,102])) .nil)))) (.cons (.expr (.call (.glo 59) (.cons (.loc 0) (.cons (.cst (.str [97,108,105,97,115,101,100])) .nil)))) (.cons (.ret (.tup (.cons (.cst (.str [97,114,114,97,121])) (.cons (.loc 3) (.cons (.loc 2) (.cons (.call (.glo 106) (.cons (.loc 0) .nil)) .nil)))))) .nil))))))))⟩
noncomputable def f_parse_component:Fn:=⟨1,⟨["reader","names","subtype","default"],[("reader",.local),("names",.local),("subtype",.local),("default",.local),("parse_names",gi),("need_sign",gi),("take_word",gi),("parse_subtype",gi),("parse_default",gi)]⟩,
 (.cons (.asg 1 (.call (.glo 109) (.cons (.loc 0) .nil))) (.cons (.expr (.call (.glo 87) (.cons (.loc 0) (.cons (.cst (.str [58])) .nil)))) (.cons (.expr (.call (.glo 59) (.cons (.loc 0) (.cons (.cst (.str [97,108,105,97,115,101,100])) .nil)))) (.cons (.asg 2 (.call (.glo 106) (.cons (.loc 0) .nil))) (.cons (.asg 3 (.call (.glo 108) (.cons (.loc 0) .nil))) (.cons (.expr (.call (.glo 87) (.cons (.loc 0) (.cons (.cst (.str [59])) .nil)))) (.cons (.ret (.tup (.cons (.loc 1) (.cons (.loc 2) (.cons (.loc 3) .nil))))) .nil)))))))⟩
noncomputable def f_parse_components:Fn:=⟨1,⟨["reader","components"],[("reader",.local),("components",.local),("take_word",gi),("need_sign",gi),("is_word",gi),("refuse_here",gi),("parse_component",gi),("parse_variant",gi)]⟩,
 (.cons (.asg 1 (.mls .nil)) (.cons (.ifs (.val (.call (.glo 59) (.cons (.loc 0) (.cons (.cst (.str [110,117,108,108])) .nil)))) (.cons (.expr (.call (.glo 87) (.cons (.loc 0) (.cons (.cst (.str [59])) .nil)))) (.cons (.ret (.tup (.cons (.loc 1) (.cons (.cst .none) .nil)))) .nil)) .nil) (.cons (.whl (.not (.val (.call (.glo 57) (.cons (.loc 0) (.cons (.cst (.str [99,97,115,101])) .nil))))) (.cons (.ifs (.or (.cons (.val (.call (.glo 57) (.cons (.loc 0) (.cons (.cst (.str [101,110,100])) .nil)))) (.cons (.val (.call (.glo 57) (.cons (.loc 0) (.cons (.cst (.str [119,104,101,110])) .nil)))) .nil))) (.cons (.ifs (.cmp .eq (.loc 1) (.lst .nil)) (.cons .raise .nil) .nil) (.cons (.ret (.tup (.cons (.loc 1) (.cons (.cst .none) .nil)))) .nil)) .nil) (.cons (.expr (.meth .append (.loc 1) (.cons (.call (.glo 111) (.cons (.loc 0) .nil)) .nil))) .nil))) (.cons (.ret (.tup (.cons (.loc 1) (.cons (.call (.glo 110) (.cons (.loc 0) .nil)) .nil)))) .nil))))⟩
noncomputable def f_parse_variant:Fn:=⟨1,⟨["reader","name","arms","choices","components","variant"],[("reader",.local),("name",.local),("arms",.local),("choices",.local),("components",.local),("variant",.local),("MOST_VARIANTS",gi),("refuse_here",gi),("need_word",gi),("need_name",gi),("take_word",gi),("parse_choice_list",gi),("need_sign",gi),("parse_components",gi)]⟩,
 (.cons (.augattr (.loc 0) 3 .add (.cst (.int 1))) (.cons (.ifs (.cmp .gt (.attr (.loc 0) 3) (.glo 114)) (.cons .raise .nil) .nil) (.cons (.expr (.call (.glo 102) (.cons (.loc 0) (.cons (.cst (.str [99,97,115,101])) .nil)))) (.cons (.asg 1 (.call (.glo 84) (.cons (.loc 0) .nil))) (.cons (.expr (.call (.glo 102) (.cons (.loc 0) (.cons (.cst (.str [105,115])) .nil)))) (.cons (.asg 2 (.mls .nil)) (.cons (.whl (.val (.call (.glo 59) (.cons (.loc 0) (.cons (.cst (.str [119,104,101,110])) .nil)))) (.cons (.asg 3 (.call (.glo 113) (.cons (.loc 0) .nil))) (.cons (.expr (.call (.glo 87) (.cons (.loc 0) (.cons (.cst (.str [61,62])) .nil)))) (.cons (.asgT [4,5] (.call (.glo 112) (.cons (.loc 0) .nil))) (.cons (.expr (.meth .append (.loc 2) (.cons (.tup (.cons (.loc 3) (.cons (.loc 4) (.cons (.loc 5) .nil)))) .nil))) .nil))))) (.cons (.ifs (.cmp .eq (.loc 2) (.lst .nil)) (.cons .raise .nil) .nil) (.cons (.expr (.call (.glo 102) (.cons (.loc 0) (.cons (.cst (.str [101,110,100])) .nil)))) (.cons (.expr (.call (.glo 102) (.cons (.loc 0) (.cons (.cst (.str [99,97,115,101])) .nil)))) (.cons (.expr (.call (.glo 87) (.cons (.loc 0) (.cons (.cst (.str [59])) .nil)))) (.cons (.augattr (.loc 0) 3 .sub (.cst (.int 1))) (.cons (.ret (.tup (.cons (.loc 1) (.cons (.loc 2) .nil)))) .nil)))))))))))))⟩
noncomputable def f_parse_record:Fn:=⟨4,⟨["reader","is_tagged","is_limited","is_abstract","components","variant"],[("reader",.local),("is_tagged",.local),("is_limited",.local),("is_abstract",.local),("components",.local),("variant",.local),("take_word",gi),("need_word",gi),("parse_components",gi)]⟩,
 (.cons (.ifs (.val (.call (.glo 59) (.cons (.loc 0) (.cons (.cst (.str [110,117,108,108])) .nil)))) (.cons (.expr (.call (.glo 102) (.cons (.loc 0) (.cons (.cst (.str [114,101,99,111,114,100])) .nil)))) (.cons (.ret (.tup (.cons (.cst (.str [114,101,99,111,114,100])) (.cons (.lst .nil) (.cons (.cst .none) (.cons (.loc 1) (.cons (.loc 2) (.cons (.loc 3) .nil)))))))) .nil)) .nil) (.cons (.expr (.call (.glo 102) (.cons (.loc 0) (.cons (.cst (.str [114,101,99,111,114,100])) .nil)))) (.cons (.asgT [4,5] (.call (.glo 112) (.cons (.loc 0) .nil))) (.cons (.expr (.call (.glo 102) (.cons (.loc 0) (.cons (.cst (.str [101,110,100])) .nil)))) (.cons (.expr (.call (.glo 102) (.cons (.loc 0) (.cons (.cst (.str [114,101,99,111,114,100])) .nil)))) (.cons (.ret (.tup (.cons (.cst (.str [114,101,99,111,114,100])) (.cons (.loc 4) (.cons (.loc 5) (.cons (.loc 1) (.cons (.loc 2) (.cons (.loc 3) .nil)))))))) .nil))))))⟩
noncomputable def f_parse_access:Fn:=⟨1,⟨["reader","mode"],[("reader",.local),("mode",.local),("take_word",gi),("parse_subtype",gi)]⟩,
 (.cons (.asg 1 (.cst (.str []))) (.cons (.ifs (.val (.call (.glo 59) (.cons (.loc 0) (.cons (.cst (.str [97,108,108])) .nil)))) (.cons (.asg 1 (.cst (.str [97,108,108]))) .nil) (.cons (.ifs (.val (.call (.glo 59) (.cons (.loc 0) (.cons (.cst (.str [99,111,110,115,116,97,110,116])) .nil)))) (.cons (.asg 1 (.cst (.str [99,111,110,115,116,97,110,116]))) .nil) .nil) .nil)) (.cons (.ret (.tup (.cons (.cst (.str [97,99,99,101,115,115])) (.cons (.call (.glo 106) (.cons (.loc 0) .nil)) (.cons (.loc 1) .nil))))) .nil)))⟩
noncomputable def f_parse_derived:Fn:=⟨2,⟨["reader","is_abstract","parent"],[("reader",.local),("is_abstract",.local),("parent",.local),("parse_subtype",gi),("take_word",gi),("parse_record",gi)]⟩,
 (.cons (.asg 2 (.call (.glo 106) (.cons (.loc 0) .nil))) (.cons (.ifs (.not (.val (.call (.glo 59) (.cons (.loc 0) (.cons (.cst (.str [119,105,116,104])) .nil))))) (.cons (.ret (.tup (.cons (.cst (.str [100,101,114,105,118,101,100])) (.cons (.loc 2) (.cons (.cst .none) (.cons (.loc 1) .nil)))))) .nil) .nil) (.cons (.ifs (.val (.call (.glo 59) (.cons (.loc 0) (.cons (.cst (.str [112,114,105,118,97,116,101])) .nil)))) (.cons (.ret (.tup (.cons (.cst (.str [101,120,116,101,110,115,105,111,110])) (.cons (.loc 2) (.cons (.loc 1) .nil))))) .nil) .nil) (.cons (.ret (.tup (.cons (.cst (.str [100,101,114,105,118,101,100])) (.cons (.loc 2) (.cons (.call (.glo 115) (.cons (.loc 0) (.cons (.cst (.bool false)) (.cons (.cst (.bool false)) (.cons (.cst (.bool false)) .nil))))) (.cons (.loc 1) .nil)))))) .nil))))⟩
noncomputable def f_parse_composed:Fn:=⟨1,⟨["reader","is_abstract","is_tagged","is_limited"],[("reader",.local),("is_abstract",.local),("is_tagged",.local),("is_limited",.local),("take_word",gi),("parse_derived",gi),("refuse_here",gi),("parse_record",gi)]⟩,
 (.cons (.asg 1 (.call (.glo 59) (.cons (.loc 0) (.cons (.cst (.str [97,98,115,116,114,97,99,116])) .nil)))) (.cons (.ifs (.val (.call (.glo 59) (.cons (.loc 0) (.cons (.cst (.str [110,101,119])) .nil)))) (.cons (.ret (.call (.glo 116) (.cons (.loc 0) (.cons (.loc 1) .nil)))) .nil) .nil) (.cons (.asg 2 (.call (.glo 59) (.cons (.loc 0) (.cons (.cst (.str [116,97,103,103,101,100])) .nil)))) (.cons (.ifs (.and (.cons (.val (.loc 1)) (.cons (.not (.val (.loc 2))) .nil))) (.cons .raise .nil) .nil) (.cons (.asg 3 (.call (.glo 59) (.cons (.loc 0) (.cons (.cst (.str [108,105,109,105,116,101,100])) .nil)))) (.cons (.ifs (.val (.call (.glo 59) (.cons (.loc 0) (.cons (.cst (.str [112,114,105,118,97,116,101])) .nil)))) (.cons (.ret (.tup (.cons (.cst (.str [112,114,105,118,97,116,101])) (.cons (.loc 2) (.cons (.loc 3) (.cons (.loc 1) .nil)))))) .nil) .nil) (.cons (.ret (.call (.glo 115) (.cons (.loc 0) (.cons (.loc 2) (.cons (.loc 3) (.cons (.loc 1) .nil)))))) .nil)))))))⟩
noncomputable def f_parse_fixed:Fn:=⟨1,⟨["reader","delta"],[("reader",.local),("delta",.local),("parse_simple",gi),("take_word",gi),("parse_range",gi)]⟩,
 (.cons (.asg 1 (.call (.glo 117) (.cons (.loc 0) .nil))) (.cons (.ifs (.val (.call (.glo 59) (.cons (.loc 0) (.cons (.cst (.str [114,97,110,103,101])) .nil)))) (.cons (.ret (.tup (.cons (.cst (.str [102,105,120,101,100])) (.cons (.loc 1) (.cons (.call (.glo 92) (.cons (.loc 0) .nil)) .nil))))) .nil) .nil) (.cons (.ret (.tup (.cons (.cst (.str [102,105,120,101,100])) (.cons (.loc 1) (.cons (.cst .none) .nil))))) .nil)))⟩
noncomputable def f_parse_definition:Fn:=⟨1,⟨["reader"],[("reader",.local),("is_sign",gi),("parse_enumeration",gi),("take_word",gi),("parse_range",gi),("parse_expr",gi),("parse_fixed",gi),("parse_array",gi),("parse_access",gi),("parse_composed",gi)]⟩,
 (.cons (.ifs (.val (.call (.glo 56) (.cons (.loc 0) (.cons (.cst (.str [40])) .nil)))) (.cons (.ret (.call (.glo 122) (.cons (.loc 0) .nil))) .nil) .nil) (.cons (.ifs (.val (.call (.glo 59) (.cons (.loc 0) (.cons (.cst (.str [114,97,110,103,101])) .nil)))) (.cons (.ret (.tup (.cons (.cst (.str [105,110,116,114,97,110,103,101])) (.cons (.call (.glo 92) (.cons (.loc 0) .nil)) .nil)))) .nil) .nil) (.cons (.ifs (.val (.call (.glo 59) (.cons (.loc 0) (.cons (.cst (.str [109,111,100])) .nil)))) (.cons (.ret (.tup (.cons (.cst (.str [109,111,100,117,108,97,114])) (.cons (.call (.glo 88) (.cons (.loc 0) .nil)) .nil)))) .nil) .nil) (.cons (.ifs (.val (.call (.glo 59) (.cons (.loc 0) (.cons (.cst (.str [100,101,108,116,97])) .nil)))) (.cons (.ret (.call (.glo 121) (.cons (.loc 0) .nil))) .nil) .nil) (.cons (.ifs (.val (.call (.glo 59) (.cons (.loc 0) (.cons (.cst (.str [97,114,114,97,121])) .nil)))) (.cons (.ret (.call (.glo 120) (.cons (.loc 0) .nil))) .nil) .nil) (.cons (.ifs (.val (.call (.glo 59) (.cons (.loc 0) (.cons (.cst (.str [97,99,99,101,115,115])) .nil)))) (.cons (.ret (.call (.glo 119) (.cons (.loc 0) .nil))) .nil) .nil) (.cons (.ret (.call (.glo 118) (.cons (.loc 0) .nil))) .nil)))))))⟩
noncomputable def f_parse_discriminants:Fn:=⟨1,⟨["reader","found","names","subtype"],[("reader",.local),("found",.local),("names",.local),("subtype",.local),("take_sign",gi),("need_sign",gi),("parse_names",gi),("parse_mark",gi),("parse_default",gi)]⟩,
 (.cons (.ifs (.not (.val (.call (.glo 58) (.cons (.loc 0) (.cons (.cst (.str [40])) .nil))))) (.cons (.ret (.cst .none)) .nil) .nil) (.cons (.ifs (.val (.call (.glo 58) (.cons (.loc 0) (.cons (.cst (.str [60,62])) .nil)))) (.cons (.expr (.call (.glo 87) (.cons (.loc 0) (.cons (.cst (.str [41])) .nil)))) (.cons (.ret (.cst (.str [98,111,120]))) .nil)) .nil) (.cons (.asg 1 (.mls .nil)) (.cons (.whl (.val (.cst (.bool true))) (.cons (.asg 2 (.call (.glo 109) (.cons (.loc 0) .nil))) (.cons (.expr (.call (.glo 87) (.cons (.loc 0) (.cons (.cst (.str [58])) .nil)))) (.cons (.asg 3 (.tup (.cons (.cst (.str [115,117,98])) (.cons (.call (.glo 103) (.cons (.loc 0) .nil)) (.cons (.cst .none) .nil))))) (.cons (.expr (.meth .append (.loc 1) (.cons (.tup (.cons (.loc 2) (.cons (.loc 3) (.cons (.call (.glo 108) (.cons (.loc 0) .nil)) .nil)))) .nil))) (.cons (.ifs (.not (.val (.call (.glo 58) (.cons (.loc 0) (.cons (.cst (.str [59])) .nil))))) (.cons (.expr (.call (.glo 87) (.cons (.loc 0) (.cons (.cst (.str [41])) .nil)))) (.cons (.ret (.loc 1)) .nil)) .nil) .nil)))))) .nil))))⟩
noncomputable def f_law_next:Fn:=⟨2,⟨["cells","many","cell"],[("cells",.local),("many",.local),("cell",.local),("len",gi)]⟩,
 (.cons (.ifs (.cmp .eq (.call (.glo 0) (.cons (.loc 0) .nil)) (.cst (.int 0))) (.cons (.ret (.cst (.int 0))) .nil) .nil) (.cons (.asg 2 (.subk (.loc 0) 0)) (.cons (.setslc (.loc 0) (.slc (.loc 0) (.so (.cst (.int 1))) .no)) (.cons (.ret (.bin .mod (.loc 2) (.loc 1))) .nil))))⟩
noncomputable def f_law_value:Fn:=⟨1,⟨["cells","way"],[("cells",.local),("way",.local),("_law_next",gi)]⟩,
 (.cons (.asg 1 (.call (.glo 123) (.cons (.loc 0) (.cons (.cst (.int 5)) .nil)))) (.cons (.ifs (.cmp .eq (.loc 1) (.cst (.int 1))) (.cons (.ret (.tup (.cons (.cst (.str [105,110,116])) (.cons (.call (.glo 123) (.cons (.loc 0) (.cons (.cst (.int 90)) .nil))) .nil)))) .nil) .nil) (.cons (.ifs (.cmp .eq (.loc 1) (.cst (.int 2))) (.cons (.ret (.tup (.cons (.cst (.str [99,104,97,114])) (.cons (.bin .add (.cst (.int 97)) (.call (.glo 123) (.cons (.loc 0) (.cons (.cst (.int 26)) .nil)))) .nil)))) .nil) .nil) (.cons (.ifs (.cmp .eq (.loc 1) (.cst (.int 3))) (.cons (.ret (.tup (.cons (.cst (.str [97,112,112,108,121])) (.cons (.tup (.cons (.cst (.str [110,97,109,101])) (.cons (.cst (.str [102])) .nil))) (.cons (.lst (.cons (.tup (.cons (.cst .none) (.cons (.tup (.cons (.cst (.str [110,97,109,101])) (.cons (.cst (.str [110])) .nil))) .nil))) .nil)) .nil))))) .nil) .nil) (.cons (.ret (.tup (.cons (.cst (.str [110,97,109,101])) (.cons (.sub (.tup (.cons (.cst (.str [110])) (.cons (.cst (.str [102,105,114,115,116,95,111,110,101])) (.cons (.cst (.str [120])) .nil)))) (.call (.glo 123) (.cons (.loc 0) (.cons (.cst (.int 3)) .nil)))) .nil)))) .nil)))))⟩
noncomputable def f_law_extent:Fn:=⟨1,⟨["cells"],[("cells",.local),("_law_next",gi),("_law_value",gi)]⟩,
 (.cons (.ifs (.cmp .eq (.call (.glo 123) (.cons (.loc 0) (.cons (.cst (.int 3)) .nil))) (.cst (.int 2))) (.cons (.ret (.tup (.cons (.cst (.str [116,105,99,107])) (.cons (.tup (.cons (.cst (.str [110,97,109,101])) (.cons (.cst (.str [118])) .nil))) (.cons (.cst (.str [114,97,110,103,101])) (.cons (.ite (.cmp .eq (.call (.glo 123) (.cons (.loc 0) (.cons (.cst (.int 2)) .nil))) (.cst (.int 1))) (.lst (.cons (.tup (.cons (.cst (.str [105,110,116])) (.cons (.cst (.int 2)) .nil))) .nil)) (.lst .nil)) .nil)))))) .nil) .nil) (.cons (.ret (.tup (.cons (.cst (.str [114,97,110,103,101])) (.cons (.tup (.cons (.cst (.str [105,110,116])) (.cons (.call (.glo 123) (.cons (.loc 0) (.cons (.cst (.int 9)) .nil))) .nil))) (.cons (.call (.glo 124) (.cons (.loc 0) .nil)) .nil))))) .nil))⟩
noncomputable def f_law_subtype:Fn:=⟨1,⟨["cells","mark","way"],[("cells",.local),("mark",.local),("way",.local),("_law_marks",gi),("_law_next",gi),("_law_extent",gi),("_law_value",gi)]⟩,
 (.cons (.asg 1 (.sub (.glo 126) (.call (.glo 123) (.cons (.loc 0) (.cons (.cst (.int 3)) .nil))))) (.cons (.asg 2 (.call (.glo 123) (.cons (.loc 0) (.cons (.cst (.int 4)) .nil)))) (.cons (.ifs (.cmp .eq (.loc 2) (.cst (.int 1))) (.cons (.ret (.tup (.cons (.cst (.str [115,117,98])) (.cons (.loc 1) (.cons (.tup (.cons (.cst (.str [114,97,110,103,101])) (.cons (.call (.glo 125) (.cons (.loc 0) .nil)) .nil))) .nil))))) .nil) .nil) (.cons (.ifs (.cmp .eq (.loc 2) (.cst (.int 2))) (.cons (.ret (.tup (.cons (.cst (.str [115,117,98])) (.cons (.loc 1) (.cons (.tup (.cons (.cst (.str [97,112,112,108,121])) (.cons (.lst (.cons (.tup (.cons (.cst .none) (.cons (.tup (.cons (.cst (.str [114,97,110,103,101])) (.cons (.tup (.cons (.cst (.str [105,110,116])) (.cons (.cst (.int 1)) .nil))) (.cons (.call (.glo 124) (.cons (.loc 0) .nil)) .nil)))) .nil))) .nil)) .nil))) .nil))))) .nil) .nil) (.cons (.ifs (.cmp .eq (.loc 2) (.cst (.int 3))) (.cons (.ret (.tup (.cons (.cst (.str [115,117,98])) (.cons (.loc 1) (.cons (.tup (.cons (.cst (.str [97,112,112,108,121])) (.cons (.lst (.cons (.tup (.cons (.cst .none) (.cons (.call (.glo 124) (.cons (.loc 0) .nil)) .nil))) (.cons (.tup (.cons (.lst (.cons (.tup (.cons (.cst (.str [110,97,109,101])) (.cons (.cst (.str [115,105,122,101])) .nil))) .nil)) (.cons (.call (.glo 124) (.cons (.loc 0) .nil)) .nil))) .nil))) .nil))) .nil))))) .nil) .nil) (.cons (.ret (.tup (.cons (.cst (.str [115,117,98])) (.cons (.loc 1) (.cons (.cst .none) .nil))))) .nil))))))⟩
noncomputable def f_law_discrete:Fn:=⟨1,⟨["cells","way"],[("cells",.local),("way",.local),("_law_next",gi),("_law_extent",gi),("_law_marks",gi)]⟩,
 (.cons (.asg 1 (.call (.glo 123) (.cons (.loc 0) (.cons (.cst (.int 3)) .nil)))) (.cons (.ifs (.cmp .eq (.loc 1) (.cst (.int 0))) (.cons (.ret (.call (.glo 125) (.cons (.loc 0) .nil))) .nil) .nil) (.cons (.ret (.tup (.cons (.cst (.str [115,117,98])) (.cons (.sub (.glo 126) (.call (.glo 123) (.cons (.loc 0) (.cons (.cst (.int 3)) .nil)))) (.cons (.ite (.cmp .eq (.loc 1) (.cst (.int 1))) (.cst .none) (.tup (.cons (.cst (.str [114,97,110,103,101])) (.cons (.call (.glo 125) (.cons (.loc 0) .nil)) .nil)))) .nil))))) .nil)))⟩
noncomputable def f_law_names:Fn:=⟨1,⟨["cells"],[("cells",.local),("_law_next",gi)]⟩,
 (.cons (.ret (.slc (.lst (.cons (.cst (.str [97])) (.cons (.cst (.str [98,95,50])) (.cons (.cst (.str [99])) .nil)))) .no (.so (.bin .add (.cst (.int 1)) (.call (.glo 123) (.cons (.loc 0) (.cons (.cst (.int 3)) .nil))))))) .nil)⟩
noncomputable def f_law_first:Fn:=⟨1,⟨["cells"],[("cells",.local),("_law_next",gi),("_law_value",gi)]⟩,
 (.cons (.ret (.ite (.cmp .eq (.call (.glo 123) (.cons (.loc 0) (.cons (.cst (.int 2)) .nil))) (.cst (.int 0))) (.cst .none) (.call (.glo 124) (.cons (.loc 0) .nil)))) .nil)⟩
noncomputable def f_law_parts:Fn:=⟨2,⟨["cells","deep","turn","parts","arms","choices","inner","variant"],[("cells",.cell),("deep",.local),("turn",.local),("parts",.local),("arms",.local),("choices",.local),("inner",.local),("variant",.local),("range",gi),("_law_next",gi),("_law_value",gi),("_law_parts",gi)]⟩,
 (.cons (.asg 3 (.comp (.tup (.cons (.call (.glo 130) (.cons (.loc 1) .nil)) (.cons (.call (.glo 129) (.cons (.loc 1) .nil)) (.cons (.call (.glo 128) (.cons (.loc 1) .nil)) .nil)))) (.inl 0) 1 (.range 7 (.call (.glo 123) (.cons (.loc 0) (.cons (.cst (.int 3)) .nil)))) .nil [0])) (.cons (.ifs (.or (.cons (.cmp .eq (.loc 1) (.cst (.int 2))) (.cons (.cmp .ne (.call (.glo 123) (.cons (.loc 0) (.cons (.cst (.int 3)) .nil))) (.cst (.int 2))) .nil))) (.cons (.ret (.tup (.cons (.loc 3) (.cons (.cst .none) .nil)))) .nil) .nil) (.cons (.asg 4 (.mls .nil)) (.cons (.for (.inl 2) (.range 7 (.bin .add (.cst (.int 1)) (.call (.glo 123) (.cons (.loc 0) (.cons (.cst (.int 2)) .nil))))) (.cons (.asg 5 (.slc (.lst (.cons (.call (.glo 124) (.cons (.loc 0) .nil)) (.cons (.tup (.cons (.cst (.str [114,97,110,103,101])) (.cons (.tup (.cons (.cst (.str [105,110,116])) (.cons (.cst (.int 3)) .nil))) (.cons (.tup (.cons (.cst (.str [105,110,116])) (.cons (.cst (.int 8)) .nil))) .nil)))) .nil))) .no (.so (.bin .add (.cst (.int 1)) (.call (.glo 123) (.cons (.loc 0) (.cons (.cst (.int 2)) .nil))))))) (.cons (.asgT [6,7] (.call (.glo 127) (.cons (.loc 0) (.cons (.bin .add (.loc 1) (.cst (.int 1))) .nil)))) (.cons (.expr (.meth .append (.loc 4) (.cons (.tup (.cons (.loc 5) (.cons (.loc 6) (.cons (.loc 7) .nil)))) .nil))) .nil)))) (.cons (.ifs (.cmp .eq (.call (.glo 123) (.cons (.loc 0) (.cons (.cst (.int 2)) .nil))) (.cst (.int 1))) (.cons (.expr (.meth .append (.loc 4) (.cons (.tup (.cons (.lst (.cons (.tup (.cons (.cst (.str [111,116,104,101,114,115])) .nil)) .nil)) (.cons (.lst .nil) (.cons (.cst .none) .nil)))) .nil))) .nil) .nil) (.cons (.ret (.tup (.cons (.loc 3) (.cons (.tup (.cons (.cst (.str [107,105,110,100])) (.cons (.loc 4) .nil))) .nil)))) .nil))))))⟩
noncomputable def f_law_record:Fn:=⟨2,⟨["cells","is_plain","parts","variant","way","is_limited"],[("cells",.local),("is_plain",.local),("parts",.local),("variant",.local),("way",.local),("is_limited",.local),("_law_parts",gi),("_law_next",gi)]⟩,
 (.cons (.asgT [2,3] (.call (.glo 127) (.cons (.loc 0) (.cons (.cst (.int 0)) .nil)))) (.cons (.ifs (.val (.loc 1)) (.cons (.ret (.tup (.cons (.cst (.str [114,101,99,111,114,100])) (.cons (.loc 2) (.cons (.loc 3) (.cons (.cst (.bool false)) (.cons (.cst (.bool false)) (.cons (.cst (.bool false)) .nil)))))))) .nil) .nil) (.cons (.asg 4 (.call (.glo 123) (.cons (.loc 0) (.cons (.cst (.int 3)) .nil)))) (.cons (.asg 5 (.cmp .eq (.call (.glo 123) (.cons (.loc 0) (.cons (.cst (.int 2)) .nil))) (.cst (.int 1)))) (.cons (.ret (.tup (.cons (.cst (.str [114,101,99,111,114,100])) (.cons (.loc 2) (.cons (.loc 3) (.cons (.cmp .gt (.loc 4) (.cst (.int 0))) (.cons (.loc 5) (.cons (.cmp .eq (.loc 4) (.cst (.int 2))) .nil)))))))) .nil)))))⟩
noncomputable def f_law_definition:Fn:=⟨1,⟨["cells","way","literals","is_plain","is_abstract"],[("cells",.cell),("way",.local),("literals",.local),("is_plain",.local),("is_abstract",.local),("_law_next",gi),("_law_extent",gi),("_law_value",gi),("range",gi),("_law_subtype",gi),("_law_record",gi)]⟩,
 (.cons (.asg 1 (.call (.glo 123) (.cons (.loc 0) (.cons (.cst (.int 11)) .nil)))) (.cons (.ifs (.cmp .eq (.loc 1) (.cst (.int 0))) (.cons (.asg 2 (.lst (.cons (.tup (.cons (.cst (.str [110,97,109,101])) (.cons (.cst (.str [114,101,100])) .nil))) (.cons (.tup (.cons (.cst (.str [99,104,97,114])) (.cons (.cst (.int 65)) .nil))) (.cons (.tup (.cons (.cst (.str [110,97,109,101])) (.cons (.cst (.str [103,114,101,101,110])) .nil))) (.cons (.tup (.cons (.cst (.str [99,104,97,114])) (.cons (.cst (.int 39)) .nil))) .nil)))))) (.cons (.ret (.tup (.cons (.cst (.str [101,110,117,109])) (.cons (.slc (.loc 2) (.so (.call (.glo 123) (.cons (.loc 0) (.cons (.cst (.int 3)) .nil)))) .no) .nil)))) .nil)) .nil) (.cons (.ifs (.cmp .eq (.loc 1) (.cst (.int 1))) (.cons (.ret (.tup (.cons (.cst (.str [105,110,116,114,97,110,103,101])) (.cons (.call (.glo 125) (.cons (.loc 0) .nil)) .nil)))) .nil) .nil) (.cons (.ifs (.cmp .eq (.loc 1) (.cst (.int 2))) (.cons (.ret (.tup (.cons (.cst (.str [109,111,100,117,108,97,114])) (.cons (.call (.glo 124) (.cons (.loc 0) .nil)) .nil)))) .nil) .nil) (.cons (.ifs (.cmp .eq (.loc 1) (.cst (.int 3))) (.cons (.ret (.tup (.cons (.cst (.str [102,105,120,101,100])) (.cons (.call (.glo 124) (.cons (.loc 0) .nil)) (.cons (.ite (.cmp .eq (.call (.glo 123) (.cons (.loc 0) (.cons (.cst (.int 2)) .nil))) (.cst (.int 0))) (.cst .none) (.call (.glo 125) (.cons (.loc 0) .nil))) .nil))))) .nil) .nil) (.cons (.ifs (.cmp .eq (.loc 1) (.cst (.int 4))) (.cons (.ret (.tup (.cons (.cst (.str [97,114,114,97,121])) (.cons (.comp (.call (.glo 132) (.cons (.loc 1) .nil)) (.inl 0) 1 (.range 7 (.bin .add (.cst (.int 1)) (.call (.glo 123) (.cons (.loc 0) (.cons (.cst (.int 2)) .nil))))) .nil [0]) (.cons (.cst (.bool true)) (.cons (.call (.glo 129) (.cons (.loc 0) .nil)) .nil)))))) .nil) .nil) (.cons (.ifs (.cmp .eq (.loc 1) (.cst (.int 5))) (.cons (.ret (.tup (.cons (.cst (.str [97,114,114,97,121])) (.cons (.comp (.sub (.glo 126) (.call (.glo 123) (.cons (.loc 1) (.cons (.cst (.int 3)) .nil)))) (.inl 0) 1 (.range 7 (.bin .add (.cst (.int 1)) (.call (.glo 123) (.cons (.loc 0) (.cons (.cst (.int 2)) .nil))))) .nil [0]) (.cons (.cst (.bool false)) (.cons (.call (.glo 129) (.cons (.loc 0) .nil)) .nil)))))) .nil) .nil) (.cons (.ifs (.cmp .eq (.loc 1) (.cst (.int 6))) (.cons (.asg 3 (.cmp .eq (.call (.glo 123) (.cons (.loc 0) (.cons (.cst (.int 2)) .nil))) (.cst (.int 1)))) (.cons (.ret (.ite (.not (.val (.loc 3))) (.tup (.cons (.cst (.str [114,101,99,111,114,100])) (.cons (.lst .nil) (.cons (.cst .none) (.cons (.cst (.bool false)) (.cons (.cmp .eq (.call (.glo 123) (.cons (.loc 0) (.cons (.cst (.int 2)) .nil))) (.cst (.int 1))) (.cons (.cst (.bool false)) .nil))))))) (.call (.glo 131) (.cons (.loc 0) (.cons (.cst (.bool false)) .nil))))) .nil)) .nil) (.cons (.ifs (.cmp .eq (.loc 1) (.cst (.int 7))) (.cons (.ret (.tup (.cons (.cst (.str [97,99,99,101,115,115])) (.cons (.call (.glo 129) (.cons (.loc 0) .nil)) (.cons (.sub (.tup (.cons (.cst (.str [])) (.cons (.cst (.str [97,108,108])) (.cons (.cst (.str [99,111,110,115,116,97,110,116])) .nil)))) (.call (.glo 123) (.cons (.loc 0) (.cons (.cst (.int 3)) .nil)))) .nil))))) .nil) .nil) (.cons (.asg 4 (.cmp .eq (.call (.glo 123) (.cons (.loc 0) (.cons (.cst (.int 2)) .nil))) (.cst (.int 1)))) (.cons (.ifs (.cmp .eq (.loc 1) (.cst (.int 8))) (.cons (.ret (.tup (.cons (.cst (.str [100,101,114,105,118,101,100])) (.cons (.call (.glo 129) (.cons (.loc 0) .nil)) (.cons (.ite (.cmp .eq (.call (.glo 123) (.cons (.loc 0) (.cons (.cst (.int 2)) .nil))) (.cst (.int 1))) (.call (.glo 131) (.cons (.loc 0) (.cons (.cst (.bool true)) .nil))) (.cst .none)) (.cons (.loc 4) .nil)))))) .nil) .nil) (.cons (.ifs (.cmp .eq (.loc 1) (.cst (.int 9))) (.cons (.ret (.tup (.cons (.cst (.str [101,120,116,101,110,115,105,111,110])) (.cons (.call (.glo 129) (.cons (.loc 0) .nil)) (.cons (.loc 4) .nil))))) .nil) .nil) (.cons (.ret (.tup (.cons (.cst (.str [112,114,105,118,97,116,101])) (.cons (.bor (.cons (.loc 4) (.cons (.cmp .eq (.call (.glo 123) (.cons (.loc 0) (.cons (.cst (.int 2)) .nil))) (.cst (.int 1))) .nil))) (.cons (.cmp .eq (.call (.glo 123) (.cons (.loc 0) (.cons (.cst (.int 2)) .nil))) (.cst (.int 1))) (.cons (.loc 4) .nil)))))) .nil)))))))))))))⟩
noncomputable def f_law_discs:Fn:=⟨1,⟨["cells","way"],[("cells",.cell),("way",.local),("_law_next",gi),("range",gi)]⟩,
 (.cons (.asg 1 (.call (.glo 123) (.cons (.loc 0) (.cons (.cst (.int 4)) .nil)))) (.cons (.ifs (.cmp .lt (.loc 1) (.cst (.int 2))) (.cons (.ret (.sub (.tup (.cons (.cst .none) (.cons (.cst (.str [98,111,120])) .nil))) (.loc 1))) .nil) .nil) (.cons (.ret (.comp (.tup (.cons (.call (.glo 130) (.cons (.loc 1) .nil)) (.cons (.tup (.cons (.cst (.str [115,117,98])) (.cons (.sub (.glo 126) (.call (.glo 123) (.cons (.loc 1) (.cons (.cst (.int 3)) .nil)))) (.cons (.cst .none) .nil)))) (.cons (.call (.glo 128) (.cons (.loc 1) .nil)) .nil)))) (.inl 0) 1 (.range 7 (.bin .sub (.loc 1) (.cst (.int 1)))) .nil [0])) .nil)))⟩
noncomputable def f_law_words:Fn:=⟨1,⟨["tree","tag","words"],[("tree",.local),("tag",.local),("words",.local),("str",gi),("chr",gi),("_law_words",gi),("_law_listed",gi)]⟩,
 (.cons (.asg 1 (.subk (.loc 0) 0)) (.cons (.ifs (.cmp .eq (.loc 1) (.cst (.str [110,97,109,101]))) (.cons (.ret (.lst (.cons (.subk (.loc 0) 1) .nil))) .nil) .nil) (.cons (.ifs (.cmp .eq (.loc 1) (.cst (.str [105,110,116]))) (.cons (.ret (.lst (.cons (.call (.glo 1) (.cons (.subk (.loc 0) 1) .nil)) .nil))) .nil) .nil) (.cons (.ifs (.cmp .eq (.loc 1) (.cst (.str [99,104,97,114]))) (.cons (.ret (.lst (.cons (.bin .add (.bin .add (.cst (.str [39])) (.call (.glo 2) (.cons (.subk (.loc 0) 1) .nil))) (.cst (.str [39]))) .nil))) .nil) .nil) (.cons (.ifs (.cmp .eq (.loc 1) (.cst (.str [115,101,108,101,99,116]))) (.cons (.ret (.bin .add (.call (.glo 134) (.cons (.subk (.loc 0) 1) .nil)) (.lst (.cons (.cst (.str [46])) (.cons (.subk (.loc 0) 2) .nil))))) .nil) .nil) (.cons (.ifs (.cmp .eq (.loc 1) (.cst (.str [114,97,110,103,101]))) (.cons (.ret (.bin .add (.bin .add (.call (.glo 134) (.cons (.subk (.loc 0) 1) .nil)) (.lst (.cons (.cst (.str [46,46])) .nil))) (.call (.glo 134) (.cons (.subk (.loc 0) 2) .nil)))) .nil) .nil) (.cons (.ifs (.cmp .eq (.loc 1) (.cst (.str [116,105,99,107]))) (.cons (.ret (.bin .add (.bin .add (.call (.glo 134) (.cons (.subk (.loc 0) 1) .nil)) (.lst (.cons (.cst (.str [39])) (.cons (.subk (.loc 0) 2) .nil)))) (.ite (.cmp .ne (.subk (.loc 0) 3) (.lst .nil)) (.bin .add (.bin .add (.lst (.cons (.cst (.str [40])) .nil)) (.call (.glo 134) (.cons (.subk (.subk (.loc 0) 3) 0) .nil))) (.lst (.cons (.cst (.str [41])) .nil))) (.lst .nil)))) .nil) .nil) (.cons (.ifs (.cmp .eq (.loc 1) (.cst (.str [111,116,104,101,114,115]))) (.cons (.ret (.lst (.cons (.cst (.str [111,116,104,101,114,115])) .nil))) .nil) .nil) (.cons (.ifs (.cmp .eq (.loc 1) (.cst (.str [97,112,112,108,121]))) (.cons (.ret (.bin .add (.bin .add (.bin .add (.call (.glo 134) (.cons (.subk (.loc 0) 1) .nil)) (.lst (.cons (.cst (.str [40])) .nil))) (.call (.glo 133) (.cons (.subk (.loc 0) 2) .nil))) (.lst (.cons (.cst (.str [41])) .nil)))) .nil) .nil) (.cons (.asg 2 (.call (.glo 134) (.cons (.subk (.loc 0) 1) .nil))) (.cons (.ifs (.cmp .is (.subk (.loc 0) 2) (.cst .none)) (.cons (.ret (.loc 2)) .nil) .nil) (.cons (.ifs (.cmp .eq (.subk (.subk (.loc 0) 2) 0) (.cst (.str [114,97,110,103,101]))) (.cons (.ret (.bin .add (.bin .add (.loc 2) (.lst (.cons (.cst (.str [114,97,110,103,101])) .nil))) (.call (.glo 134) (.cons (.subk (.subk (.loc 0) 2) 1) .nil)))) .nil) .nil) (.cons (.ret (.bin .add (.bin .add (.bin .add (.loc 2) (.lst (.cons (.cst (.str [40])) .nil))) (.call (.glo 133) (.cons (.subk (.subk (.loc 0) 2) 1) .nil))) (.lst (.cons (.cst (.str [41])) .nil)))) .nil)))))))))))))⟩
noncomputable def f_law_listed:Fn:=⟨1,⟨["parts","words","choices","value","choice"],[("parts",.local),("words",.local),("choices",.local),("value",.local),("choice",.local),("_law_words",gi)]⟩,
 (.cons (.asg 1 (.lst .nil)) (.cons (.for (.inr [2,3]) (.val (.loc 0)) (.cons (.asg 1 (.bin .add (.loc 1) (.ite (.cmp .ne (.loc 1) (.lst .nil)) (.lst (.cons (.cst (.str [44])) .nil)) (.lst .nil)))) (.cons (.for (.inl 4) (.val (.bor (.cons (.loc 2) (.cons (.lst .nil) .nil)))) (.cons (.asg 1 (.bin .add (.bin .add (.loc 1) (.call (.glo 134) (.cons (.loc 4) .nil))) (.lst (.cons (.cst (.str [61,62])) .nil)))) .nil)) (.cons (.asg 1 (.bin .add (.loc 1) (.call (.glo 134) (.cons (.loc 3) .nil)))) .nil)))) (.cons (.ret (.loc 1)) .nil)))⟩
noncomputable def f_law_between:Fn:=⟨2,⟨["rows","sign","words","at"],[("rows",.local),("sign",.local),("words",.local),("at",.local),("range",gi),("len",gi)]⟩,
 (.cons (.asg 2 (.lst .nil)) (.cons (.for (.inl 3) (.range 7 (.call (.glo 0) (.cons (.loc 0) .nil))) (.cons (.asg 2 (.bin .add (.bin .add (.loc 2) (.ite (.cmp .gt (.loc 3) (.cst (.int 0))) (.lst (.cons (.loc 1) .nil)) (.lst .nil))) (.sub (.loc 0) (.loc 3)))) .nil)) (.cons (.ret (.loc 2)) .nil)))⟩
noncomputable def f_law_declared:Fn:=⟨2,⟨["part","is_marked","names","subtype","default","words"],[("part",.local),("is_marked",.local),("names",.local),("subtype",.local),("default",.local),("words",.local),("_law_between",gi),("_law_words",gi)]⟩,
 (.cons (.asgT [2,3,4] (.loc 0)) (.cons (.asg 5 (.bin .add (.bin .add (.bin .add (.call (.glo 135) (.cons (.comp (.lst (.cons (.loc 0) .nil)) (.inl 0) 1 (.val (.loc 2)) .nil []) (.cons (.cst (.str [44])) .nil))) (.lst (.cons (.cst (.str [58])) .nil))) (.ite (.val (.loc 1)) (.lst (.cons (.cst (.str [97,108,105,97,115,101,100])) .nil)) (.lst .nil))) (.call (.glo 134) (.cons (.loc 3) .nil)))) (.cons (.ret (.bin .add (.loc 5) (.ite (.cmp .isnot (.loc 4) (.cst .none)) (.bin .add (.lst (.cons (.cst (.str [58,61])) .nil)) (.call (.glo 134) (.cons (.loc 4) .nil))) (.lst .nil)))) .nil)))⟩
noncomputable def f_law_inside:Fn:=⟨2,⟨["parts","variant","words","part","choices","inner","deeper"],[("parts",.local),("variant",.local),("words",.local),("part",.local),("choices",.local),("inner",.local),("deeper",.local),("_law_declared",gi),("_law_between",gi),("_law_inside",gi)]⟩,
 (.cons (.asg 2 (.lst .nil)) (.cons (.for (.inl 3) (.val (.loc 0)) (.cons (.asg 2 (.bin .add (.bin .add (.loc 2) (.call (.glo 137) (.cons (.loc 3) (.cons (.cmp .is (.subk (.loc 3) 2) (.cst .none)) .nil)))) (.lst (.cons (.cst (.str [59])) .nil)))) .nil)) (.cons (.ifs (.cmp .is (.loc 1) (.cst .none)) (.cons (.ret (.ite (.cmp .ne (.loc 2) (.lst .nil)) (.loc 2) (.lst (.cons (.cst (.str [110,117,108,108])) (.cons (.cst (.str [59])) .nil))))) .nil) .nil) (.cons (.asg 2 (.bin .add (.loc 2) (.lst (.cons (.cst (.str [99,97,115,101])) (.cons (.subk (.loc 1) 0) (.cons (.cst (.str [105,115])) .nil)))))) (.cons (.for (.inr [4,5,6]) (.val (.subk (.loc 1) 1)) (.cons (.asg 2 (.bin .add (.bin .add (.bin .add (.bin .add (.loc 2) (.lst (.cons (.cst (.str [119,104,101,110])) .nil))) (.call (.glo 135) (.cons (.comp (.call (.glo 134) (.cons (.loc 0) .nil)) (.inl 0) 1 (.val (.loc 4)) .nil []) (.cons (.cst (.str [124])) .nil)))) (.lst (.cons (.cst (.str [61,62])) .nil))) (.call (.glo 136) (.cons (.loc 5) (.cons (.loc 6) .nil))))) .nil)) (.cons (.ret (.bin .add (.loc 2) (.lst (.cons (.cst (.str [101,110,100])) (.cons (.cst (.str [99,97,115,101])) (.cons (.cst (.str [59])) .nil)))))) .nil))))))⟩
noncomputable def f_law_spelled:Fn:=⟨1,⟨["tree","tag","rows","words"],[("tree",.cell),("tag",.local),("rows",.local),("words",.local),("_law_between",gi),("_law_words",gi),("_law_flagged",gi),("_law_inside",gi),("_law_spelled",gi)]⟩,
 (.cons (.asg 1 (.subk (.loc 0) 0)) (.cons (.ifs (.cmp .eq (.loc 1) (.cst (.str [101,110,117,109]))) (.cons (.ret (.bin .add (.bin .add (.lst (.cons (.cst (.str [40])) .nil)) (.call (.glo 135) (.cons (.comp (.call (.glo 134) (.cons (.loc 0) .nil)) (.inl 0) 1 (.val (.subk (.loc 0) 1)) .nil []) (.cons (.cst (.str [44])) .nil)))) (.lst (.cons (.cst (.str [41])) .nil)))) .nil) .nil) (.cons (.ifs (.cmp .eq (.loc 1) (.cst (.str [105,110,116,114,97,110,103,101]))) (.cons (.ret (.bin .add (.lst (.cons (.cst (.str [114,97,110,103,101])) .nil)) (.call (.glo 134) (.cons (.subk (.loc 0) 1) .nil)))) .nil) .nil) (.cons (.ifs (.cmp .eq (.loc 1) (.cst (.str [109,111,100,117,108,97,114]))) (.cons (.ret (.bin .add (.lst (.cons (.cst (.str [109,111,100])) .nil)) (.call (.glo 134) (.cons (.subk (.loc 0) 1) .nil)))) .nil) .nil) (.cons (.ifs (.cmp .eq (.loc 1) (.cst (.str [102,105,120,101,100]))) (.cons (.ret (.bin .add (.bin .add (.lst (.cons (.cst (.str [100,101,108,116,97])) .nil)) (.call (.glo 134) (.cons (.subk (.loc 0) 1) .nil))) (.ite (.cmp .isnot (.subk (.loc 0) 2) (.cst .none)) (.bin .add (.lst (.cons (.cst (.str [114,97,110,103,101])) .nil)) (.call (.glo 134) (.cons (.subk (.loc 0) 2) .nil))) (.lst .nil)))) .nil) .nil) (.cons (.ifs (.cmp .eq (.loc 1) (.cst (.str [97,114,114,97,121]))) (.cons (.asg 2 (.comp (.bin .add (.call (.glo 134) (.cons (.loc 0) .nil)) (.ite (.val (.subk (.loc 1) 2)) (.lst .nil) (.lst (.cons (.cst (.str [114,97,110,103,101])) (.cons (.cst (.str [60,62])) .nil))))) (.inl 0) 1 (.val (.subk (.loc 0) 1)) .nil [0])) (.cons (.ret (.bin .add (.bin .add (.bin .add (.lst (.cons (.cst (.str [97,114,114,97,121])) (.cons (.cst (.str [40])) .nil))) (.call (.glo 135) (.cons (.loc 2) (.cons (.cst (.str [44])) .nil)))) (.lst (.cons (.cst (.str [41])) (.cons (.cst (.str [111,102])) (.cons (.cst (.str [97,108,105,97,115,101,100])) .nil))))) (.call (.glo 134) (.cons (.subk (.loc 0) 3) .nil)))) .nil)) .nil) (.cons (.ifs (.cmp .eq (.loc 1) (.cst (.str [114,101,99,111,114,100]))) (.cons (.ret (.bin .add (.bin .add (.bin .add (.call (.glo 139) (.cons (.tup (.cons (.subk (.loc 0) 5) (.cons (.subk (.loc 0) 3) (.cons (.subk (.loc 0) 4) .nil)))) .nil)) (.lst (.cons (.cst (.str [114,101,99,111,114,100])) .nil))) (.call (.glo 136) (.cons (.subk (.loc 0) 1) (.cons (.subk (.loc 0) 2) .nil)))) (.lst (.cons (.cst (.str [101,110,100])) (.cons (.cst (.str [114,101,99,111,114,100])) .nil))))) .nil) .nil) (.cons (.ifs (.cmp .eq (.loc 1) (.cst (.str [97,99,99,101,115,115]))) (.cons (.ret (.bin .add (.bin .add (.lst (.cons (.cst (.str [97,99,99,101,115,115])) .nil)) (.ite (.cmp .ne (.subk (.loc 0) 2) (.cst (.str []))) (.lst (.cons (.subk (.loc 0) 2) .nil)) (.lst .nil))) (.call (.glo 134) (.cons (.subk (.loc 0) 1) .nil)))) .nil) .nil) (.cons (.ifs (.cmp .eq (.loc 1) (.cst (.str [112,114,105,118,97,116,101]))) (.cons (.ret (.bin .add (.call (.glo 139) (.cons (.tup (.cons (.subk (.loc 0) 3) (.cons (.subk (.loc 0) 1) (.cons (.subk (.loc 0) 2) .nil)))) .nil)) (.lst (.cons (.cst (.str [112,114,105,118,97,116,101])) .nil)))) .nil) .nil) (.cons (.asg 3 (.bin .add (.bin .add (.ite (.val (.sub (.loc 0) (.neg (.cst (.int 1))))) (.lst (.cons (.cst (.str [97,98,115,116,114,97,99,116])) .nil)) (.lst .nil)) (.lst (.cons (.cst (.str [110,101,119])) .nil))) (.call (.glo 134) (.cons (.subk (.loc 0) 1) .nil)))) (.cons (.ifs (.cmp .eq (.loc 1) (.cst (.str [101,120,116,101,110,115,105,111,110]))) (.cons (.ret (.bin .add (.loc 3) (.lst (.cons (.cst (.str [119,105,116,104])) (.cons (.cst (.str [112,114,105,118,97,116,101])) .nil))))) .nil) .nil) (.cons (.ret (.bin .add (.loc 3) (.ite (.cmp .isnot (.subk (.loc 0) 2) (.cst .none)) (.bin .add (.lst (.cons (.cst (.str [119,105,116,104])) .nil)) (.call (.glo 138) (.cons (.subk (.loc 0) 2) .nil))) (.lst .nil)))) .nil))))))))))))⟩
noncomputable def f_law_spelled_discs:Fn:=⟨1,⟨["discs"],[("discs",.local),("_law_between",gi)]⟩,
 (.cons (.ifs (.cmp .is (.loc 0) (.cst .none)) (.cons (.ret (.lst .nil)) .nil) .nil) (.cons (.ifs (.cmp .eq (.loc 0) (.cst (.str [98,111,120]))) (.cons (.ret (.lst (.cons (.cst (.str [40])) (.cons (.cst (.str [60,62])) (.cons (.cst (.str [41])) .nil))))) .nil) .nil) (.cons (.ret (.bin .add (.bin .add (.lst (.cons (.cst (.str [40])) .nil)) (.call (.glo 135) (.cons (.comp (.call (.glo 137) (.cons (.loc 0) (.cons (.cst (.bool false)) .nil))) (.inl 0) 1 (.val (.loc 0)) .nil []) (.cons (.cst (.str [59])) .nil)))) (.lst (.cons (.cst (.str [41])) .nil)))) .nil)))⟩
noncomputable def f_law_show:Fn:=⟨1,⟨["tree"],[("tree",.local),("_law_words",gi)]⟩,
 (.cons (.ret (.jrep [32] (.call (.glo 134) (.cons (.loc 0) .nil)) [32,39,32] [39])) .nil)⟩
noncomputable def f_law_show_parts:Fn:=⟨1,⟨["parts"],[("parts",.local),("_law_listed",gi)]⟩,
 (.cons (.ret (.jrep [32] (.call (.glo 133) (.cons (.loc 0) .nil)) [32,39,32] [39])) .nil)⟩
noncomputable def f_law_heard:Fn:=⟨2,⟨["call","text","reader","tree"],[("call",.local),("text",.local),("reader",.local),("tree",.local),("Reader",gi),("tokens_of",gi),("len",gi)]⟩,
 (.cons (.asg 2 (.mkobj 140 33 (.call (.glo 141) (.cons (.loc 1) .nil)))) (.cons (.asg 3 (.call (.loc 0) (.cons (.loc 2) .nil))) (.cons (.ret (.tup (.cons (.loc 3) (.cons (.cmp .eq (.attr (.loc 2) 1) (.call (.glo 0) (.cons (.attr (.loc 2) 0) .nil))) .nil)))) .nil)))⟩
noncomputable def f_law:Fn:=⟨1,⟨["script","cells","definition","discs","listers","glue","call","tree","words"],[("script",.local),("cells",.local),("definition",.local),("discs",.local),("listers",.local),("glue",.local),("call",.local),("tree",.local),("words",.local),("list",gi),("_law_definition",gi),("_law_discs",gi),("_law_show",gi),("_law_show_parts",gi),("_law_heard",gi),("parse_definition",gi),("show_definition",gi),("parse_discriminants",gi),("show_discs",gi),("len",gi),("_law_spelled",gi),("_law_spelled_discs",gi)]⟩,
 (.cons (.asg 1 (.call (.glo 5) (.cons (.slc (.loc 0) .no (.so (.cst (.int 40)))) .nil))) (.cons (.asg 2 (.call (.glo 151) (.cons (.loc 1) .nil))) (.cons (.asg 3 (.call (.glo 150) (.cons (.loc 1) .nil))) (.cons (.asg 4 (.dic [[115,104,111,119],[97,115,115,111,99,115]] (.cons (.glo 149) (.cons (.glo 148) .nil)))) (.cons (.ifs (.cmp .ne (.call (.glo 145) (.cons (.glo 144) (.cons (.call (.glo 147) (.cons (.loc 4) (.cons (.loc 2) .nil))) .nil))) (.tup (.cons (.loc 2) (.cons (.cst (.bool true)) .nil)))) (.cons (.ret (.cst (.bool false))) .nil) .nil) (.cons (.ifs (.cmp .ne (.call (.glo 145) (.cons (.glo 143) (.cons (.call (.glo 146) (.cons (.loc 4) (.cons (.loc 3) .nil))) .nil))) (.tup (.cons (.loc 3) (.cons (.cst (.bool true)) .nil)))) (.cons (.ret (.cst (.bool false))) .nil) .nil) (.cons (.asg 5 (.sub (.tup (.cons (.cst (.str [32])) (.cons (.cst (.str [10])) (.cons (.cst (.str [32,45,45,32,105,115,32,110,117,108,108,59,10])) .nil)))) (.bin .mod (.ite (.cmp .gt (.call (.glo 0) (.cons (.loc 0) .nil)) (.cst (.int 40))) (.subk (.loc 0) 40) (.cst (.int 0))) (.cst (.int 3))))) (.cons (.for (.inr [6,7,8]) (.val (.tup (.cons (.tup (.cons (.glo 144) (.cons (.loc 2) (.cons (.call (.glo 138) (.cons (.loc 2) .nil)) .nil)))) (.cons (.tup (.cons (.glo 143) (.cons (.loc 3) (.cons (.call (.glo 142) (.cons (.loc 3) .nil)) .nil)))) .nil)))) (.cons (.ifs (.cmp .ne (.call (.glo 145) (.cons (.loc 6) (.cons (.bin .add (.meth .join (.loc 5) (.cons (.loc 8) .nil)) (.loc 5)) .nil))) (.tup (.cons (.loc 7) (.cons (.cst (.bool true)) .nil)))) (.cons (.ret (.cst (.bool false))) .nil) .nil) .nil)) (.cons (.ret (.cst (.bool true))) .nil)))))))))⟩
noncomputable def v_SHORT_WORDS:PV:=(.dict [[97,110,100,116,104,101,110],[111,114,101,108,115,101]] [(.str [97,110,100,32,116,104,101,110]),(.str [111,114,32,101,108,115,101])])
noncomputable def v_PRIMARY_LEVEL:PV:=(.int 6)
noncomputable def v_BINDING:PV:=(.dict [[42,42],[42],[47],[109,111,100],[114,101,109],[43],[45],[38],[61],[47,61],[60],[60,61],[62],[62,61]] [(.tup [(.int 5),(.int 6),(.int 6)]),(.tup [(.int 4),(.int 4),(.int 5)]),(.tup [(.int 4),(.int 4),(.int 5)]),(.tup [(.int 4),(.int 4),(.int 5)]),(.tup [(.int 4),(.int 4),(.int 5)]),(.tup [(.int 3),(.int 3),(.int 4)]),(.tup [(.int 3),(.int 3),(.int 4)]),(.tup [(.int 3),(.int 3),(.int 4)]),(.tup [(.int 2),(.int 3),(.int 3)]),(.tup [(.int 2),(.int 3),(.int 3)]),(.tup [(.int 2),(.int 3),(.int 3)]),(.tup [(.int 2),(.int 3),(.int 3)]),(.tup [(.int 2),(.int 3),(.int 3)]),(.tup [(.int 2),(.int 3),(.int 3)])])
noncomputable def v_SIMPLE_LEVEL:PV:=(.int 3)
noncomputable def v_RESERVED:PV:=(.tup [(.str [97,98,111,114,116]),(.str [97,98,115]),(.str [97,98,115,116,114,97,99,116]),(.str [97,99,99,101,112,116]),(.str [97,99,99,101,115,115]),(.str [97,108,105,97,115,101,100]),(.str [97,108,108]),(.str [97,110,100]),(.str [97,114,114,97,121]),(.str [97,116]),(.str [98,101,103,105,110]),(.str [98,111,100,121]),(.str [99,97,115,101]),(.str [99,111,110,115,116,97,110,116]),(.str [100,101,99,108,97,114,101]),(.str [100,101,108,97,121]),(.str [100,101,108,116,97]),(.str [100,105,103,105,116,115]),(.str [100,111]),(.str [101,108,115,101]),(.str [101,108,115,105,102]),(.str [101,110,100]),(.str [101,110,116,114,121]),(.str [101,120,99,101,112,116,105,111,110]),(.str [101,120,105,116]),(.str [102,111,114]),(.str [102,117,110,99,116,105,111,110]),(.str [103,101,110,101,114,105,99]),(.str [103,111,116,111]),(.str [105,102]),(.str [105,110]),(.str [105,115]),(.str [108,105,109,105,116,101,100]),(.str [108,111,111,112]),(.str [109,111,100]),(.str [110,101,119]),(.str [110,111,116]),(.str [110,117,108,108]),(.str [111,102]),(.str [111,114]),(.str [111,116,104,101,114,115]),(.str [111,117,116]),(.str [112,97,99,107,97,103,101]),(.str [112,114,97,103,109,97]),(.str [112,114,105,118,97,116,101]),(.str [112,114,111,99,101,100,117,114,101]),(.str [112,114,111,116,101,99,116,101,100]),(.str [114,97,105,115,101]),(.str [114,97,110,103,101]),(.str [114,101,99,111,114,100]),(.str [114,101,109]),(.str [114,101,110,97,109,101,115]),(.str [114,101,113,117,101,117,101]),(.str [114,101,116,117,114,110]),(.str [114,101,118,101,114,115,101]),(.str [115,101,108,101,99,116]),(.str [115,101,112,97,114,97,116,101]),(.str [115,117,98,116,121,112,101]),(.str [116,97,103,103,101,100]),(.str [116,97,115,107]),(.str [116,101,114,109,105,110,97,116,101]),(.str [116,104,101,110]),(.str [116,121,112,101]),(.str [117,110,116,105,108]),(.str [117,115,101]),(.str [119,104,101,110]),(.str [119,104,105,108,101]),(.str [119,105,116,104]),(.str [120,111,114])])
noncomputable def v_UNARY_NAMES:PV:=(.tup [(.str [43]),(.str [45]),(.str [97,98,115]),(.str [110,111,116])])
noncomputable def v_BINARY_NAMES:PV:=(.tup [(.str [97,110,100]),(.str [111,114]),(.str [120,111,114]),(.str [61]),(.str [60]),(.str [60,61]),(.str [62]),(.str [62,61]),(.str [43]),(.str [45]),(.str [38]),(.str [42]),(.str [47]),(.str [109,111,100]),(.str [114,101,109]),(.str [42,42])])
noncomputable def v_SMALL_LETTERS:PV:=(.str [97,98,99,100,101,102,103,104,105,106,107,108,109,110,111,112,113,114,115,116,117,118,119,120,121,122])
noncomputable def v_FIGURES:PV:=(.str [48,49,50,51,52,53,54,55,56,57])
noncomputable def v_MOST_FIGURES:PV:=(.int 80)
noncomputable def v_BASED_FIGURES:PV:=(.str [48,49,50,51,52,53,54,55,56,57,97,98,99,100,101,102])
noncomputable def v_MOST_POWER:PV:=(.int 400)
noncomputable def v_SINGLES:PV:=(.str [38,40,41,42,43,44,45,46,47,58,59,60,61,62,124])
noncomputable def v_COMPOUNDS:PV:=(.tup [(.str [61,62]),(.str [46,46]),(.str [42,42]),(.str [58,61]),(.str [47,61]),(.str [62,61]),(.str [60,61]),(.str [60,60]),(.str [62,62]),(.str [60,62])])
noncomputable def v_LINE_ENDS:PV:=(.str [10,13,12,11])
noncomputable def v_GAPS:PV:=(.str [32,9,13,10,12,11])
noncomputable def v_MOST_HIGH:PV:=(.int 60)
noncomputable def v_MOST_NESTED:PV:=(.int 24)
noncomputable def v_RELATIONS:PV:=(.tup [(.str [61]),(.str [47,61]),(.str [60]),(.str [60,61]),(.str [62]),(.str [62,61])])
noncomputable def v_NAMES:PV:=(.tup [(.str [110,97,109,101]),(.str [115,101,108,101,99,116]),(.str [97,112,112,108,121]),(.str [97,108,108]),(.str [116,105,99,107])])
noncomputable def v_MARK_ATTRIBUTES:PV:=(.tup [(.str [98,97,115,101]),(.str [99,108,97,115,115])])
noncomputable def v_WORDS_AS_ATTRIBUTES:PV:=(.tup [(.str [114,97,110,103,101]),(.str [97,99,99,101,115,115]),(.str [100,105,103,105,116,115]),(.str [100,101,108,116,97]),(.str [109,111,100])])
noncomputable def v_MOST_VARIANTS:PV:=(.int 40)
noncomputable def v_law_marks:PV:=(.tup [(.tup [(.str [110,97,109,101]),(.str [100,97,121])]),(.tup [(.str [115,101,108,101,99,116]),(.tup [(.str [110,97,109,101]),(.str [99,97,108,101,110,100,97,114])]),(.str [116,105,109,101])]),(.tup [(.str [110,97,109,101]),(.str [116])])])
noncomputable def gtab:List PV:=[.bi 0,.bi 1,.bi 2,.bi 3,.bi 4,.bi 5,.bi 6,.bi 7,v_SHORT_WORDS,v_PRIMARY_LEVEL,v_BINDING,.fn 0,.fn 2,.fn 4,.fn 6,.fn 7,.fn 5,.fn 3,.fn 10,.fn 9,.fn 11,.fn 1,v_SIMPLE_LEVEL,.fn 13,.fn 12,.fn 14,v_RESERVED,v_UNARY_NAMES,v_BINARY_NAMES,.fn 18,v_SMALL_LETTERS,v_FIGURES,.fn 19,.fn 16,.fn 20,v_MOST_FIGURES,.bi 8,v_BASED_FIGURES,v_MOST_POWER,.fn 23,.fn 120,.fn 24,.fn 21,.fn 27,v_SINGLES,v_COMPOUNDS,.fn 29,.fn 28,.fn 26,.fn 25,.fn 22,v_LINE_ENDS,v_GAPS,.fn 31,.fn 30,.fn 34,.fn 38,.fn 39,.fn 40,.fn 41,.fn 36,.fn 35,v_MOST_HIGH,.fn 45,v_MOST_NESTED,.fn 46,.fn 49,.fn 53,.fn 55,.fn 57,.fn 52,v_RELATIONS,.fn 54,.fn 56,v_NAMES,.fn 58,.fn 59,.fn 60,.fn 62,.fn 72,.fn 63,.fn 71,.fn 64,.fn 121,.fn 44,v_MARK_ATTRIBUTES,.fn 48,.fn 42,.fn 50,.fn 47,v_WORDS_AS_ATTRIBUTES,.fn 66,.fn 67,.fn 68,.fn 69,.fn 70,.fn 74,.fn 73,.fn 75,.fn 61,.fn 65,.fn 82,.fn 43,.fn 76,.fn 84,.fn 78,.fn 77,.fn 85,.fn 81,.fn 80,.fn 89,.fn 87,.fn 88,.fn 79,v_MOST_VARIANTS,.fn 90,.fn 92,.fn 51,.fn 93,.fn 91,.fn 86,.fn 94,.fn 83,.fn 97,.fn 98,.fn 99,v_law_marks,.fn 104,.fn 103,.fn 100,.fn 102,.fn 105,.fn 101,.fn 109,.fn 108,.fn 110,.fn 112,.fn 111,.fn 114,.fn 113,.cls,.fn 32,.fn 115,.fn 96,.fn 95,.fn 118,.fn 8,.fn 15,.fn 117,.fn 116,.fn 107,.fn 106]
noncomputable def ftab:List (Nat×Fn):=[(0,f_logical_sort),(1,f_binding_of),(2,f_show_range_of),(3,f_show_choices),(4,f_show_names),(5,f_default_behind),(6,f_show_array),(7,f_show_kind),(8,f_show_discs),(9,f_show_words),(10,f_show_components),(11,f_show_record),(12,f_show_derived),(13,f_show_simple),(14,f_show_number_type),(15,f_show_definition),(16,f_is_reserved),(18,f_small_sign),(19,f_is_name_letter),(20,f_is_name_part),(21,f_is_graphic),(22,f_name_token),(23,f_read_numeral),(24,f_power_of),(25,f_number_token),(27,f_is_prefix),(28,f_tick_token),(29,f_delimiter_token),(30,f_one_token),(31,f_remark_behind),(32,f_tokens_of),(34,f_token_ahead),(35,f_peek_token),(36,f_take_token),(40,f_take_sign),(41,f_take_word),(42,f_need_sign),(43,f_need_word),(44,f_need_name),(45,f_tree_parts),(46,f_check_height),(47,f_open_nest),(48,f_close_nest),(49,f_bounded_tree),(50,f_parse_expr),(51,f_parse_simple),(52,f_logical_word),(53,f_logical_tree),(54,f_relation_sign),(55,f_relation_tree),(56,f_member_tree),(57,f_simple_tree),(58,f_term_tree),(59,f_factor_tree),(60,f_primary_tree),(61,f_parse_name),(62,f_name_tree),(63,f_selected_tree),(64,f_attribute_tree),(65,f_parse_discrete),(66,f_extent_tree),(67,f_parse_range),(68,f_parse_choice),(69,f_assoc_here),(70,f_assoc_row),(71,f_assocs_here),(72,f_bracket_tree),(75,f_is_mark),(76,f_parse_mark),(77,f_parse_subtype),(78,f_parse_discrete_range),(79,f_parse_choice_list),(80,f_parse_names),(81,f_parse_default),(82,f_parse_literal),(83,f_parse_enumeration),(84,f_is_box_ahead),(85,f_parse_index),(86,f_parse_array),(87,f_parse_component),(88,f_parse_components),(89,f_parse_variant),(90,f_parse_record),(91,f_parse_access),(92,f_parse_derived),(93,f_parse_composed),(94,f_parse_fixed),(95,f_parse_definition),(96,f_parse_discriminants),(97,f_law_next),(98,f_law_value),(99,f_law_extent),(100,f_law_subtype),(101,f_law_discrete),(102,f_law_names),(103,f_law_first),(104,f_law_parts),(105,f_law_record),(106,f_law_definition),(107,f_law_discs),(108,f_law_words),(109,f_law_listed),(110,f_law_between),(111,f_law_declared),(112,f_law_inside),(114,f_law_spelled),(115,f_law_spelled_discs),(116,f_law_show),(117,f_law_show_parts),(118,f_law_heard),(119,f_law)]
end Mine
end
section
open PySem PySem.W PySem.Calls
namespace Mine
open PyProof.Rows
noncomputable def zf:Fs:=⟨[Str.ofString "flags"],[(Str.ofString "flags",.local),(Str.ofString "zip",.globalImplicit)]⟩
noncomputable def zF:Fn:=⟨1,zf,.nil⟩
noncomputable def zT:E:=.tup (.cons (.cst (.str [97,98,115,116,114,97,99,116])) (.cons (.cst (.str [116,97,103,103,101,100])) (.cons (.cst (.str [108,105,109,105,116,101,100])) .nil)))
noncomputable def zI (k:Kn) (iter:Expr):Bool:=kCall iter fun c args kws _=>kName c fun nm _=>twoL args fun a1 a2=>kws.isEmpty && (Str.ofString "zip" == nm && (!isStar a1 && (!isStar a2 && (mE k zf zT a1 && mE k zf (.loc 0) a2))))
noncomputable def zB (k:Kn) (body:List Stmt):Bool:=oneL body fun st=>sReturn st fun v _=>oK v fun v=>kListComp v fun y gens scope _=>oneL gens fun g=>kGen g fun tgt iter ifs =>
 compOk zf (.inr [0,1]) 2 [] scope tgt && (tgtOk (inner zf 2 tgt [] scope) (.inr [0,1]) tgt && (notSet iter && (mTs k (inner zf 2 tgt [] scope) (.cons (.val (.loc 1)) .nil) ifs && (mE k (inner zf 2 tgt [] scope) (.loc 0) y && zI k iter))))
end Mine
end
section
open PySem PySem.W PySem.Calls
namespace Mine
noncomputable def faT:List Nat:=[37,44,51,58,65,72,79,86,91,98,105,112,119,126,133,138,225,232,254,261,268,275,282,289,296,303,310,317,324,331,338,345,352,367,381,388,395,402,417,425,432,439,446,453,460,467,472,479,486,493,504,511,518,525,532,539,546,553,560,567,574,588,595,602,609,616,623,630,637,644,651,658,665,672,679,686,693,700,707,714,721,728,735,742,749,756,763,770,777,784,791,798,805,812,819,826,833,845,852,859,866,873,880,887,892,899,904,909,916,923,930,935,940,945,950,955,962,969,976,983,246,581]
noncomputable def fa (i:Nat):Nat:=faT.getD i 983
noncomputable def valI (v:Value) (K:Int→Tok→Bool):Bool:=if w:v.ctorIdx=4 then @Value.int.elim (fun _=>Bool) v w K else false
noncomputable def valS (v:Value) (K:Str→Tok→Bool):Bool:=if w:v.ctorIdx=6 then @Value.str.elim (fun _=>Bool) v w K else false
noncomputable def valR (v:Value) (K:Addr→Bool):Bool:=if w:v.ctorIdx=10 then @Value.ref.elim (fun _=>Bool) v w K else false
noncomputable def dSeq (v:Data) (K:Array Value→Nat→Bool):Bool:=if w:v.ctorIdx=2 then @Data.seq.elim (fun _=>Bool) v w K else false
noncomputable def dDic (v:Data) (K:Array DictEntry→Nat→Bool):Bool:=if w:v.ctorIdx=3 then @Data.dict.elim (fun _=>Bool) v w K else false
noncomputable def someB {α:Type} (o:Option α) (K:α→Bool):Bool:=o.elim false K
noncomputable def objB (K:Frag) (a:Addr) (n:String) (R:Data→Bool):Bool:=someB (K.lookup a) fun o=>o.cls == .type n && (o.dict.isNone && (o.slots.toList.isEmpty && R o.data))
noncomputable def all2 (R:PV→Value→Bool):List PV→List Value→Bool
 | [],vs=>vs.isEmpty
 | p :: ps,vs=>unc vs fun v vs=>R p v && all2 R ps vs
noncomputable def keysB:List (List Nat)→List DictEntry→Bool
 | [],es=>es.isEmpty
 | k :: ks,es=>unc es fun e es=>(valS e.key fun x _=>x == ⟨k.toArray⟩) && keysB ks es
noncomputable def vS (K:Frag) (rec:PV→Value→Bool) (v:Value):PV→Bool
 | .int i=>valI v fun j _=>j == i
 | .str s=>valS v fun x _=>x == ⟨s.toArray⟩
 | .tup l=>valR v fun a=>objB K a "tuple" fun d=>dSeq d fun xs _=>all2 rec l xs.toList
 | .dict ks ps=>valR v fun a=>(a == 15 || a == 30) && objB K a "dict" fun d=>dDic d fun es _=>keysB ks es.toList && all2 rec ps (es.toList.map (·.val))
 | .fn i=>valR v fun a=>fa i == a
 | .cls=>valR v fun a=>a == 370
 | _=>false
noncomputable def vB (K:Frag):Nat→PV→Value→Bool
 | 0=>fun _ _=>false
 | n + 1=>fun p v=>vS K (vB K n) v p
noncomputable def dicAt (K:Frag) (a:Addr):List DictEntry:=match K.lookup a with
 | some ⟨_,_,.dict es _,_⟩=>es.toList
 | _=>[]
noncomputable def keyS (e:DictEntry):Str:=match e.key with
 | .str x _=>x
 | _=>Str.empty
noncomputable def fdAt (K:Frag) (a:Addr):FuncData:=(K.lookup a).elim default fun o=>if w:o.data.ctorIdx=7 then @Data.func.elim (fun _=>FuncData) o.data w id else default
noncomputable def isF (K:Frag) (a:Addr):Bool:=someB (K.lookup a) fun o=>o.data.ctorIdx == 7
noncomputable def stms (b:FuncBody):List Stmt:=if w:b.ctorIdx=0 then @FuncBody.stmts.elim (fun _=>List Stmt) b w id else []
noncomputable def fdB (K:Frag) (F:Fn) (m:List Stmt→Bool) (fd:FuncData):Bool:=namesB F && (codeIn K fd.code fd.qualname && (fd.body.ctorIdx == 0 && (m (stms fd.body) && (fd.scope.names == F.f.sc && (decide (fd.scope.kind = .function) && (!fd.scope.isCoroutine && (!fd.scope.isGenerator && (fd.globals == mainGlobals && (fd.builtins == builtinsNs && fd.closure.isEmpty)))))))))
noncomputable def fmB (K:Frag) (i:Nat) (F:Fn) (m:List Stmt→Bool):Bool:=isF K (fa i) && fdB K F m (fdAt K (fa i))
noncomputable def fnB (K:Frag) (i:Nat) (F:Fn):Bool:=fmB K i F (mSs theKn F.f F.body)
section
variable {w:World} {H:Heap} {K:Frag}
noncomputable def biB (p:PV) (R:Nat→Bool):Bool:=match p with
 | .bi b=>R b
 | _=>false
noncomputable def gB (K:Frag) (x:Str) (p:PV):Bool:=(biB p fun b=>nsIn K mainGlobals x == some none && (bootBuiltins x == some (bvT b) && !(x == "__name__"))) || someB (nsIn K mainGlobals x) fun o=>someB o fun v=>vB K 4 p v
noncomputable def bindsP (K:Frag) (g:Nat→Value):Prop:=((113,zF) :: ftab).map (fun y=>bindArgs (fdAt K (fa y.1)) ⟨(List.range y.2.np).map g,[]⟩)=((113,zF) :: ftab).map fun y=>pure ((y.2.f.vars.take y.2.np).zip ((List.range y.2.np).map g))
end
noncomputable def dvAt (K:Frag) (fd:FuncData):List Value:=match fd.defaults with
 | .ref T=>(match K.lookup T with
  | some ⟨_,_,.seq xs _,_⟩=>xs.toList
  | _=>[])
 | _=>[]
noncomputable def dtab:List (Nat×Fn):=[(33,f_init),(38,f_is_sign),(39,f_is_word)]
noncomputable def bindsD (K:Frag) (S:Setting) (g:Nat→Value):Prop:=dtab.map (fun y=>peek K S (bindArgs (fdAt K (fa y.1)) ⟨(List.range (y.2.np - 1)).map g,[]⟩))=dtab.map fun y=>some ((y.2.f.vars.take y.2.np).zip ((List.range (y.2.np - 1)).map g++dvAt K (fdAt K (fa y.1))))
noncomputable def bindsE (K:Frag) (S:Setting) (g:Nat→Value):Prop:=dtab.map (fun y=>peek K S (bindArgs (fdAt K (fa y.1)) ⟨(List.range y.2.np).map g,[]⟩))=dtab.map fun y=>some ((y.2.f.vars.take y.2.np).zip ((List.range y.2.np).map g++[]))
noncomputable def dfB (K:Frag) (i:Nat) (F:Fn):Bool:=fnB K i F && (all2 (vB K 1) [.int 0] (dvAt K (fdAt K (fa i))) && F.f.sc.all fun x=>!(x.2 == .cell))
noncomputable def clsB (K:Frag):Bool:=(findIn K (.ref 370) "__getattribute__" == some (some (.builtin "object.__getattribute__"))) && ((findIn K (.ref 370) "__setattr__" == some (some (.builtin "object.__setattr__"))) && (hasDictIn K 370 && (plainOver K 370 &&
 (theKn.an.all (fun k=>findIn K (.ref 370) ⟨k.toArray⟩ == some none && takerIn K 370 ⟨k.toArray⟩ == some none) && (nodupL theKn.an && (decide (theKn.an.length < 100) &&
 (keepIn K (.ref 370) && (makesIn K 370 && (findIn K (.ref 370) "__init__" == some (some (.ref 367)) && typeIn K (.ref 367) == some (.type "function"))))))))))
section
variable {w:World} {H:Heap} {K:Frag}
noncomputable def isFs (K:Frag):Bool:=faT.all (isF K) && isF K 983
noncomputable def chkB (K:Frag):Bool:=(theKn.gn.zip gtab).all (fun y=>gB K y.1 y.2) && (ftab.all (fun y=>fnB K y.1 y.2) && (dtab.all (fun y=>dfB K y.1 y.2) && (clsB K && (isFs K && (theKn.gn.length == gtab.length && ((K.lookup 2).isSome && (fmB K 113 zF (zB theKn) && (nsIn K mainGlobals (Str.ofString "zip") == some none && (bootBuiltins (Str.ofString "zip") == some (.type "zip") && !(Str.ofString "zip" == "__name__"))))))))))
structure KOk (K:Params→Frag):Prop where
 law:∀ P,nsIn (K P) mainGlobals "law" = some (some (.ref 983))
 chk:∀ P,chkB (K P)=true
 bind:∀ P g,bindsP (K P) g
 bindD:∀ P S g,bindsD (K P) S g
 bindE:∀ P S g,bindsE (K P) S g
 hash:∀ P,(dicAt (K P) 15++dicAt (K P) 30).map (·.hash)=(dicAt (K P) 15++dicAt (K P) 30).map fun e=>PyData.keyHash P (keyS e)
end
end Mine
end
section
open PySem PySem.W PySem.Calls PyProof.Rows
set_option Elab.async true
set_option maxHeartbeats 0
set_option maxRecDepth 1000000
namespace Mine.hd
def tw9898716793459506389:=()
def tw6818987989461384207:=()
def tw2845207389951388047:=()
def tw17311223219408574766:=()
def tw7121563811056040697:=()
def tw17087091549796120035:=()
def tw6924109203229866365:=()
def tw13047593935725612058:=()
def tw15616948245753086127:=()
def tw8587404781116728655:=()
def tw13293453174229064190:=()
def tw7519716089354478335:=()
def tw14892549342360969540:=()
def tw11034497122203965937:=()
def tw6813919038997210431:=()
def tw4065347644161347641:=()
def tw5961118342813265553:=()
def tw9641152695372364146:=()
def tw18185175575083235020:=()
def tw17325209927041812611:=()
def tw11128854368766332075:=()
def tw12591134339009171964:=()
def tw4138081844389336918:=()
def tw17076082267592564974:=()
def tw3722166409189360004:=()
def tw4377701919642642989:=()
def tw13468300074154594103:=()
def tw8068729725432388964:=()
def tw9258712216579463092:=()
def tw9215827820722605749:=()
def tw9577689765879766989:=()
def tw4367455430839740993:=()
def tw12480425521718506038:=()
def tw4091639524402994376:=()
def tw5148922909946612681:=()
def tw12410138535482941034:=()
def tw5781342201191254626:=()
def tw17711083657039698284:=()
def tw1452849714261714991:=()
def tw14620637471214046174:=()
def tw4126306136578151734:=()
def tw137786328141462057:=()
def tw15043168886218598503:=()
def tw6990203504111849199:=()
def tw10752148897807903841:=()
def tw2867327485932766208:=()
def tw16649331688326792143:=()
def tw15103106377680225435:=()
def tw11652457597714270106:=()
def tw3259873300814134281:=()
def tw960944832710211464:=()
def tw697623264460660564:=()
def tw7793673504863384051:=()
def tw3513125359445811510:=()
def tw13372043803930879067:=()
def tw4856431653887292112:=()
def tw3953601041324332601:=()
def tw11117797201346649052:=()
def tw6046454685291232161:=()
def tw2216850387143573719:=()
def tw8684328023851190084:=()
def tw10543509907540572799:=()
def tw12769127236821124696:=()
def tw15427206886491885616:=()
def tw10507497572311344420:=()
def tw18322514126500204803:=()
def tw6838551448383532254:=()
def tw461538923250603899:=()
def tw18241275227582772068:=()
def tw5592360268479517082:=()
def tw9077708301081682751:=()
def tw17471934795394947791:=()
def tw13994979335412520660:=()
def tw1847840615245081061:=()
def tw13066319289922817542:=()
def tw17772917993097084435:=()
def tw8047900516022102942:=()
def tw8671608845466749128:=()
def tw14896477498954680388:=()
def tw8343274005884668182:=()
def tw1445366717492459972:=()
def tw6998783941825042932:=()
def tw4724112764586752083:=()
def tw8801323125487838256:=()
def tw12509009523430927325:=()
def tw9087110039335098043:=()
def tw16772102934027710169:=()
def tw12936449754285732098:=()
def tw16301592386811335294:=()
def tw16332348944364537037:=()
def tw13330244855972007585:=()
def tw17599816209265215132:=()
def tw11915594877312485397:=()
def tw2114630138375439770:=()
def tw7752767780024739350:=()
def tw17577478241444706838:=()
def tw17583924267553061668:=()
def tw17650839729002327288:=()
def tw7540741092611519060:=()
def tw12092154237167983948:=()
def tw732345407407602841:=()
def tw8053944837975664402:=()
def tw17495340751864218003:=()
def tw6528754448969337418:=()
def tw5010264101278932077:=()
def tw9073681462420916055:=()
def tw14598272352848978880:=()
def tw9429285754427346401:=()
def tw4299596416071116603:=()
def tw16357263729072622229:=()
def tw5373601922739893978:=()
def tw17447410573909459338:=()
def tw8770205317985620760:=()
def tw7540655947842036084:=()
def tw7854228177987924090:=()
def tw4990156530697904881:=()
def tw4014540891139286612:=()
def tw7080932558258925280:=()
def tw7354087734392854552:=()
def tw8015326511298524721:=()
def tw7746578258024575070:=()
def tw12588582704262371052:=()
def tw11893437276241958245:=()
def tw11953376511379268794:=()
def tw4867443594122359892:=()
def tw3182187488490625086:=()
def tw18300207936620678264:=()
def tw15368132723985388332:=()
def tw13518370688599389936:=()
def tw13342606739435360313:=()
def tw9842699097658496709:=()
def tw5363564295841288755:=()
def tw5562173858411828344:=()
def tw5189956158058943387:=()
def tw2167537188350426706:=()
def tw7891253978561527248:=()
def tw5278057926702712004:=()
def tw13903934854276604550:=()
def tw6423634429210846174:=()
def tw12131494931117144662:=()
def tw18160293313031310949:=()
def tw4817003022231809500:=()
def tw7698358502638924378:=()
def tw6482722132109649516:=()
def tw4481051177388795877:=()
def tw3480954088277226078:=()
def tw16635604280276938560:=()
def tw16502264421070913907:=()
def tw526207354791536317:=()
def tw5464967688985200232:=()
def tw1448358952932078338:=()
def tw8081886968326746073:=()
def tw6636792957720756321:=()
def tw2799716289819351777:=()
def tw12173100003817136821:=()
def tw7082855905992002993:=()
def tw11631869004601391166:=()
def tw14400467628812073631:=()
def tw4115565904173853331:=()
def tw13566260322249332789:=()
def tw10273187271170590260:=()
def tw10111801491309104144:=()
def tw6982297934935202809:=()
def tw4768578896829404305:=()
def tw17454471701868102899:=()
def tw16456969618363192440:=()
def tw5715356086224469760:=()
def tw7721951785955056133:=()
def tw14294001040229213422:=()
def tw10525666975642140466:=()
def tw17799415463897162000:=()
def tw7510230149288206974:=()
def tw8493152586797012548:=()
def tw2502866573005156581:=()
def tw6819123309680001836:=()
def tw1299046323782801668:=()
def tw5987830557187376847:=()
def tw17901334829092211166:=()
def tw13225837485096350037:=()
def tw1208734638264122097:=()
def tw7628703163842673926:=()
def tw16037735763661986305:=()
def tw3759623122121258479:=()
def tw5873113503399164460:=()
def tw1088296927520436173:=()
def tw1865391376527767206:=()
def tw5513025101015932971:=()
def tw17088047866570459193:=()
def tw16155205043701107222:=()
def tw11399449904127653305:=()
def tw8117029840178788049:=()
def tw8545014587354053640:=()
def tw9421340871869096474:=()
def tw7610815399733428385:=()
def tw1882180444382439491:=()
def tw7292484366425897655:=()
def tw8136687328062707162:=()
def tw4136554803537287180:=()
def tw16053994301053490033:=()
def tw7914949630228597729:=()
def tw12050417470231563642:=()
def tw13474097485772985973:=()
def tw7676003278276379012:=()
def tw11672842613191775419:=()
def tw10844753989422098599:=()
def tw16056359734778111409:=()
def tw920214292312260371:=()
def tw9277588360372424766:=()
def tw8773699223549846113:=()
def tw17047115858639842297:=()
def tw13653084951223439035:=()
def tw17420951861521290806:=()
def tw5978321128707920903:=()
def tw6060742912462422084:=()
def tw2457190517430149469:=()
def tw1118553966540926140:=()
def tw2263123870574935043:=()
def tw5635641802508607975:=()
def tw16823583209533085739:=()
def tw13483081372092288885:=()
def tw8977307856219701671:=()
def tw4706079058837389440:=()
def tw8191903926673212241:=()
def tw17335414052712997756:=()
def tw8727321023445011275:=()
def tw7654286748164834634:=()
def tw6352655612330318208:=()
def tw9244321171653502345:=()
def tw2274498078352570744:=()
def tw4993660671451451078:=()
def tw11729958736954745289:=()
def tw3085183777334472315:=()
def tw2134215046882385847:=()
def tw5318216170032084099:=()
def tw1129884963351977449:=()
def tw5716766192118558609:=()
def tw1563692795949630186:=()
def tw7085514621470718492:=()
def tw16006246977917349235:=()
def tw6830512106363814048:=()
def tw13855946660403688772:=()
def tw5245234834050458271:=()
def tw7541792107247259296:=()
def tw13534587687697041467:=()
def tw10170382586518783626:=()
def tw2284436838669742495:=()
def tw15963624873386084050:=()
def tw15166520500009309586:=()
def tw8351282476255451920:=()
def tw17574625026820762457:=()
def tw16794629799341752650:=()
def tw11011131195910976488:=()
def tw16412773359747925120:=()
def tw7941745277869089046:=()
def tw17673860158736603733:=()
def tw3434918251397683217:=()
def tw9753359207989701909:=()
def tw4172343393113369950:=()
def tw4015398097383911347:=()
def tw2278119957841055166:=()
def tw12393119488966705847:=()
def tw15277330632498426303:=()
def tw16945582573551092051:=()
def tw1425423193147277237:=()
def tw3828038474966422129:=()
def tw9430268157657104642:=()
def tw17386561741084979693:=()
def tw10098268173465320503:=()
def tw881544763273948857:=()
def tw12058812876911547015:=()
def tw16200623403803356285:=()
def tw16853341256802265648:=()
def tw2595994805191909183:=()
def tw18330183385023645277:=()
def tw9386895884608548742:=()
def tw11213053971927718326:=()
def tw1588505670450824345:=()
def tw9325612240067072397:=()
def tw4523669819894539328:=()
def tw15527848837575444561:=()
def tw14768889098011018680:=()
def tw13638418597567726942:=()
def tw1511243299971373483:=()
def tw9983995961361265002:=()
def tw9420132969298855359:=()
def tw9627899436633539337:=()
def tw17986969038992634876:=()
def tw13828106393651249627:=()
def tw17588044629489971554:=()
def tw6906073325868019850:=()
def tw10727248033764811480:=()
def tw16009884308244765898:=()
def tw16473244170626142550:=()
def tw14859038896228082724:=()
def tw4851647983119433812:=()
def tw226724450230711188:=()
def tw6186238094035137676:=()
def tw14960593345356199642:=()
def tw10743916045514856203:=()
def tw16138627921320673191:=()
def tw10784824025267889561:=()
def tw14705683404202351889:=()
def tw15508949281206285077:=()
def tw3404104791013757517:=()
def tw13171141561276507362:=()
def tw4725425184044842548:=()
def tw2304311442786299043:=()
def tw17172931820748874959:=()
def tw4272726840584523970:=()
def tw3109861748172591687:=()
def tw16257038226119295666:=()
def tw8652628183442184457:=()
def tw15595854959937240912:=()
def tw16828841361933241965:=()
def tw18439511094173506614:=()
def tw15083628210047938546:=()
def tw9390866547671247325:=()
def tw6196171512934965099:=()
def tw16169374299450900766:=()
def tw11415386828835887437:=()
def tw13642289790063256904:=()
def tw6898005170327248138:=()
def tw10458740792067480800:=()
def tw128412058910260475:=()
def tw12685813987229840507:=()
def tw3219085151875037572:=()
def tw1506431575118746342:=()
def tw17183224562656869120:=()
def tw13866372431405929976:=()
def tw4449123307109862055:=()
def tw15833661619300960221:=()
def tw12112201142124510154:=()
def tw8044012406986999415:=()
def tw8589211134812392127:=()
def tw11375277706881905925:=()
def tw5715734110848049390:=()
def tw667654701330200809:=()
def tw12394076208661396346:=()
def tw13038990169509382042:=()
def tw17213754286329925777:=()
def tw4643362625855044894:=()
def tw14333710738500927179:=()
def tw16091413853298234908:=()
def tw2781682124601125471:=()
def tw13931416462566266981:=()
def tw11440131733606975025:=()
def tw262745018181394680:=()
def tw10531373872144210542:=()
def tw16904818350239718627:=()
def tw4282304852377368616:=()
def tw1712922718373300912:=()
def tw970711260570483912:=()
def tw13322179722446271537:=()
def tw2371736936440567457:=()
def tw8061450827663939861:=()
def tw6820862383352777685:=()
def tw402640490398009360:=()
def tw14991384322417631237:=()
def tw2951005344575393816:=()
def tw8716120427605611371:=()
def tw8960069828448710407:=()
def tw7120233287515763914:=()
def tw12364972598781006883:=()
def tw7763873220885509757:=()
def tw5138769234217329475:=()
def tw15642763164714097627:=()
def tw2845679848157327705:=()
def tw6276725880618359904:=()
def tw11472165163037031739:=()
def tw15279998641719260112:=()
def tw17989097746536338734:=()
def tw5505005885091257285:=()
def tw18293851220164018083:=()
def tw7691918140598264929:=()
def tw12925607291903140011:=()
def tw13466754112058979494:=()
def tw9631708518359487223:=()
def tw10788059911547816233:=()
def tw4478166936697009375:=()
def tw15048261121198461528:=()
def tw17491280204586788870:=()
def tw15643275761693703936:=()
def tw10781468475247234061:=()
def tw11749099774412794130:=()
def tw5433107678231618845:=()
def tw1781861727890032366:=()
def tw11852641145169952659:=()
def tw10210669037155785340:=()
def tw13092906067662860646:=()
def tw5174551420813472067:=()
def tw15675198926951892251:=()
def tw1610171440888473627:=()
def tw9170477692918782315:=()
def tw4478177076189095293:=()
def tw18103342009636024947:=()
def tw1535757262459896012:=()
def tw15967140613478806237:=()
def tw16194383521188589630:=()
def tw432457690288141553:=()
def tw189712035060473897:=()
def tw11210553801493137410:=()
def tw13220430256171166289:=()
def tw11507959949525687343:=()
def tw17387473266821786944:=()
def tw10933677585905718993:=()
def tw6123773746684550334:=()
def tw7068711184596962023:=()
def tw4367231431732253908:=()
def tw13285133528070534704:=()
def tw3173010612589774626:=()
def tw1413172679324656950:=()
def tw15591429051563716170:=()
def tw663384727985864361:=()
def tw13160604113216922460:=()
def tw9719896912496429819:=()
def tw5902613922787404954:=()
def tw9908193460736022307:=()
def tw442638132926106271:=()
def tw11115866451450875312:=()
def tw102014493982917126:=()
def tw825126770350376351:=()
def tw11713075325732132258:=()
def tw8428860471423672150:=()
def tw8210421348078903774:=()
def tw3920623390966001496:=()
def tw13510399790794764400:=()
def tw9731375825926819010:=()
def tw14743440263598761229:=()
def tw6957150274394394060:=()
def tw10030107230732127627:=()
def tw8879563391730754479:=()
def tw250903467453971090:=()
def tw8268277133935991078:=()
def tw15278966056882409248:=()
def tw14955159897011116063:=()
def tw8242931771332617035:=()
def tw1033889070964956483:=()
def tw3419581819265744254:=()
def tw10024716035694756283:=()
def tw3941438180925939637:=()
def tw10404513684093684653:=()
def tw7076163891533521732:=()
def tw10246146449241189800:=()
def tw5167245352685981253:=()
def tw5505332120971382143:=()
def tw11364443708160879001:=()
def tw7512474625130614241:=()
def tw5983496337302601536:=()
def tw16259696140248634718:=()
def tw12590977762386282803:=()
def tw15089522573102190283:=()
def tw14683707025165767436:=()
def tw7878038873032413027:=()
def tw7382370116671421104:=()
def tw9748044761591592747:=()
def tw15924899543223041283:=()
def tw6879831473291441079:=()
def tw6643560872069290437:=()
def tw16154546982801380032:=()
def tw10292235466723388172:=()
def tw18166333605607142505:=()
def tw17895171251205151618:=()
def tw11513968764499736323:=()
def tw212345690472687942:=()
def tw16299908979028503884:=()
def tw1359830224848277088:=()
def tw12744807935193187038:=()
def tw11079593142295127227:=()
def tw11054480109507316185:=()
def tw11631947586910100387:=()
def tw2327210489368252092:=()
def tw8626665363683837928:=()
def tw5223804216610228404:=()
def tw100483095206116625:=()
def tw5480042469492414594:=()
def tw1809687716253123402:=()
def tw6627881031435992008:=()
def tw16634568088961857937:=()
def tw9398405308114057262:=()
def tw5388632664720090651:=()
def tw15513890091569709534:=()
def tw7174315439194531881:=()
def tw5629675986466331604:=()
def tw13790719812936386609:=()
def tw6164396464334811476:=()
def tw8770659054964912022:=()
def tw18245042118932799458:=()
def tw10919297434634762262:=()
def tw17919194246423945575:=()
def tw2101469004524951375:=()
def tw10847404155465417027:=()
def tw9702936160620672325:=()
def tw1870067075039425230:=()
def tw16443024508289211202:=()
def tw14438451200097066615:=()
def tw15615537253650120727:=()
def tw15199589371867527261:=()
def tw6469175993241445255:=()
def tw7598622570094877466:=()
def tw15207398651663016943:=()
def tw8934143017859847078:=()
def tw8025032847418708242:=()
def tw6184208073178115725:=()
def tw15422856539912107476:=()
def tw11814627755841444246:=()
def tw3350930974749635488:=()
def tw464777395874653626:=()
def tw1836080755315867724:=()
def tw1013155817946168525:=()
def tw17330945745186091897:=()
def tw14137390275340422267:=()
def tw16970440968685349367:=()
def tw4870687313549177768:=()
def tw14120982254508448379:=()
def tw1666387254794493845:=()
def tw12350410155528471161:=()
def tw1011335219593555734:=()
def tw5292301768408028288:=()
def tw243823211424636713:=()
def tw16367509166517325345:=()
def tw6683769817339685419:=()
def tw4833718069199227053:=()
def tw162610821266807592:=()
def tw12659318050587179527:=()
def tw1954109241102656831:=()
def tw8609351116199087170:=()
def tw6965799899956892507:=()
def tw12399718760709695909:=()
def tw1222794163293265305:=()
def tw13409441903868389331:=()
def tw5054737718236178183:=()
def tw9763420282994701918:=()
def tw4360684699965382250:=()
def tw9155422001095189878:=()
def tw8735263284916673568:=()
def tw17893044597097874663:=()
def tw13267510147771200024:=()
def tw11032806212648032379:=()
def tw14906377314874228009:=()
def tw6931407450589930559:=()
def tw257007361410690125:=()
def tw16640546478005224243:=()
def tw16694946328126371552:=()
def tw17681399029576232318:=()
def tw10203026625882799534:=()
def tw16156708551869547534:=()
def tw9132557439983319658:=()
def tw2040990291671593033:=()
def tw8959176491354863721:=()
def tw7640094616464845771:=()
def tw689954013368505116:=()
def tw13783031573616600631:=()
def tw12900700647772717614:=()
def tw3484992998616243462:=()
def tw7023726343779634624:=()
def tw16178712458983371728:=()
def tw13315533130655954831:=()
def tw7880807054014371918:=()
def tw7270182246851987180:=()
def tw3309697970292668127:=()
def tw12614811148066621264:=()
def tw14706022693812145444:=()
def tw13289513938125300765:=()
def tw6079173187612997037:=()
def tw12127338746724423809:=()
def tw6140570298594658328:=()
def tw9741134391959003819:=()
def tw9496365245306024149:=()
def tw15992342658441690333:=()
def tw14553816603554493358:=()
def tw16661405048812198066:=()
def tw5009564483982726761:=()
def tw4383666589626881386:=()
def tw10949625832625181284:=()
def tw9428152387294184269:=()
def tw8479784124755550697:=()
def tw17696971302532935780:=()
def tw11709330566771433103:=()
def tw2480057099694739299:=()
def tw15152743547302097792:=()
def tw15813434630575017362:=()
def tw5976792059365374437:=()
def tw16722109127936396110:=()
def tw5535567543195554156:=()
def tw3940546777539579641:=()
def tw12070654863422294720:=()
def tw5657824000916062451:=()
def tw5608270528595127837:=()
def tw6555240042291301478:=()
def tw8977460988437922124:=()
def tw15625209780758371316:=()
def tw2001351230973187099:=()
def tw8516288146210602744:=()
def tw9131607905817354932:=()
def tw922143313871775805:=()
def tw15634565183472343292:=()
def tw10792051664901133789:=()
def tw2391449824757734642:=()
def tw12471131715012749390:=()
def tw313027258313007627:=()
def tw16896567674234606475:=()
def tw6785817131721698500:=()
def tw17258206423299326598:=()
def tw11663481321943121269:=()
def tw15416985209724490359:=()
def tw7927469264209771579:=()
def tw6308581086252854402:=()
def tw3442329435671937591:=()
def tw10117440562283002822:=()
def tw12070051907170230399:=()
def tw12952509933414984302:=()
def tw11256106856564762260:=()
def tw9499510787657705874:=()
def tw11232374478483605306:=()
def tw17562767543260142214:=()
def tw7261450039545342454:=()
def tw6038821095411175016:=()
def tw9990345226319884068:=()
def tw10860895700388868024:=()
def tw7317836474542784337:=()
def tw11587034568685482758:=()
def tw2442259710966052079:=()
def tw2603259988358896889:=()
def tw14029546391885035639:=()
def tw2999033326186475339:=()
def tw8664936974563722654:=()
def tw185848376630758926:=()
def tw16052320808349706082:=()
def tw13402062226832612404:=()
def tw17843490464661113860:=()
def tw5366084841770067474:=()
def tw8789358453043137523:=()
def tw14745743045033390146:=()
def tw10614716105012338702:=()
def tw4315991029959535628:=()
def tw1800889605409440832:=()
def tw4021928978595405253:=()
def tw7339039647409124788:=()
def tw1005483496087919985:=()
def tw17679848547673146604:=()
def tw7153062008950511462:=()
def tw1097998534492414930:=()
def tw10465514089279642386:=()
def tw5036846961687405229:=()
def tw845060206244984605:=()
def tw3044193314922437478:=()
def tw4734902545126651661:=()
def tw2855845756224970109:=()
def tw17903497710992402801:=()
def tw10365702040365258594:=()
def tw701333769924781912:=()
def tw9345929723534960622:=()
def tw14462709497994964445:=()
def tw2808349399557158395:=()
def tw1997569388931296116:=()
def tw6449127861642672459:=()
def tw17948085552500728524:=()
def tw15064902949301533346:=()
def tw17054507655720011243:=()
def tw5416991563250132298:=()
def tw11389486352061984695:=()
def tw561391293025646643:=()
def tw6877226645827823821:=()
def tw1760603350576429475:=()
def tw3008623586974134963:=()
def tw5927567313105069670:=()
def tw519851828213033955:=()
def tw9617658007855726926:=()
def tw14673209030070457562:=()
def tw10491609206876299696:=()
def tw17975533764899295144:=()
def tw4111692666942324129:=()
def tw9330943631129107780:=()
def tw13893168526513508166:=()
def tw9184186324627900627:=()
def tw15946356160694317329:=()
def tw8244733829118024811:=()
def tw17336936450418997793:=()
def tw1848646778235469078:=()
def tw6759412095888398321:=()
def tw13771594117681916504:=()
def tw4402725079659364252:=()
def tw1600037746751723098:=()
def tw15213948185873263833:=()
def tw500953250457666378:=()
def tw8458067239894703972:=()
def tw567884609423149705:=()
def tw8226494294326810461:=()
def tw10778013660560245624:=()
def tw11251137523995926341:=()
def tw16858285156579221889:=()
def tw13770079208771991547:=()
def tw11319892378374348655:=()
def tw15790720579355451973:=()
def tw3452082135128663414:=()
def tw2042292140826266357:=()
def tw728884934406724761:=()
def tw12611767792052310623:=()
def tw833173182276230429:=()
def tw17606422857730326317:=()
def tw16684818696116721337:=()
def tw9555612238305686254:=()
def tw3196399650302076718:=()
def tw13368278939475635651:=()
def tw11465210709893060100:=()
def tw17330132731328240911:=()
def tw16029623286316568529:=()
def tw18358800413957953924:=()
def tw9459050058782445324:=()
def tw15344866539931968096:=()
def tw18291419657060728153:=()
def tw5859118754885311737:=()
def tw11319097763535126812:=()
def tw10738003575532504788:=()
def tw4504419501361008355:=()
def tw15759970867653108152:=()
def tw6407587892757256292:=()
def tw8184699220007379433:=()
def tw4086058157674990017:=()
def tw14446474709323646786:=()
def tw12239354291974867115:=()
def tw3333446698644548216:=()
def tw12521463284412890351:=()
def tw395138700845864316:=()
def tw17429513623812275283:=()
def tw10905682514733158466:=()
def tw7494724483528729301:=()
def tw13132618709999183898:=()
def tw3878383114103592795:=()
def tw4159134105002834734:=()
def tw4363365295628954845:=()
def tw9228397985900620932:=()
def tw7031273417212677730:=()
def tw18351126306069267617:=()
def tw9673543361469618366:=()
def tw8269573656231971908:=()
def tw2799067240506288376:=()
def tw9566141503761928105:=()
def tw16157073509204512506:=()
def tw13531707123254989501:=()
def tw14984183105004643987:=()
def tw3571134770919094901:=()
def tw4642405928176397000:=()
def tw15946388913382835224:=()
def tw13181700845877081190:=()
def tw16345102440705955213:=()
def tw12647368939536790636:=()
def tw7754304195085646258:=()
def tw16240987189780228909:=()
def tw1197925565968671727:=()
def tw11968265576560266318:=()
def tw17925215291927510665:=()
def tw9440118169554580438:=()
def tw8273930003744585626:=()
def tw11754176132448286083:=()
def tw3493717111155160527:=()
def tw12994019391074448376:=()
def tw2783992281797965187:=()
def tw22551697357593593:=()
def tw15578025631644234493:=()
def tw3795277891434052102:=()
def tw18176940659606848779:=()
def tw18268791191939849864:=()
def tw7525542149764818722:=()
def tw6868836192036940282:=()
def tw11801993109049149486:=()
def tw13365295217650922812:=()
def tw8683856772340465682:=()
def tw1603739661141634737:=()
def tw7534799579077118603:=()
def tw6547078798241139092:=()
def tw18163647496604598072:=()
def tw9533747618267967006:=()
def tw13475242022060392486:=()
def tw7355570028127101125:=()
def tw3694398316872202419:=()
def tw6767318904944593275:=()
def tw10601615944963115059:=()
def tw7296583596125217682:=()
def tw10678649693572172417:=()
def tw12268275109542032366:=()
def tw14478148883734587675:=()
def tw12271959270614036898:=()
def tw2608437505485318709:=()
def tw8381844023166312768:=()
def tw1733021024590120568:=()
def tw15852365999677673905:=()
def tw3646829019195819677:=()
def tw18264374347568628810:=()
def tw4971549296188076032:=()
def tw17177331786930743035:=()
def tw758273949599710562:=()
def tw7289634563603522867:=()
def tw1792636949448641307:=()
def tw16698745307106531279:=()
def tw14612060388864693735:=()
def tw17377529257436501650:=()
def tw12459740579856956213:=()
def tw17001982702790524580:=()
def tw6184460063843016694:=()
def tw14457593812595234344:=()
def tw5343241284826551009:=()
def tw16376525773666504680:=()
def tw2323474266016966308:=()
def tw6320253292602491972:=()
def tw2922222751358710265:=()
def tw2658526732547218105:=()
def tw11162318198679636149:=()
def tw3673020696563887462:=()
def tw7578210074245671484:=()
def tw6264232113106981867:=()
def tw18219297243305740317:=()
def tw4702841417184801058:=()
def tw2739504486584576224:=()
def tw3386092968808520798:=()
def tw11136197038861592535:=()
def tw18293732401869909652:=()
def tw11660266114150955751:=()
def tw7191455744419660376:=()
def tw3704167492566942397:=()
def tw3496965988886986938:=()
def tw6442067068224118133:=()
def tw1379335367625716243:=()
def tw16477043939570097188:=()
def tw16171809288044610508:=()
def tw13262116225945230012:=()
def tw15615420239508185596:=()
def tw10603584201595350602:=()
def tw3229955645248102723:=()
def tw15948780112781908787:=()
def tw8317466277049474617:=()
def tw12602439190401603521:=()
def tw9883373325332830790:=()
def tw9449672872311958731:=()
def tw17143205804819765802:=()
def tw2887051446865420828:=()
def tw10806950440038215891:=()
def tw1051681510052472703:=()
def tw3608708970678896270:=()
def tw11905163887095721015:=()
def tw13648854512587300442:=()
def tw2068664650715991707:=()
def tw4788038989552484473:=()
def tw1241404454085649124:=()
def tw2329189449893159454:=()
def tw14060237666301923597:=()
def tw2788664435532181463:=()
def tw13532847315355080253:=()
def tw14439243815434019604:=()
def tw17956543221229664512:=()
def tw14492701947808656938:=()
def tw14852329139284432860:=()
def tw7372000682148998216:=()
def tw14103535550066685397:=()
def tw8356816923877370021:=()
def tw9476321141362543215:=()
def tw26425463804135960:=()
def tw3350844169311001129:=()
def tw17902569758825723728:=()
def tw10604169790165778682:=()
def tw4297731678662094536:=()
def tw16432713993328977331:=()
def tw12629568148972539762:=()
def tw6755925336976613232:=()
def tw16415028865518655546:=()
def tw7028611270464810887:=()
def tw3913528116038191188:=()
def tw16011055738799735888:=()
def tw10643592516055977328:=()
def tw1194904439430580092:=()
def tw4654797750381630734:=()
def tw10264135568141901301:=()
def tw17070941380808615275:=()
def tw12113243949977362033:=()
def tw8228950375871286339:=()
def tw12832683148521936107:=()
def tw1043307727769730188:=()
def tw10879034167726328663:=()
def tw6578402527460240241:=()
def tw16064382804478563927:=()
def tw14667805832236412624:=()
def tw6615107907471364465:=()
def tw10326790832001650384:=()
def tw6394381022753523788:=()
def tw17062030032774818151:=()
def tw12337632362937886050:=()
def tw6305734824756694309:=()
def tw2252305205657439004:=()
def tw4494801613693538912:=()
def tw16487816990975572028:=()
def tw7526368328331116154:=()
def tw18095200977026478895:=()
def tw10424393626065333798:=()
def tw1439246655266547700:=()
def tw6438293893037913957:=()
def tw5486487638281291605:=()
def tw14685462170515437407:=()
def tw3429492842335990350:=()
end Mine.hd
def Mine.WalkAll:Prop:=∀ {q:Program} {loose:List Str} {XP:(Str→Option Value)→Heap→Prop} {YP:World→Heap→Prop} {d:DefRec} {kwd:List (Str×Expr)},(∃ K:Params→Frag,(∀ w h,YP w h→(K w.params).In h)∧Mine.KOk K)→d.name="law"→WalkO q loose XP YP PySem.Challenge.rw_xm0010_01.row.toRowW d kwd fun f vs=>PySem.call f vs
theorem Mine.snd {A B:Prop} (_:A) (b:B):B:=b
theorem Mine.hd (F:Mine.WalkAll):PySem.Challenge.rw_xm0010_01.Holds:=by
 w_on
 o_law
 refine' Mine.snd ?hc ?main
 case' hc=>refine' F ?hE ?hN
 case main=>
  k_head
  (case hw=>w_witness2)
 case hE=>exact ⟨_,fun w h Y=>kIn_of Y,⟨fun P=>by kernel_rfl,fun P=>by kernel_rfl,fun P g=>by unfold Mine.bindsP; kernel_rfl,fun P S g=>by unfold Mine.bindsD; kernel_rfl,fun P S g=>by unfold Mine.bindsE; kernel_rfl,fun P=>by kernel_rfl⟩⟩
 case hN=>rfl
end
section
open PySem PySem.W
namespace Mine
theorem nb {P:Prop} (h:false=true):P:=absurd h Bool.false_ne_true
theorem no {α:Type} {a:α} {P:Prop} (h:none=some a):P:=nomatch h
theorem nz {P:Prop} {n:Nat} (h:0=n + 1):P:=nomatch h
theorem ns {P:Prop} {n:Nat} (h:n + 1=0):P:=nomatch h
theorem ba {a b:Bool} (h:(a && b)=true):a=true:=(Bool.and_eq_true _ _▸h:a=true∧b=true).1
theorem bb {a b:Bool} (h:(a && b)=true):b=true:=(Bool.and_eq_true _ _▸h:a=true∧b=true).2
theorem and_tt {a b:Bool} (h:a=true) (k:b=true):(a && b)=true:=by rw [h,k]; rfl
theorem ntb {a b:Bool} (h:(!a && b)=true):a=false:=by cases a <;> first | rfl | exact nb h
theorem ntb' {a:Bool} (h:(!a)=true):a=false:=by cases a <;> first | rfl | exact nb h
theorem beq {α:Type} [BEq α] [LawfulBEq α] {a b:α} (h:(a == b)=true):a=b:=beq_iff_eq.mp h
@[elab_as_elim] theorem eq_i {α:Type} [BEq α] [LawfulBEq α] {a b:α} {c:Bool} {P:α→Prop} (h:(a == b && c)=true) (q:c=true→P a):P b:=beq (ba h)▸q (bb h)
@[elab_as_elim] theorem qe_i {α:Type} [BEq α] [LawfulBEq α] {a b:α} {c:Bool} {P:α→Prop} (h:(b == a && c)=true) (q:c=true→P a):P b:=(beq (ba h)).symm▸q (bb h)
@[elab_as_elim] theorem nil_i {α:Type} {l:List α} {c:Bool} {P:List α→Prop} (h:(l.isEmpty && c)=true) (q:c=true→P []):P l:=(List.isEmpty_iff.mp (ba h)).symm▸q (bb h)
inductive Tag where
 | data
 | part (a:Addr)
 | other
noncomputable abbrev Tags:=Addr→Tag
inductive MO where
 | list (l:List PV)
 | obj (l:List PV)
noncomputable abbrev Mem:=Addr→Option MO
noncomputable def Mem.upd (M:Mem) (a:Addr) (o:MO):Mem:=fun b=>if b=a then some o else M b
noncomputable def Mem.del (M:Mem) (a:Addr):Mem:=fun b=>if b=a then none else M b
structure Cx where
 prog:Program
 w:World
 H:Heap
 fv:Nat→Value
 bv:Nat→Value
 cls:Addr
 K:Frag
 attrs:List (List Nat)
 mod:Addr
 bmod:Addr
noncomputable def tupObj (vs:List Value) (n:Nat):Obj:={ cls:=.type "tuple",data:=.seq vs.toArray n }
noncomputable def lstObj (vs:List Value) (n:Nat):Obj:={ cls:=.type "list",data:=.seq vs.toArray n }
noncomputable def dctObj (es:List DictEntry) (n:Nat):Obj:={ cls:=.type "dict",data:=.dict es.toArray n }
variable (C:Cx)
noncomputable def nilP {α:Type} (l:List α):Prop:=match l with
 | []=>True
 | _ :: _=>False
noncomputable def unP {α:Type} (l:List α) (K:α→List α→Prop):Prop:=match l with
 | []=>False
 | e :: r=>K e r
@[elab_as_elim] theorem nilP_i {α:Type} {P:List α→Prop} {l:List α} (h:nilP l) (q:P []):P l:=match l,h with
 | [],_=>q
 | _ :: _,h=>h.elim
@[elab_as_elim] theorem unP_i {α:Type} {P:List α→Prop} {l:List α} {K:α→List α→Prop} (h:unP l K) (q:∀ e r,K e r→P (e :: r)):P l:=match l,h with
 | [],h=>h.elim
 | e :: r,h=>q e r h
noncomputable def fieldKeys:List DictEntry→List (List Nat)→Prop
 | es,[]=>nilP es
 | es,k :: ks=>unP es fun e es=>((∃ t,e.key=Value.str ⟨k.toArray⟩ t)∧e.hash=PyData.keyHash C.w.params ⟨k.toArray⟩)∧fieldKeys es ks
@[elab_as_elim] theorem fk_i {C:Cx} {P:List DictEntry→Prop} {es k ks} (h:fieldKeys C es (k :: ks)) (q:∀ e r t,e.key=Value.str ⟨k.toArray⟩ t→e.hash=PyData.keyHash C.w.params ⟨k.toArray⟩→fieldKeys C r ks→P (e :: r)):P es :=
 match es,h with
 | [],h=>False.elim h
 | e :: r,h =>
  have h:((∃ t,e.key=Value.str ⟨k.toArray⟩ t)∧e.hash=PyData.keyHash C.w.params ⟨k.toArray⟩)∧fieldKeys C r ks:=h
  h.1.1.elim fun t g=>q e r t g h.1.2 h.2
mutual
inductive VR:Tags→Heap→Value→PV→Prop
 | none {τ h}:VR τ h .none .none
 | bool {τ h} (b):VR τ h (.bool b) (.bool b)
 | int {τ h} (i t):VR τ h (.int i t) (.int i)
 | str {τ h} (s:List Nat) (t):VR τ h (.str ⟨s.toArray⟩ t) (.str s)
 | tup {τ h a vs n l}:h.get? a=some (tupObj vs n)→τ a = .data→VRs τ h vs l→VR τ h (.ref a) (.tup l)
 | list {τ h a vs n l}:h.get? a=some (lstObj vs n)→τ a = .data→VRs τ h vs l→VR τ h (.ref a) (.list l)
 | mref {τ h} (a):VR τ h (.ref a) (.mref a)
 | fn {τ h} (f):VR τ h (C.fv f) (.fn f)
 | cls {τ h}:VR τ h (.ref C.cls) .cls
 | bi {τ h} (f):VR τ h (C.bv f) (.bi f)
 | dict {τ h a es n ks vs}:h.get? a=some (dctObj es n)→τ a = .data→a ≠ 1→fieldKeys C es ks→VRs τ h (es.map (·.val)) vs→VR τ h (.ref a) (.dict ks vs)
inductive VRs:Tags→Heap→List Value→List PV→Prop
 | nil {τ h}:VRs τ h [] []
 | cons {τ h v vs p ps}:VR τ h v p→VRs τ h vs ps→VRs τ h (v :: vs) (p :: ps)
end
noncomputable def DKeep (τ τ':Tags) (h h':Heap):Prop:=∀ b o,h.get? b=some o→τ b = .data→h'.get? b=some o∧τ' b = .data
variable {C}
section
variable {τ τ':Tags} {h h':Heap}
theorem VR.mono (k:DKeep τ τ' h h') {v p} (r:VR C τ h v p):VR C τ' h' v p :=
 @VR.rec C τ h (fun v p _=>VR C τ' h' v p) (fun v p _=>VRs C τ' h' v p) .none .bool .int .str (fun a b _ c=>.tup (k _ _ a b).1 (k _ _ a b).2 c) (fun a b _ c=>.list (k _ _ a b).1 (k _ _ a b).2 c) .mref .fn .cls .bi
  (fun a b n e _ c=>.dict (k _ _ a b).1 (k _ _ a b).2 n e c) .nil (fun _ _ a b=>.cons a b) v p r
theorem VRs.mono (k:DKeep τ τ' h h') {v p} (r:VRs C τ h v p):VRs C τ' h' v p :=
 @VRs.rec C τ h (fun v p _=>VR C τ' h' v p) (fun v p _=>VRs C τ' h' v p) .none .bool .int .str (fun a b _ c=>.tup (k _ _ a b).1 (k _ _ a b).2 c) (fun a b _ c=>.list (k _ _ a b).1 (k _ _ a b).2 c) .mref .fn .cls .bi
  (fun a b n e _ c=>.dict (k _ _ a b).1 (k _ _ a b).2 n e c) .nil (fun _ _ a b=>.cons a b) v p r
variable (C τ h)
inductive IsT (l:List PV) (v:Value):Prop
 | mk {a vs n} (e:v = .ref a) (g:h.get? a=some (tupObj vs n)) (t:τ a = .data) (r:VRs C τ h vs l):IsT l v
inductive IsL (l:List PV) (v:Value):Prop
 | mk {a vs n} (e:v = .ref a) (g:h.get? a=some (lstObj vs n)) (t:τ a = .data) (r:VRs C τ h vs l):IsL l v
inductive IsD (ks:List (List Nat)) (ps:List PV) (v:Value):Prop
 | mk {a es n} (e:v = .ref a) (g:h.get? a=some (dctObj es n)) (t:τ a = .data) (w:a ≠ 1) (f:fieldKeys C es ks) (r:VRs C τ h (es.map (·.val)) ps):IsD ks ps v
noncomputable def VRD (v:Value):PV→Prop
 | .none=>v = .none
 | .bool b=>v = .bool b
 | .int i=>∃ t,v = .int i t
 | .str s=>∃ t,v = .str ⟨s.toArray⟩ t
 | .tup l=>IsT C τ h l v
 | .list l=>IsL C τ h l v
 | .mref a=>v = .ref a
 | .fn f=>v=C.fv f
 | .bi b=>v=C.bv b
 | .dict ks vs=>IsD C τ h ks vs v
 | .cls=>v = .ref C.cls
noncomputable def VSD (vs:List Value):List PV→Prop
 | []=>vs=[]
 | p :: ps=>∃ v r,vs=v :: r∧VR C τ h v p∧VRs C τ h r ps
variable {C τ h}
theorem VR.inv {v p} (r:VR C τ h v p):VRD C τ h v p :=
 @VR.casesOn C τ h (fun v p _=>VRD C τ h v p) v p r rfl (fun _=>rfl) (fun _ t=>⟨t,rfl⟩) (fun _ t=>⟨t,rfl⟩) (fun a b c=>⟨rfl,a,b,c⟩) (fun a b c=>⟨rfl,a,b,c⟩) (fun _=>rfl) (fun _=>rfl) rfl (fun _=>rfl) (fun a b c d e=>⟨rfl,a,b,c,d,e⟩)
theorem VRs.inv {v p} (r:VRs C τ h v p):VSD C τ h v p :=
 @VRs.casesOn C τ h (fun v p _=>VSD C τ h v p) v p r rfl (fun a b=>⟨_,_,rfl,a,b⟩)
@[elab_as_elim] theorem VRs.nil_i {P:List Value→Prop} {vs} (r:VRs C τ h vs []) (q:P []):P vs:=(show vs=[] from r.inv).symm▸q
@[elab_as_elim] theorem VRs.cons_i {P:List Value→Prop} {vs p ps} (r:VRs C τ h vs (p :: ps)) (q:∀ v r,VR C τ h v p→VRs C τ h r ps→P (v :: r)):P vs:=by
 obtain ⟨v,w,e,a,b⟩:=(show ∃ v r,vs=v :: r∧VR C τ h v p∧VRs C τ h r ps from r.inv)
 exact e.symm▸q v w a b
@[elab_as_elim] theorem VR.int_i {P:Value→Prop} {v i} (r:VR C τ h v (.int i)) (q:∀ t,P (.int i t)):P v:=by
 obtain ⟨t,e⟩:=(show ∃ t,v = .int i t from r.inv)
 exact e.symm▸q t
@[elab_as_elim] theorem VR.str_i {P:Value→Prop} {v i} (r:VR C τ h v (.str i)) (q:∀ t,P (.str ⟨i.toArray⟩ t)):P v:=by
 obtain ⟨t,e⟩:=(show ∃ t,v = .str ⟨i.toArray⟩ t from r.inv)
 exact e.symm▸q t
@[elab_as_elim] theorem VR.tup_i {P:Value→Prop} {v l} (r:VR C τ h v (.tup l)) (q:∀ a vs n,h.get? a=some (tupObj vs n)→τ a = .data→VRs C τ h vs l→P (.ref a)):P v:=by
 obtain ⟨e,g,t,r⟩:=(show IsT C τ h l v from r.inv)
 exact e.symm▸q _ _ _ g t r
@[elab_as_elim] theorem VR.list_i {P:Value→Prop} {v l} (r:VR C τ h v (.list l)) (q:∀ a vs n,h.get? a=some (lstObj vs n)→τ a = .data→VRs C τ h vs l→P (.ref a)):P v:=by
 obtain ⟨e,g,t,r⟩:=(show IsL C τ h l v from r.inv)
 exact e.symm▸q _ _ _ g t r
@[elab_as_elim] theorem VR.dict_i {P:Value→Prop} {v l ps} (r:VR C τ h v (.dict l ps)) (q:∀ a es n,h.get? a=some (dctObj es n)→τ a = .data→a ≠ 1→fieldKeys C es l→VRs C τ h (es.map (·.val)) ps→P (.ref a)):P v:=by
 obtain ⟨e,g,t,w,f,r⟩:=(show IsD C τ h l ps v from r.inv)
 exact e.symm▸q _ _ _ g t w f r
theorem vi_none {v} (r:VR C τ h v .none):v = .none:=r.inv
theorem vi_bool {v b} (r:VR C τ h v (.bool b)):v = .bool b:=r.inv
theorem vi_int {v i} (r:VR C τ h v (.int i)):∃ t,v = .int i t:=r.inv
theorem vi_str {v i} (r:VR C τ h v (.str i)):∃ t,v = .str ⟨i.toArray⟩ t:=r.inv
theorem vr_m {v a} (r:VR C τ h v (.mref a)):v = .ref a:=r.inv
theorem vr_fn {v b} (r:VR C τ h v (.fn b)):v=C.fv b:=r.inv
theorem vr_bi {v b} (r:VR C τ h v (.bi b)):v=C.bv b:=r.inv
theorem vr_cls {v} (r:VR C τ h v .cls):v = .ref C.cls:=r.inv
end
structure Ext (L:Option Addr) (τ τ':Tags) (s s':Shared):Prop where
 keep:∀ b o,s.heap.get? b=some o→some b ≠ L→(∀ a,τ b ≠ .part a)→s'.heap.get? b=some o∧τ' b=τ b
 os:s'.os=s.os
 gens:s'.gens=s.gens
theorem Ext.refl (L τ s):Ext L τ τ s s:=⟨fun _ _ e _ _=>⟨e,rfl⟩,rfl,rfl⟩
theorem Ext.trans {L τ τ' τ'' s s' s''} (x:Ext L τ τ' s s') (y:Ext L τ' τ'' s' s''):Ext L τ τ'' s s'' :=
 ⟨fun b o e n p=>by
  obtain ⟨e1,t1⟩:=x.keep b o e n p
  obtain ⟨e2,t2⟩:=y.keep b o e1 n (by rw [t1]; exact p)
  exact ⟨e2,t2.trans t1⟩,y.os.trans x.os,y.gens.trans x.gens⟩
theorem Ext.weak {L τ τ' s s'} (x:Ext none τ τ' s s'):Ext L τ τ' s s':=⟨fun b o e _ p=>x.keep b o e (by simp) p,x.os,x.gens⟩
theorem Ext.dkeep {τ τ' s s'} (x:Ext none τ τ' s s'):DKeep τ τ' s.heap s'.heap:=fun b o e d=>by
 obtain ⟨e1,t1⟩:=x.keep b o e (by simp) (by rw [d]; simp)
 exact ⟨e1,t1.trans d⟩
theorem Ext.dkeepL {L:Addr} {τ τ' s s'} (x:Ext (some L) τ τ' s s') (hL:τ L = .other):DKeep τ τ' s.heap s'.heap:=fun b o e d=>by
 have:b ≠ L:=fun q=>by rw [q,hL] at d; cases d
 obtain ⟨e1,t1⟩:=x.keep b o e (by simpa using this) (by rw [d]; simp)
 exact ⟨e1,t1.trans d⟩
variable (C)
inductive MRel (τ:Tags) (h:Heap) (a:Addr):MO→Prop
 | list {vs n l}:h.get? a=some (lstObj vs n)→τ a = .part a→VRs C τ h vs l→MRel τ h a (.list l)
 | obj {dx es m l od}:h.get? a=some { cls:=.ref C.cls,dict:=some dx }→τ a = .part a→h.get? dx=some od→od.data = .dict es.toArray m→τ dx = .part a→a ≠ dx→l.length ≤ C.attrs.length →
   fieldKeys C es (C.attrs.take l.length)→VRs C τ h (es.map (·.val)) l→MRel τ h a (.obj l)
inductive IsM (τ:Tags) (h:Heap) (a:Addr) (l:List PV):Prop
 | mk {vs n} (g:h.get? a=some (lstObj vs n)) (t:τ a = .part a) (r:VRs C τ h vs l):IsM τ h a l
inductive IsO (τ:Tags) (h:Heap) (a:Addr) (l:List PV):Prop
 | mk {dx es m od} (x:h.get? a=some { cls:=.ref C.cls,dict:=some dx }) (y:τ a = .part a) (z:h.get? dx=some od) (w:od.data = .dict es.toArray m) (n:τ dx = .part a) (f:a ≠ dx) (g:l.length ≤ C.attrs.length)
   (q:fieldKeys C es (C.attrs.take l.length)) (r:VRs C τ h (es.map (·.val)) l):IsO τ h a l
noncomputable def MRD (τ:Tags) (h:Heap) (a:Addr):MO→Prop
 | .list l=>IsM C τ h a l
 | .obj l=>IsO C τ h a l
noncomputable def MemOk (M:Mem) (τ:Tags) (h:Heap):Prop:=∀ a o,M a=some o→MRel C τ h a o
noncomputable def Base (τ:Tags) (h:Heap):Prop:=∀ b o,C.H.get? b=some o→h.get? b=some o∧τ b = .data
noncomputable def Room (d:Nat) (A:Around):Prop:=A.handled=none∧A.depth + d < recursionLimit∧A.units + 8 * d + 100 < cLine
inductive Post (τ:Tags) (s:Shared) (Q:PV→Mem→Prop) (v:Value) (s':Shared):Prop
 | mk (p:PV) (M':Mem) (τ':Tags) (x:Ext none τ τ' s s') (m:MemOk C M' τ' s'.heap) (r:VR C τ' s'.heap v p) (q:Q p M'):Post τ s Q v s'
noncomputable def NoE:Value→Shared→Prop:=fun _ _=>False
structure CallOk (d:Nat) (f:PV) (args:List PV) (M:Mem) (Q:PV→Mem→Prop):Prop where
 run:∀ (A:Around) (s:Shared) (τ:Tags) (fv:Value) (vs:List Value),Room d A→Base C τ s.heap→MemOk C M τ s.heap→VR C τ s.heap fv f→VRs C τ s.heap vs args →
  wpAny (model C.prog C.w) A (call fv vs []) (Post C τ s Q) NoE s
variable {C}
theorem Base.ext {τ τ' s s'} (B:Base C τ s.heap) (x:Ext none τ τ' s s'):Base C τ' s'.heap:=fun b o e=>by
 obtain ⟨e1,t1⟩:=B b o e
 exact x.dkeep b o e1 t1
theorem Base.extL {L τ τ' s s'} (B:Base C τ s.heap) (x:Ext (some L) τ τ' s s') (hL:τ L = .other):Base C τ' s'.heap:=fun b o e=>by
 obtain ⟨e1,t1⟩:=B b o e
 exact x.dkeepL hL b o e1 t1
theorem MRel.inv {τ h a o} (m:MRel C τ h a o):MRD C τ h a o:=by
 cases m with
 | list x y z=>exact ⟨x,y,z⟩
 | obj x y z w n f g q r=>exact ⟨x,y,z,w,n,f,g,q,r⟩
theorem mem_list {M:Mem} {τ:Tags} {h:Heap} {b:Nat} {l:List PV} (mk:MemOk C M τ h) (hm:M b=some (.list l)):IsM C τ h b l:=(mk b _ hm).inv
theorem mem_obj {M:Mem} {τ:Tags} {h:Heap} {b:Nat} {l:List PV} (mk:MemOk C M τ h) (hm:M b=some (.obj l)):IsO C τ h b l:=(mk b _ hm).inv
theorem MRel.has {τ h a o} (m:MRel C τ h a o):∃ ob,h.get? a=some ob:=by
 cases m with
 | list x y z=>exact ⟨_,x⟩
 | obj x=>exact ⟨_,x⟩
theorem MRel.keep {τ τ':Tags} {h h':Heap} {a o} (m:MRel C τ h a o) (k:DKeep τ τ' h h') (kp:∀ b ob,h.get? b=some ob→τ b = .part a→h'.get? b=some ob∧τ' b = .part a):MRel C τ' h' a o:=by
 cases m with
 | list x y z=>exact .list (kp _ _ x y).1 (kp _ _ x y).2 (z.mono k)
 | obj x y z w n f g q r=>exact .obj (kp _ _ x y).1 (kp _ _ x y).2 (kp _ _ z n).1 w (kp _ _ z n).2 f g q (r.mono k)
structure Grow (τ τ':Tags) (s s':Shared):Prop where
 keep:∀ b o,s.heap.get? b=some o→s'.heap.get? b=some o∧τ' b=τ b
 os:s'.os=s.os
 gens:s'.gens=s.gens
theorem Grow.ext {L τ τ' s s'} (x:Grow τ τ' s s'):Ext L τ τ' s s':=⟨fun b o e _ _=>x.keep b o e,x.os,x.gens⟩
theorem Grow.refl (τ s):Grow τ τ s s:=⟨fun _ _ e=>⟨e,rfl⟩,rfl,rfl⟩
theorem Grow.trans {τ τ' τ'' s s' s''} (x:Grow τ τ' s s') (y:Grow τ' τ'' s' s''):Grow τ τ'' s s'' :=
 ⟨fun b o e=>by obtain ⟨e1,t1⟩:=x.keep b o e; obtain ⟨e2,t2⟩:=y.keep b o e1; exact ⟨e2,t2.trans t1⟩,y.os.trans x.os,y.gens.trans x.gens⟩
theorem MemOk.grow {M:Mem} {τ τ':Tags} {s s':Shared} (m:MemOk C M τ s.heap) (x:Grow τ τ' s s'):MemOk C M τ' s'.heap:=fun a o e =>
 (m a o e).keep (x.ext (L:=none)).dkeep fun b ob e1 t1=>⟨(x.keep b ob e1).1,(x.keep b ob e1).2.trans t1⟩
noncomputable def Tags.set (τ:Tags) (a:Addr) (t:Tag):Tags:=fun b=>if b=a then t else τ b
theorem Tags.set_same (τ:Tags) (a t):τ.set a t a=t:=if_pos rfl
theorem Tags.set_ne (τ:Tags) {a b:Addr} (t) (h:b ≠ a):τ.set a t b=τ b:=if_neg h
theorem get?_size_none (h:Heap):h.get? h.objs.size=none:=by
 cases e:h.get? h.objs.size with
 | none=>rfl
 | some o=>exact absurd (Heap.lt_size e) (Nat.lt_irrefl _)
noncomputable def Same (s s':Shared):Prop:=(s'.heap,s'.os,s'.gens)=(s.heap,s.os,s.gens)
theorem Same.h {s s':Shared} (e:Same s s'):s'.heap=s.heap:=congrArg (·.1) e
theorem Same.grow {τ:Tags} {s s':Shared} (e:Same s s'):Grow τ τ s s':=⟨fun _ _ g=>⟨e.h▸g,rfl⟩,congrArg (·.2.1) e,congrArg (·.2.2) e⟩
theorem Ext.up {L τ} {s s':Shared} (e:s'.heap=s.heap:=by rfl) (k:s'.os=s.os:=by rfl) (l:s'.gens=s.gens:=by rfl):Ext L τ τ s s':=⟨fun _ _ g _ _=>⟨e▸g,rfl⟩,k,l⟩
theorem grow_push (τ:Tags) (s:Shared) (o:Obj) (t:Tag) {s':Shared} (e:s'.heap=s.heap.push o:=by rfl) (k:s'.os=s.os:=by rfl) (l:s'.gens=s.gens:=by rfl):Grow τ (τ.set s.heap.objs.size t) s s' :=
 ⟨fun b o' g=>⟨e▸Heap.get?_push_of_some _ g,Tags.set_ne _ _ (Nat.ne_of_lt (Heap.lt_size g))⟩,k,l⟩
inductive Out where
 | next
 | ret (v:PV)
 | brk
noncomputable abbrev Lo:=List (Option PV)
noncomputable def opt {α:Type} (o:Option α) (Q:α→Prop):Prop:=match o with
 | some a=>Q a
 | none=>False
theorem opt_inv {α:Type} {o:Option α} {K} (h:opt o K):∃ a,o=some a∧K a:=by
 cases o with
 | none=>exact h.elim
 | some a=>exact ⟨a,rfl,h⟩
noncomputable def mol (o:Option MO):Option (List PV):=o.bind fun o=>match o with
 | .list l=>some l
 | .obj _=>none
theorem mol_inv {o:Option MO} {l} (h:mol o=some l):o=some (.list l):=by
 cases o with
 | none=>exact no h
 | some o=>cases o with
  | list m=>exact (Option.some.inj h)▸rfl
  | obj m=>exact no h
noncomputable def items (p:PV) (M:Mem):Option (List PV):=match p with
 | .list l=>some l
 | .mref a=>mol (M a)
 | _=>none
noncomputable def look (env:Lo) (i:Nat) (Q:PV→Prop):Prop:=opt env[i]? fun o=>opt o Q
theorem look_inv {env:Lo} {i Q} (h:look env i Q):∃ p,env[i]? = some (some p)∧Q p:=by
 obtain ⟨o,e,h⟩:=opt_inv h
 obtain ⟨p,rfl,h⟩:=opt_inv h
 exact ⟨p,e,h⟩
noncomputable abbrev small (i:Int):Prop:=-4611686018427387904 < i∧i < 4611686018427387904
noncomputable abbrev lenOk (n:Nat):Prop:=n ≤ 10000000
noncomputable def oneK (as:List PV) (K:PV→Prop):Prop:=match as with
 | [x]=>K x
 | _=>False
noncomputable def twoK (as:List PV) (K:PV→PV→Prop):Prop:=match as with
 | [x,y]=>K x y
 | _=>False
noncomputable def intK (p:PV) (K:Int→Prop):Prop:=match p with
 | .int i=>K i
 | _=>False
noncomputable def strK (p:PV) (K:List Nat→Prop):Prop:=match p with
 | .str s=>K s
 | _=>False
noncomputable def lstK (p:PV) (K:List PV→Prop):Prop:=match p with
 | .list l=>K l
 | _=>False
noncomputable def biK (p:PV) (K:Nat→Prop):Prop:=match p with
 | .bi b=>K b
 | _=>False
noncomputable def chK (s:List Nat) (K:Nat→Prop):Prop:=match s with
 | [c]=>K c
 | _=>False
theorem oneK_inv {as K} (h:oneK as K):∃ x,as=[x]∧K x:=by
 rcases as with _ | ⟨x,_ | ⟨y,r⟩⟩
 ·exact h.elim
 ·exact ⟨x,rfl,h⟩
 ·exact h.elim
theorem twoK_inv {as K} (h:twoK as K):∃ x y,as=[x,y]∧K x y:=by
 rcases as with _ | ⟨x,_ | ⟨y,_ | ⟨z,r⟩⟩⟩
 ·exact h.elim
 ·exact h.elim
 ·exact ⟨x,y,rfl,h⟩
 ·exact h.elim
theorem chK_inv {s K} (h:chK s K):∃ c,s=[c]∧K c:=by
 rcases s with _ | ⟨x,_ | ⟨y,r⟩⟩
 ·exact h.elim
 ·exact ⟨x,rfl,h⟩
 ·exact h.elim
@[elab_as_elim] theorem intK_i {P:PV→Prop} {p K} (h:intK p K) (q:∀ i,K i→P (.int i)):P p:=by
 cases p <;> first | exact h.elim | exact q _ h
theorem intK_inv {p K} (h:intK p K):∃ i,p = .int i∧K i:=intK_i (P:=fun p=>∃ i,p = .int i∧K i) h fun _ h=>⟨_,rfl,h⟩
@[elab_as_elim] theorem strK_i {P:PV→Prop} {p K} (h:strK p K) (q:∀ i,K i→P (.str i)):P p:=by
 cases p <;> first | exact h.elim | exact q _ h
theorem strK_inv {p K} (h:strK p K):∃ i,p = .str i∧K i:=strK_i (P:=fun p=>∃ i,p = .str i∧K i) h fun _ h=>⟨_,rfl,h⟩
theorem lstK_inv {p K} (h:lstK p K):∃ i,p = .list i∧K i:=by
 cases p <;> first | exact h.elim | exact ⟨_,rfl,h⟩
theorem biK_inv {p K} (h:biK p K):∃ i,p = .bi i∧K i:=by
 cases p <;> first | exact h.elim | exact ⟨_,rfl,h⟩
structure RdL (M:Mem) (a:Nat) (K:List PV→Prop):Prop where
 run:∃ l,M a=some (.list l)∧K l
structure RdO (M:Mem) (a:Nat) (K:List PV→Prop):Prop where
 run:∃ l,M a=some (.obj l)∧K l
noncomputable def itemsK (p:PV) (M:Mem) (K:List PV→Prop):Prop:=match p with
 | .list l=>K l
 | .mref a=>RdL M a K
 | _=>False
theorem itemsK_inv {p M K} (h:itemsK p M K):∃ l,items p M=some l∧K l:=by
 cases p <;> first | exact h.elim | skip
 ·exact ⟨_,rfl,h⟩
 ·obtain ⟨l,e,q⟩:=h.run
  exact ⟨l,(congrArg mol e:mol (M _)=_),q⟩
structure IteP (p:Prop):Prop where
 run:p
noncomputable def addP (x y:PV) (M:Mem) (Q:PV→Prop):Prop:=match x with
 | .int a=>intK y fun b=>Q (.int (a + b))
 | .str a=>strK y fun b=>lenOk (a.length + b.length)∧Q (.str (a++b))
 | .list a=>itemsK y M fun b=>lenOk (a.length + b.length)∧Q (.list (a++b))
 | .mref r=>RdL M r fun a=>itemsK y M fun b=>lenOk (a.length + b.length)∧Q (.list (a++b))
 | _=>False
noncomputable def binP (o:Bop) (x y:PV) (M:Mem) (Q:PV→Prop):Prop:=match o with
 | .add=>addP x y M Q
 | .sub=>intK x fun a=>intK y fun b=>Q (.int (a - b))
 | .mul=>intK x fun a=>intK y fun b=>(small a∧small b)∧Q (.int (a * b))
 | .mod=>intK x fun a=>intK y fun b=>0 < b∧Q (.int (a % b))
 | .pow=>intK x fun a=>intK y fun b=>(b=0∧small a)∧Q (.int 1)
noncomputable def numE (i:Int) (q:PV):Bool:=match q with
 | .bool b=>i == (if b then 1 else 0)
 | .int j=>i == j
 | _=>false
noncomputable def booE (a:Bool) (q:PV):Bool:=match q with
 | .bool b=>a == b
 | .int j=>(if a then 1 else 0) == j
 | _=>false
noncomputable def strE (s:List Nat) (q:PV):Bool:=match q with
 | .str t=>s == t
 | _=>false
noncomputable def tupE (K:List PV→Bool) (q:PV):Bool:=match q with
 | .tup t=>K t
 | _=>false
noncomputable def lstE (K:List PV→Bool) (q:PV):Bool:=match q with
 | .list t=>K t
 | _=>false
noncomputable def nonE (q:PV):Bool:=match q with
 | .none=>true
 | _=>false
noncomputable def consE (K:PV→List PV→Bool) (q:List PV):Bool:=match q with
 | []=>false
 | x :: r=>K x r
mutual
noncomputable def pveq:PV→PV→Bool
 | .none,q=>nonE q
 | .bool a,q=>booE a q
 | .int i,q=>numE i q
 | .str a,q=>strE a q
 | .tup a,q=>tupE (fun b=>pveqs a b) q
 | .list a,q=>lstE (fun b=>pveqs a b) q
 | _,_=>false
noncomputable def pveqs:List PV→List PV→Bool
 | [],q=>q.isEmpty
 | x :: xs,q=>consE (fun y ys=>pveq x y && pveqs xs ys) q
end
mutual
noncomputable def okD:Nat→PV→Bool
 | _,.none=>true
 | _,.bool _=>true
 | _,.int _=>true
 | _,.str s=>s.all fun c=>Nat.blt c 1114112
 | n,.tup l=>match n with
  | 0=>false
  | n + 1=>okDs n l
 | n,.list l=>match n with
  | 0=>false
  | n + 1=>okDs n l
 | _,_=>false
noncomputable def okDs:Nat→List PV→Bool
 | _,[]=>true
 | n,x :: xs=>okD n x && okDs n xs
end
@[elab_as_elim] theorem okT_i {P:Nat→Prop} {n l} (h:okD n (.tup l)=true) (q:∀ n,okDs n l=true→P (n + 1)):P n:=match n,h with
 | 0,h=>nb h
 | n + 1,h=>q n h
@[elab_as_elim] theorem okL_i {P:Nat→Prop} {n l} (h:okD n (.list l)=true) (q:∀ n,okDs n l=true→P (n + 1)):P n:=match n,h with
 | 0,h=>nb h
 | n + 1,h=>q n h
noncomputable def inAny (l:List PV) (s:PV):Option Bool:=if okDs 50 l && okD 50 s then some (l.any fun t=>pveq t s) else none
noncomputable def derefO (p:PV) (M:Mem):Option (List PV):=match p with
 | .mref a=>mol (M a)
 | _=>none
theorem derefO_inv {p M l} (h:derefO p M=some l):∃ a,p = .mref a∧M a=some (.list l):=by
 cases p <;> first | exact no h | exact ⟨_,rfl,mol_inv h⟩
noncomputable def deref (p:PV) (M:Mem):PV:=match derefO p M with
 | some l=>.list l
 | none=>p
noncomputable def isNone:PV→Option Bool
 | .none=>some true
 | .bool _ | .int _ | .str _ | .tup _ | .list _ | .mref _ | .dict ..=>some false
 | _=>none
noncomputable def strLe:List Nat→List Nat→Bool
 | [],_=>true
 | _ :: _,[]=>false
 | a :: r,b :: t=>if a < b then true else if b < a then false else strLe r t
noncomputable def bindI (x:PV) (K:Int→Option Bool):Option Bool:=match x with
 | .int a=>K a
 | _=>none
theorem bindI_inv {x K r} (h:bindI x K=some r):∃ a,x = .int a∧K a=some r:=by cases x <;> first | exact ⟨_,rfl,h⟩ | exact no h
noncomputable def bindN (x:PV) (K:Option Bool):Option Bool:=match x with
 | .none=>K
 | _=>none
theorem bindN_inv {x K r} (h:bindN x K=some r):x = .none∧K=some r:=by cases x <;> first | exact ⟨rfl,h⟩ | exact no h
noncomputable def bindT (x:PV) (K:List Nat→Option Bool):Option Bool:=match x with
 | .str a=>K a
 | _=>none
theorem bindT_inv {x K r} (h:bindT x K=some r):∃ a,x = .str a∧K a=some r:=by cases x <;> first | exact ⟨_,rfl,h⟩ | exact no h
noncomputable def inStr:List PV→List Nat→Option Bool
 | [],s=>some false
 | p :: r,s=>bindT p fun t=>(inStr r s).map fun b=>decide (t=s) || b
noncomputable def bindIT (x:PV) (K:Int→Option Bool) (L:List Nat→Option Bool):Option Bool:=match x with
 | .int a=>K a
 | .str a=>L a
 | _=>none
theorem bindIT_inv {x K L r} (h:bindIT x K L=some r):(∃ a,x = .int a∧K a=some r)∨∃ a,x = .str a∧L a=some r:=by cases x <;> first | exact .inl ⟨_,rfl,h⟩ | exact .inr ⟨_,rfl,h⟩ | exact no h
noncomputable def bindTU (x:PV) (K:List Nat→Option Bool) (L:List PV→Option Bool):Option Bool:=match x with
 | .str a=>K a
 | .tup a=>L a
 | _=>none
theorem bindTU_inv {x K L r} (h:bindTU x K L=some r):(∃ a,x = .str a∧K a=some r)∨∃ a,x = .tup a∧L a=some r:=by cases x <;> first | exact .inl ⟨_,rfl,h⟩ | exact .inr ⟨_,rfl,h⟩ | exact no h
noncomputable def oneC (s:List Nat) (K:Nat→Option Bool):Option Bool:=match s with
 | []=>none
 | c :: r=>match r with
  | []=>K c
  | _ :: _=>none
theorem oneC_inv {s K r} (h:oneC s K=some r):∃ c,s=[c]∧K c=some r:=by
 rcases s with _ | ⟨c,_ | ⟨d,s⟩⟩
 ·exact no h
 ·exact ⟨_,rfl,h⟩
 ·exact no h
noncomputable def inS (y:PV) (s:List Nat):Option Bool:=match y with
 | .str l=>oneC s fun c=>some (l.contains c)
 | .tup l=>inStr l s
 | .dict ks _=>some (ks.contains s)
 | _=>none
theorem inS_inv {y s r} (h:inS y s=some r):(∃ l,y = .str l∧∃ c,s=[c]∧l.contains c=r)∨(∃ l,y = .tup l∧inStr l s=some r)∨∃ ks vs,y = .dict ks vs∧ks.contains s=r:=by
 cases y with
 | str l =>
  obtain ⟨c,rfl,h⟩:=oneC_inv h
  exact .inl ⟨_,rfl,_,rfl,Option.some.inj h⟩
 | tup l=>exact .inr (.inl ⟨_,rfl,h⟩)
 | dict ks vs=>exact .inr (.inr ⟨_,_,rfl,Option.some.inj h⟩)
 | _=>exact no h
theorem ite_inv {c:Bool} {a r:Bool} (h:(if c=true then some a else none)=some r):c=true∧a=r:=by
 cases c
 ·exact no h
 ·exact ⟨rfl,Option.some.inj h⟩
noncomputable def cmpv (o:Cop) (x y:PV) (M:Mem):Option Bool:=match o with
 | .eq=>if okD 60 (deref x M) && okD 60 (deref y M) then some (pveq (deref x M) (deref y M)) else none
 | .ne=>if okD 60 (deref x M) && okD 60 (deref y M) then some (!pveq (deref x M) (deref y M)) else none
 | .lt=>bindI x fun a=>bindI y fun b=>some (decide (a < b))
 | .le=>bindIT x (fun a=>bindI y fun b=>some (decide (a ≤ b))) fun a=>bindT y fun b=>some (strLe a b)
 | .gt=>bindI x fun a=>bindI y fun b=>some (decide (b < a))
 | .ge=>bindI x fun a=>bindI y fun b=>some (decide (b ≤ a))
 | .is=>bindN y (isNone x)
 | .isnot=>bindN y ((isNone x).map (!·))
 | .isin=>bindTU x (fun s=>inS y s) fun s=>(items y M).bind fun l=>inAny l (.tup s)
 | .notin=>bindT x fun s=>(inS y s).map (!·)
theorem itp_inv {α:Type} {c:Prop} [Decidable c] {a r:α} (h:(if c then some a else none)=some r):c∧a=r:=by
 by_cases k:c
 ·rw [if_pos k] at h; exact ⟨k,Option.some.inj h⟩
 ·rw [if_neg k] at h; exact no h
noncomputable def truth (p:PV) (M:Mem):Option Bool:=match p with
 | .bool b=>some b
 | .none=>some false
 | .int i=>some (i != 0)
 | .list l=>if l.length ≤ 10000000 then some (!l.isEmpty) else none
 | .tup l=>if l.length ≤ 10000000 then some (!l.isEmpty) else none
 | _=>none
noncomputable def frzP (p:PV) (M:Mem) (Q:PV→Mem→Prop):Prop:=match p with
 | .mref a=>RdL M a fun l=>Q (.list l) (M.del a)
 | p=>Q p M
noncomputable def frzsP:List PV→Mem→(List PV→Mem→Prop)→Prop
 | [],M,Q=>Q [] M
 | p :: r,M,Q=>frzP p M fun p M=>frzsP r M fun r M=>Q (p :: r) M
noncomputable def bO (c:Bool) (k:Nat):Option Nat:=match c with
 | true=>some k
 | false=>none
theorem bO_inv {c k r} (h:bO c k=some r):c=true∧k=r:=by
 cases c
 ·exact no h
 ·exact ⟨rfl,Option.some.inj h⟩
noncomputable def idx (i:Int) (n:Nat):Option Nat:=match i with
 | .ofNat k=>bO (Nat.blt k n) k
 | .negSucc k=>bO (Nat.blt k n) (n - (k + 1))
theorem idx_inv {i:Int} {n k:Nat} (h:idx i n=some k):(0 ≤ i∧i < n∧k=i.toNat)∨(i < 0∧0 ≤ i + n∧k=(i + n).toNat):=by
 cases i with
 | ofNat j =>
  obtain ⟨h1,rfl⟩:=bO_inv h
  exact .inl ⟨Int.natCast_nonneg _,Int.ofNat_lt.mpr (Nat.le_of_ble_eq_true h1),rfl⟩
 | negSucc j =>
  obtain ⟨h1,rfl⟩:=bO_inv h
  have e:Int.negSucc j + (n:Int)=((n - (j + 1):Nat):Int):=Int.subNatNat_of_le (Nat.le_of_ble_eq_true h1)
  exact .inr ⟨Int.negSucc_lt_zero j,e▸Int.natCast_nonneg _,e▸rfl⟩
theorem seq_of {i:Int} {n k:Nat} (h:idx i n=some k):seqIndex? i n=some k:=by
 unfold seqIndex?
 rcases idx_inv h with ⟨h1,h2,rfl⟩ | ⟨h1,h2,rfl⟩
 ·rw [if_neg (Int.not_lt.mpr h1)]
  exact if_pos (and_tt (decide_eq_true h1) (decide_eq_true h2))
 ·rw [if_pos h1]
  exact if_pos (and_tt (decide_eq_true h2) (decide_eq_true (lt_of_lt_of_eq (Int.add_lt_add_right h1 _) (Int.zero_add _))))
noncomputable def dget (ks:List (List Nat)) (vs:List PV) (s:List Nat):Option PV:=match ks,vs with
 | k :: ks,v :: vs=>if k=s then some v else dget ks vs s
 | _,_=>none
noncomputable def subP (o i:PV) (M:Mem) (Q:PV→Prop):Prop:=match o with
 | .tup l=>intK i fun i=>small i∧opt ((idx i l.length).bind (l[·]?)) Q
 | .str l=>intK i fun i=>small i∧opt ((idx i l.length).bind (l[·]?)) fun c=>Q (.str [c])
 | .dict ks vs=>strK i fun s=>opt (dget ks vs s) Q
 | .list l=>intK i fun i=>small i∧opt ((idx i l.length).bind (l[·]?)) Q
 | .mref a=>intK i fun i=>RdL M a fun l=>small i∧opt ((idx i l.length).bind (l[·]?)) Q
 | _=>False
noncomputable def subPk (o:PV) (i:Int) (M:Mem) (Q:PV→Prop):Prop:=match o with
 | .tup l=>opt ((idx i l.length).bind (l[·]?)) Q
 | .str l=>opt ((idx i l.length).bind (l[·]?)) fun c=>Q (.str [c])
 | .list l=>opt ((idx i l.length).bind (l[·]?)) Q
 | .mref a=>RdL M a fun l=>opt ((idx i l.length).bind (l[·]?)) Q
 | _=>False
noncomputable def cut {α:Type} (l:List α) (lo hi:Option Int):List α:=((match hi with | some h=>l.take h.toNat | none=>l)).drop ((lo.getD 0).toNat)
noncomputable def slcT (l:List PV) (lo hi:Option Int):Prop:=match lo with
 | some a=>(match hi with
  | none=>1 ≤ a∧a ≤ l.length
  | some _=>False)
 | none=>match hi with
  | some b=>b < l.length
  | none=>False
noncomputable def slcP (o:PV) (lo hi:Option Int) (M:Mem) (Q:PV→Prop):Prop :=
 (0 ≤ lo.getD 0∧0 ≤ hi.getD 0)∧match o with
 | .tup l=>slcT l lo hi∧lenOk l.length∧Q (.tup (cut l lo hi))
 | .str l=>lenOk l.length∧Q (.str (cut l lo hi))
 | .list l=>lenOk l.length∧Q (.list (cut l lo hi))
 | .mref a=>RdL M a fun l=>lenOk l.length∧Q (.list (cut l lo hi))
 | _=>False
noncomputable def dec (n:Int):List Nat:=(Str.ofString (toString n)).cps.toList
noncomputable def joinL (sep:List Nat):List (List Nat)→List Nat
 | []=>[]
 | [x]=>x
 | x :: r=>x++sep++joinL sep r
noncomputable def strO (p:PV):Option (List Nat):=match p with
 | .str s=>some s
 | _=>none
theorem strO_inv {p s} (h:strO p=some s):p = .str s:=by
 cases p <;> first | exact no h | exact congrArg PV.str (Option.some.inj h)
noncomputable def strsOf:List PV→Option (List (List Nat))
 | []=>some []
 | p :: r=>(strO p).bind fun s=>(strsOf r).map (s :: ·)
noncomputable def replL (a b:List Nat):Nat→List Nat→List Nat
 | 0,l=>l
 | n + 1,[]=>[]
 | n + 1,c :: r=>if a.isPrefixOf (c :: r) then b++replL a b n ((c :: r).drop a.length) else c :: replL a b n r
noncomputable def refK (p:PV) (K:Nat→Prop):Prop:=match p with
 | .mref a=>K a
 | _=>False
theorem refK_inv {p K} (h:refK p K):∃ i,p = .mref i∧K i:=by
 cases p <;> first | exact h.elim | exact ⟨_,rfl,h⟩
noncomputable def methP (m:Mth) (o:PV) (as:List PV) (M:Mem) (Q:PV→Mem→Prop):Prop:=match m with
 | .append=>refK o fun a=>oneK as fun x=>frzP x M fun x M=>RdL M a fun l=>lenOk l.length∧Q .none (M.upd a (.list (l++[x])))
 | .join=>strK o fun s=>oneK as fun x=>opt ((items x M).bind strsOf) fun l=>(l.map List.length).sum + l.length * s.length ≤ 16777216∧Q (.str (joinL s l)) M
 | .find=>strK o fun s=>oneK as fun x=>strK x fun t=>chK t fun c=>Q (.int (match s.findIdx? (· == c) with | some i=>i | none=>-1)) M
 | .extend=>refK o fun a=>oneK as fun x=>itemsK x M fun xs=>RdL M a fun l=>lenOk (l.length + xs.length)∧Q .none (M.upd a (.list (l++xs)))
noncomputable def methPre (m:Mth) (o:PV) (M:Mem):Prop:=match m with
 | .append=>refK o fun a=>RdL M a fun _=>True
 | .extend=>refK o fun a=>RdL M a fun _=>True
 | .join=>strK o fun _=>True
 | .find=>strK o fun _=>True
noncomputable def replP (a b:List Nat) (o:PV) (Q:PV→Prop):Prop:=match o with
 | .str s=>(s.length ≤ 1000000∧a ≠ b∧1 ≤ a.length∧b.length ≤ 14)∧Q (.str (replL a b s.length s))
 | _=>False
noncomputable def plainV:PV→Bool
 | .fn _=>false
 | .bi _=>false
 | _=>true
noncomputable def attrP (o:PV) (i:Nat) (M:Mem) (Q:PV→Prop):Prop:=refK o fun a=>RdO M a fun l=>opt l[i]? fun v=>plainV v=true∧Q v
noncomputable def setP (o:PV) (i:Nat) (v:PV) (M:Mem) (Q:Mem→Prop):Prop:=refK o fun a=>frzP v M fun v M=>RdO M a fun l=>(i ≤ l.length)∧Q (M.upd a (.obj (if i < l.length then l.set i v else l++[v])))
noncomputable def seqOf (p:PV) (M:Mem):Option (List PV):=match p with
 | .list l=>some l
 | .tup l=>some l
 | _=>none
noncomputable def lenP (p:PV) (M:Mem) (Q:PV→Prop):Prop:=match p with
 | .str s=>lenOk s.length∧Q (.int s.length)
 | .tup l=>lenOk l.length∧Q (.int l.length)
 | .list l=>lenOk l.length∧Q (.int l.length)
 | .mref a=>RdL M a fun l=>lenOk l.length∧Q (.int l.length)
 | _=>False
noncomputable def isTup:PV→Option Bool
 | .tup _=>some true
 | .bool _ | .int _ | .str _ | .list _=>some false
 | _=>none
noncomputable def isLst:PV→Option Bool
 | .list _=>some true
 | .bool _ | .int _ | .str _ | .tup _=>some false
 | _=>none
noncomputable def biP (b:Nat) (as:List PV) (M:Mem) (Q:PV→Mem→Prop):Prop:=match b with
 | 0=>oneK as fun x=>lenP x M fun v=>Q v M
 | 1=>oneK as fun x=>intK x fun i=>(0 ≤ i∧i < 1000)∧Q (.str (dec i)) M
 | 2=>oneK as fun x=>intK x fun i=>(0 ≤ i∧i < 256)∧Q (.str [i.toNat]) M
 | 3=>oneK as fun x=>strK x fun s=>chK s fun c=>Q (.int c) M
 | 4=>twoK as fun x y=>biK y fun t=>match t with
  | 5=>opt (isLst x) fun b=>Q (.bool b) M
  | 6=>opt (isTup x) fun b=>Q (.bool b) M
  | _=>False
 | 5=>oneK as fun x=>lstK x fun l=>lenOk l.length∧∀ a,M a=none→Q (.mref a) (M.upd a (.list l))
 | _=>False
noncomputable def setAll:List Nat→List PV→Lo→Lo
 | i :: is,v :: vs,env=>setAll is vs (env.set i (some v))
 | _,_,env=>env
noncomputable def bindS (tg:Sum Nat (List Nat)) (x:PV) (env:Lo):Option Lo:=match tg with
 | .inl i=>some (env.set i (some x))
 | .inr is=>match x with
  | .tup l=>if l.length=is.length then some (setAll is l env) else none
  | _=>none
noncomputable def compP (tg:Sum Nat (List Nat)) (test:Lo→Mem→(Bool→Mem→Prop)→Prop) (body:Lo→Mem→(PV→Mem→Prop)→Prop) (env:Lo):List PV→List PV→Mem→(List PV→Mem→Prop)→Prop
 | [],acc,M,Q=>Q acc M
 | x :: xs,acc,M,Q=>opt (bindS tg x env) fun env'=>test env' M fun b M=>match b with
  | true=>body env' M fun v M=>frzP v M fun v M=>compP tg test body env xs (acc++[v]) M Q
  | false=>compP tg test body env xs acc M Q
noncomputable def compI (body:Lo→Mem→(PV→Mem→Prop)→Prop) (x:PV):List PV→List PV→Mem→(List PV→Mem→Prop)→Prop
 | [],acc,M,Q=>Q acc M
 | y :: ys,acc,M,Q=>lenOk acc.length∧body [some x,some y] M fun v M=>frzP v M fun v M=>compI body x ys (acc++[v]) M Q
noncomputable def compP2 (it2:Lo→Mem→(List PV→Mem→Prop)→Prop) (body:Lo→Mem→(PV→Mem→Prop)→Prop):List PV→List PV→Mem→(List PV→Mem→Prop)→Prop
 | [],acc,M,Q=>Q acc M
 | x :: xs,acc,M,Q=>it2 [some x,none] M fun l M=>compI body x l acc M fun acc M=>compP2 it2 body xs acc M Q
noncomputable def forP (step:PV→Lo→Mem→(Out→Lo→Mem→Prop)→Prop):List PV→Lo→Mem→(Out→Lo→Mem→Prop)→Prop
 | [],env,M,Q=>Q .next env M
 | x :: xs,env,M,Q=>step x env M fun o env' M'=>match o with
  | .next=>forP step xs env' M' Q
  | .brk=>Q .next env' M'
  | .ret v=>Q (.ret v) env' M'
noncomputable def unrP (test:Lo→Mem→(Bool→Mem→Prop)→Prop) (body:Lo→Mem→(Out→Lo→Mem→Prop)→Prop):Nat→Lo→Mem→(Out→Lo→Mem→Prop)→Prop
 | 0,_,_,_=>False
 | n + 1,env,M,Q=>test env M fun c M=>match c with
  | true=>body env M fun o env M=>match o with
   | .next=>unrP test body n env M Q
   | .brk=>Q .next env M
   | .ret v=>Q (.ret v) env M
  | false=>Q .next env M
noncomputable def seqK (k:Lo→Mem→(Out→Lo→Mem→Prop)→Prop) (Q:Out→Lo→Mem→Prop) (o:Out) (env:Lo) (M:Mem):Prop:=match o with
 | .next=>k env M Q
 | .ret v=>Q (.ret v) env M
 | .brk=>Q .brk env M
noncomputable def retK (Q:PV→Mem→Prop) (o:Out) (_:Lo) (M:Mem):Prop:=match o with
 | .ret v=>Q v M
 | .next=>Q .none M
 | .brk=>False
noncomputable def rangeL (i:Int):List PV:=(List.range i.toNat).map fun (k:Nat)=>PV.int (k:Int)
noncomputable def zipL:List PV→List PV→List PV
 | a :: as,b :: bs=>.tup [a,b] :: zipL as bs
 | _,_=>[]
structure InitOk (C:Cx) (d:Nat) (i:Nat) (args:List PV) (M:Mem) (Q:Mem→Prop):Prop where
 run:∀ (A:Around) (s:Shared) (τ:Tags) (vs:List Value),Room d A→Base C τ s.heap→MemOk C M τ s.heap→VRs C τ s.heap vs args →
  codeAny (model C.prog C.w) A (.call (C.fv i) ⟨vs,[]⟩) (fun r s'=>match r with
   | .ok (.ret v)=>v = .none∧∃ M' τ',Ext none τ τ' s s'∧MemOk C M' τ' s'.heap∧Q M'
   | _=>False) s
noncomputable def callP (C:Cx) (d:Nat) (f:PV) (vs:List PV) (M:Mem) (Q:PV→Mem→Prop):Prop:=match f with
 | .bi b=>biP b vs M Q
 | .fn i=>CallOk C d (.fn i) vs M Q
 | _=>False
section
variable (C:Cx) (G:Nat→PV) (d:Nat)
mutual
noncomputable def wpE:E→Lo→Mem→(PV→Mem→Prop)→Prop
 | .cst v,_,M,Q=>Q v M
 | .loc i,env,M,Q=>look env i fun v=>Q v M
 | .glo g,_,M,Q=>Q (G g) M
 | .bin o a b,env,M,Q=>wpE a env M fun x M=>wpE b env M fun y M=>binP o x y M fun v=>Q v M
 | .cmp o a b,env,M,Q=>wpE a env M fun x M=>wpE b env M fun y M=>opt (cmpv o x y M) fun v=>Q (.bool v) M
 | .cmp2 o p a b c,env,M,Q=>wpE a env M fun x M=>wpE b env M fun y M=>opt (cmpv o x y M) fun v=>match v with
  | true=>wpE c env M fun z M=>opt (cmpv p y z M) fun v=>Q (.bool v) M
  | false=>Q (.bool false) M
 | .bnd es,env,M,Q=>wpAnd es env M Q
 | .bor es,env,M,Q=>wpOr es env M Q
 | .not a,env,M,Q=>wpE a env M fun x M=>opt (truth x M) fun b=>Q (.bool !b) M
 | .neg a,env,M,Q=>wpE a env M fun x M=>intK x fun i=>Q (.int (-i)) M
 | .ite t a b,env,M,Q=>IteP (wpT t env M fun c M=>match c with | true=>wpE a env M Q | false=>wpE b env M Q)
 | .call f as,env,M,Q=>wpE f env M fun f M=>wpEs as env M fun vs M=>callP C d f vs M Q
 | .mkobj g i a,env,M,Q=>G g = .cls∧wpE a env M fun x M=>frzP x M fun x M=>∀ ad,M ad=none→∃ d',d=d' + 1∧InitOk C d' i [.mref ad,x] (M.upd ad (.obj [])) fun M=>Q (.mref ad) M
 | .meth m o as,env,M,Q=>wpE o env M fun o M=>methPre m o M∧wpEs as env M fun vs M=>methP m o vs M Q
 | .jrep sep x a b,env,M,Q=>wpE x env M fun x M=>opt ((items x M).bind strsOf) fun l=>((l.map List.length).sum + l.length * sep.length ≤ 1000000)∧replP a b (.str (joinL sep l)) fun v=>Q v M
 | .attr o i,env,M,Q=>wpE o env M fun o M=>attrP o i M fun v=>Q v M
 | .sub o i,env,M,Q=>wpE o env M fun o M=>wpE i env M fun i M=>subP o i M fun v=>Q v M
 | .subk o i,env,M,Q=>wpE o env M fun o M=>subPk o i M fun v=>Q v M
 | .slc o lo hi,env,M,Q=>wpE o env M fun o M=>wpO lo env M fun lo M=>wpO hi env M fun hi M=>slcP o lo hi M fun v=>Q v M
 | .tup es,env,M,Q=>wpEs es env M fun vs M=>frzsP vs M fun vs M=>Q (.tup vs) M
 | .lst es,env,M,Q=>wpEs es env M fun vs M=>frzsP vs M fun vs M=>Q (.list vs) M
 | .mls es,env,M,Q=>wpEs es env M fun vs M=>frzsP vs M fun vs M=>∀ a,M a=none→Q (.mref a) (M.upd a (.list vs))
 | .dic ks es,env,M,Q=>wpEs es env M fun vs M=>Q (.dict ks vs) M
 | .comp elt tg n it cond caps,env,M,Q=>wpIt it env M fun l M =>
   IteP (compP tg (fun env M Q=>wpTs cond env M Q) (fun env M Q=>wpE elt env M Q) (List.replicate n none++caps.map fun i=>(env[i]?).join) l [] M fun vs M=>Q (.list vs) M)
 | .comp2 elt it it2,env,M,Q=>wpIt it env M fun l M =>
   compP2 (fun env M Q=>wpIt it2 env M Q) (fun env M Q=>wpE elt env M Q) l [] M fun vs M=>Q (.list vs) M
noncomputable def wpEs:Es→Lo→Mem→(List PV→Mem→Prop)→Prop
 | .nil,_,M,Q=>Q [] M
 | .cons e es,env,M,Q=>wpE e env M fun v M=>wpEs es env M fun vs M=>Q (v :: vs) M
noncomputable def wpO:Eo→Lo→Mem→(Option Int→Mem→Prop)→Prop
 | .no,_,M,Q=>Q none M
 | .so e,env,M,Q=>wpE e env M fun v M=>intK v fun i=>Q (some i) M
noncomputable def wpAnd:Es→Lo→Mem→(PV→Mem→Prop)→Prop
 | .nil,_,_,_=>False
 | .cons e .nil,env,M,Q=>wpE e env M Q
 | .cons e es,env,M,Q=>wpE e env M fun v M=>opt (truth v M) fun b=>match b with | true=>wpAnd es env M Q | false=>Q v M
noncomputable def wpOr:Es→Lo→Mem→(PV→Mem→Prop)→Prop
 | .nil,_,_,_=>False
 | .cons e .nil,env,M,Q=>wpE e env M Q
 | .cons e es,env,M,Q=>wpE e env M fun v M=>opt (truth v M) fun b=>match b with | true=>Q v M | false=>wpOr es env M Q
noncomputable def wpT:T→Lo→Mem→(Bool→Mem→Prop)→Prop
 | .not t,env,M,Q=>wpT t env M fun b M=>Q (!b) M
 | .and ts,env,M,Q=>wpTs ts env M Q
 | .or ts,env,M,Q=>wpTo ts env M Q
 | .cmp o a b,env,M,Q=>wpE a env M fun x M=>wpE b env M fun y M=>opt (cmpv o x y M) fun v=>Q v M
 | .cmp2 o p a b c,env,M,Q=>wpE a env M fun x M=>wpE b env M fun y M=>opt (cmpv o x y M) fun v=>match v with
  | true=>wpE c env M fun z M=>opt (cmpv p y z M) fun v=>Q v M
  | false=>Q false M
 | .val e,env,M,Q=>wpE e env M fun v M=>opt (truth v M) fun b=>Q b M
noncomputable def wpTs:Ts→Lo→Mem→(Bool→Mem→Prop)→Prop
 | .nil,_,M,Q=>Q true M
 | .cons t ts,env,M,Q=>wpT t env M fun b M=>match b with | true=>wpTs ts env M Q | false=>Q false M
noncomputable def wpTo:Ts→Lo→Mem→(Bool→Mem→Prop)→Prop
 | .nil,_,M,Q=>Q false M
 | .cons t ts,env,M,Q=>wpT t env M fun b M=>match b with | true=>Q true M | false=>wpTo ts env M Q
noncomputable def wpIt:It→Lo→Mem→(List PV→Mem→Prop)→Prop
 | .val e,env,M,Q=>wpE e env M fun v M=>opt (seqOf v M) fun l=>lenOk l.length∧Q l M
 | .range g e,env,M,Q=>G g = .bi 7∧wpE e env M fun v M=>intK v fun i=>(0 ≤ i∧i ≤ 1000000)∧Q (rangeL i) M
 | .zip a b,env,M,Q=>wpE a env M fun x M=>wpE b env M fun y M=>opt (seqOf x M) fun l=>opt (seqOf y M) fun m=>Q (zipL l m) M
end
end
noncomputable def augA (x y:PV) (Q:PV→Prop):Prop:=match x with
 | .int a=>intK y fun b=>Q (.int (a + b))
 | .str a=>strK y fun b=>lenOk (a.length + b.length)∧Q (.str (a++b))
 | _=>False
noncomputable def augP (o:Bop) (x y:PV) (Q:PV→Prop):Prop:=match o with
 | .add=>augA x y Q
 | .sub=>intK x fun a=>intK y fun b=>Q (.int (a - b))
 | _=>False
noncomputable def slcSet (o v:PV) (M:Mem) (Q:Mem→Prop):Prop:=refK o fun a=>lstK v fun ys=>RdL M a fun l=>lenOk (l.length + ys.length)∧Q (M.upd a (.list ys))
section
variable (C:Cx) (G:Nat→PV) (d:Nat)
mutual
noncomputable def wpS:S→Lo→Mem→(Out→Lo→Mem→Prop)→Prop
 | .asg i e,env,M,Q=>wpE C G d e env M fun v M=>Q .next (env.set i (some v)) M
 | .asgT is e,env,M,Q=>wpE C G d e env M fun v M=>opt (bindS (.inr is) v env) fun env=>Q .next env M
 | .setattr o i e,env,M,Q=>wpE C G d e env M fun v M=>wpE C G d o env M fun o M=>setP o i v M fun M=>Q .next env M
 | .setslc o e,env,M,Q=>wpE C G d e env M fun v M=>wpE C G d o env M fun o M=>slcSet o v M fun M=>Q .next env M
 | .aug i o e,env,M,Q=>look env i fun x=>wpE C G d e env M fun y M=>augP o x y fun v=>Q .next (env.set i (some v)) M
 | .augattr ob i o e,env,M,Q=>wpE C G d ob env M fun ov M=>attrP ov i M fun x=>wpE C G d e env M fun y M=>augP o x y fun v=>setP ov i v M fun M=>Q .next env M
 | .ifs t a b,env,M,Q=>wpT C G d t env M fun c M=>match c with | true=>wpSs a env M Q | false=>wpSs b env M Q
 | .whl t b,env,M,Q=>∃ n,unrP (fun env M K=>wpT C G d t env M K) (fun env M K=>wpSs b env M K) n env M Q
 | .for tg it b,env,M,Q=>wpIt C G d it env M fun l M=>IteP (forP (fun x env M K=>opt (bindS tg x env) fun env=>wpSs b env M K) l env M Q)
 | .ret e,env,M,Q=>wpE C G d e env M fun v M=>frzP v M fun v M=>Q (.ret v) env M
 | .ret0,env,M,Q=>Q (.ret .none) env M
 | .expr e,env,M,Q=>wpE C G d e env M fun _ M=>Q .next env M
 | .raise,_,_,_=>False
 | .brk,env,M,Q=>Q .brk env M
noncomputable def wpSs:Ss→Lo→Mem→(Out→Lo→Mem→Prop)→Prop
 | .nil,env,M,Q=>Q .next env M
 | .cons s ss,env,M,Q=>wpS s env M (seqK (fun env M Q=>wpSs ss env M Q) Q)
end
end
end Mine
end
section
open PySem PySem.W PySem.Calls
namespace Mine
open PyProof.Rows
section
variable {C:Cx} {A:Around} {s:Shared} {τ:Tags} {M:Mem}
inductive PG (C:Cx) (τ:Tags) (s:Shared) (Q:PV→Prop) (v:Value) (s':Shared):Prop
 | mk (p:PV) (τ':Tags) (g:Grow τ τ' s s') (r:VR C τ' s'.heap v p) (q:Q p):PG C τ s Q v s'
theorem PG.same {Q:PV→Prop} {v p s'} (e:Same s s') (r:VR C τ s.heap v p) (q:Q p):PG C τ s Q v s' :=
 ⟨p,τ,e.grow,e.h▸r,q⟩
theorem sl_ok {n:Nat} (h:lenOk n):n ≤ sizeLine:=Nat.le_trans h (by rw [sizeLine_eq]; decide)
theorem str_app (a b:List Nat):(⟨a.toArray⟩:Str)++⟨b.toArray⟩=⟨(a++b).toArray⟩:=by
 show Str.append _ _=_
 simp [Str.append]
theorem str_len (a:List Nat):(⟨a.toArray⟩:Str).length=a.length:=by simp [Str.length]
inductive IsLs (C:Cx) (τ:Tags) (h:Heap) (l:List PV) (v:Value):Prop
 | mk {a vs n} (e:v = .ref a) (g:h.get? a=some (lstObj vs n)) (r:VRs C τ h vs l):IsLs C τ h l v
theorem items_is {p:PV} {v:Value} {l:List PV} (e:items p M=some l) (r:VR C τ s.heap v p) (m:MemOk C M τ s.heap):IsLs C τ s.heap l v:=by
 cases p with
 | list x =>
  obtain ⟨e1,g,t,r⟩:=(r.inv:IsL C τ s.heap x v)
  exact ⟨e1,g,(Option.some.inj e:x=l)▸r⟩
 | mref a =>
  obtain ⟨g,t,r'⟩:=mem_list m (mol_inv e)
  exact ⟨vr_m r,g,r'⟩
 | _=>exact no e
theorem items_ok {p:PV} {v:Value} {l:List PV} (e:items p M=some l) (r:VR C τ s.heap v p) (m:MemOk C M τ s.heap) :
  ∃ a vs n,v = .ref a∧s.heap.get? a=some (lstObj vs n)∧VRs C τ s.heap vs l:=by
 obtain ⟨e,g,r⟩:=items_is e r m
 exact ⟨_,_,_,e,g,r⟩
theorem VRs.append {h:Heap} {ws:List Value} {qs:List PV} (b:VRs C τ h ws qs):∀ {ps:List PV} {vs:List Value},VRs C τ h vs ps→VRs C τ h (vs++ws) (ps++qs)
 | [],_,a=>a.nil_i (P:=fun vs=>VRs C τ h (vs++ws) qs) b
 | p :: ps,_,a=>a.cons_i (P:=fun vs=>VRs C τ h (vs++ws) (p :: (ps++qs))) fun v r x y=>.cons x (VRs.append b y)
theorem VRs.length {h:Heap}:∀ {ps:List PV} {vs:List Value},VRs C τ h vs ps→vs.length=ps.length
 | [],_,a=>a.nil_i (P:=fun vs=>vs.length=0) rfl
 | p :: ps,_,a=>a.cons_i (P:=fun vs=>vs.length=ps.length + 1) fun v r x y=>congrArg Nat.succ y.length
theorem VRs.get {h:Heap}:∀ {ps:List PV} {vs:List Value},VRs C τ h vs ps→∀ {i:Nat} {p:PV},ps[i]? = some p→∃ v,vs[i]? = some v∧VR C τ h v p
 | [],_,a,i,p,e=>no e
 | q :: ps,_,a,0,p,e=>a.cons_i (P:=fun vs=>∃ v,vs[0]? = some v∧VR C τ h v p) fun v r x y=>⟨v,rfl,(Option.some.inj e:q=p)▸x⟩
 | q :: ps,_,a,i + 1,p,e=>a.cons_i (P:=fun vs=>∃ v,vs[i + 1]? = some v∧VR C τ h v p) fun v r x y=>VRs.get y (i:=i) e
theorem VRs.take {h:Heap}:∀ {ps:List PV} {vs:List Value},VRs C τ h vs ps→∀ n:Nat,VRs C τ h (vs.take n) (ps.take n)
 | [],_,a,n=>a.nil_i (P:=fun vs=>VRs C τ h (vs.take n) (([]:List PV).take n)) (by cases n <;> exact .nil)
 | p :: ps,_,a,0=>.nil
 | p :: ps,_,a,n + 1=>a.cons_i (P:=fun vs=>VRs C τ h (vs.take (n + 1)) (p :: ps.take n)) fun v r x y=>.cons x (y.take n)
theorem VRs.drop {h:Heap}:∀ {ps:List PV} {vs:List Value},VRs C τ h vs ps→∀ n:Nat,VRs C τ h (vs.drop n) (ps.drop n)
 | [],_,a,n=>a.nil_i (P:=fun vs=>VRs C τ h (vs.drop n) (([]:List PV).drop n)) (by cases n <;> exact .nil)
 | p :: ps,_,a,0=>a
 | p :: ps,_,a,n + 1=>a.cons_i (P:=fun vs=>VRs C τ h (vs.drop (n + 1)) (ps.drop n)) fun v r x y=>y.drop n
theorem VRs.set {h:Heap} {v:Value} {p:PV} (b:VR C τ h v p):∀ {ps:List PV} {vs:List Value},VRs C τ h vs ps→∀ i:Nat,VRs C τ h (vs.set i v) (ps.set i p)
 | [],_,a,i=>a.nil_i (P:=fun vs=>VRs C τ h (vs.set i v) []) .nil
 | q :: ps,_,a,0=>a.cons_i (P:=fun vs=>VRs C τ h (vs.set 0 v) (p :: ps)) fun w r x y=>.cons b y
 | q :: ps,_,a,i + 1=>a.cons_i (P:=fun vs=>VRs C τ h (vs.set (i + 1) v) (q :: ps.set i p)) fun w r x y=>.cons x (VRs.set b y i)
theorem PG.newList {Q:PV→Prop} {vs:List Value} {l:List PV} {s':Shared} (e:s'.heap=s.heap.push (lstObj vs 0)) (r:VRs C τ s.heap vs l) (q:Q (.list l)) (k:s'.os=s.os:=by rfl) (g:s'.gens=s.gens:=by rfl) :
  PG C τ s Q (.ref s.heap.objs.size) s':=by
 have x:=grow_push τ s (lstObj vs 0) .data e k g
 exact ⟨.list l,_,x,.list (e▸Heap.get?_push_size _ rfl) (Tags.set_same ..) (r.mono x.ext.dkeep),q⟩
theorem PG.newTup {Q:PV→Prop} {vs:List Value} {l:List PV} {s':Shared} (e:s'.heap=s.heap.push (tupObj vs 0)) (r:VRs C τ s.heap vs l) (q:Q (.tup l)) (k:s'.os=s.os:=by rfl) (g:s'.gens=s.gens:=by rfl) :
  PG C τ s Q (.ref s.heap.objs.size) s':=by
 have x:=grow_push τ s (tupObj vs 0) .data e k g
 exact ⟨.tup l,_,x,.tup (e▸Heap.get?_push_size _ rfl) (Tags.set_same ..) (r.mono x.ext.dkeep),q⟩
theorem items_add {x y:PV} {a b:Value} {l:List PV} {Q:PV→Prop} (hx:items x M=some l) (ra:VR C τ s.heap a x) (rb:VR C τ s.heap b y) (mk:MemOk C M τ s.heap)
  (hq:itemsK y M fun m=>lenOk (l.length + m.length)∧Q (.list (l++m))):wpAny (model C.prog C.w) A (binaryOp .Add a b) (PG C τ s Q) NoE s:=by
 obtain ⟨m,hy,hl,q⟩:=itemsK_inv hq
 obtain ⟨rfl,h1,r1⟩:=items_is hx ra mk
 obtain ⟨rfl,h2,r2⟩:=items_is hy rb mk
 refine P.add_list (items:=_) (items2:=_) h1 h2 (PG.newList (vs:=_++_) ?_ (VRs.append r2 r1) q) (sl_ok ?_)
 ·exact congrArg (fun x=>s.heap.push { cls:=.type "list",data:=.seq x 0 }) (List.append_toArray _ _)
 ·exact (r1.length▸r2.length▸hl:lenOk (_ + _))
@[elab_as_elim] theorem intsK {h:Heap} {x y:PV} {a b:Value} {K:Int→Int→Prop} {P:Value→Value→Prop} (hq:intK x fun i=>intK y fun j=>K i j) (ra:VR C τ h a x) (rb:VR C τ h b y) (q:∀ i j t u,K i j→P (.int i t) (.int j u)):P a b:=by
 obtain ⟨i,rfl,hq⟩:=intK_inv hq
 obtain ⟨j,rfl,hq⟩:=intK_inv (p:=y) hq
 exact ra.int_i (P:=fun a=>P a b) fun t=>rb.int_i fun u=>q i j t u hq
theorem add_str {x:List Nat} {y:PV} {a b:Value} {Q:PV→Prop} (hq:strK y fun b=>lenOk (x.length + b.length)∧Q (.str (x++b))) (ra:VR C τ s.heap a (.str x)) (rb:VR C τ s.heap b y) :
  wpAny (model C.prog C.w) A (binaryOp .Add a b) (PG C τ s Q) NoE s:=by
 obtain ⟨j,rfl,hq⟩:=strK_inv hq
 refine ra.str_i fun t=>?_
 refine rb.str_i fun u=>?_
 refine SB.add (fun t' k=>PG.same rfl ?_ hq.2) (by rw [str_len,str_len]; exact sl_ok hq.1)
 rw [str_app]; exact .str _ _
theorem add_ok {x y:PV} {a b:Value} {Q:PV→Prop} (hq:addP x y M Q) (ra:VR C τ s.heap a x) (rb:VR C τ s.heap b y) (mk:MemOk C M τ s.heap) :
  wpAny (model C.prog C.w) A (binaryOp .Add a b) (PG C τ s Q) NoE s:=by
 cases x with
 | int i =>
  obtain ⟨j,rfl,hq⟩:=intK_inv (p:=y) hq
  exact ra.int_i fun t=>rb.int_i fun u=>P.add_int (PG.same rfl (.int _ _) hq)
 | str i=>exact add_str hq ra rb
 | list l=>exact items_add rfl ra rb mk hq
 | mref l =>
  obtain ⟨l,e,hq⟩:=(hq:RdL M _ _).run
  exact items_add (x:=.mref _) (congrArg mol e) ra rb mk hq
 | _=>exact False.elim hq
theorem bin_ok {o:Bop} {x y:PV} {a b:Value} {Q:PV→Prop} (hq:binP o x y M Q) (ra:VR C τ s.heap a x) (rb:VR C τ s.heap b y) (mk:MemOk C M τ s.heap) :
  wpAny (model C.prog C.w) A (binaryOp (opOf o) a b) (PG C τ s Q) NoE s:=by
 cases o
 ·exact add_ok hq ra rb mk
 ·exact intsK hq ra rb fun i j t u hq=>P.sub_int (PG.same rfl (.int _ _) hq)
 ·exact intsK hq ra rb fun i j t u hq=>P.mul_int (PG.same rfl (.int _ _) hq.2) (IntMulOk.of_left (intBits_le_64 (Int.lt_trans (by decide) hq.1.1.1) (Int.lt_trans hq.1.1.2 (by decide))))
 ·refine intsK hq ra rb fun i j t u hq=>?_
  have hb:=hq.1
  refine AutoIntOps.mod_1 (fun e=>Int.ne_of_gt hb (beq e)) (PG.same (p:=.int (i % j)) rfl ?_ hq.2)
  rw [Int.fmod_eq_emod_of_nonneg _ (Int.le_of_lt hb)]
  exact .int _ _
 ·refine intsK hq ra rb fun i j t u hq=>?_
  obtain ⟨⟨rfl,hs⟩,hq2⟩:=hq
  exact AutoIntOps.pow_0 (by decide) rfl (PG.same rfl (.int _ _) hq2)
end
mutual
noncomputable def toD:PV→PyData
 | .bool b=>.bool b
 | .int i=>.int i
 | .str s=>.str ⟨s.toArray⟩
 | .tup l=>.tuple (toDs l)
 | .list l=>.list (toDs l)
 | _=>.none
noncomputable def toDs:List PV→List PyData
 | []=>[]
 | x :: xs=>toD x :: toDs xs
end
theorem blt_all {s:List Nat} (h:(s.all fun c=>Nat.blt c 1114112)=true):PyData.strOk ⟨s.toArray⟩=true:=by
 simpa [PyData.strOk] using h
mutual
theorem okD_can:∀ (p:PV) {n:Nat},okD n p=true→(toD p).canLay0=true
 | .none,_,h=>rfl
 | .bool b,_,h=>rfl
 | .int i,_,h=>rfl
 | .str s,_,h=>blt_all h
 | .tup l,n,h=>okT_i (P:=fun _=>(toD (.tup l)).canLay0=true) h fun n h=>okDs_can l h
 | .list l,n,h=>okL_i (P:=fun _=>(toD (.list l)).canLay0=true) h fun n h=>okDs_can l h
 | .mref a,n,h=>nb h
 | .fn a,n,h=>nb h
 | .bi a,n,h=>nb h
 | .cls,n,h=>nb h
 | .dict a b,n,h=>nb h
theorem okDs_can:∀ (p:List PV) {n:Nat},okDs n p=true→PyData.canLayAll0 (toDs p)=true
 | [],n,h=>rfl
 | x :: xs,n,h=>and_tt (okD_can x (ba h)) (okDs_can xs (bb h))
end
mutual
theorem okD_dep:∀ (p:PV) {n:Nat},okD n p=true→(toD p).depth ≤ n
 | .none,n,h=>Nat.zero_le n
 | .bool b,n,h=>Nat.zero_le n
 | .int i,n,h=>Nat.zero_le n
 | .str s,n,h=>Nat.zero_le n
 | .tup l,n,h=>okT_i (P:=fun n=>(toD (.tup l)).depth ≤ n) h fun n h=>Nat.succ_le_succ (okDs_dep l h)
 | .list l,n,h=>okL_i (P:=fun n=>(toD (.list l)).depth ≤ n) h fun n h=>Nat.succ_le_succ (okDs_dep l h)
 | .mref a,n,h=>nb h
 | .fn a,n,h=>nb h
 | .bi a,n,h=>nb h
 | .cls,n,h=>nb h
 | .dict a b,n,h=>nb h
theorem okDs_dep:∀ (p:List PV) {n:Nat},okDs n p=true→PyData.depthAll (toDs p) ≤ n
 | [],n,h=>Nat.zero_le n
 | x :: xs,n,h=>Nat.max_le.mpr ⟨okD_dep x (ba h),okDs_dep xs (bb h)⟩
end
section
variable {C:Cx} {τ:Tags} {h:Heap}
mutual
theorem vr_reads:∀ (p:PV) {n:Nat} {v:Value},VR C τ h v p→okD n p=true→∃ as,Reads h v (toD p) as
 | .none,_,v,r,_=>⟨_,vi_none r▸Reads.none⟩
 | .bool b,_,v,r,_=>⟨_,vi_bool r▸Reads.bool b⟩
 | .int i,_,v,r,_=>r.int_i fun t=>⟨_,Reads.int i t⟩
 | .str s,_,v,r,_=>r.str_i fun t=>⟨_,Reads.str _ t⟩
 | .tup l,n,v,r,k=>okT_i (P:=fun _=>∃ as,Reads h v (toD (.tup l)) as) k fun n k=>r.tup_i fun a vs m g t r=>(vrs_reads l r k).elim fun as q=>⟨as,Reads.tuple g rfl rfl q⟩
 | .list l,n,v,r,k=>okL_i (P:=fun _=>∃ as,Reads h v (toD (.list l)) as) k fun n k=>r.list_i fun a vs m g t r=>(vrs_reads l r k).elim fun as q=>⟨_,Reads.list g rfl rfl q⟩
 | .mref a,n,_,_,h=>nb h
 | .fn a,n,_,_,h=>nb h
 | .bi a,n,_,_,h=>nb h
 | .cls,n,_,_,h=>nb h
 | .dict a b,n,_,_,h=>nb h
theorem vrs_reads:∀ (p:List PV) {n:Nat} {v:List Value},VRs C τ h v p→okDs n p=true→∃ as,ReadsAll h v (toDs p) as
 | [],n,_,r,_=>r.nil_i ⟨_,ReadsAll.nil⟩
 | x :: xs,n,_,r,k=>r.cons_i fun v vs a b=>(vr_reads x a (ba k)).elim fun as q=>(vrs_reads xs b (bb k)).elim fun bs p=>⟨_,ReadsAll.cons q p⟩
end
end
theorem str_beq (a b:List Nat):((⟨a.toArray⟩:Str) == ⟨b.toArray⟩)=(a == b):=by
 by_cases h:a=b
 ·subst h; simp
 ·have:(⟨a.toArray⟩:Str) ≠ ⟨b.toArray⟩:=fun e=>h (by injection e with e; simpa using e)
  rw [beq_eq_false_iff_ne.mpr this,beq_eq_false_iff_ne.mpr h]
mutual
theorem eqv_pv:∀ (p q:PV) {n m:Nat},okD n p=true→okD m q=true→PyData.eqv (toD p) (toD q)=pveq p q
 | .none,q,_,_,_,hq=>by cases q <;> first | exact nb hq | rfl
 | .bool b,q,_,_,_,_=>by cases q <;> rfl
 | .int b,q,_,_,_,_=>by cases q <;> rfl
 | .str b,q,_,_,_,_=>by cases q <;> first | rfl | exact str_beq _ _
 | .tup l,q,_,_,hp,hq=>okT_i (P:=fun _=>PyData.eqv (toD (.tup l)) (toD q)=pveq (.tup l) q) hp fun n hp=>by
  cases q with
  | tup k=>exact okT_i (P:=fun _=>PyData.eqv (toD (.tup l)) (toD (.tup k))=pveqs l k) hq fun m hq=>eqvs_pv l k hp hq
  | _=>rfl
 | .list l,q,_,_,hp,hq=>okL_i (P:=fun _=>PyData.eqv (toD (.list l)) (toD q)=pveq (.list l) q) hp fun n hp=>by
  cases q with
  | list k=>exact okL_i (P:=fun _=>PyData.eqv (toD (.list l)) (toD (.list k))=pveqs l k) hq fun m hq=>eqvs_pv l k hp hq
  | _=>rfl
 | .mref a,_,_,_,h,_=>nb h
 | .fn a,_,_,_,h,_=>nb h
 | .bi a,_,_,_,h,_=>nb h
 | .cls,_,_,_,h,_=>nb h
 | .dict a b,_,_,_,h,_=>nb h
theorem eqvs_pv:∀ (p q:List PV) {n m:Nat},okDs n p=true→okDs m q=true→PyData.eqvAll (toDs p) (toDs q)=pveqs p q
 | [],[],_,_,_,_=>rfl
 | [],_ :: _,_,_,_,_=>rfl
 | _ :: _,[],_,_,_,_=>rfl
 | x :: xs,y :: ys,_,_,hp,hq=>congr (congrArg and (eqv_pv x y (ba hp) (ba hq))) (eqvs_pv xs ys (bb hp) (bb hq))
end
section
variable {C:Cx} {A:Around} {s:Shared} {τ:Tags} {M:Mem} {d:Nat}
theorem shaped_of {p:PV} (h:okD 60 p=true):SeqAt.shaped (toD p)=true :=
 and_tt (okD_can p h) (decide_eq_true (Nat.le_trans (okD_dep p h) (by decide)))
theorem deref_ok {p:PV} {v:Value} (r:VR C τ s.heap v p) (m:MemOk C M τ s.heap) (h:okD 60 (deref p M)=true):∃ as,Reads s.heap v (toD (deref p M)) as:=by
 unfold deref at h ⊢
 generalize e:derefO p M=o at h ⊢
 cases o with
 | none=>exact vr_reads p r h
 | some l =>
  obtain ⟨a,rfl,e2⟩:=derefO_inv e
  obtain ⟨x,y,z⟩:=mem_list m e2
  obtain ⟨as,q⟩:=vrs_reads (n:=59) l z h
  exact vr_m r▸⟨_,Reads.list x rfl rfl q⟩
theorem Room.u64 (r:Room d A):A.units + 64 < cLine:=Nat.lt_of_le_of_lt (Nat.add_le_add (Nat.le_add_right _ _) (by decide:64 ≤ 100)) r.2.2
theorem txt_in (c:Nat) (l:List Nat):Txt.contains ⟨l.toArray⟩ ⟨[c].toArray⟩=l.contains c:=by
 have:=StrLaws.found_one ⟨l.toArray⟩ c
 unfold Txt.contains
 rw [show (⟨[c].toArray⟩:Str)=⟨#[c]⟩ from rfl,this]
 by_cases h:c ∈ l <;> simp [h]
theorem dec_beq (t x:List Nat):decide (t=x)=(t == x):=by
 by_cases h:t=x
 ·subst h; simp
 ·rw [decide_eq_false h,beq_eq_false_iff_ne.mpr h]
theorem inStr_ok {h:Heap}:∀ {l:List PV} {vs:List Value} {x:List Nat} {b:Bool},inStr l x=some b→VRs C τ h vs l →
  ∃ ys:List Str,StrsAre vs ys∧ys.any (· == ⟨x.toArray⟩)=b
 | [],vs,x,b,e,r=>r.nil_i ⟨[],.nil,Option.some.inj e⟩
 | p :: l,vs,x,b,e,r=>r.cons_i fun v vs r1 r2=>by
  obtain ⟨t,rfl,e⟩:=bindT_inv e
  obtain ⟨b',e1,rfl⟩:=Option.map_eq_some_iff.mp e
  obtain ⟨ys,a1,a2⟩:=inStr_ok e1 r2
  exact r1.str_i fun k=>⟨⟨t.toArray⟩ :: ys,.cons _ _ a1,congr (congrArg or ((str_beq t x).trans (dec_beq t x).symm)) a2⟩
theorem isNone_ok {p:PV} {v:Value} {b:Bool} (e:isNone p=some b) (r:VR C τ s.heap v p):(v == Value.none)=b:=by
 cases p with
 | none=>obtain rfl:=vi_none r; exact Option.some.inj e
 | bool b=>exact vi_bool r▸Option.some.inj e
 | int i=>exact r.int_i fun t=>Option.some.inj e
 | str i=>exact r.str_i fun t=>Option.some.inj e
 | tup i=>exact r.tup_i fun _ _ _ _ _ _=>Option.some.inj e
 | list i=>exact r.list_i fun _ _ _ _ _ _=>Option.some.inj e
 | mref a=>exact vr_m r▸Option.some.inj e
 | dict a b=>exact r.dict_i fun _ _ _ _ _ _ _ _=>Option.some.inj e
 | _=>exact no e
theorem key_beq {e:DictEntry} {k x:List Nat} {t:Tok} (h:e.key=Value.str ⟨k.toArray⟩ t):Value.isStrOf ⟨x.toArray⟩ e.key=(k == x):=by rw [h]; exact str_beq k x
theorem find_hit {e:DictEntry} {es:List DictEntry} {x:List Nat} (h:Value.isStrOf ⟨x.toArray⟩ e.key=true):((e :: es).find? fun e=>Value.isStrOf ⟨x.toArray⟩ e.key)=some e:=by rw [List.find?_cons,h]
theorem find_miss {e:DictEntry} {es:List DictEntry} {x:List Nat} (h:Value.isStrOf ⟨x.toArray⟩ e.key=false):((e :: es).find? fun e=>Value.isStrOf ⟨x.toArray⟩ e.key)=es.find? fun e=>Value.isStrOf ⟨x.toArray⟩ e.key:=by rw [List.find?_cons,h]
theorem find_keys:∀ {ks:List (List Nat)} {es:List DictEntry} (x:List Nat),fieldKeys C es ks →
  (es.find? fun e=>Value.isStrOf ⟨x.toArray⟩ e.key).isSome=ks.contains x
 | [],es,x,h=>nilP_i h rfl
 | k :: ks,es,x,h=>fk_i h fun e r t h1 h3 h2=>by
  rw [List.contains_cons]
  by_cases hk:k=x
  ·subst hk
   rw [find_hit ((key_beq h1).trans (beq_self_eq_true k)),beq_self_eq_true]; rfl
  ·rw [find_miss ((key_beq h1).trans (beq_eq_false_iff_ne.mpr hk)),beq_eq_false_iff_ne.mpr (Ne.symm hk),find_keys x h2]; rfl
theorem find_get {h:Heap}:∀ {ks:List (List Nat)} {es:List DictEntry} {vs:List PV} {x:List Nat} {p:PV},fieldKeys C es ks→VRs C τ h (es.map (·.val)) vs→dget ks vs x=some p →
  ∃ e,(es.find? fun e=>Value.isStrOf ⟨x.toArray⟩ e.key)=some e∧VR C τ h e.val p
 | [],es,vs,x,p,_,_,e=>no e
 | k :: ks,es,[],x,p,_,_,e=>no e
 | k :: ks,es,q :: vs,x,p,h,r,e=>by
  revert r
  refine fk_i h fun en es t h1 h3 h2 r=>?_
  obtain ⟨v,w,e0,r1,r2⟩:=(show ∃ v w,(en :: es).map (·.val)=v :: w∧VR C τ _ v q∧VRs C τ _ w vs from r.inv)
  obtain ⟨rfl,rfl⟩:=List.cons.inj e0
  replace e:(if k=x then some q else dget ks vs x)=some p:=e
  by_cases hk:k=x
  ·rw [if_pos hk] at e
   subst hk
   exact ⟨en,find_hit ((key_beq h1).trans (beq_self_eq_true k)),Option.some.inj e▸r1⟩
  ·rw [if_neg hk] at e
   rw [find_miss ((key_beq h1).trans (beq_eq_false_iff_ne.mpr hk))]
   exact find_get h2 r2 e
theorem keys_all:∀ {ks:List (List Nat)} {es:List DictEntry},fieldKeys C es ks→∀ e ∈ es,∃ k:Str,(∃ t,e.key = .str k t)∧e.hash=PyData.keyHash C.w.params k
 | [],es,h=>nilP_i h fun e he=>absurd he List.not_mem_nil
 | k :: ks,es,h=>fk_i h fun e r t h1 h3 h2 x hx=>by
  rcases List.mem_cons.mp hx with rfl | hx
  ·exact ⟨_,⟨t,h1⟩,h3⟩
  ·exact keys_all h2 x hx
theorem map_of {h:Heap} {a:Addr} {es:List DictEntry} {n:Nat} {ks:List (List Nat)} (e:h.get? a=some (dctObj es n)) (f:fieldKeys C es ks) :
  h.MapOf (strKind C.prog C.w) a (fun k=>findBy Value.isStrOf es.toArray k) :=
 ⟨_,es.toArray,n,e,⟨rfl,rfl,rfl⟩,rfl,fun en he=>by
  obtain ⟨k,⟨t,h1⟩,h2⟩:=keys_all f en (Array.mem_toList_iff.mpr he)
  exact ⟨k,by rw [h1]; exact strKind_is C.prog C.w k t,h2⟩,fun _=>rfl⟩
theorem str_le:∀ {u v:List Nat},(!decide (v < u))=strLe u v
 | [],v=>by simp [strLe]
 | a :: r,[]=>by simp [strLe]
 | a :: r,b :: t=>by
  have ih:=str_le (u:=r) (v:=t)
  simp only [List.cons_lt_cons_iff,strLe] at ih ⊢
  by_cases h1:a < b
  ·have h2:¬ b < a:=by omega
   have h3:¬ b=a:=by omega
   simp [h1,h2,h3]
  ·by_cases h2:b < a
   ·simp [h1,h2]
   ·have h3:b=a:=by omega
    subst h3
    rw [if_neg h1,if_neg h1,← ih]; simp
noncomputable abbrev Bz (s:Shared) (r:Bool) (v:Value) (s':Shared):Prop:=v = .bool r∧Same s s'
noncomputable abbrev CW (C:Cx) (A:Around) (o:CmpOp) (a b:Value) (r:Bool) (s:Shared):Prop:=wpAny (model C.prog C.w) A (compareOp o a b) (fun v s'=>v = .bool r∧Same s s') NoE s
theorem cmp_eq {x y:PV} {a b:Value} (R:Room d A) (hk:(okD 60 (deref x M) && okD 60 (deref y M))=true) (ra:VR C τ s.heap a x) (rb:VR C τ s.heap b y) (mk:MemOk C M τ s.heap) :
  CW C A .Eq a b (pveq (deref x M) (deref y M)) s∧CW C A .NotEq a b (!pveq (deref x M) (deref y M)) s:=by
 obtain ⟨as,ea⟩:=deref_ok ra mk (ba hk)
 obtain ⟨bs,eb⟩:=deref_ok rb mk (bb hk)
 have e:=eqv_pv _ _ (ba hk) (bb hk)
 exact ⟨eq_dataH ea eb (shaped_of (ba hk)) (shaped_of (bb hk)) R.u64 ⟨congrArg Value.bool e,rfl⟩,ne_dataH ea eb (shaped_of (ba hk)) (shaped_of (bb hk)) R.u64 ⟨congrArg (fun b=>Value.bool !b) e,rfl⟩⟩
theorem any_eq {bx:PV} (k2:okD 50 bx=true):∀ {l:List PV},okDs 50 l=true→(toDs l).any (fun t=>t.eqv (toD bx))=l.any fun t=>pveq t bx
 | [],_=>rfl
 | t :: l,k1=>congr (congrArg or (eqv_pv t bx (ba k1) k2)) (any_eq k2 (bb k1))
@[elab_as_elim] theorem intsB {h:Heap} {x y:PV} {a b:Value} {K:Int→Int→Bool} {r:Bool} {P:Value→Value→Prop} (hq:(bindI x fun i=>bindI y fun j=>some (K i j))=some r) (ra:VR C τ h a x) (rb:VR C τ h b y) (q:∀ i j t u,K i j=r→P (.int i t) (.int j u)):P a b:=by
 obtain ⟨i,rfl,hq⟩:=bindI_inv hq
 obtain ⟨j,rfl,hq⟩:=bindI_inv (x:=y) hq
 exact ra.int_i (P:=fun a=>P a b) fun t=>rb.int_i fun u=>q i j t u (Option.some.inj hq)
theorem le_ok {x y:PV} {a b:Value} {r:Bool} (hq:(bindIT x (fun a=>bindI y fun b=>some (decide (a ≤ b))) fun a=>bindT y fun b=>some (strLe a b))=some r) (ra:VR C τ s.heap a x) (rb:VR C τ s.heap b y):CW C A .LtE a b r s:=by
 rcases bindIT_inv hq with ⟨i,rfl,hq⟩ | ⟨i,rfl,hq⟩
 ·obtain ⟨j,rfl,hq⟩:=bindI_inv hq
  exact ra.int_i fun t=>rb.int_i fun u=>P.le_int ⟨congrArg Value.bool (Option.some.inj hq),rfl⟩
 ·obtain ⟨j,rfl,hq⟩:=bindT_inv hq
  exact ra.str_i fun t=>rb.str_i fun u=>P.le_str ⟨congrArg Value.bool (str_le.trans (Option.some.inj hq)),rfl⟩
theorem ne_sys {a:Addr} (h:a ≠ 1):(a == sysModules)=false:=beq_eq_false_iff_ne.mpr h
theorem in_ok {u:List Nat} {t:Tok} {y:PV} {b:Value} {r:Bool} (hq:inS y u=some r) (rb:VR C τ s.heap b y):CW C A .In (.str ⟨u.toArray⟩ t) b r s∧CW C A .NotIn (.str ⟨u.toArray⟩ t) b (!r) s:=by
 rcases inS_inv hq with ⟨l,rfl,c,rfl,h9⟩ | ⟨l,rfl,h9⟩ | ⟨ks,vs,rfl,h9⟩
 ·have e:=(txt_in c l).trans h9
  exact rb.str_i fun t'=>⟨SB.contains ⟨congrArg Value.bool e,rfl⟩,SB.notContains ⟨congrArg (fun b=>Value.bool !b) e,rfl⟩⟩
 ·refine rb.tup_i fun i vs n h1 h2 h3=>?_
  obtain ⟨ys,q1,q2⟩:=inStr_ok h9 h3
  exact ⟨in_tuple_strs ⟨_,h1,rfl,_,rfl⟩ q1 ⟨congrArg Value.bool q2,rfl⟩,notin_tuple_strs ⟨_,h1,rfl,_,rfl⟩ q1 ⟨congrArg (fun b=>Value.bool !b) q2,rfl⟩⟩
 ·refine rb.dict_i fun i es n h1 h2 h3 h4 h5=>?_
  have e:(findBy Value.isStrOf es.toArray ⟨u.toArray⟩).isSome=r:=by
   unfold findBy
   rw [List.find?_toArray,Option.isSome_map,find_keys _ h4,h9]
  exact ⟨wpAny_in_of (strKind_is C.prog C.w _ _) (ne_sys h3) (map_of h1 h4) ⟨congrArg Value.bool e,rfl⟩,wpAny_notIn_of (strKind_is C.prog C.w _ _) (ne_sys h3) (map_of h1 h4) ⟨congrArg (fun b=>Value.bool !b) e,rfl⟩⟩
theorem inAny_ok {u:List PV} {y:PV} {a b:Value} {r:Bool} (R:Room d A) (hq:((items y M).bind fun l=>inAny l (.tup u))=some r) (ra:VR C τ s.heap a (.tup u)) (rb:VR C τ s.heap b y) (mk:MemOk C M τ s.heap):CW C A .In a b r s:=by
 obtain ⟨l,h1,h2⟩:=Option.bind_eq_some_iff.mp hq
 obtain ⟨rfl,q1,q2⟩:=items_is h1 rb mk
 obtain ⟨hk,rfl⟩:=ite_inv h2
 obtain ⟨as,e1⟩:=vrs_reads (n:=50) _ q2 (ba hk)
 obtain ⟨bs,e2⟩:=vr_reads (n:=50) _ ra (bb hk)
 exact SeqAt.in_list_reads (xs:=toDs l) (Reads.list q1 rfl rfl e1) e2 (okDs_can _ (ba hk)) (okD_can _ (bb hk)) (Nat.lt_of_le_of_lt (Nat.add_le_add_left (Nat.le_trans (Nat.min_le_right _ _) (okD_dep (.tup u) (bb hk))) _) (Nat.lt_of_le_of_lt (Nat.add_le_add_left (by decide:51 ≤ 64) A.units) R.u64)) ⟨congrArg Value.bool (any_eq (bb hk) (ba hk)),rfl⟩
theorem cmp_ok {o:Cop} {x y:PV} {a b:Value} {r:Bool} (R:Room d A) (hq:cmpv o x y M=some r) (ra:VR C τ s.heap a x) (rb:VR C τ s.heap b y) (mk:MemOk C M τ s.heap) :
  CW C A (copOf o) a b r s:=by
 cases o with
 | eq =>
  obtain ⟨hk,rfl⟩:=ite_inv hq
  exact (cmp_eq R hk ra rb mk).1
 | ne =>
  obtain ⟨hk,rfl⟩:=ite_inv hq
  exact (cmp_eq R hk ra rb mk).2
 | lt=>exact intsB hq ra rb fun i j t u e=>P.lt_int ⟨congrArg Value.bool e,rfl⟩
 | le=>exact le_ok hq ra rb
 | gt=>exact intsB hq ra rb fun i j t u e=>P.gt_int ⟨congrArg Value.bool e,rfl⟩
 | ge=>exact intsB hq ra rb fun i j t u e=>P.ge_int ⟨congrArg Value.bool e,rfl⟩
 | is =>
  obtain ⟨rfl,hq⟩:=bindN_inv hq
  exact vi_none rb▸PySem.is_none ⟨congrArg Value.bool (isNone_ok hq ra),rfl⟩
 | isnot =>
  obtain ⟨rfl,hq⟩:=bindN_inv hq
  obtain ⟨c,h1,h2⟩:=Option.map_eq_some_iff.mp hq
  exact vi_none rb▸PySem.isNot_none ⟨congrArg Value.bool ((congrArg not (isNone_ok h1 ra)).trans h2),rfl⟩
 | isin =>
  rcases bindTU_inv hq with ⟨u,rfl,hq⟩ | ⟨u,rfl,hq⟩
  ·exact ra.str_i fun t=>(in_ok hq rb).1
  ·exact inAny_ok R hq ra rb mk
 | notin =>
  obtain ⟨u,rfl,hq⟩:=bindT_inv hq
  obtain ⟨r',hq2,rfl⟩:=Option.map_eq_some_iff.mp hq
  exact ra.str_i fun t=>(in_ok hq2 rb).2
end
section
variable {C:Cx} {A:Around} {s:Shared} {τ:Tags} {M:Mem} {d:Nat}
theorem idx_nat (k n:Nat):idx (.ofNat k) n=if k < n then some k else none:=by
 show bO (Nat.blt k n) k=_
 by_cases h:k < n
 ·rw [if_pos h,show Nat.blt k n=true from Nat.ble_eq_true_of_le h]; rfl
 ·rw [if_neg h,show Nat.blt k n=false from Bool.eq_false_iff.mpr fun e=>h (Nat.le_of_ble_eq_true e)]; rfl
theorem idx_neg (k n:Nat):idx (.negSucc k) n=if k < n then some (n - (k + 1)) else none:=by
 show bO (Nat.blt k n) (n - (k + 1))=_
 by_cases h:k < n
 ·rw [if_pos h,show Nat.blt k n=true from Nat.ble_eq_true_of_le h]; rfl
 ·rw [if_neg h,show Nat.blt k n=false from Bool.eq_false_iff.mpr fun e=>h (Nat.le_of_ble_eq_true e)]; rfl
theorem subs_any (slice:Expr) {o i:Value} {P:Sem Value→Prop} (h:∀ ops,P (operate ops (getItem o i))):P (subscripted slice false o i):=by
 cases slice with
 | Slice a b c d=>cases c <;> exact h _
 | _=>exact h _
theorem subscripted_any (slice:Expr) (o i:Value):∃ ops,subscripted slice false o i=operate ops (getItem o i):=subs_any slice (P:=fun t=>∃ ops,t=operate ops (getItem o i)) fun ops=>⟨ops,rfl⟩
theorem tail_go {value slice:Expr} {o i:Value} {T id:String} {Q:Value→Shared→Prop} (hT:s.TypeIs o T) (hl:typeLookup (.type T) "__getitem__" = pure (some (.builtin id)))
  (hg:wpAny (model C.prog C.w) A (getItem o i) Q NoE s):wpAny (model C.prog C.w) A (subscriptTail value slice o i) Q NoE s:=by
 obtain ⟨ops,e⟩:=subscripted_any slice o i
 exact tail_any hT hl hg e
theorem list_typeIs {a:Addr} {vs:List Value} {n:Nat} (h:s.heap.get? a=some (lstObj vs n)):s.heap.IsList a vs.toArray:=⟨_,h,rfl,_,rfl⟩
theorem tup_typeIs {a:Addr} {vs:List Value} {n:Nat} (h:s.heap.get? a=some (tupObj vs n)):IsTup s.heap a vs.toArray:=⟨_,h,rfl,_,rfl⟩
theorem at_i {α:Type} {i:Int} {l:List α} {Q:α→Prop} {P:Prop} (q:opt ((idx i l.length).bind (l[·]?)) Q) (h:∀ k p,idx i l.length=some k→l[k]? = some p→Q p→P):P:=by
 obtain ⟨p,hp,q⟩:=opt_inv q
 obtain ⟨k,hk,hp⟩:=Option.bind_eq_some_iff.mp hp
 exact h k p hk hp q
theorem small_lo {i:Int} (h:small i) : -(2 ^ 63) ≤ i:=Int.le_trans (by decide) (Int.le_of_lt h.1)
theorem small_hi {i:Int} (h:small i):i < 2 ^ 63:=Int.lt_trans h.2 (by decide)
theorem listItem {value slice:Expr} {o:Value} {l:List PV} {i:Int} {u:Tok} {Q:PV→Prop} (L:IsLs C τ s.heap l o)
  (hs:small i) (q:opt ((idx i l.length).bind (l[·]?)) Q):wpAny (model C.prog C.w) A (subscriptTail value slice o (.int i u)) (PG C τ s Q) NoE s:=by
 obtain ⟨rfl,e,r⟩:=L
 have hL:=list_typeIs e
 refine at_i q fun k p hk hp q=>?_
 obtain ⟨v,hv,rv⟩:=r.get hp
 refine tail_go hL.typeIs slot_list_getitem.lookup ?_
 have el:=r.length
 rw [← el] at hk
 rcases idx_inv hk with ⟨h1,h2,rfl⟩ | ⟨h1,h2,rfl⟩
 ·exact wpAny_getItem_list hL h1 (small_hi hs) (List.getElem?_toArray.trans hv) (PG.same rfl rv q)
 ·exact wpAny_getItem_list_neg hL h1 (Int.add_nonneg_iff_neg_le.mp h2) (small_lo hs) (List.getElem?_toArray.trans hv) (PG.same rfl rv q)
theorem tupItem {value slice:Expr} {o:Value} {l:List PV} {i:Int} {u:Tok} {Q:PV→Prop} (r:VR C τ s.heap o (.tup l)) (hs:small i) (q:opt ((idx i l.length).bind (l[·]?)) Q) :
  wpAny (model C.prog C.w) A (subscriptTail value slice o (.int i u)) (PG C τ s Q) NoE s :=
 r.tup_i fun a vs n h1 h2 h3=>at_i q fun k p hk hp q=>(h3.get hp).elim fun v hv =>
  tail_go (tup_typeIs h1).typeIs PyProof.Rows.slot_tuple_getitem.lookup (PyProof.Rows.getItem_tuple (tup_typeIs h1) (small_lo hs) (small_hi hs) (h3.length▸seq_of hk:seqIndex? i vs.length=some k) (List.getElem?_toArray.trans hv.1) (PG.same rfl hv.2 q))
theorem strItem {value slice:Expr} {l:List Nat} {t u:Tok} {i:Int} {Q:PV→Prop} (hs:small i) (q:opt ((idx i l.length).bind (l[·]?)) fun c=>Q (.str [c])) :
  wpAny (model C.prog C.w) A (subscriptTail value slice (.str ⟨l.toArray⟩ t) (.int i u)) (PG C τ s Q) NoE s :=
 at_i q fun k c hk hp q=>tail_go (typeIs_str _ _ _) PyProof.Rows.slot_str_getitem.lookup (P.getItem_str (c:=c) (by rw [decide_eq_false (Int.not_lt.mpr (small_lo hs)),decide_eq_false (Int.not_le.mpr (small_hi hs))]; rfl)
  (by rw [str_len,seq_of hk]; exact List.getElem?_toArray.trans hp) (PG.same rfl (p:=.str [c]) (.str [c] _) q))
theorem dictItem {value slice:Expr} {o:Value} {ks:List (List Nat)} {vs:List PV} {x:List Nat} {u:Tok} {Q:PV→Prop} (r:VR C τ s.heap o (.dict ks vs)) (q:opt (dget ks vs x) Q) :
  wpAny (model C.prog C.w) A (subscriptTail value slice o (.str ⟨x.toArray⟩ u)) (PG C τ s Q) NoE s:=by
 obtain ⟨p,hp,q⟩:=opt_inv q
 refine r.dict_i fun a es n h1 h2 h3 h4 h5=>?_
 obtain ⟨e,he,re⟩:=find_get h4 h5 hp
 have hm:=map_of h1 h4
 refine tail_go hm.typeIs slot_dict_getitem.lookup (wpAny_getItem_of (strKind_is C.prog C.w _ _) hm (v:=e.val) ?_ (PG.same rfl re q))
 unfold findBy
 rw [List.find?_toArray,he]; rfl
theorem sub_ok {value slice:Expr} {o i:PV} {a b:Value} {Q:PV→Prop} (hq:subP o i M Q) (ra:VR C τ s.heap a o) (rb:VR C τ s.heap b i) (mk:MemOk C M τ s.heap) :
  wpAny (model C.prog C.w) A (subscriptTail value slice a b) (PG C τ s Q) NoE s:=by
 cases o with
 | tup l =>
  obtain ⟨i,rfl,hq⟩:=intK_inv hq
  exact rb.int_i fun t=>tupItem ra hq.1 hq.2
 | str l =>
  obtain ⟨i,rfl,hq⟩:=intK_inv hq
  exact rb.int_i fun t=>ra.str_i fun u=>strItem hq.1 hq.2
 | dict ks vs =>
  obtain ⟨i,rfl,hq⟩:=strK_inv hq
  exact rb.str_i fun t=>dictItem ra hq
 | list l =>
  obtain ⟨i,rfl,hq⟩:=intK_inv hq
  exact rb.int_i fun t=>listItem (items_is rfl ra mk) hq.1 hq.2
 | mref l =>
  obtain ⟨i,rfl,hq⟩:=intK_inv hq
  obtain ⟨l,e,hq⟩:=hq.run
  exact rb.int_i fun t=>listItem (items_is (p:=.mref _) (congrArg mol e) ra mk) hq.1 hq.2
 | _=>exact False.elim hq
end
section
variable {C:Cx} {A:Around} {s:Shared} {τ:Tags} {M:Mem} {d:Nat}
noncomputable def hiN (hi:Option Int) (n:Nat):Nat:=match hi with
 | none=>n
 | some h=>h.toNat
theorem cut_eq {α:Type} (l:List α) (lo hi:Option Int):cut l lo hi=(l.take (hiN hi l.length)).drop (lo.getD 0).toNat:=by
 cases hi
 ·exact congrArg (List.drop (lo.getD 0).toNat) List.take_length.symm
 ·rfl
theorem clip_min {n:Nat} {i:Int} (h:0 ≤ i):clipAt n i=min i.toNat n:=by
 obtain ⟨k,rfl⟩:=Int.eq_ofNat_of_zero_le h
 exact clipAt_nat _ _
theorem lo_clip {n:Nat} {lo:Option Int} (h:0 ≤ lo.getD 0):lo.elim 0 (clipAt n)=min (lo.getD 0).toNat n:=by
 cases lo
 ·exact (Nat.zero_min n).symm
 ·exact clip_min h
theorem hi_clip {n:Nat} {hi:Option Int} (h:0 ≤ hi.getD 0):hi.elim n (clipAt n)=min (hiN hi n) n:=by
 cases hi
 ·exact (Nat.min_self n).symm
 ·exact clip_min h
theorem cut_nat {α:Type} (l:List α) (a b:Nat):(l.drop (min a l.length)).take (min b l.length - min a l.length)=(l.take b).drop a:=by
 rw [List.drop_take]
 by_cases h:a ≤ l.length
 ·rw [Nat.min_eq_left h]
  refine List.take_eq_take_iff.mpr ?_
  rw [List.length_drop,← Nat.sub_min_sub_right,Nat.min_assoc,Nat.min_self]
 ·have h:=Nat.le_of_not_le h
  rw [Nat.min_eq_right h,List.drop_of_length_le h,List.drop_of_length_le (Nat.le_refl _),List.take_nil,List.take_nil]
theorem cut_pick {α:Type} (l:List α) (lo hi:Option Int) (h1:0 ≤ lo.getD 0) (h2:0 ≤ hi.getD 0) :
  (l.drop (lo.elim 0 (clipAt l.length))).take (hi.elim l.length (clipAt l.length) - lo.elim 0 (clipAt l.length))=cut l lo hi:=by
 rw [lo_clip h1,hi_clip h2,cut_eq]
 exact cut_nat _ _ _
theorem cut_sub {α:Type} (l:List α) (lo hi:Option Int):(cut l lo hi).Sublist l:=cut_eq l lo hi▸(List.drop_sublist _ _).trans (List.take_sublist _ _)
inductive Parts:Value→Option Int→Prop
 | none:Parts .none none
 | int (i t):Parts (.int i t) (some i)
theorem Parts.isPart {v o} (p:Parts v o):IsPart v o:=by cases p <;> constructor
theorem Parts.pv {v o} (p:Parts v o):∃ q:Option (Int×Tok),v=partValue q∧q.map (·.1)=o:=by
 cases p with
 | none=>exact ⟨Option.none,rfl,rfl⟩
 | int i t=>exact ⟨some (i,t),rfl,rfl⟩
noncomputable def slObj (l u:Value):Obj:={ cls:=.type "slice",data:=.fields #[l,u,.none] }
noncomputable abbrev Shared.sl (s:Shared) (l u:Value):Shared:={ s with heap:=s.heap.push (slObj l u) }
theorem PG.up {τ':Tags} {s₁ s₂:Shared} {Q:PV→Prop} {v s'} (g:Grow τ τ' s₁ s₂) (p:PG C τ' s₂ Q v s'):PG C τ s₁ Q v s':=by
 obtain ⟨p,τ'',g',r,q⟩:=p
 exact ⟨p,τ'',g.trans g',r,q⟩
theorem cut_vr {h:Heap} {vs:List Value} {l:List PV} (r:VRs C τ h vs l) (lo hi:Option Int):VRs C τ h (cut vs lo hi) (cut l lo hi):=by
 cases hi with
 | none=>exact r.drop _
 | some b=>exact (r.take _).drop _
theorem slot_len {n m:Nat} (h:lenOk n) (e:m=n):m ≤ sizeLine:=e▸sl_ok h
theorem listSlice {value slice:Expr} {o:Value} {l:List PV} {vl vu:Value} {lo hi:Option Int} {Q:PV→Prop} (L:IsLs C τ s.heap l o)
  (pl:Parts vl lo) (pu:Parts vu hi) (h1:0 ≤ lo.getD 0) (h2:0 ≤ hi.getD 0) (q:lenOk l.length∧Q (.list (cut l lo hi))) :
  wpAny (model C.prog C.w) A (subscriptTail value slice o (.ref s.heap.objs.size)) (PG C τ s Q) NoE (Shared.sl s vl vu):=by
 obtain ⟨rfl,e,r⟩:=L
 have g:Grow τ (τ.set s.heap.objs.size .other) s (Shared.sl s vl vu):=grow_push τ s (slObj vl vu) .other
 have hL:=list_typeIs (s:=Shared.sl s vl vu) (g.keep _ _ e).1
 refine tail_go hL.typeIs slot_list_getitem.lookup (wpAny_getItem_list_slice (s:=Shared.sl s vl vu) hL (Heap.IsSliceOf.new ..) pl.isPart pu.isPart .none (by rintro ⟨⟩) ?_ (slot_len q.1 r.length))
 rw [slicePick_plain]
 exact (PG.newList (s:=Shared.sl s vl vu) (congrArg (fun x=>(Shared.sl s vl vu).heap.push (lstObj x 0)) (cut_pick _ lo hi h1 h2)) (cut_vr (r.mono g.ext.dkeep) lo hi) q.2).up g
theorem str_pick (l:List Nat) (lo hi:Option Int) (h1:0 ≤ lo.getD 0) (h2:0 ≤ hi.getD 0):(Builtin.Str.strSliceIndices lo hi 1 l.length).filterMap (l.toArray[·]?)=cut l lo hi∧((Builtin.Str.strSliceIndices lo hi 1 l.length).length=l.length→cut l lo hi=l):=by
 have e0:Builtin.Str.strSliceIndices lo hi 1 l.length=sliceRange (sliceBounds lo hi none l.length).1 (sliceBounds lo hi none l.length).2.1 (sliceBounds lo hi none l.length).2.2:=by
  cases lo <;> cases hi <;> rfl
 rw [e0,sliceBounds_plain,sliceRange_one,pick_run]
 have c:=cut_pick l lo hi h1 h2
 refine ⟨c,fun h=>(cut_sub l lo hi).eq_of_length ?_⟩
 rw [List.length_map,List.length_range] at h
 have hle:hi.elim l.length (clipAt l.length) ≤ l.length:=hi_clip h2▸Nat.min_le_right _ _
 rw [← c,List.length_take,List.length_drop,Nat.min_eq_left (Nat.sub_le_sub_right hle _),h]
theorem strSlice {value slice:Expr} {l:List Nat} {t:Tok} {vl vu:Value} {lo hi:Option Int} {Q:PV→Prop} (pl:Parts vl lo) (pu:Parts vu hi) (h1:0 ≤ lo.getD 0) (h2:0 ≤ hi.getD 0)
  (q:lenOk l.length∧Q (.str (cut l lo hi))) :
  wpAny (model C.prog C.w) A (subscriptTail value slice (.str ⟨l.toArray⟩ t) (.ref s.heap.objs.size)) (PG C τ s Q) NoE (Shared.sl s vl vu):=by
 obtain ⟨ql,rfl,rfl⟩:=pl.pv
 obtain ⟨qu,rfl,rfl⟩:=pu.pv
 refine tail_go (typeIs_str _ _ _) PyProof.Rows.slot_str_getitem.lookup (wpAny_getItem_str_slice (l:=ql) (u:=qu) (st:=none) ⟨_,Heap.get?_push_size _ rfl,rfl,rfl⟩ rfl ?_)
 obtain ⟨p1,p2⟩:=str_pick l (ql.map (·.1)) (qu.map (·.1)) h1 h2
 have fin:∀ x t' k,x=cut l (ql.map (·.1)) (qu.map (·.1))→PG C τ s Q (.str ⟨x.toArray⟩ t') { s with heap:=s.heap.push (slObj (partValue ql) (partValue qu)),toks:=k }:=fun x t' k e =>
  ⟨.str x,τ.set s.heap.objs.size .other,grow_push ..,.str _ _,e▸q.2⟩
 unfold sliceMade
 by_cases hc:(((none:Option (Int×Tok)).map (·.1)).getD 1 == 1 && (slicePicked ⟨l.toArray⟩ ql qu none).length == (⟨l.toArray⟩:Str).length)=true
 ·rw [if_pos hc]
  exact fin l _ _ (p2 (beq hc)).symm
 ·rw [if_neg hc]
  exact ⟨sl_ok (Nat.le_trans (p1▸(cut_sub l _ _).length_le:_ ≤ l.length) q.1),fin _ _ _ p1⟩
end
section
variable {C:Cx} {A:Around} {s:Shared} {τ:Tags} {M:Mem} {d:Nat}
theorem adjust_upto (b n:Nat) (hb:b ≤ n):Builtin.Slice.sliceAdjust none (some (b:Int)) 1 (n:Int)=(0,(b:Int)):=by
 unfold Builtin.Slice.sliceAdjust
 have h1:¬ ((1:Int) < 0):=by omega
 have h2:¬ ((b:Int) < 0):=by omega
 simp only [h1,h2,if_false]
 congr 1
 omega
theorem places_upto (b:Nat):Builtin.Slice.slicePlaces 0 (b:Int) 1=b:=by
 unfold Builtin.Slice.slicePlaces
 have h1:(1:Int) > 0:=by omega
 simp only [h1,if_true,Int.ediv_one]
 split <;> omega
theorem sliceApplied_upto {sl:Addr} {b n:Nat} {u:Tok} {Q:Int×Int×Nat→Shared→Prop} (hs:s.heap.IsSliceOf sl .none (.int b u) .none) (hb:b ≤ n) (h:Q (0,1,b) s) :
  wpAny (model C.prog C.w) A (Builtin.Slice.sliceApplied (.ref sl) (pure (n:Int))) Q NoE s:=by
 obtain ⟨os,hos,hcs,hds⟩:=id hs
 unfold Builtin.Slice.sliceApplied Builtin.Slice.sliceFields
 refine wpAny_bind (wpAny_bind (wpAny_field hos hds (x:=.none) rfl (wpAny_bind (wpAny_field hos hds (x:=.int b u) rfl (wpAny_bind (wpAny_field hos hds (x:=.none) rfl (wpAny_pure ?_)))))))
 refine wpAny_bind (slicePart_none ?_)
 show wpAny _ _ (if ((1:Int) == 0)=true then _ else _) _ _ s
 rw [if_neg (by decide)]
 refine wpAny_bind (slicePart_none (wpAny_bind (slicePart_int (wpAny_bind (wpAny_pure ?_)))))
 show wpAny _ _ (match Builtin.Slice.sliceAdjust none (some (b:Int)) 1 (n:Int) with | (lo,hi)=>pure (lo,(1:Int),Builtin.Slice.slicePlaces lo hi 1)) _ _ s
 rw [adjust_upto b n hb]
 show wpAny _ _ (pure ((0:Int),(1:Int),Builtin.Slice.slicePlaces 0 (b:Int) 1)) _ _ s
 rw [places_upto]
 exact wpAny_pure h
theorem pick_upto (xs:Array Value) (b:Nat) (hb:b ≤ xs.size):((List.range b).filterMap fun (k:Nat)=>xs[((0:Int) + (k:Int) * 1).toNat]?).toArray=(xs.toList.take b).toArray:=by
 have e:(fun (k:Nat)=>xs[((0:Int) + (k:Int) * 1).toNat]?)=fun k=>xs[k]?:=by
  funext k
  rw [Int.mul_one,Int.zero_add,Int.toNat_natCast]
 rw [e]
 have:=pick_run xs 0 b
 rw [List.filterMap_map] at this
 have e2:((fun x=>xs[x]?) ∘ fun x=>0 + x)=fun k=>xs[k]?:=funext fun k=>congrArg (fun j=>xs[j]?) (Nat.zero_add k)
 rw [e2] at this
 rw [this,List.drop_zero]
theorem getItem_tuple_upto {t sl:Addr} {items:Array Value} {b:Nat} {u:Tok} {Q:Value→Shared→Prop} (ht:IsTup s.heap t items) (hs:s.heap.IsSliceOf sl .none (.int b u) .none) (hb:b < items.size)
  (h:Q (.ref s.heap.objs.size) { s with heap:=s.heap.push { cls:=.type "tuple",data:=.seq (items.toList.take b).toArray } })
  (hsz:items.size ≤ sizeLine):wpAny (model C.prog C.w) A (getItem (.ref t) (.ref sl)) Q NoE s:=by
 have hdrop:sizeOk (.seq (items.toList.take b).toArray):=by
  show (items.toList.take b).toArray.size ≤ sizeLine
  rw [List.size_toArray,List.length_take,Array.length_toList]
  omega
 obtain ⟨os,hos,hcs,hds⟩:=id hs
 have hTs:s.TypeIs (.ref sl) "slice":=⟨os,hos,hcs⟩
 unfold getItem
 refine wpAny_holding ?_
 refine wpAny_bind (wpAny_sequenceKey ht.typeIs (by decide) ?_)
 refine wpAny_bind (wpAny_callSpecial?_slot (name:=Str.ofString "__getitem__") ht.typeIs PyProof.Rows.slot_tuple_getitem
  (wpAny_call_entry PyProof.Rows.slot_tuple_getitem ht.typeIs entry_tuple_getitem ?_ (args_tuple_getitem _ _)))
 show wpAny _ _ (Builtin.Tuple.tupleItemsOf (.ref t) >>= _) _ _ s
 refine wpAny_bind (tupleItemsOf_ ht ?_)
 refine wpAny_bind (wpAny_typeOf hTs ?_)
 rw [if_pos (by decide)]
 refine wpAny_bind (sliceApplied_upto hs (Nat.le_of_lt hb) ?_)
 have hno:¬ (((0:Int) == 0 && (1:Int) == 1 && b == items.size)=true):=by
  have:(b == items.size)=false:=by rw [beq_eq_false_iff_ne]; omega
  rw [this]; simp
 show wpAny _ _ (if ((0:Int) == 0 && (1:Int) == 1 && b == items.size)=true then _ else _) _ _ s
 rw [if_neg hno,pick_upto items b (Nat.le_of_lt hb)]
 first
  | exact wpAny_bind (m:=Builtin.Tuple.tupleExact _) (wpAny_newObj_type (wpAny_pure ⟨_,rfl,wpAny_pure h⟩) hdrop)
  | exact wpAny_bind (m:=Builtin.Tuple.tupleExact _) (wpAny_newObj_type (wpAny_bind (wpAny_pure (wpAny_pure ⟨_,rfl,wpAny_pure h⟩))) hdrop)
  | exact wpAny_bind (wpAny_bind (m:=Builtin.Tuple.tupleExact _) (wpAny_newObj_type (wpAny_pure (wpAny_pure ⟨_,rfl,wpAny_pure h⟩)) hdrop))
  | exact wpAny_bind (wpAny_bind (m:=Builtin.Tuple.tupleExact _) (wpAny_newObj_type (wpAny_pure ⟨_,rfl,wpAny_pure h⟩) hdrop))
theorem tupFrom {value slice:Expr} {o:Value} {l:List PV} {a:Int} {t:Tok} {Q:PV→Prop} (ra:VR C τ s.heap o (.tup l)) (h1:1 ≤ a) (h2:a ≤ l.length) (q:lenOk l.length∧Q (.tup (cut l (some a) none))) :
  wpAny (model C.prog C.w) A (subscriptTail value slice o (.ref s.heap.objs.size)) (PG C τ s Q) NoE (Shared.sl s (.int a t) .none):=by
 obtain ⟨k,rfl⟩:=Int.eq_ofNat_of_zero_le (Int.le_trans (by decide:(0:Int) ≤ 1) h1)
 have g:Grow τ (τ.set s.heap.objs.size .other) s (Shared.sl s (.int k t) .none):=grow_push τ s (slObj (.int k t) .none) .other
 refine ra.tup_i fun ad vs n e1 e2 r=>?_
 have hT:=tup_typeIs (s:=Shared.sl s (.int k t) .none) (g.keep _ _ e1).1
 have el:vs.toArray.size=l.length:=r.length
 exact tail_go hT.typeIs PyProof.Rows.slot_tuple_getitem.lookup (PyProof.Rows.getItem_tuple_from (s:=Shared.sl s (.int k t) .none) hT (Heap.IsSliceOf.new ..) (Int.ofNat_le.mp h1) (el▸Int.ofNat_le.mp h2)
  ((PG.newTup (s:=Shared.sl s (.int k t) .none) (vs:=vs.drop k) rfl ((r.mono g.ext.dkeep).drop k) q.2).up g) (slot_len q.1 el))
theorem tupUpto {value slice:Expr} {o:Value} {l:List PV} {b:Int} {t:Tok} {Q:PV→Prop} (ra:VR C τ s.heap o (.tup l)) (h1:0 ≤ b) (h2:b < l.length) (q:lenOk l.length∧Q (.tup (cut l none (some b)))) :
  wpAny (model C.prog C.w) A (subscriptTail value slice o (.ref s.heap.objs.size)) (PG C τ s Q) NoE (Shared.sl s .none (.int b t)):=by
 obtain ⟨k,rfl⟩:=Int.eq_ofNat_of_zero_le h1
 have g:Grow τ (τ.set s.heap.objs.size .other) s (Shared.sl s .none (.int k t)):=grow_push τ s (slObj .none (.int k t)) .other
 refine ra.tup_i fun ad vs n e1 e2 r=>?_
 have hT:=tup_typeIs (s:=Shared.sl s .none (.int k t)) (g.keep _ _ e1).1
 have el:vs.toArray.size=l.length:=r.length
 exact tail_go hT.typeIs PyProof.Rows.slot_tuple_getitem.lookup (getItem_tuple_upto (s:=Shared.sl s .none (.int k t)) hT (Heap.IsSliceOf.new ..) (el▸Int.ofNat_lt.mp h2)
  ((PG.newTup (s:=Shared.sl s .none (.int k t)) (vs:=vs.take k) rfl ((r.mono g.ext.dkeep).take k) q.2).up g) (slot_len q.1 el))
theorem tupSlice {value slice:Expr} {o vl vu:Value} {lo hi:Option Int} {l:List PV} {Q:PV→Prop} (ra:VR C τ s.heap o (.tup l)) (pl:Parts vl lo) (pu:Parts vu hi) (hc:slcT l lo hi) (h2:0 ≤ hi.getD 0) (q:lenOk l.length∧Q (.tup (cut l lo hi))) :
  wpAny (model C.prog C.w) A (subscriptTail value slice o (.ref s.heap.objs.size)) (PG C τ s Q) NoE (Shared.sl s vl vu):=by
 cases pl with
 | none=>cases pu with
  | none=>exact False.elim hc
  | int b t=>exact tupUpto ra h2 hc q
 | int a t=>cases pu with
  | none=>exact tupFrom ra hc.1 hc.2 q
  | int b t=>exact False.elim hc
theorem slc_ok {value slice:Expr} {o:PV} {a vl vu:Value} {lo hi:Option Int} {Q:PV→Prop} (hq:slcP o lo hi M Q) (ra:VR C τ s.heap a o) (pl:Parts vl lo) (pu:Parts vu hi) (mk:MemOk C M τ s.heap) :
  wpAny (model C.prog C.w) A (subscriptTail value slice a (.ref s.heap.objs.size)) (PG C τ s Q) NoE (Shared.sl s vl vu):=by
 obtain ⟨⟨h1,h2⟩,hq⟩:=hq
 cases o with
 | tup l=>exact tupSlice ra pl pu hq.1 h2 hq.2
 | str l=>exact ra.str_i fun t=>strSlice pl pu h1 h2 hq
 | list l=>exact listSlice (items_is rfl ra mk) pl pu h1 h2 hq
 | mref l =>
  obtain ⟨l,e,hq⟩:=hq.run
  exact listSlice (items_is (p:=.mref _) (congrArg mol e) ra mk) pl pu h1 h2 hq
 | _=>exact False.elim hq
end
section
variable {C:Cx} {A:Around} {s:Shared} {τ:Tags} {M:Mem} {d:Nat}
theorem PG.post {Q:PV→Mem→Prop} {v s'} (mk:MemOk C M τ s.heap) (h:PG C τ s (fun p=>Q p M) v s'):Post C τ s Q v s':=by
 obtain ⟨p,τ',g,r,q⟩:=h
 exact ⟨p,M,τ',g.ext,mk.grow g,r,q⟩
theorem PGS {Q:PV→Mem→Prop} {p:PV} {v:Value} {s':Shared} (mk:MemOk C M τ s.heap) (e:Same s s') (r:VR C τ s.heap v p) (q:Q p M):Post C τ s Q v s' :=
 ⟨p,M,τ,e.grow.ext,e.h▸mk,e.h▸r,q⟩
theorem set_data {b:Addr} (a:Addr) (t:τ b = .data):(τ.set a .data) b = .data:=by
 by_cases h:b=a
 ·exact if_pos h
 ·exact (if_neg h).trans t
theorem dk_data (a:Addr) (h:Heap):DKeep τ (τ.set a .data) h h:=fun b o e t=>⟨e,set_data a t⟩
theorem part_inj {a b:Addr} (h:Tag.part a = .part b):a=b:=congrArg (fun t=>match t with | .part a=>a | _=>0) h
theorem prt_ne {a b c x:Addr} (h1:τ c = .part b) (h2:τ x = .part a) (n:b ≠ a):c ≠ x:=fun e=>n (part_inj (h1.symm.trans (e▸h2)))
theorem data_ne {a b x:Addr} (h1:τ b = .data) (h2:τ x = .part a):b ≠ x:=fun e=>absurd (h1.symm.trans (e.symm▸h2:τ b = .part a)) (by rintro ⟨⟩)
theorem del_some {a b:Addr} {o:MO} (e:(M.del a) b=some o):b ≠ a∧M b=some o:=by
 unfold Mem.del at e
 by_cases h:b=a
 ·rw [if_pos h] at e; exact no e
 ·rw [if_neg h] at e; exact ⟨h,e⟩
theorem upd_some {a b:Addr} {o o':MO} (e:(M.upd a o') b=some o):(b=a∧o'=o)∨(b ≠ a∧M b=some o):=by
 unfold Mem.upd at e
 by_cases h:b=a
 ·rw [if_pos h] at e; exact .inl ⟨h,Option.some.inj e⟩
 ·rw [if_neg h] at e; exact .inr ⟨h,e⟩
theorem frz_list {a:Addr} {l:List PV} {Q:PV→Mem→Prop} (m:IsM C τ s.heap a l) (mk:MemOk C M τ s.heap) (hq:Q (.list l) (M.del a)):Post C τ s Q (.ref a) s:=by
 obtain ⟨x,y,z⟩:=m
 refine ⟨_,_,τ.set a .data,⟨fun b o e _ hp=>⟨e,Tags.set_ne _ _ fun e=>hp a (e▸y)⟩,rfl,rfl⟩,fun b o e=>?_,.list x (Tags.set_same ..) (z.mono (dk_data a _)),hq⟩
 obtain ⟨hb,e⟩:=del_some e
 exact (mk b o e).keep (dk_data a _) fun c ob e1 t1=>⟨e1,(Tags.set_ne _ _ (prt_ne t1 y hb)).trans t1⟩
theorem frz_ok {p:PV} {v:Value} {Q:PV→Mem→Prop} (hq:frzP p M Q) (r:VR C τ s.heap v p) (mk:MemOk C M τ s.heap):Post C τ s Q v s:=by
 cases p with
 | mref a =>
  obtain ⟨l,hm,hq⟩:=hq.run
  exact vr_m r▸frz_list (mem_list mk hm) mk hq
 | _=>exact PGS mk rfl r hq
inductive FPost (C:Cx) (τ:Tags) (s:Shared) (Q:List PV→Mem→Prop) (vs:List Value):Prop
 | mk (ps:List PV) (M':Mem) (τ':Tags) (x:Ext none τ τ' s s) (m:MemOk C M' τ' s.heap) (r:VRs C τ' s.heap vs ps) (q:Q ps M'):FPost C τ s Q vs
theorem frzs_ok:∀ {ps:List PV} {vs:List Value} {M:Mem} {τ:Tags} {Q:List PV→Mem→Prop},frzsP ps M Q→VRs C τ s.heap vs ps→MemOk C M τ s.heap→FPost C τ s Q vs
 | [],vs,M,τ,Q,hq,r,mk=>r.nil_i ⟨[],M,τ,Ext.refl ..,mk,.nil,hq⟩
 | p :: ps,vs,M,τ,Q,hq,r,mk=>r.cons_i fun v vs r1 r2=>by
  obtain ⟨p',M1,τ1,e1,m1,v1,q1⟩:=frz_ok (s:=s) (Q:=fun p M=>frzsP ps M fun r M=>Q (p :: r) M) hq r1 mk
  obtain ⟨ps',M2,τ2,e2,m2,v2,q2⟩:=frzs_ok q1 (r2.mono e1.dkeep) m1
  exact ⟨p' :: ps',M2,τ2,e1.trans e2,m2,.cons (v1.mono e2.dkeep) v2,q2⟩
theorem sb_dk {h h':Heap} {a c:Addr} (hc:τ c = .part a) (hs:Heap.SameBut c h h'):DKeep τ τ h h':=fun b ob e t=>⟨(hs.2 b (data_ne t hc)).trans e,t⟩
theorem upd_mem {s s':Shared} {a c:Addr} {o o':MO} (mk:MemOk C M τ s.heap) (hm:M a=some o) (hc:τ c = .part a) (hs:Heap.SameBut c s.heap s'.heap) (hn:MRel C τ s'.heap a o') (k:s'.os=s.os:=by rfl) (g:s'.gens=s.gens:=by rfl) :
  Ext none τ τ s s'∧MemOk C (M.upd a o') τ s'.heap:=by
 refine ⟨⟨fun b ob e _ hp=>⟨(hs.2 b (fun q=>hp a (q▸hc))).trans e,rfl⟩,k,g⟩,fun b ob e=>?_⟩
 rcases upd_some e with ⟨rfl,rfl⟩ | ⟨hb,e⟩
 ·exact hn
 ·exact (mk b ob e).keep (sb_dk hc hs) fun x oo e1 t1=>⟨(hs.2 x (prt_ne t1 hc hb)).trans e1,t1⟩
theorem fresh_none {h:Heap} (mk:MemOk C M τ h):M h.objs.size=none:=by
 cases hm:M h.objs.size with
 | none=>rfl
 | some o=>exact (mk _ _ hm).has.elim fun ob e=>absurd (Heap.lt_size e) (Nat.lt_irrefl _)
theorem Post.newMut' {Q:PV→Mem→Prop} {vs:List Value} {l:List PV} {s':Shared} {n:Nat} (mk:MemOk C M τ s.heap) (g0:∀ b o,s.heap.get? b=some o→s'.heap.get? b=some o)
  (e:s'.heap.get? s.heap.objs.size=some (lstObj vs n)) (r:VRs C τ s.heap vs l)
  (q:∀ a,M a=none→Q (.mref a) (M.upd a (.list l))) (ko:s'.os=s.os:=by rfl) (kg:s'.gens=s.gens:=by rfl):Post C τ s Q (.ref s.heap.objs.size) s':=by
 have g:Grow τ (τ.set s.heap.objs.size (.part s.heap.objs.size)) s s' :=
  ⟨fun b o eb=>⟨g0 b o eb,Tags.set_ne _ _ (Nat.ne_of_lt (Heap.lt_size eb))⟩,ko,kg⟩
 refine ⟨_,_,τ.set s.heap.objs.size (.part s.heap.objs.size),g.ext,fun b o eb=>?_,.mref _,q _ (fresh_none mk)⟩
 rcases upd_some eb with ⟨rfl,rfl⟩ | ⟨hb,eb⟩
 ·exact .list e (Tags.set_same ..) (r.mono g.ext.dkeep)
 ·exact mk.grow g b o eb
theorem Post.newMut {Q:PV→Mem→Prop} {vs:List Value} {l:List PV} {s':Shared} (mk:MemOk C M τ s.heap) (e:s'.heap=s.heap.push (lstObj vs 0)) (r:VRs C τ s.heap vs l)
  (q:∀ a,M a=none→Q (.mref a) (M.upd a (.list l))) (ko:s'.os=s.os:=by rfl) (kg:s'.gens=s.gens:=by rfl):Post C τ s Q (.ref s.heap.objs.size) s' :=
 Post.newMut' (n:=0) mk (fun b o eb=>e▸Heap.get?_push_of_some _ eb) (e▸Heap.get?_push_size _ rfl) r q ko kg
theorem upd_list {b:Addr} {l l':List PV} {ws:List Value} {n:Nat} {s':Shared} {Q:Mem→Prop} (mk:MemOk C M τ s.heap) (hm:M b=some (.list l)) (y:τ b = .part b) (hs:Heap.SameBut b s.heap s'.heap)
  (hg:s'.heap.get? b=some (lstObj ws n)) (r:VRs C τ s.heap ws l') (q:Q (M.upd b (.list l'))) (ko:s'.os=s.os:=by rfl) (kg:s'.gens=s.gens:=by rfl):Post C τ s (fun v M=>v = .none∧Q M) .none s':=by
 obtain ⟨e2,m2⟩:=upd_mem (o':=.list l') mk hm y hs (.list hg y (r.mono (sb_dk y hs))) ko kg
 exact ⟨.none,_,τ,e2,m2,.none,rfl,q⟩
noncomputable def mthId:Mth→String
 | .append=>"list.append" | .join=>"str.join" | .find=>"str.find" | .extend=>"list.extend"
noncomputable def mthT:Mth→String
 | .append=>"list" | .extend=>"list" | _=>"str"
theorem strsAre {h:Heap}:∀ {l:List PV} {vs:List Value} {ys:List (List Nat)},strsOf l=some ys→VRs C τ h vs l→StrsAre vs (ys.map fun y=>(⟨y.toArray⟩:Str))
 | [],vs,ys,e,r=>r.nil_i ((Option.some.inj e : []=ys)▸.nil)
 | p :: l,vs,ys,e,r=>r.cons_i fun v vs r1 r2=>by
  obtain ⟨t,e0,e⟩:=Option.bind_eq_some_iff.mp e
  obtain rfl:=strO_inv e0
  obtain ⟨zs,e1,rfl⟩:=Option.map_eq_some_iff.mp e
  exact r1.str_i fun k=>.cons _ _ (strsAre e1 r2)
theorem join_eq (sep:List Nat):∀ ys:List (List Nat),Str.join ⟨sep.toArray⟩ (ys.map fun y=>(⟨y.toArray⟩:Str))=⟨(joinL sep ys).toArray⟩
 | []=>rfl
 | [x]=>rfl
 | x :: y :: r=>by
  show (⟨x.toArray⟩:Str)++⟨sep.toArray⟩++Str.join ⟨sep.toArray⟩ ((y :: r).map fun y=>(⟨y.toArray⟩:Str))=⟨(x++sep++joinL sep (y :: r)).toArray⟩
  rw [join_eq sep (y :: r),str_app,str_app]
theorem find_one (l:List Nat) (c:Nat):(match Builtin.Str.occurrences ⟨l.toArray⟩ ⟨[c].toArray⟩ 0 (⟨l.toArray⟩:Str).length 1 with | i :: _=>(i:Int) | []=>-1) =
  (match l.findIdx? (· == c) with | some i=>(i:Int) | none=>-1):=by
 have key:=StrLaws.occ_head ⟨l.toArray⟩ ⟨#[c]⟩ 1 (Nat.le_refl _)
 have at1:∀ i,StrLaws.At ⟨l.toArray⟩ ⟨#[c]⟩ (⟨l.toArray⟩:Str).length i ↔ l[i]? = some c:=fun i=>by
  have:=StrLaws.subAt_one ⟨l.toArray⟩ c i
  simpa [StrLaws.At] using this
 rw [show (⟨[c].toArray⟩:Str)=⟨#[c]⟩ from rfl]
 rcases key with ⟨h1,h2⟩ | ⟨i,r,h1,h2,h3⟩
 ·rw [h1]
  have:l.findIdx? (· == c)=none:=by
   rw [List.findIdx?_eq_none_iff]
   intro x hx
   obtain ⟨k,hk⟩:=List.mem_iff_getElem?.mp hx
   rw [beq_eq_false_iff_ne]
   rintro rfl
   exact h2 k ((at1 k).mpr hk)
  rw [this]
 ·rw [h1]
  have hi:=(at1 i).mp h2
  obtain ⟨hlt,he⟩:=List.getElem?_eq_some_iff.mp hi
  have:l.findIdx? (· == c)=some i:=by
   rw [List.findIdx?_eq_some_iff_getElem]
   refine ⟨hlt,by rw [he]; simp,fun k hk=>?_⟩
   intro hq
   refine h3 k hk ((at1 k).mpr ?_)
   rw [List.getElem?_eq_getElem (by omega)]
   simpa using hq
  rw [this]
theorem vr_int {h:Heap} {a b:Int} {t:Tok} (e:a=b):VR C τ h (.int a t) (.int b):=e▸.int _ _
@[elab_as_elim] theorem VRs.one_i {h:Heap} {P:List Value→Prop} {vs:List Value} {p:PV} (r:VRs C τ h vs [p]) (q:∀ v,VR C τ h v p→P [v]):P vs :=
 r.cons_i fun v w a b=>b.nil_i (P:=fun w=>P (v :: w)) (q v a)
theorem not_dict {a:Addr} {vs:List Value} {n:Nat} (x:s.heap.get? a=some (lstObj vs n)):∀ b,Value.ref a = .ref b→∃ ob,s.heap.get? b=some ob∧ob.dict=none:=fun b hb=>⟨_,by injection hb with hb; subst hb; exact x,rfl⟩
theorem Post.none' {Q:PV→Mem→Prop} {Q':Mem→Prop} {h:Shared} {v s'} (k:∀ M,Q' M→Q .none M) (p:Post C τ h (fun v M=>v = .none∧Q' M) v s'):Post C τ h Q v s':=by
 obtain ⟨p,M',τ',x,m,r,e,q⟩:=p
 exact ⟨p,M',τ',x,m,r,e▸k _ q⟩
theorem Post.ste {τ':Tags} {h h':Shared} {Q:PV→Mem→Prop} {v s'} (x:Ext none τ τ' h h') (p:Post C τ' h' Q v s'):Post C τ h Q v s':=by
 obtain ⟨p,M,τ'',y,m,r,q⟩:=p
 exact ⟨p,M,τ'',x.trans y,m,r,q⟩
theorem append_ok {b:Nat} {x:PV} {v:Value} {Q:PV→Mem→Prop} (hq:frzP x M fun x M=>RdL M b fun l=>lenOk l.length∧Q .none (M.upd b (.list (l++[x])))) (r:VR C τ s.heap v x) (mk:MemOk C M τ s.heap) :
  wpAny (model C.prog C.w) A (call (.builtin "list.append") [.ref b,v]) (Post C τ s Q) NoE s:=by
 obtain ⟨x',M1,τ1,e1,m1,v1,hq⟩:=frz_ok (s:=s) hq r mk
 obtain ⟨l,hm,hq⟩:=hq.run
 obtain ⟨x,y,z⟩:=mem_list m1 hm
 refine call_meets F.slot_list_append ⟨_,x,rfl⟩ F.entry_list_append (F.args_list_append_2 _ _) (PySem.list_append b _ _ v (slot_len hq.1 z.length)) ⟨x,?_⟩
 exact (Post.none' (fun M q=>q) (upd_list (Q:=fun M=>Q .none M) m1 hm y (Heap.SameBut.update ..) (ws:=_++[v]) ((Heap.get?_update_self _ x rfl).trans (by simp [lstObj,Obj.mapSeq]; rfl)) (VRs.append (.cons v1 .nil) z) hq.2)).ste e1
theorem join_ok' {sp:List Nat} {x:PV} {a v:Value} {Q:PV→Mem→Prop} (hq:opt ((items x M).bind strsOf) fun l=>(l.map List.length).sum + l.length * sp.length ≤ 16777216∧Q (.str (joinL sp l)) M) (ra:VR C τ s.heap a (.str sp)) (r:VR C τ s.heap v x) (mk:MemOk C M τ s.heap) :
  wpAny (model C.prog C.w) A (call (.builtin "str.join") [a,v]) (Post C τ s Q) NoE s:=by
 obtain ⟨ys,hys,hq⟩:=opt_inv hq
 obtain ⟨l,h1,h2⟩:=Option.bind_eq_some_iff.mp hys
 obtain ⟨rfl,e,rr⟩:=items_is h1 r mk
 refine ra.str_i fun t=>PyProof.Rows.join_list (list_typeIs e) (strsAre h2 rr) ?_ fun t' k=>?_
 ·rw [str_len,List.map_map,List.length_map]
  exact (congrArg (fun f:List Nat→Nat=>(ys.map f).sum + ys.length * sp.length) (funext str_len)▸hq.1:_)
 ·rw [show Txt.join ⟨sp.toArray⟩ (ys.map fun y=>(⟨y.toArray⟩:Str))=⟨(joinL sp ys).toArray⟩ from (StrLaws.glued_eq_join _ _).trans (join_eq _ ys)]
  exact PGS mk rfl (.str _ _) hq.2
theorem find_ok {l:List Nat} {x:PV} {a v:Value} {Q:PV→Mem→Prop} (hq:strK x fun t=>chK t fun c=>Q (.int (match l.findIdx? (· == c) with | some i=>i | none=>-1)) M) (ra:VR C τ s.heap a (.str l)) (r:VR C τ s.heap v x) (mk:MemOk C M τ s.heap) :
  wpAny (model C.prog C.w) A (call (.builtin "str.find") [a,v]) (Post C τ s Q) NoE s:=by
 obtain ⟨w,rfl,q3⟩:=strK_inv hq
 obtain ⟨c,rfl,hq⟩:=chK_inv q3
 exact ra.str_i fun t=>r.str_i fun u=>call_gives F.slot_str_find (typeIs_str _ _ _) F.entry_str_find (F.args_str_find_2 _ _) (PySem.gives_str_find _ _ _ _) (PGS mk rfl (vr_int (find_one _ _)) hq)
theorem not_long {a b:Nat} (h:a + b ≤ sizeLine) (e:Bool):¬((!e && Builtin.List.listTooLong (a + b))=true):=fun w=>absurd h (Nat.not_le.mpr (of_decide_eq_true (bb w)))
theorem extend_ok {b:Nat} {x:PV} {v:Value} {Q:PV→Mem→Prop} (hq:itemsK x M fun xs=>RdL M b fun l=>lenOk (l.length + xs.length)∧Q .none (M.upd b (.list (l++xs)))) (r:VR C τ s.heap v x) (mk:MemOk C M τ s.heap) :
  wpAny (model C.prog C.w) A (call (.builtin "list.extend") [.ref b,v]) (Post C τ s Q) NoE s:=by
 obtain ⟨xs,hxs,hq⟩:=itemsK_inv hq
 obtain ⟨rfl,e,rr⟩:=items_is hxs r mk
 obtain ⟨l,hm,hq⟩:=hq.run
 obtain ⟨x,y,z⟩:=mem_list mk hm
 have hl:=sl_ok hq.1
 rw [← z.length,← rr.length] at hl
 refine call_meets F.slot_list_extend ⟨_,x,rfl⟩ F.entry_list_extend (F.args_list_extend_2 _ _) (PySem.AutoSeq1.list_extend_list_list_0 b _ _ _ _ _ (not_long hl _) (Nat.le_trans (Nat.le_add_right _ _) hl) (Nat.le_succ_of_le hl)) ⟨x,e,?_⟩
 exact Post.none' (fun M q=>q) (upd_list (Q:=fun M=>Q .none M) mk hm y (Heap.SameBut.update ..) (ws:=_++_) ((Heap.get?_update_self _ x rfl).trans (by simp only [lstObj,Obj.mapSeq,List.append_toArray]; rfl)) (VRs.append rr z) hq.2)
theorem meth_ok {m:Mth} {o:PV} {as:List PV} {a:Value} {vs:List Value} {Q:PV→Mem→Prop} (hq:methP m o as M Q) (ra:VR C τ s.heap a o) (rs:VRs C τ s.heap vs as) (mk:MemOk C M τ s.heap) :
  wpAny (model C.prog C.w) A (call (.builtin (mthId m)) (a :: vs)) (Post C τ s Q) NoE s:=by
 cases m
 ·obtain ⟨b,rfl,q1⟩:=refK_inv hq
  obtain ⟨x,rfl,q2⟩:=oneK_inv q1
  exact rs.one_i fun v r=>vr_m ra▸append_ok q2 r mk
 ·obtain ⟨sp,rfl,q1⟩:=strK_inv hq
  obtain ⟨x,rfl,q2⟩:=oneK_inv q1
  exact rs.one_i fun v r=>join_ok' q2 ra r mk
 ·obtain ⟨sp,rfl,q1⟩:=strK_inv hq
  obtain ⟨x,rfl,q2⟩:=oneK_inv q1
  exact rs.one_i fun v r=>find_ok q2 ra r mk
 ·obtain ⟨b,rfl,q1⟩:=refK_inv hq
  obtain ⟨x,rfl,q2⟩:=oneK_inv q1
  exact rs.one_i fun v r=>vr_m ra▸extend_ok q2 r mk
end
structure ClsOk (C:Cx):Prop where
 kin:C.K.In C.H
 ga:findIn C.K (.ref C.cls) "__getattribute__" = some (some (.builtin "object.__getattribute__"))
 sa:findIn C.K (.ref C.cls) "__setattr__" = some (some (.builtin "object.__setattr__"))
 hd:hasDictIn C.K C.cls=true
 po:plainOver C.K C.cls=true
 no:∀ k ∈ C.attrs,findIn C.K (.ref C.cls) ⟨k.toArray⟩=some none∧takerIn C.K C.cls ⟨k.toArray⟩=some none
 nd:C.attrs.Nodup
 few:C.attrs.length < 100
section
variable {C:Cx} {A:Around} {s:Shared} {τ:Tags} {M:Mem} {d:Nat}
theorem kin_of (O:ClsOk C) (B:Base C τ s.heap):C.K.In s.heap:=O.kin.keeps fun b o e=>(B b o e).1
theorem key_is {en:DictEntry} {k0 k:List Nat} {t:Tok} (h:en.key = .str ⟨k0.toArray⟩ t):en.key.isStr ⟨k.toArray⟩=(k0 == k):=by rw [h]; exact str_beq k0 k
theorem field_at:∀ {ks:List (List Nat)} {es:List DictEntry},fieldKeys C es ks→ks.Nodup→∀ {i:Nat} {k:List Nat},ks[i]? = some k →
  es.findIdx? (·.key.isStr ⟨k.toArray⟩)=some i∧es.find? (·.key.isStr ⟨k.toArray⟩)=es[i]?
 | [],es,h,_,i,k,e=>no e
 | k0 :: ks,es,h,nd,0,k,e=>fk_i h fun en r t h1 h3 h2=>by
  have q:=(key_is h1).trans (beq_iff_eq.mpr (Option.some.inj e))
  rw [List.findIdx?_cons,List.find?_cons,q]
  exact ⟨rfl,rfl⟩
 | k0 :: ks,es,h,nd,i + 1,k,e=>fk_i h fun en r t h1 h3 h2=>by
  obtain ⟨n1,n2⟩:=List.nodup_cons.mp nd
  have e':ks[i]? = some k:=e
  obtain ⟨a1,a2⟩:=field_at h2 n2 e'
  have q:=(key_is h1).trans (beq_eq_false_iff_ne.mpr fun w=>n1 (w▸List.mem_of_getElem? e'))
  rw [List.findIdx?_cons,List.find?_cons,q,a1,a2]
  exact ⟨rfl,rfl⟩
theorem field_none:∀ {ks:List (List Nat)} {es:List DictEntry} {k:List Nat},fieldKeys C es ks→k ∉ ks→es.findIdx? (·.key.isStr ⟨k.toArray⟩)=none
 | [],es,k,h,_=>nilP_i h rfl
 | k0 :: ks,es,k,h,nd=>fk_i h fun en r t h1 h3 h2=>by
  have a1:=field_none h2 fun w=>nd (List.mem_cons_of_mem _ w)
  have q:=(key_is h1).trans (beq_eq_false_iff_ne.mpr fun w=>nd (w▸List.mem_cons_self))
  rw [List.findIdx?_cons,q,a1]; rfl
theorem fk_len:∀ {ks:List (List Nat)} {es:List DictEntry},fieldKeys C es ks→es.length=ks.length
 | [],es,h=>nilP_i h rfl
 | k0 :: ks,es,h=>fk_i h fun en r t h1 h3 h2=>congrArg Nat.succ (fk_len h2)
theorem fk_ref:∀ {ks:List (List Nat)} {es:List DictEntry},fieldKeys C es ks→es.any (·.refKey)=false
 | [],es,h=>nilP_i h rfl
 | k0 :: ks,es,h=>fk_i h fun en r t h1 h3 h2=>by
  rw [List.any_cons,fk_ref h2]
  simp [DictEntry.refKey,h1]
theorem fk_set (v:Value):∀ {ks:List (List Nat)} {es:List DictEntry} (i:Nat),fieldKeys C es ks→fieldKeys C (es.modify i fun e=>{ e with val:=v }) ks
 | [],es,i,h=>nilP_i h (by cases i <;> exact trivial)
 | k0 :: ks,es,0,h=>fk_i h fun en r t h1 h3 h2=>⟨⟨⟨t,h1⟩,h3⟩,h2⟩
 | k0 :: ks,es,i + 1,h=>fk_i h fun en r t h1 h3 h2=>⟨⟨⟨t,h1⟩,h3⟩,fk_set v i h2⟩
theorem fk_push (t:Tok) (v:Value):∀ {ks:List (List Nat)} {es:List DictEntry} {k:List Nat},fieldKeys C es ks→fieldKeys C (es++[⟨PyData.keyHash C.w.params ⟨k.toArray⟩,.str ⟨k.toArray⟩ t,v⟩]) (ks++[k])
 | [],es,k,h=>nilP_i h ⟨⟨⟨t,rfl⟩,rfl⟩,trivial⟩
 | k0 :: ks,es,k,h=>fk_i h fun en r t' h1 h3 h2=>⟨⟨⟨t',h1⟩,h3⟩,fk_push t v h2⟩
theorem handed_vr {h:Heap} {v:Value} {p:PV} (r:VR C τ h v p) (hp:plainV p=true):handedIn v=true:=by
 cases p with
 | none=>exact vi_none r▸rfl
 | bool b=>exact vi_bool r▸rfl
 | int i=>exact r.int_i fun t=>rfl
 | str i=>exact r.str_i fun t=>rfl
 | tup i=>exact r.tup_i fun _ _ _ _ _ _=>rfl
 | list i=>exact r.list_i fun _ _ _ _ _ _=>rfl
 | mref a=>exact vr_m r▸rfl
 | dict a b=>exact r.dict_i fun _ _ _ _ _ _ _ _=>rfl
 | cls=>exact vr_cls r▸rfl
 | _=>exact nb hp
theorem look_at {k:List Nat} {od:Obj} {es:List DictEntry} {m i:Nat} {v:Value} (w:od.data = .dict es.toArray m) (f:es.find? (·.key.isStr ⟨k.toArray⟩)=es[i]?) (h:(es.map (·.val))[i]? = some v):lookIn ⟨k.toArray⟩ od=some (some v):=by
 rw [List.getElem?_map] at h
 obtain ⟨e0,h3,h4⟩:=Option.map_eq_some_iff.mp h
 unfold lookIn
 rw [w]
 simp only [f,h3,h4]
theorem take_at {α:Type} {l:List α} {n i:Nat} {k:α} (h:i < n) (e:l[i]? = some k):(l.take n)[i]? = some k:=by rw [List.getElem?_take,if_pos h]; exact e
theorem get_ok {o:PV} {i:Nat} {a:Value} {k:List Nat} {Q:PV→Prop} {ex:Bool} (O:ClsOk C) (B:Base C τ s.heap) (hk:C.attrs[i]? = some k) (hq:attrP o i M Q) (ra:VR C τ s.heap a o) (mk:MemOk C M τ s.heap) :
  wpAny (model C.prog C.w) A (getAttr a ⟨k.toArray⟩ ex) (PG C τ s Q) NoE s:=by
 obtain ⟨b,rfl,hq⟩:=refK_inv hq
 obtain ⟨l,hm,hq⟩:=hq.run
 obtain ⟨p,hp,hq⟩:=opt_inv hq
 obtain ⟨x,y,z,w,n,f,g,q,r⟩:=mem_obj mk hm
 obtain ⟨v',h1,h2⟩:=r.get hp
 have f2:=(field_at q (List.Nodup.sublist (List.take_sublist ..) O.nd) (take_at (List.getElem?_eq_some_iff.mp hp).1 hk)).2
 exact vr_m ra▸get_value (kin_of O B) ⟨x,rfl,rfl,z⟩ O.ga (findObj_own O.hd (O.no k (List.mem_of_getElem? hk)).1 rfl (look_at w f2 h1)) (handed_vr h2 hq.1) (PG.same rfl h2 hq.2)
theorem osa_raw {x dx:Addr} {od:Obj} {k:List Nat} {tk:Tok} {v:Value} {es:List DictEntry} {n:Nat} {R:Result→Shared→Prop} (X:C.K.In s.heap)
  (hx:s.heap.get? x=some { cls:=.ref C.cls,dict:=some dx }) (hn:s.heap.get? dx=some od) (hd:od.data = .dict es.toArray n) (O:ClsOk C) (ht:takerIn C.K C.cls ⟨k.toArray⟩=some none)
  {es':List DictEntry} {n':Nat} (he:(Obj.putName ⟨k.toArray⟩ (PyData.keyHash C.w.params ⟨k.toArray⟩) (.str ⟨k.toArray⟩ s.toks) v od).data = .dict es'.toArray n') (hz:es'.length ≤ 1000) {ks:List (List Nat)} (fk:fieldKeys C es ks)
  (h:∀ h',Heap.SameBut dx s.heap h'→h'.get? dx=some (Obj.putName ⟨k.toArray⟩ (PyData.keyHash C.w.params ⟨k.toArray⟩) (.str ⟨k.toArray⟩ s.toks) v od)→R (.ok (.ret .none)) { s with heap:=h',toks:=s.toks + 1 }) :
  codeAny (model C.prog C.w) A (.call (.builtin "object.__setattr__") ⟨[.ref x,.str ⟨k.toArray⟩ tk,v],[]⟩) R s:=by
 have I:PySem.W.InstAt s.heap x { cls:=.ref C.cls,dict:=some dx } C.cls (some od):=⟨hx,rfl,rfl,hn⟩
 refine osa_open X I O.po ht fun b=>?_
 obtain ⟨cd,hc,hd'⟩:=any_some O.hd
 refine wpAny_bind (wpAny_pure (wpAny_bind (wpAny_bind (wpAny_loadPart hx (wpAny_bind ((looks_clsIn X hc).here ?_))))))
 rw [hd']
 refine wpAny_pure (a:=some dx) (wpAny_bind (wpAny_pure (wpAny_bind ?_)))
 unfold nsSet
 refine wpAny_bind (wpAny_bind (wpAny_askSetting (wpAny_pure (wpAny_bind (wpAny_mkText (wpAny_bind (wpAny_loadPart hn ?_)))))))
 rw [hd]
 dsimp only
 have c:es.toArray.any (·.refKey)=false:=by rw [← Array.any_toList]; exact fk_ref fk
 rw [aRefKeyMayBeTheName_at,c,Bool.and_false]
 refine wpAny_updatePart hn ?_
 have hg:=Heap.get?_update_self (Obj.putName ⟨k.toArray⟩ (PyData.keyHash C.w.params ⟨k.toArray⟩) (.str ⟨k.toArray⟩ s.toks) v) hn (by revert he; generalize Obj.putName ⟨k.toArray⟩ (PyData.keyHash C.w.params ⟨k.toArray⟩) (.str ⟨k.toArray⟩ s.toks) v od=oo; intro he; obtain ⟨_,_,dd,_⟩:=oo; dsimp only at he; subst he; rfl)
 refine wpAny_bind (wpAny_lookBehind hg (by rw [he]; exact pastItsLine_dict (by rw [List.size_toArray,sizeLine_eq]; omega)) ?_)
 exact wpAny_pure (h _ (Heap.SameBut.update ..) hg)
theorem put_at {od:Obj} {es:List DictEntry} {n i:Nat} {name:Str} {h:Int} {key v:Value} (hd:od.data = .dict es.toArray n) (hi:es.findIdx? (·.key.isStr name)=some i) :
  (Obj.putName name h key v od).data = .dict (es.modify i fun e=>{ e with val:=v }).toArray n:=by
 obtain ⟨c,d,dt,sl⟩:=od
 subst hd
 simp only [Obj.putName_eq,Obj.putNameByArray,List.findIdx?_toArray,hi,List.modify_toArray]
theorem put_new {od:Obj} {es:List DictEntry} {n:Nat} {name:Str} {h:Int} {key v:Value} (hd:od.data = .dict es.toArray n) (hi:es.findIdx? (·.key.isStr name)=none) :
  (Obj.putName name h key v od).data = .dict (es++[({ hash:=h,key:=key,val:=v }:DictEntry)]).toArray (n + 1):=by
 obtain ⟨c,d,dt,sl⟩:=od
 subst hd
 simp only [Obj.putName_eq,Obj.putNameByArray,List.findIdx?_toArray,hi,List.push_toArray]
theorem map_modify (v:Value):∀ (es:List DictEntry) (i:Nat),(es.modify i fun e=>{ e with val:=v }).map (·.val)=(es.map (·.val)).set i v
 | [],0=>rfl
 | [],i + 1=>rfl
 | e :: es,0=>rfl
 | e :: es,i + 1=>congrArg (List.cons e.val) (map_modify v es i)
theorem inst_at {b dx:Addr} {od:Obj} (x:s.heap.get? b=some { cls:=.ref C.cls,dict:=some dx }) (z:s.heap.get? dx=some od):PySem.W.InstAt s.heap b { cls:=.ref C.cls,dict:=some dx } C.cls (some od):=⟨x,rfl,rfl,z⟩
inductive MPost (C:Cx) (τ:Tags) (h:Shared) (Q:Mem→Prop) (s':Shared):Prop
 | mk (M':Mem) (τ':Tags) (x:Ext none τ τ' h s') (m:MemOk C M' τ' s'.heap) (q:Q M'):MPost C τ h Q s'
theorem few_le (O:ClsOk C) {n:Nat} (h:n ≤ C.attrs.length + 1):n ≤ 1000:=Nat.le_trans h (Nat.le_trans O.few (by decide))
theorem set_old {b i:Nat} {l:List PV} {p:PV} {v:Value} {k:List Nat} {Q:Mem→Prop} (O:ClsOk C) (B:Base C τ s.heap) (hk:C.attrs[i]? = some k) (mk:MemOk C M τ s.heap) (hm:M b=some (.obj l)) (rv:VR C τ s.heap v p) (hl:i < l.length) (hq:Q (M.upd b (.obj (l.set i p)))) :
  wpAny (model C.prog C.w) A (setAttr (.ref b) ⟨k.toArray⟩ v) (fun _=>MPost C τ s Q) NoE s:=by
 obtain ⟨x,y,z,w,n,f,g,q,r⟩:=mem_obj mk hm
 have X:=kin_of O B
 have f1:=(field_at q (List.Nodup.sublist (List.take_sublist ..) O.nd) (take_at hl hk)).1
 have el:=fk_len q
 refine set_plain X (inst_at x z) O.sa (osa_raw (s:={ s with toks:=s.toks + 1 }) X x z w O (O.no k (List.mem_of_getElem? hk)).2 (put_at w f1) (few_le O (by rw [List.length_modify,el,List.length_take]; exact Nat.le_succ_of_le (Nat.min_le_right _ _))) q fun h' hs hg=>?_)
 have k1:=sb_dk n hs
 obtain ⟨e2,m2⟩:=upd_mem (s':={ s with heap:=h',toks:=s.toks + 1 + 1 }) (o':=.obj (l.set i p)) mk hm n hs (.obj ((hs.2 b f).trans x) y hg (put_at w f1) n f (by rw [List.length_set]; exact g)
  (by rw [List.length_set]; exact fk_set v i q) (by rw [map_modify]; exact VRs.set (rv.mono k1) (r.mono k1) i))
 exact ⟨_,τ,e2,m2,hq⟩
theorem set_new {b:Nat} {l:List PV} {p:PV} {v:Value} {k:List Nat} {Q:Mem→Prop} (O:ClsOk C) (B:Base C τ s.heap) (hk:C.attrs[l.length]? = some k) (mk:MemOk C M τ s.heap) (hm:M b=some (.obj l)) (rv:VR C τ s.heap v p) (hq:Q (M.upd b (.obj (l++[p])))) :
  wpAny (model C.prog C.w) A (setAttr (.ref b) ⟨k.toArray⟩ v) (fun _=>MPost C τ s Q) NoE s:=by
 obtain ⟨x,y,z,w,n,f,g,q,r⟩:=mem_obj mk hm
 have X:=kin_of O B
 have el:=fk_len q
 have tk:C.attrs.take (l.length + 1)=C.attrs.take l.length++[k]:=by rw [List.take_add_one,hk]; rfl
 have nk:k ∉ C.attrs.take l.length:=fun h=>by
  have:=List.Nodup.sublist (List.take_sublist (l.length + 1) _) O.nd
  rw [tk,List.nodup_append] at this
  exact this.2.2 k h k List.mem_cons_self rfl
 have f1:=field_none q nk
 refine set_plain X (inst_at x z) O.sa (osa_raw (s:={ s with toks:=s.toks + 1 }) X x z w O (O.no k (List.mem_of_getElem? hk)).2 (put_new w f1) (few_le O (by rw [List.length_append,el,List.length_take]; exact Nat.succ_le_succ (Nat.min_le_right _ _))) q fun h' hs hg=>?_)
 have k1:=sb_dk n hs
 obtain ⟨e2,m2⟩:=upd_mem (s':={ s with heap:=h',toks:=s.toks + 1 + 1 }) (o':=.obj (l++[p])) mk hm n hs (.obj ((hs.2 b f).trans x) y hg (put_new w f1) n f (by rw [List.length_append]; exact (List.getElem?_eq_some_iff.mp hk).1)
  (by rw [List.length_append,List.length_singleton,tk]; exact fk_push _ _ q) (by rw [List.map_append]; exact VRs.append (.cons (rv.mono k1) .nil) (r.mono k1)))
 exact ⟨_,τ,e2,m2,hq⟩
theorem MPost.ste {τ':Tags} {h h':Shared} {Q:Mem→Prop} {s'} (x:Ext none τ τ' h h') (p:MPost C τ' h' Q s'):MPost C τ h Q s':=by
 obtain ⟨M',τ'',y,m,q⟩:=p
 exact ⟨M',τ'',x.trans y,m,q⟩
theorem set_ok {o:PV} {i:Nat} {p:PV} {a v:Value} {k:List Nat} {Q:Mem→Prop} (O:ClsOk C) (B:Base C τ s.heap) (hk:C.attrs[i]? = some k) (hq:setP o i p M Q) (ra:VR C τ s.heap a o) (rv:VR C τ s.heap v p)
  (mk:MemOk C M τ s.heap):wpAny (model C.prog C.w) A (setAttr a ⟨k.toArray⟩ v) (fun _=>MPost C τ s Q) NoE s:=by
 obtain ⟨b,rfl,hq0⟩:=refK_inv hq
 obtain ⟨p',M1,τ1,e1,m1,v1,hq⟩:=frz_ok (s:=s) hq0 rv mk
 obtain ⟨l,hm,hle,hq1⟩:=hq.run
 refine vr_m ra▸wpAny_mono (?_:wpAny _ _ _ (fun _=>MPost C τ1 s Q) _ _) (fun _ s' q=>q.ste e1) fun _ _ e=>e
 by_cases hl:i < l.length
 ·rw [if_pos hl] at hq1
  exact set_old O (B.ext e1) hk m1 hm v1 hl hq1
 ·rw [if_neg hl] at hq1
  obtain rfl:=Nat.le_antisymm hle (Nat.le_of_not_lt hl)
  exact set_new O (B.ext e1) hk m1 hm v1 hq1
end
section
variable {C:Cx} {A:Around} {s:Shared} {τ:Tags} {M:Mem} {d:Nat}
theorem i63 {n m:Nat} (h:lenOk n) (e:m=n):(m:Int) < 2 ^ 63:=Int.lt_of_le_of_lt (Int.ofNat_le.mpr (e▸h:m ≤ 10000000)) (by decide)
theorem emp_of {vs:List Value} {l:List PV} {b:Bool} (e:vs.length=l.length) (h:(!l.isEmpty)=b):(!vs.toArray.isEmpty)=b:=by
 rw [List.isEmpty_toArray,← h]
 cases vs <;> cases l <;> first | rfl | exact nz e | exact ns e
theorem truth_ok {p:PV} {v:Value} {b:Bool} {Q:Bool→Shared→Prop} {E:Value→Shared→Prop} (e:truth p M=some b) (ra:VR C τ s.heap v p)
  (h:∀ s',Same s s'→Q b s'):wpAny (model C.prog C.w) A (truthy v) Q E s:=by
 cases p with
 | none=>exact vi_none ra▸fun _ _ _=>(show Q false _ from (Option.some.inj e:false=b).symm▸h _ rfl)
 | bool c=>exact vi_bool ra▸wpAny_truthy_bool (Option.some.inj e▸h _ rfl)
 | int i=>exact ra.int_i fun t=>P.truthy_int ((Option.some.inj e:(i != 0)=b)▸h _ rfl)
 | tup l =>
  obtain ⟨hl,e⟩:=itp_inv e
  exact ra.tup_i fun a vs n e1 e2 r=>PyProof.Rows.truthy_tuple (tup_typeIs e1) (i63 hl r.length) (emp_of r.length e▸h _ rfl)
 | list l =>
  obtain ⟨hl,e⟩:=itp_inv e
  exact ra.list_i fun a vs n e1 e2 r=>wpAny_truthy_list (list_typeIs e1) (i63 hl r.length) (emp_of r.length e▸h _ rfl)
 | _=>exact no e
theorem dec_str (i:Int):Str.ofString (toString i)=⟨(dec i).toArray⟩:=by
 unfold dec
 cases h:Str.ofString (toString i)
 simp
theorem isi_tup {x:PV} {v:Value} {b:Bool} {Q:Value→Shared→Prop} {E:Value→Shared→Prop} (e:isTup x=some b) (r:VR C τ s.heap v x) (h:∀ s',Same s s'→Q (.bool b) s') :
  wpAny (model C.prog C.w) A (call (.builtin "isinstance") [v,.type "tuple"]) Q E s:=by
 cases x with
 | bool c=>exact vi_bool r▸IsiPair.bool_tuple ((Option.some.inj e:false=b)▸h _ rfl)
 | int i=>exact r.int_i fun t=>IsiPair.int_tuple ((Option.some.inj e:false=b)▸h _ rfl)
 | str i=>exact r.str_i fun t=>IsiPair.str_tuple ((Option.some.inj e:false=b)▸h _ rfl)
 | tup l=>exact r.tup_i fun a vs n e1 _ _=>IsiPair.tuple_tuple e1 rfl ((Option.some.inj e:true=b)▸h _ rfl)
 | list l=>exact r.list_i fun a vs n e1 _ _=>IsiPair.list_tuple e1 rfl ((Option.some.inj e:false=b)▸h _ rfl)
 | _=>exact no e
theorem isi_lst {x:PV} {v:Value} {b:Bool} {Q:Value→Shared→Prop} {E:Value→Shared→Prop} (e:isLst x=some b) (r:VR C τ s.heap v x) (h:∀ s',Same s s'→Q (.bool b) s') :
  wpAny (model C.prog C.w) A (call (.builtin "isinstance") [v,.type "list"]) Q E s:=by
 cases x with
 | bool c=>exact vi_bool r▸IsiPair.bool_list ((Option.some.inj e:false=b)▸h _ rfl)
 | int i=>exact r.int_i fun t=>IsiPair.int_list ((Option.some.inj e:false=b)▸h _ rfl)
 | str i=>exact r.str_i fun t=>IsiPair.str_list ((Option.some.inj e:false=b)▸h _ rfl)
 | tup l=>exact r.tup_i fun a vs n e1 _ _=>IsiPair.tuple_list e1 rfl ((Option.some.inj e:false=b)▸h _ rfl)
 | list l=>exact r.list_i fun a vs n e1 _ _=>IsiPair.list_list e1 rfl ((Option.some.inj e:true=b)▸h _ rfl)
 | _=>exact no e
@[elab_as_elim] theorem VRs.two_i {h:Heap} {P:List Value→Prop} {vs:List Value} {p q:PV} (r:VRs C τ h vs [p,q]) (k:∀ v w,VR C τ h v p→VR C τ h w q→P [v,w]):P vs :=
 r.cons_i fun v w a b=>b.one_i (P:=fun w=>P (v :: w)) fun w c=>k v w a c
theorem int_post {n m:Nat} {t:Tok} {Q:PV→Mem→Prop} {s':Shared} (mk:MemOk C M τ s.heap) (e:Same s s') (h:m=n) (hq:Q (.int n) M):Post C τ s Q (.int m t) s':=PGS mk e (vr_int (h▸rfl)) hq
theorem len_list {l:List PV} {v:Value} {Q:PV→Mem→Prop} (L:IsLs C τ s.heap l v) (hq:lenOk l.length∧Q (.int l.length) M) (mk:MemOk C M τ s.heap):wpAny (model C.prog C.w) A (call (.builtin "len") [v]) (Post C τ s Q) NoE s:=by
 obtain ⟨rfl,e1,r⟩:=L
 exact call_len_list (list_typeIs e1) (i63 hq.1 r.length) (int_post mk rfl r.length hq.2)
theorem len_ok {x:PV} {v:Value} {Q:PV→Mem→Prop} (hq:lenP x M fun v=>Q v M) (r1:VR C τ s.heap v x) (mk:MemOk C M τ s.heap):wpAny (model C.prog C.w) A (call (.builtin "len") [v]) (Post C τ s Q) NoE s:=by
 cases x with
 | str l=>exact r1.str_i fun t=>P.len_str (Int.not_le.mpr (i63 hq.1 (str_len l))) (int_post mk rfl (str_len l) hq.2)
 | tup l=>exact r1.tup_i fun a vs n e1 e2 r=>PyProof.Rows.len_tuple (tup_typeIs e1) (i63 hq.1 r.length) (int_post mk rfl r.length hq.2)
 | list l=>exact len_list (items_is rfl r1 mk) hq mk
 | mref a =>
  obtain ⟨l,e,hq⟩:=hq.run
  exact len_list (items_is (p:=.mref _) (congrArg mol e) r1 mk) hq mk
 | _=>exact False.elim hq
theorem log_few {n:Nat} (h:n < 1000):n.log2 < 1920:=by
 by_cases h0:n=0
 ·rw [h0]; decide
 ·exact (Nat.log2_lt h0).mpr (Nat.lt_of_lt_of_le (Nat.lt_trans h (by decide:1000 < 2 ^ 10)) (Nat.pow_le_pow_right (by decide) (by decide)))
theorem dec_ok {i:Int} {t:Tok} {Q:PV→Mem→Prop} (h1:0 ≤ i) (h2:i < 1000) (hq:Q (.str (dec i)) M) (mk:MemOk C M τ s.heap):wpAny (model C.prog C.w) A (call (.type "str") [.int i t]) (Post C τ s Q) NoE s:=by
 obtain ⟨n,rfl⟩:=Int.eq_ofNat_of_zero_le h1
 refine P.str_of_int (log_few (Int.ofNat_lt.mp h2)) (PGS mk rfl ?_ hq)
 show VR C τ s.heap (.str (Str.ofString (toString (n:Int))) s.toks) _
 rw [dec_str]
 exact .str _ _
theorem isi_ok {t:Nat} {x:PV} {v:Value} {Q:PV→Mem→Prop} (hq:match t with | 5=>opt (isLst x) fun b=>Q (.bool b) M | 6=>opt (isTup x) fun b=>Q (.bool b) M | _=>False) (r1:VR C τ s.heap v x) (mk:MemOk C M τ s.heap) :
  wpAny (model C.prog C.w) A (call (.builtin "isinstance") [v,bvT t]) (Post C τ s Q) NoE s:=by
 rcases t with _ | _ | _ | _ | _ | _ | _ | t <;> first | exact False.elim hq | skip
 ·obtain ⟨bb,hbb,hq⟩:=opt_inv hq; exact isi_lst hbb r1 fun s' e=>PGS mk e (.bool _) hq
 ·obtain ⟨bb,hbb,hq⟩:=opt_inv hq; exact isi_tup hbb r1 fun s' e=>PGS mk e (.bool _) hq
theorem chr_go {i:Int} {t:Tok} {Q:PV→Mem→Prop} (h:0 ≤ i∧i < 256) (hq:Q (.str [i.toNat]) M) (mk:MemOk C M τ s.heap):wpAny (model C.prog C.w) A (call (.builtin "chr") [.int i t]) (Post C τ s Q) NoE s :=
 P.chr_of_int (by rw [decide_eq_false (Int.not_lt.mpr h.1),decide_eq_false (Int.not_lt.mpr (Int.le_trans (Int.le_of_lt h.2) (by decide)))]; rfl) (PGS mk rfl (.str [_] _) hq)
@[elab_as_elim] theorem oneV {h:Heap} {P:List Value→Prop} {K:PV→Prop} {vs:List Value} {as:List PV} (hq:oneK as K) (rs:VRs C τ h vs as) (q:∀ x v,K x→VR C τ h v x→P [v]):P vs:=by
 obtain ⟨x,rfl,hq⟩:=oneK_inv hq
 exact rs.one_i fun v r=>q x v hq r
theorem bi_ok {b:Nat} {as:List PV} {vs:List Value} {Q:PV→Mem→Prop} (hb:C.bv=bvT) (hq:biP b as M Q) (rs:VRs C τ s.heap vs as) (mk:MemOk C M τ s.heap) :
  wpAny (model C.prog C.w) A (call (C.bv b) vs) (Post C τ s Q) NoE s:=by
 rw [hb]
 rcases b with _ | _ | _ | _ | _ | _ | b
 ·exact oneV hq rs fun x v hq r1=>len_ok hq r1 mk
 ·refine oneV hq rs fun x v hq r1=>?_
  obtain ⟨i,rfl,hq⟩:=intK_inv hq
  exact r1.int_i fun t=>dec_ok hq.1.1 hq.1.2 hq.2 mk
 ·refine oneV hq rs fun x v hq r1=>?_
  obtain ⟨i,rfl,hq⟩:=intK_inv hq
  exact r1.int_i fun t=>chr_go hq.1 hq.2 mk
 ·refine oneV hq rs fun x v hq r1=>?_
  obtain ⟨l,rfl,hq⟩:=strK_inv hq
  obtain ⟨c,rfl,hq⟩:=chK_inv hq
  exact r1.str_i fun t=>P.ord_of_char (PGS mk rfl (.int _ _) hq)
 ·obtain ⟨x,y,rfl,hq⟩:=twoK_inv hq
  obtain ⟨t,rfl,hq⟩:=biK_inv hq
  refine rs.two_i fun v w r1 r2=>?_
  rw [vr_bi r2,hb]
  exact isi_ok hq r1 mk
 ·refine oneV hq rs fun x v hq r1=>?_
  obtain ⟨l,rfl,hq⟩:=lstK_inv hq
  exact r1.list_i fun a vs n e1 e2 r=>call_list_seq (hsz:=slot_len hq.1 r.length) _ (.inl rfl) e1 rfl rfl fun h' c' hk hD=>Post.newMut' (n:=c') mk hk hD r hq.2
 ·exact False.elim hq
end
section
variable {C:Cx} {A:Around} {s:Shared} {τ:Tags} {M:Mem} {d:Nat}
theorem wpAny_letGo {M:Model} {E:Value→Shared→Prop} {Q:Unit→Shared→Prop}:∀ (l k:List Value) {s:Shared},Q () s→wpAny M A (letGo l k) Q E s
 | [],_,_,h=>wpAny_pure h
 | _ :: r,k,_,h=>wpAny_bind (wpAny_holding (wpAny_point (wpAny_letGo r k h)))
theorem wpAny_listItems {M:Model} {E:Value→Shared→Prop} {a:Addr} {xs:List Value} {n:Nat} {Q:Array Value→Shared→Prop} (h:s.heap.get? a=some (lstObj xs n)) (q:Q xs.toArray s) :
  wpAny M A (Builtin.List.listItems (.ref a)) Q E s:=by
 unfold Builtin.List.listItems
 exact wpAny_bind (wpAny_seqItems h rfl (wpAny_pure q))
theorem set_all {l sl c:Addr} {xs ys:List Value} {n m:Nat} {Q:Unit→Shared→Prop} {E:Value→Shared→Prop} (hl:s.heap.get? l=some (lstObj xs n)) (hs:s.heap.IsSliceOf sl .none .none .none) (hc:s.heap.get? c=some (lstObj ys m))
  (hne:l ≠ c) (hz:xs.length + ys.length ≤ sizeLine) (h:∀ h' n',h'.get? l=some (lstObj ys n')→Heap.SameBut l s.heap h'→Q () { s with heap:=h' }) :
  wpAny (model C.prog C.w) A (setItem (.ref l) (.ref sl) (.ref c)) Q E s:=by
 obtain ⟨os,hos,hcs,hds⟩:=id hs
 have hTs:s.TypeIs (.ref sl) "slice":=⟨os,hos,hcs⟩
 have hT:s.TypeIs (.ref l) "list":=⟨_,hl,rfl⟩
 have hTc:s.TypeIs (.ref c) "list":=⟨_,hc,rfl⟩
 unfold setItem
 refine wpAny_holding ?_
 refine wpAny_bind (wpAny_sequenceKey hT (by decide) ?_)
 refine wpAny_bind (wpAny_callSpecial?_slot (name:=Str.ofString "__setitem__") hT F.slot_list_setitem
  (wpAny_call_entry F.slot_list_setitem hT F.entry_list_setitem ?_ (F.args_list_setitem_3 _ _ _)))
 show wpAny _ _ (Builtin.List.listSubscript? (.ref sl) >>= _) _ _ s
 refine wpAny_bind ?_
 unfold Builtin.List.listSubscript?
 refine wpAny_bind (wpAny_specialOf hTs slice_no_index ?_)
 simp only [Option.isNone_none,if_true]
 refine wpAny_pure ?_
 show wpAny _ _ (typeOf (.ref sl) >>= _) _ _ s
 refine wpAny_bind (wpAny_typeOf hTs ?_)
 rw [if_neg (by decide)]
 rw [listSliceParts_eq]
 refine wpAny_bind (wpAny_bind (wpAny_field hos hds (x:=.none) rfl (wpAny_bind (wpAny_listPart .none ?_))))
 rw [if_neg (by decide)]
 refine wpAny_bind (wpAny_field hos hds (x:=.none) rfl (wpAny_bind (wpAny_listPart .none ?_)))
 refine wpAny_bind (wpAny_field hos hds (x:=.none) rfl (wpAny_bind (wpAny_listPart .none (wpAny_pure ?_))))
 dsimp only
 have e0:Builtin.List.listSameRef (.ref l) (.ref c)=false:=by simp [Builtin.List.listSameRef]; exact hne
 rw [e0]
 show wpAny _ _ (Builtin.List.listAllItems (.ref c) _ >>= _) _ _ s
 refine wpAny_bind ?_
 unfold Builtin.List.listAllItems
 refine wpAny_bind (wpAny_typeOf hTc ?_)
 rw [if_pos (by decide)]
 refine wpAny_listItems hc ?_
 refine wpAny_bind (wpAny_listItems hl ?_)
 refine wpAny_bind (wpAny_of_eq (sliceIndices_raw none none none xs.toArray.size (by simp)) ?_)
 have e1:sliceBounds none none none xs.toArray.size=(0,(xs.length:Int),1):=by simp [sliceBounds]
 rw [e1]
 dsimp only
 rw [if_pos (by decide)]
 refine wpAny_bind (wpAny_rule ?_)
 have e2:Builtin.List.listTooLong (xs.toArray.size + ys.toArray.size)=false:=by simp [Builtin.List.listTooLong]; exact hz
 rw [e2]
 have ef:((xs.toArray.extract 0 (Int.toNat 0)++ys.toArray)++xs.toArray.extract (max 0 (xs.length:Int)).toNat xs.toArray.size)=ys.toArray:=by
  simp
 refine wpAny_bind ?_
 show wpAny _ _ (updateSeq l _) _ _ s
 refine wpAny_updateSeq hl rfl ?_ (by simp; omega) (by rw [ef]; simp; omega)
 refine wpAny_bind (wpAny_letGo _ _ ?_)
 refine wpAny_pure ⟨_,rfl,wpAny_pure ?_⟩
 have hg:=Heap.get?_update_self (Obj.mapSeq fun xs':Array Value=>(xs'.extract 0 (Int.toNat 0)++ys.toArray)++xs'.extract (max 0 (xs.length:Int)).toNat xs'.size) hl rfl
 refine h _ (if (ys.toArray.size == xs.toArray.size)=true then n else n + 1) ?_ (Heap.SameBut.update ..)
 refine hg.trans ?_
 simp only [Obj.mapSeq,lstObj,ef]
theorem setslc_ok {b:Value} {ad:Addr} {l ys:List PV} {Q:Mem→Prop} (hm:M ad=some (.list l)) (rb:VR C τ s.heap b (.list ys)) (mk:MemOk C M τ s.heap) (hz:lenOk (l.length + ys.length))
  (hq:Q (M.upd ad (.list ys))) :
  wpAny (model C.prog C.w) A (setItem (.ref ad) (.ref s.heap.objs.size) b) (fun _=>MPost C τ s Q) NoE (Shared.sl s .none .none):=by
 obtain ⟨x,y,z⟩:=mem_list mk hm
 refine rb.list_i fun c vs k e1 e2 r=>?_
 have g:Grow τ (τ.set s.heap.objs.size .other) s (Shared.sl s .none .none):=grow_push τ s (slObj .none .none) .other
 have y':=(g.keep _ _ x).2.trans y
 refine set_all (s:=Shared.sl s .none .none) (g.keep _ _ x).1 (Heap.IsSliceOf.new s.heap .none .none .none) (g.keep _ _ e1).1 (data_ne e2 y).symm (sl_ok (z.length▸r.length▸hz)) fun h' n' e hs=>?_
 obtain ⟨e3,m3⟩:=upd_mem (s':={ Shared.sl s .none .none with heap:=h' }) (o':=.list ys) (mk.grow g) hm y' hs (.list e y' ((r.mono g.ext.dkeep).mono (sb_dk y' hs)))
 exact ⟨_,_,g.ext.trans e3,m3,hq⟩
end
theorem dk {c:Prop} [Decidable c] {K:c→Bool} {P:Prop} (h:(if w:c then K w else false)=true) (q:∀ w,K w=true→P):P:=by
 by_cases w:c
 ·rw [dif_pos w] at h; exact q w h
 ·rw [dif_neg w] at h; exact nb h
@[elab_as_elim] theorem kBoolOp_i {P:Expr→Prop} {x:Expr} {K:BoolOp→(List Expr)→Pos→Bool} (h:kBoolOp x K=true) (q:∀ a b c,K a b c=true→P (.BoolOp a b c)):P x :=
 dk h fun w h=>@Expr.BoolOp.elim (fun x=>(w:x.ctorIdx=0)→@Expr.BoolOp.elim (fun _=>Bool) x w K=true→P x) x w (fun a b c w h=>q a b c h) w h
@[elab_as_elim] theorem kBinOp_i {P:Expr→Prop} {x:Expr} {K:Expr→Operator→Expr→Pos→Bool} (h:kBinOp x K=true) (q:∀ a b c d,K a b c d=true→P (.BinOp a b c d)):P x :=
 dk h fun w h=>@Expr.BinOp.elim (fun x=>(w:x.ctorIdx=2)→@Expr.BinOp.elim (fun _=>Bool) x w K=true→P x) x w (fun a b c d w h=>q a b c d h) w h
@[elab_as_elim] theorem kUnaryOp_i {P:Expr→Prop} {x:Expr} {K:UnaryOp→Expr→Pos→Bool} (h:kUnaryOp x K=true) (q:∀ a b c,K a b c=true→P (.UnaryOp a b c)):P x :=
 dk h fun w h=>@Expr.UnaryOp.elim (fun x=>(w:x.ctorIdx=3)→@Expr.UnaryOp.elim (fun _=>Bool) x w K=true→P x) x w (fun a b c w h=>q a b c h) w h
@[elab_as_elim] theorem kIfExp_i {P:Expr→Prop} {x:Expr} {K:Expr→Expr→Expr→Pos→Bool} (h:kIfExp x K=true) (q:∀ a b c d,K a b c d=true→P (.IfExp a b c d)):P x :=
 dk h fun w h=>@Expr.IfExp.elim (fun x=>(w:x.ctorIdx=5)→@Expr.IfExp.elim (fun _=>Bool) x w K=true→P x) x w (fun a b c d w h=>q a b c d h) w h
@[elab_as_elim] theorem kDict_i {P:Expr→Prop} {x:Expr} {K:(List (Option Expr))→(List Expr)→Pos→Bool} (h:kDict x K=true) (q:∀ a b c,K a b c=true→P (.Dict a b c)):P x :=
 dk h fun w h=>@Expr.Dict.elim (fun x=>(w:x.ctorIdx=6)→@Expr.Dict.elim (fun _=>Bool) x w K=true→P x) x w (fun a b c w h=>q a b c h) w h
@[elab_as_elim] theorem kListComp_i {P:Expr→Prop} {x:Expr} {K:Expr→(List Comprehension)→Scope→Pos→Bool} (h:kListComp x K=true) (q:∀ a b c d,K a b c d=true→P (.ListComp a b c d)):P x :=
 dk h fun w h=>@Expr.ListComp.elim (fun x=>(w:x.ctorIdx=8)→@Expr.ListComp.elim (fun _=>Bool) x w K=true→P x) x w (fun a b c d w h=>q a b c d h) w h
@[elab_as_elim] theorem kCompare_i {P:Expr→Prop} {x:Expr} {K:Expr→(List CmpOp)→(List Expr)→Pos→Bool} (h:kCompare x K=true) (q:∀ a b c d,K a b c d=true→P (.Compare a b c d)):P x :=
 dk h fun w h=>@Expr.Compare.elim (fun x=>(w:x.ctorIdx=15)→@Expr.Compare.elim (fun _=>Bool) x w K=true→P x) x w (fun a b c d w h=>q a b c d h) w h
@[elab_as_elim] theorem kCall_i {P:Expr→Prop} {x:Expr} {K:Expr→(List Expr)→(List Keyword)→Pos→Bool} (h:kCall x K=true) (q:∀ a b c d,K a b c d=true→P (.Call a b c d)):P x :=
 dk h fun w h=>@Expr.Call.elim (fun x=>(w:x.ctorIdx=16)→@Expr.Call.elim (fun _=>Bool) x w K=true→P x) x w (fun a b c d w h=>q a b c d h) w h
@[elab_as_elim] theorem kConstant_i {P:Expr→Prop} {x:Expr} {K:Const→Nat→Pos→Bool} (h:kConstant x K=true) (q:∀ a b c,K a b c=true→P (.Constant a b c)):P x :=
 dk h fun w h=>@Expr.Constant.elim (fun x=>(w:x.ctorIdx=19)→@Expr.Constant.elim (fun _=>Bool) x w K=true→P x) x w (fun a b c w h=>q a b c h) w h
@[elab_as_elim] theorem kAttribute_i {P:Expr→Prop} {x:Expr} {K:Expr→Str→Pos→Bool} (h:kAttribute x K=true) (q:∀ a b c,K a b c=true→P (.Attribute a b c)):P x :=
 dk h fun w h=>@Expr.Attribute.elim (fun x=>(w:x.ctorIdx=20)→@Expr.Attribute.elim (fun _=>Bool) x w K=true→P x) x w (fun a b c w h=>q a b c h) w h
@[elab_as_elim] theorem kSubscript_i {P:Expr→Prop} {x:Expr} {K:Expr→Expr→Pos→Bool} (h:kSubscript x K=true) (q:∀ a b c,K a b c=true→P (.Subscript a b c)):P x :=
 dk h fun w h=>@Expr.Subscript.elim (fun x=>(w:x.ctorIdx=21)→@Expr.Subscript.elim (fun _=>Bool) x w K=true→P x) x w (fun a b c w h=>q a b c h) w h
@[elab_as_elim] theorem kName_i {P:Expr→Prop} {x:Expr} {K:Str→Pos→Bool} (h:kName x K=true) (q:∀ a b,K a b=true→P (.Name a b)):P x :=
 dk h fun w h=>@Expr.Name.elim (fun x=>(w:x.ctorIdx=23)→@Expr.Name.elim (fun _=>Bool) x w K=true→P x) x w (fun a b w h=>q a b h) w h
@[elab_as_elim] theorem kList_i {P:Expr→Prop} {x:Expr} {K:(List Expr)→Pos→Bool} (h:kList x K=true) (q:∀ a b,K a b=true→P (.List a b)):P x :=
 dk h fun w h=>@Expr.List.elim (fun x=>(w:x.ctorIdx=24)→@Expr.List.elim (fun _=>Bool) x w K=true→P x) x w (fun a b w h=>q a b h) w h
@[elab_as_elim] theorem kTuple_i {P:Expr→Prop} {x:Expr} {K:(List Expr)→Nat→Pos→Bool} (h:kTuple x K=true) (q:∀ a b c,K a b c=true→P (.Tuple a b c)):P x :=
 dk h fun w h=>@Expr.Tuple.elim (fun x=>(w:x.ctorIdx=25)→@Expr.Tuple.elim (fun _=>Bool) x w K=true→P x) x w (fun a b c w h=>q a b c h) w h
@[elab_as_elim] theorem kSlice_i {P:Expr→Prop} {x:Expr} {K:(Option Expr)→(Option Expr)→(Option Expr)→Pos→Bool} (h:kSlice x K=true) (q:∀ a b c d,K a b c d=true→P (.Slice a b c d)):P x :=
 dk h fun w h=>@Expr.Slice.elim (fun x=>(w:x.ctorIdx=26)→@Expr.Slice.elim (fun _=>Bool) x w K=true→P x) x w (fun a b c d w h=>q a b c d h) w h
theorem sIs_eq {x:Str} {s:List Nat} (h:sIs x s=true):x=⟨s.toArray⟩:=beq_iff_eq.mp h
@[elab_as_elim] theorem oneL_i {α:Type} {l:List α} {K:α→Bool} {P:List α→Prop} (h:oneL l K=true) (q:∀ x,K x=true→P [x]):P l:=match l,h with
 | [],h=>nb h
 | x :: r,h=>nil_i (P:=fun r=>P (x :: r)) h (q x)
@[elab_as_elim] theorem unc_i {α:Type} {l:List α} {K:α→List α→Bool} {P:List α→Prop} (h:unc l K=true) (q:∀ x r,K x r=true→P (x :: r)):P l:=match l,h with
 | [],h=>nb h
 | x :: r,h=>q x r h
@[elab_as_elim] theorem oK_i {α:Type} {l:Option α} {K:α→Bool} {P:Option α→Prop} (h:oK l K=true) (q:∀ x,K x=true→P (some x)):P l:=match l,h with
 | none,h=>nb h
 | some x,h=>q x h
@[elab_as_elim] theorem nO_i {α:Type} {l:Option α} {c:Bool} {P:Option α→Prop} (h:nO l c=true) (q:c=true→P none):P l:=match l,h with
 | none,h=>q h
 | some x,h=>nb h
@[elab_as_elim] theorem twoL_i {α:Type} {l:List α} {K:α→α→Bool} {P:List α→Prop} (h:twoL l K=true) (q:∀ x y,K x y=true→P [x,y]):P l:=unc_i h fun x r h=>oneL_i (P:=fun r=>P (x :: r)) h (q x)
@[elab_as_elim] theorem kGen_i {P:Comprehension→Prop} {g:Comprehension} {K:Expr→Expr→List Expr→Bool} (h:kGen g K=true) (q:∀ a b c,K a b c=true→P ⟨a,b,c,0⟩):P g :=
 match g,h with
 | ⟨a,b,c,d⟩,h=>qe_i (P:=fun d=>P ⟨a,b,c,d⟩) h (q a b c)
@[elab_as_elim] theorem kS_i {P:Const→Prop} {x:Const} {K:Str→Bool} (h:kS x K=true) (q:∀ a,K a=true→P (.str a)):P x :=
 dk h fun w h=>@Const.str.elim (fun x=>(w:x.ctorIdx=5)→@Const.str.elim (fun _=>Bool) x w K=true→P x) x w (fun a w h=>q a h) w h
@[elab_as_elim] theorem kLit_i {P:Expr→Prop} {x:Expr} {s:List Nat} (h:kLit x s=true) (q:∀ k p,P (.Constant (.str ⟨s.toArray⟩) k p)):P x :=
 kConstant_i h fun c k p h=>kS_i (P:=fun c=>P (.Constant c k p)) h fun x h=>(sIs_eq h).symm▸q k p
@[elab_as_elim] theorem attrIs_i {k:Kn} {i:Nat} {name:Str} {P:Str→Prop} (h:attrIs k i name=true) (q:∀ a,k.an[i]? = some a→P ⟨a.toArray⟩):P name :=
 oK_i (P:=fun o=>(∀ a,o=some a→P ⟨a.toArray⟩)→P name) h (fun a h q=>(sIs_eq h).symm▸q a rfl) q
structure EnvOk (C:Cx) (f:Fs) (env:Env):Prop where
 names:env.scope.names=f.sc
 kind:env.scope.kind = .function
 globals:env.globals=C.mod
 builtins:env.builtins=C.bmod
 nd:f.vars.Nodup
 cells:∀ x,f.sc.lookup x=some .cell→∃ c,env.cells.lookup x=some c
theorem kind_is {C:Cx} {f:Fs} {env:Env} (X:EnvOk C f env) (x:Str):env.kindOf x=f.sc.lookup x:=congrArg (fun l=>List.lookup x l) X.names
inductive VarIs (C:Cx) (env:Env) (τ:Tags) (h:Heap) (m:Str→Option Value) (x:Str) (p:PV):Prop
 | loc {v} (k:env.kindOf x=some .local) (e:m x=some v) (r:VR C τ h v p):VarIs C env τ h m x p
 | cel {c v} (k:env.kindOf x=some .cell∨env.kindOf x=some .free) (l:env.cells.lookup x=some c) (g:h.IsCell c (some v)) (t:τ c = .data) (r:VR C τ h v p):VarIs C env τ h m x p
inductive FrOk (C:Cx) (f:Fs) (env:Env) (τ:Tags) (h:Heap) (lo:Lo):Prop
 | mk (m:Str→Option Value) (n:h.Ns env.locals m) (t:τ env.locals = .other) (v:∀ (i:Nat) (x:Str) (p:PV),f.vars[i]? = some x→lo[i]? = some (some p)→VarIs C env τ h m x p):FrOk C f env τ h lo
theorem FrOk.tag {C f env τ h lo} (F:FrOk C f env τ h lo):τ env.locals = .other:=by obtain ⟨m,n,t,v⟩:=F; exact t
theorem oth_part {τ:Tags} {a b:Addr} (h:τ a = .other) (k:τ a = .part b):False:=by rw [h] at k; exact Tag.noConfusion k
theorem ns_keep {h h':Heap} {a:Addr} {m} (n:h.Ns a m) (k:∀ o,h.get? a=some o→h'.get? a=some o):h'.Ns a m:=by
 obtain ⟨o,es,ep,ho,r⟩:=n
 exact ⟨o,es,ep,k o ho,r⟩
theorem ns_has {h:Heap} {a:Addr} {m} (n:h.Ns a m):∃ o,h.get? a=some o:=by
 obtain ⟨o,es,ep,ho,r⟩:=n
 exact ⟨o,ho⟩
structure MkOk (C:Cx) (ini:Nat):Prop where
 keep:keepIn C.K (.ref C.cls)=true
 makes:makesIn C.K C.cls=true
 init:∃ fI,C.fv ini = .ref fI∧findIn C.K (.ref C.cls) "__init__" = some (some (.ref fI))∧typeIn C.K (.ref fI)=some (.type "function")
noncomputable def LoadOk (C:Cx) (k:Kn) (G:Nat→PV):Prop:=∀ (g:Nat) (x:Str),k.gn[g]? = some x→∀ (env:Env) (A:Around) (s:Shared) (τ:Tags) (Q E:Value→Shared→Prop),env.globals=C.mod→env.builtins=C.bmod→Base C τ s.heap→(∀ v,VR C τ s.heap v (G g)→Q v s) →
  wpAny (model C.prog C.w) A (loadGlobal env x) Q E s
structure GOk (C:Cx) (k:Kn) (G:Nat→PV):Prop where
 load:LoadOk C k G
 fns:∀ i,∃ a o fd,C.fv i = .ref a∧C.H.get? a=some o∧o.data = .func fd
 bis:C.bv=bvT
 an:k.an=C.attrs
 sys:∃ o,C.H.get? 2=some o
 maker:MkOk C k.ini
 cls:ClsOk C
theorem VarIs.ext {C:Cx} {env:Env} {τ τ':Tags} {h h':Heap} {m x p} (k:DKeep τ τ' h h') (v:VarIs C env τ h m x p):VarIs C env τ' h' m x p:=by
 cases v with
 | loc a b c=>exact .loc a b (c.mono k)
 | cel a b d e g=>exact .cel a b (d.elim fun o d=>⟨o,(k _ _ d.1 e).1,d.2⟩) (d.elim fun o d=>(k _ _ d.1 e).2) (g.mono k)
theorem FrOk.ext {C:Cx} {f:Fs} {env:Env} {τ τ':Tags} {s s':Shared} {lo:Lo} (F:FrOk C f env τ s.heap lo) (x:Ext none τ τ' s s'):FrOk C f env τ' s'.heap lo:=by
 obtain ⟨m,n,t,v⟩:=F
 have k:∀ o,s.heap.get? env.locals=some o→s'.heap.get? env.locals=some o∧τ' env.locals=τ env.locals:=fun o ho=>x.keep _ _ ho (fun e=>no e.symm) fun a e=>oth_part t e
 exact ⟨m,ns_keep n fun o ho=>(k o ho).1,(ns_has n).elim fun o ho=>(k o ho).2.trans t,fun i x' p a b=>(v i x' p a b).ext x.dkeep⟩
structure Pre (C:Cx) (f:Fs) (d:Nat) (env:Env) (A:Around) (τ:Tags) (h:Heap) (lo:Lo) (M:Mem):Prop where
 room:Room d A
 base:Base C τ h
 fr:FrOk C f env τ h lo
 mem:MemOk C M τ h
theorem Pre.ext {C:Cx} {f:Fs} {d env A τ τ' s s' lo M M'} (P:Pre C f d env A τ s.heap lo M) (x:Ext none τ τ' s s') (m:MemOk C M' τ' s'.heap):Pre C f d env A τ' s'.heap lo M' :=
 ⟨P.room,P.base.ext x,P.fr.ext x,m⟩
theorem Post.of {C:Cx} {τ τ' h Q v s' p M'} (x:Ext none τ τ' h s') (m:MemOk C M' τ' s'.heap) (r:VR C τ' s'.heap v p) (q:Q p M'):Post C τ h Q v s':=⟨p,M',τ',x,m,r,q⟩
theorem Post.step {C:Cx} {τ τ' h h' Q v s'} (x:Ext none τ τ' h h') (p:Post C τ' h' Q v s'):Post C τ h Q v s':=p.ste x
inductive Posts (C:Cx) (τ:Tags) (h:Shared) (n:Nat) (Q:List PV→Mem→Prop) (vs:List Value) (s':Shared):Prop
 | mk (l:vs.length=n) (ps:List PV) (M':Mem) (τ':Tags) (x:Ext none τ τ' h s') (m:MemOk C M' τ' s'.heap) (r:VRs C τ' s'.heap vs ps) (q:Q ps M'):Posts C τ h n Q vs s'
inductive PostB (C:Cx) (τ:Tags) (h:Shared) (Q:Bool→Mem→Prop) (b:Bool) (s':Shared):Prop
 | mk (M':Mem) (τ':Tags) (x:Ext none τ τ' h s') (m:MemOk C M' τ' s'.heap) (q:Q b M'):PostB C τ h Q b s'
section
variable {C:Cx} {k:Kn} {f:Fs} {G:Nat→PV} {d:Nat} {env:Env}
theorem const_ok {v:PV} {c:Const} {Q:PV→Mem→Prop} {M:Mem} {A:Around} {s:Shared} {τ:Tags} {kk:Nat} {pos:Pos} (h:constIs v c=true) (mk:MemOk C M τ s.heap) (q:Q v M) :
  wpAny (model C.prog C.w) A (eval (.Constant c kk pos) env) (Post C τ s Q) NoE s:=by
 cases v with
 | none=>exact (beq h).symm▸wpAny_Constant_none (PGS mk rfl .none q)
 | bool b=>exact (beq h).symm▸wpAny_Constant_bool (PGS mk rfl (.bool _) q)
 | int i=>exact (beq h).symm▸wpAny_Constant_int (PGS mk rfl (.int _ _) q)
 | str s=>exact (beq h).symm▸wpAny_Constant_str (PGS mk rfl (.str _ _) q)
 | _=>exact nb h
theorem loc_ok {i:Nat} {x:Str} {pos:Pos} {lo:Lo} {Q:PV→Mem→Prop} {M:Mem} {A:Around} {s:Shared} {τ:Tags} (X:EnvOk C f env) (h:locOk f i x=true) (P:Pre C f d env A τ s.heap lo M) (q:look lo i fun v=>Q v M) :
  wpAny (model C.prog C.w) A (eval (.Name x pos) env) (Post C τ s Q) NoE s:=by
 obtain ⟨p,hp,q⟩:=look_inv q
 obtain ⟨m,n,t,v⟩:=P.fr
 refine wpAny_Name ?_ (ntb' (bb (ba h)))
 cases v i x p (beq (ba (ba (ba h)))) hp with
 | loc a b c=>exact wpAny_loadName_local X.kind a n b (PGS P.mem rfl c q)
 | cel a b d1 e g =>
  rcases a with a | a
  ·exact wpAny_loadName_cell X.kind a b d1 (PGS P.mem rfl g q)
  ·exact wpAny_loadName_free X.kind a b d1 (PGS P.mem rfl g q) (ntb' (bb h))
theorem glo_ok {g:Nat} {x:Str} {pos:Pos} {lo:Lo} {Q:PV→Mem→Prop} {M:Mem} {A:Around} {s:Shared} {τ:Tags} (O:GOk C k G) (X:EnvOk C f env) (h:gloOk k f g x=true) (P:Pre C f d env A τ s.heap lo M) (q:Q (G g) M) :
  wpAny (model C.prog C.w) A (eval (.Name x pos) env) (Post C τ s Q) NoE s:=by
 have hk:env.kindOf x=some .globalImplicit:=(kind_is X x).trans (beq (bb (ba h)))
 exact Name_function_global X.kind hk (O.load g x (beq (ba (ba h))) env A s τ _ _ X.globals X.builtins P.base fun v r=>PGS P.mem rfl r q) (ntb' (bb h))
theorem star_i {e:Expr} {rest:List Expr} {P:List (Bool×Sem Value)→Prop} (h:isStar e=false) (q:P ((false,eval e env) :: starEach rest env)):P (starEach (e :: rest) env):=by
 cases e <;> first | exact q | exact nb h.symm
theorem starEach_cons {e:Expr} {rest:List Expr} (h:isStar e=false):starEach (e :: rest) env=(false,eval e env) :: starEach rest env:=star_i (P:=fun t=>t=(false,eval e env) :: starEach rest env) h rfl
theorem plain_i {e:Expr} {whole:Sem Value} {P:Sem Bool→Prop} (h:plainTest e=true) (q:P (do let v ← whole; standAt e.pos; holding [v] (truthy v))):P (isTrue e env whole):=by
 cases e <;> first | exact q | exact nb h
theorem isTrue_plain {e:Expr} {whole:Sem Value} (h:plainTest e=true):isTrue e env whole=(do let v ← whole; standAt e.pos; holding [v] (truthy v)):=plain_i (P:=fun t=>t=(do let v ← whole; standAt e.pos; holding [v] (truthy v))) h rfl
theorem base_i {v:Expr} {name:Str} {whole:Sem Value} {P:Sem Value→Prop} (h:isCall v=false) (q:P whole):P (attributeBase v name env whole):=by
 cases v <;> first | exact q | exact nb h.symm
theorem attrBase_plain {v:Expr} {name:Str} {whole:Sem Value} (h:isCall v=false):attributeBase v name env whole=whole:=base_i (P:=fun t=>t=whole) h rfl
theorem eval_BoolOp_cons {op:BoolOp} {pos:Pos} {x y:Expr} {r:List Expr}:eval (.BoolOp op (x :: y :: r) pos) env=(do
  let v ← eval x env
  standAt pos
  let t ← holding [v] (truthy v)
  match op,t with
  | .And,false | .Or,true=>pure v
  | _,_=>eval (.BoolOp op (y :: r) pos) env):=rfl
theorem callee_i {c:Expr} {P:Expr→Prop} (h:calleeOk c=true) (p:∀ a b,P (.Name a b)) (q:∀ a b r,P (.Subscript a b r)):P c :=
 (Bool.or_eq_true_iff.mp h).elim (fun h=>@Expr.Name.elim P c (beq h) p) fun h=>@Expr.Subscript.elim P c (beq h) q
theorem wpAny_Call_any {M:Model} {A:Around} {E:Value→Shared→Prop} {s:Shared} {c:Expr} {pos:Pos} {args:List Expr} {Q:Value→Shared→Prop} (hc:calleeOk c=true)
  (h:wpAny M A (eval c env) (fun f s₁=>wpAny M A (callWith pos f [] (backTo pos (starEach args env)) []) Q E s₁) E s):wpAny M A (eval (.Call c args [] pos) env) Q E s :=
 callee_i (P:=fun c=>wpAny M A (eval c env) (fun f s₁=>wpAny M A (callWith pos f [] (backTo pos (starEach args env)) []) Q E s₁) E s→wpAny M A (eval (.Call c args [] pos) env) Q E s) hc (fun _ _ h=>wpAny_bind h) (fun _ _ _ h=>wpAny_bind h) h
end
section
variable {C:Cx} {k:Kn} {f:Fs} {G:Nat→PV} {d:Nat} {env:Env}
theorem bvT_kind:∀ b,(∃ id,bvT b = .builtin id)∨(∃ T,bvT b = .type T)
 | 0=>.inl ⟨_,rfl⟩
 | 1=>.inr ⟨_,rfl⟩
 | 2=>.inl ⟨_,rfl⟩
 | 3=>.inl ⟨_,rfl⟩
 | 4=>.inl ⟨_,rfl⟩
 | 5=>.inr ⟨_,rfl⟩
 | 6=>.inr ⟨_,rfl⟩
 | 7=>.inr ⟨_,rfl⟩
 | _ + 8=>.inl ⟨_,rfl⟩
theorem splice_nil {A:Around} {s:Shared} {τ:Tags} {M:Mem} {pos:Pos} {Q:List PV→Mem→Prop} (mk:MemOk C M τ s.heap) (q:Q [] M) :
  wpAny (model C.prog C.w) A (spliced (backTo pos (starEach [] env))) (Posts C τ s 0 Q) NoE s :=
 wpAny_items_nil ⟨rfl,[],M,τ,(Same.grow rfl).ext,mk,.nil,q⟩
theorem back_cons {pos:Pos} {e:Expr} {rest:List Expr} (h:isStar e=false):backTo pos (starEach (e :: rest) env)=(false,eval e env) :: backTo pos (starEach rest env):=by rw [starEach_cons h]; rfl
theorem args_of {A:Around} {s:Shared} {fv:Value} {pos:Pos} {args:List Expr} {Q:List Value→Shared→Prop} {E:Value→Shared→Prop} {M:Model} (h0:args ≠ []) (hs:∀ x ∈ args,isStar x=false)
  (h:wpAny M A (spliced (backTo pos (starEach args env))) Q E s):wpAny M A (evalArgs fv true (backTo pos (starEach args env)) []) (fun a s'=>a.kw=[]∧Q a.pos s') E s:=by
 cases args with
 | nil=>exact absurd rfl h0
 | cons e rest =>
  rw [back_cons (hs e List.mem_cons_self)] at h ⊢
  exact evalArgs_plain (wpAny_mono h (fun vs s' q=>⟨rfl,q⟩) fun _ _ e=>e)
theorem noStar {pos:Pos}:∀ {args:List Expr},(∀ x ∈ args,isStar x=false)→(backTo pos (starEach args env)).any (·.1)=false
 | [],_=>rfl
 | e :: rest,h=>by
  rw [back_cons (h e List.mem_cons_self),List.any_cons]
  exact noStar fun x hx=>h x (List.mem_cons_of_mem _ hx)
theorem no_go {A:Around} {s:Shared} {τ:Tags} {h:Shared} {n:Nat} {pos:Pos} {args:List Expr} {fv:Value} {K:Value→Shared→Prop} (h0:args ≠ []) (hs:∀ x ∈ args,isStar x=false)
  (g:wpAny (model C.prog C.w) A (spliced (backTo pos (starEach args env))) (Posts C τ h n fun _ _=>False) NoE s) :
  wpAny (model C.prog C.w) A (callWith pos fv [] (backTo pos (starEach args env)) []) K NoE s:=by
 unfold callWith
 exact wpAny_bind (wpAny_holding (wpAny_mono (args_of (fv:=fv) h0 hs g) (fun a' s' q=>by obtain ⟨_,_,_,_,_,_,_,_,q⟩:=q; exact q.elim) fun _ _ x=>x))
theorem fn_go {A:Around} {s:Shared} {τ:Tags} {n:Nat} {pos:Pos} {args:List Expr} {i:Nat} {Q:PV→Mem→Prop} (O:GOk C k G) (h0:args ≠ []) (hs:∀ x ∈ args,isStar x=false)
  (B:Base C τ s.heap) (rm:Room d A)
  (h:wpAny (model C.prog C.w) A (spliced (backTo pos (starEach args env))) (Posts C τ s n fun vs M=>CallOk C d (.fn i) vs M Q) NoE s) :
  wpAny (model C.prog C.w) A (callWith pos (C.fv i) [] (backTo pos (starEach args env)) []) (Post C τ s Q) NoE s:=by
 obtain ⟨a,o,fd,e1,e2,e3⟩:=O.fns i
 rw [e1]
 refine callWith_function (o:=o) (fd:=fd) (wpAny_mono (args_of (fv:=.ref a) h0 hs h) (fun a' s' q=>?_) fun _ _ e=>e)
 obtain ⟨q1,_,ps,M',τ',x,m,r,q⟩:=q
 have B':=B.ext x
 rw [q1]
 exact ⟨⟨(B' _ _ e2).1,e3⟩,wpAny_mono (q.run A s' τ' _ _ rm B' m (e1▸VR.fn i) (a'.pos.append_nil.symm▸r)) (fun v s'' q=>q.step x) fun _ _ e=>e⟩
theorem bi_go {A:Around} {s:Shared} {τ:Tags} {n:Nat} {pos:Pos} {args:List Expr} {b:Nat} {Q:PV→Mem→Prop} (O:GOk C k G) (h0:args ≠ []) (hs:∀ x ∈ args,isStar x=false)
  (h:wpAny (model C.prog C.w) A (spliced (backTo pos (starEach args env))) (Posts C τ s n fun vs M=>biP b vs M Q) NoE s) :
  wpAny (model C.prog C.w) A (callWith pos (C.bv b) [] (backTo pos (starEach args env)) []) (Post C τ s Q) NoE s:=by
 have key:wpAny (model C.prog C.w) A (evalArgs (C.bv b) true (backTo pos (starEach args env)) []) (fun a s'=>wpAny (model C.prog C.w) A (call (C.bv b) ([]++a.pos) a.kw) (Post C τ s Q) NoE s') NoE s :=
  wpAny_mono (args_of h0 hs h) (fun a' s' q=>by
   obtain ⟨q1,_,ps,M',τ',x,m,r,q⟩:=q
   rw [q1]
   exact wpAny_mono (bi_ok O.bis q r m) (fun v s'' q=>q.step x) fun _ _ e=>e) fun _ _ e=>e
 rw [O.bis] at key ⊢
 rcases bvT_kind b with ⟨id,e⟩ | ⟨T,e⟩
 ·rw [e] at key ⊢
  exact callWith_builtin (noStar hs) key
 ·rw [e] at key ⊢
  exact PySem.callWith_type (noStar hs) key
theorem call_go {A:Around} {s:Shared} {τ:Tags} {n:Nat} {pos:Pos} {args:List Expr} {fv:Value} {p:PV} {Q:PV→Mem→Prop} (O:GOk C k G) (h0:args ≠ []) (hs:∀ x ∈ args,isStar x=false)
  (rf:VR C τ s.heap fv p) (B:Base C τ s.heap) (rm:Room d A)
  (h:wpAny (model C.prog C.w) A (spliced (backTo pos (starEach args env))) (Posts C τ s n fun vs M=>callP C d p vs M Q) NoE s) :
  wpAny (model C.prog C.w) A (callWith pos fv [] (backTo pos (starEach args env)) []) (Post C τ s Q) NoE s:=by
 cases p with
 | fn i=>exact vr_fn rf▸fn_go O h0 hs B rm h
 | bi b=>exact vr_bi rf▸bi_go O h0 hs h
 | _=>exact no_go h0 hs h
theorem few_ok {pos:Pos}:∀ {args:List Expr},(∀ x ∈ args,isStar x=false)→(backTo pos (starEach args env)).all (fun x=>!x.1)=true
 | [],_=>rfl
 | e :: rest,h=>by
  rw [back_cons (h e List.mem_cons_self),List.all_cons]
  exact few_ok fun x hx=>h x (List.mem_cons_of_mem _ hx)
theorem few_call {pos:Pos} {args:List Expr} (hs:∀ x ∈ args,isStar x=false) (hl:args.length < 29):((backTo pos (starEach args env)).all (fun x=>!x.1) && (backToKw pos (keywordEach [] env)).all (fun x=>x.1.isSome)
   && decide (args.length + ([]:List Keyword).length + (if ([]:List Keyword).isEmpty then 0 else 1) < 30))=true :=
 and_tt (and_tt (few_ok hs) rfl) (decide_eq_true (Nat.lt_of_lt_of_le hl (by decide)))
theorem meth_slot (m:Mth):PlainAttrs (mthT m)∧Slot (mthT m) (mthName m) (mthId m)∧typeOf (.builtin (mthId m))=pure (.type "method_descriptor"):=by
 cases m
 ·exact ⟨F.plainAttrs_list,F.slot_list_append,F.type_list_append⟩
 ·exact ⟨F.plainAttrs_str,F.slot_str_join,F.type_str_join⟩
 ·exact ⟨F.plainAttrs_str,F.slot_str_find,F.type_str_find⟩
 ·exact ⟨F.plainAttrs_list,F.slot_list_extend,F.type_list_extend⟩
theorem lst_pre {s:Shared} {τ:Tags} {M:Mem} {o:PV} {v:Value} (h:refK o fun a=>RdL M a fun _=>True) (r:VR C τ s.heap v o) (mk:MemOk C M τ s.heap) :
  s.TypeIs v "list"∧(∀ a,v = .ref a→∃ ob,s.heap.get? a=some ob∧ob.dict=none):=by
 obtain ⟨a,rfl,h⟩:=refK_inv h
 obtain ⟨l,hm,_⟩:=h.run
 obtain ⟨x,y,z⟩:=mem_list mk hm
 exact vr_m r▸⟨⟨_,x,rfl⟩,not_dict x⟩
theorem str_pre {s:Shared} {τ:Tags} {o:PV} {v:Value} (h:strK o fun _=>True) (r:VR C τ s.heap v o) :
  s.TypeIs v "str"∧(∀ a,v = .ref a→∃ ob,s.heap.get? a=some ob∧ob.dict=none):=by
 obtain ⟨l,rfl,_⟩:=strK_inv h
 exact r.str_i fun t=>⟨typeIs_str _ _ _,fun b hb=>nomatch hb⟩
theorem meth_pre {s:Shared} {τ:Tags} {M:Mem} {m:Mth} {o:PV} {v:Value} (h:methPre m o M) (r:VR C τ s.heap v o) (mk:MemOk C M τ s.heap) :
  s.TypeIs v (mthT m)∧(∀ a,v = .ref a→∃ ob,s.heap.get? a=some ob∧ob.dict=none):=by
 cases m
 ·exact lst_pre h r mk
 ·exact str_pre h r
 ·exact str_pre h r
 ·exact lst_pre h r mk
theorem meth_go {A:Around} {s:Shared} {τ:Tags} {M:Mem} {n:Nat} {pos:Pos} {args:List Expr} {m:Mth} {ov:Value} {p:PV} {Q:PV→Mem→Prop} {K:Value→Shared→Prop} (h0:args ≠ []) (hs:∀ x ∈ args,isStar x=false)
  (rf:VR C τ s.heap ov p) (h:wpAny (model C.prog C.w) A (spliced (backTo pos (starEach args env))) (Posts C τ s n fun vs M=>methP m p vs M Q) NoE s) (hp:methPre m p M) (mk:MemOk C M τ s.heap) (hK:∀ v s',Post C τ s Q v s'→K v s') :
  MethodOnS C.prog C.w A NoE (mthName m) ov pos (backTo pos (starEach args env)) K s:=by
 obtain ⟨h1,h2,h3⟩:=meth_slot m
 obtain ⟨h4,h5⟩:=meth_pre hp rf mk
 refine ⟨mthT m,mthId m,h1,h2,h3,h4,h5,callWith_builtin (noStar hs) (wpAny_mono (args_of h0 hs h) (fun a' s' q=>?_) fun _ _ e=>e)⟩
 obtain ⟨q1,_,ps,M',τ',x,m',r,q⟩:=q
 rw [q1]
 exact wpAny_mono (meth_ok q (rf.mono x.dkeep) r m') (fun v s'' q=>hK _ _ (q.step x)) fun _ _ e=>e
theorem attr_go {A:Around} {s:Shared} {τ:Tags} {M:Mem} {v:Expr} {ov:Value} {p:PV} {i:Nat} {a:List Nat} {Q:PV→Mem→Prop} (O:GOk C k G) (ha:k.an[i]? = some a) (B:Base C τ s.heap) (rf:VR C τ s.heap ov p) (mk:MemOk C M τ s.heap)
  (q:attrP p i M fun v=>Q v M):wpAny (model C.prog C.w) A (do let r ← holding [ov] (getAttr ov ⟨a.toArray⟩ true); letTemporaryGo v ov r; pure r) (Post C τ s Q) NoE s:=by
 rw [O.an] at ha
 refine wpAny_bind (wpAny_holding (wpAny_mono (get_ok O.cls B ha q rf mk) (fun r s' q=>?_) fun _ _ e=>e))
 exact wpAny_bind (wpAny_letTemporaryGo (wpAny_pure (PG.post mk q)))
end
section
variable {C:Cx} {k:Kn} {f:Fs} {G:Nat→PV} {d:Nat} {env:Env}
noncomputable abbrev SE (C:Cx) (k:Kn) (f:Fs) (G:Nat→PV) (d:Nat) (env:Env) (e:E) (x:Expr):Prop :=
 ∀ (lo:Lo) (M:Mem) (Q:PV→Mem→Prop) (A:Around) (s:Shared) (τ:Tags),Pre C f d env A τ s.heap lo M→wpE C G d e lo M Q→wpAny (model C.prog C.w) A (eval x env) (Post C τ s Q) NoE s
noncomputable abbrev SEs (C:Cx) (k:Kn) (f:Fs) (G:Nat→PV) (d:Nat) (env:Env) (e:Es) (x:List Expr):Prop :=
 ∀ (lo:Lo) (M:Mem) (Q:List PV→Mem→Prop) (A:Around) (s:Shared) (τ:Tags) (pos:Pos),Pre C f d env A τ s.heap lo M→wpEs C G d e lo M Q→wpAny (model C.prog C.w) A (spliced (backTo pos (starEach x env))) (Posts C τ s x.length Q) NoE s
noncomputable abbrev SAnd (C:Cx) (k:Kn) (f:Fs) (G:Nat→PV) (d:Nat) (env:Env) (e:Es) (x:List Expr):Prop :=
 ∀ (lo:Lo) (M:Mem) (Q:PV→Mem→Prop) (A:Around) (s:Shared) (τ:Tags) (pos:Pos),Pre C f d env A τ s.heap lo M→wpAnd C G d e lo M Q→wpAny (model C.prog C.w) A (eval (.BoolOp .And x pos) env) (Post C τ s Q) NoE s
noncomputable abbrev SOr (C:Cx) (k:Kn) (f:Fs) (G:Nat→PV) (d:Nat) (env:Env) (e:Es) (x:List Expr):Prop :=
 ∀ (lo:Lo) (M:Mem) (Q:PV→Mem→Prop) (A:Around) (s:Shared) (τ:Tags) (pos:Pos),Pre C f d env A τ s.heap lo M→wpOr C G d e lo M Q→wpAny (model C.prog C.w) A (eval (.BoolOp .Or x pos) env) (Post C τ s Q) NoE s
inductive PostO (C:Cx) (τ:Tags) (h:Shared) (Q:Option Int→Mem→Prop) (v:Value) (s':Shared):Prop
 | mk (o:Option Int) (M':Mem) (τ':Tags) (x:Ext none τ τ' h s') (m:MemOk C M' τ' s'.heap) (r:Parts v o) (q:Q o M'):PostO C τ h Q v s'
noncomputable abbrev SO (C:Cx) (k:Kn) (f:Fs) (G:Nat→PV) (d:Nat) (env:Env) (e:Eo) (x:Option Expr):Prop :=
 ∀ (lo:Lo) (M:Mem) (Q:Option Int→Mem→Prop) (A:Around) (s:Shared) (τ:Tags),Pre C f d env A τ s.heap lo M→wpO C G d e lo M Q→wpAny (model C.prog C.w) A (evalPart x env) (PostO C τ s Q) NoE s
noncomputable abbrev ST (C:Cx) (k:Kn) (f:Fs) (G:Nat→PV) (d:Nat) (env:Env) (e:T) (x:Expr):Prop :=
 ∀ (lo:Lo) (M:Mem) (Q:Bool→Mem→Prop) (A:Around) (s:Shared) (τ:Tags),Pre C f d env A τ s.heap lo M→wpT C G d e lo M Q→wpAny (model C.prog C.w) A (isTrue x env (eval x env)) (PostB C τ s Q) NoE s
noncomputable abbrev STs (C:Cx) (k:Kn) (f:Fs) (G:Nat→PV) (d:Nat) (env:Env) (e:Ts) (x:List Expr):Prop :=
 ∀ (lo:Lo) (M:Mem) (Q:Bool→Mem→Prop) (A:Around) (s:Shared) (τ:Tags),Pre C f d env A τ s.heap lo M →
  (wpTs C G d e lo M Q→wpAny (model C.prog C.w) A (allTrue .And x env) (PostB C τ s Q) NoE s)∧(wpTo C G d e lo M Q→wpAny (model C.prog C.w) A (allTrue .Or x env) (PostB C τ s Q) NoE s)
theorem PostB.step {τ τ' h h' Q v s'} (x:Ext none τ τ' h h') (p:PostB C τ' h' Q v s'):PostB C τ h Q v s':=by
 obtain ⟨M,τ'',y,m,q⟩:=p
 exact ⟨M,τ'',x.trans y,m,q⟩
theorem PG.to {A:Around} {τ τ':Tags} {h s:Shared} {M:Mem} {Q:PV→Mem→Prop} {t:Sem Value} (x:Ext none τ τ' h s) (mk:MemOk C M τ' s.heap)
  (h1:wpAny (model C.prog C.w) A t (PG C τ' s fun v=>Q v M) NoE s):wpAny (model C.prog C.w) A t (Post C τ h Q) NoE s :=
 wpAny_mono h1 (fun v s' q=>(PG.post mk q).step x) fun _ _ e=>e
theorem SE.go {A:Around} {s:Shared} {τ:Tags} {M:Mem} {lo:Lo} {e:E} {x:Expr} {Q:PV→Mem→Prop} {K:Value→Shared→Prop} (h:SE C k f G d env e x) (P:Pre C f d env A τ s.heap lo M) (q:wpE C G d e lo M Q)
  (c:∀ v s' p M' τ',Ext none τ τ' s s'→Pre C f d env A τ' s'.heap lo M'→VR C τ' s'.heap v p→Q p M'→K v s'):wpAny (model C.prog C.w) A (eval x env) K NoE s :=
 wpAny_mono (h lo M _ A s τ P q) (fun v s₁ q1=>by obtain ⟨p,M1,τ1,x1,m1,r1,q1⟩:=q1; exact c v s₁ p M1 τ1 x1 (P.ext x1 m1) r1 q1) fun _ _ e=>e
theorem ST.go {A:Around} {s:Shared} {τ:Tags} {M:Mem} {lo:Lo} {e:T} {x:Expr} {Q:Bool→Mem→Prop} {K:Bool→Shared→Prop} (h:ST C k f G d env e x) (P:Pre C f d env A τ s.heap lo M) (q:wpT C G d e lo M Q)
  (c:∀ b s' M' τ',Ext none τ τ' s s'→Pre C f d env A τ' s'.heap lo M'→Q b M'→K b s'):wpAny (model C.prog C.w) A (isTrue x env (eval x env)) K NoE s :=
 wpAny_mono (h lo M _ A s τ P q) (fun v s₁ q1=>by obtain ⟨M1,τ1,x1,m1,q1⟩:=q1; exact c v s₁ M1 τ1 x1 (P.ext x1 m1) q1) fun _ _ e=>e
theorem SO.go {A:Around} {s:Shared} {τ:Tags} {M:Mem} {lo:Lo} {e:Eo} {x:Option Expr} {Q:Option Int→Mem→Prop} {K:Value→Shared→Prop} (h:SO C k f G d env e x) (P:Pre C f d env A τ s.heap lo M) (q:wpO C G d e lo M Q)
  (c:∀ v s' p M' τ',Ext none τ τ' s s'→Pre C f d env A τ' s'.heap lo M'→Parts v p→Q p M'→K v s'):wpAny (model C.prog C.w) A (evalPart x env) K NoE s :=
 wpAny_mono (h lo M _ A s τ P q) (fun v s₁ q1=>by obtain ⟨p,M1,τ1,x1,m1,r1,q1⟩:=q1; exact c v s₁ p M1 τ1 x1 (P.ext x1 m1) r1 q1) fun _ _ e=>e
theorem SEs.go {A:Around} {s:Shared} {τ:Tags} {M:Mem} {lo:Lo} {e:Es} {x:List Expr} {pos:Pos} {Q:List PV→Mem→Prop} {K:List Value→Shared→Prop} (h:SEs C k f G d env e x) (P:Pre C f d env A τ s.heap lo M) (q:wpEs C G d e lo M Q)
  (c:∀ vs s' ps M' τ',vs.length=x.length→Ext none τ τ' s s'→Pre C f d env A τ' s'.heap lo M'→VRs C τ' s'.heap vs ps→Q ps M'→K vs s'):wpAny (model C.prog C.w) A (spliced (backTo pos (starEach x env))) K NoE s :=
 wpAny_mono (h lo M _ A s τ pos P q) (fun v s₁ q1=>by obtain ⟨l,p,M1,τ1,x1,m1,r1,q1⟩:=q1; exact c v s₁ p M1 τ1 l x1 (P.ext x1 m1) r1 q1) fun _ _ e=>e
theorem two {A:Around} {s:Shared} {τ:Tags} {M:Mem} {lo:Lo} {a b:E} {x y:Expr} {R:PV→PV→Mem→Prop} {K:Value→Value→Shared→Prop} (ia:SE C k f G d env a x) (ib:SE C k f G d env b y) (P:Pre C f d env A τ s.heap lo M)
  (q:wpE C G d a lo M fun p M=>wpE C G d b lo M fun r M=>R p r M)
  (h:∀ v w p r s' M' τ',Ext none τ τ' s s'→Pre C f d env A τ' s'.heap lo M'→VR C τ' s'.heap v p→VR C τ' s'.heap w r→R p r M'→K v w s') :
  wpAny (model C.prog C.w) A (eval x env) (fun v s₁=>wpAny (model C.prog C.w) A (eval y env) (fun w s₂=>K v w s₂) NoE s₁) NoE s:=by
 exact SE.go ia P q fun v s₁ p M1 τ1 x1 P1 r1 q1=>SE.go ib P1 q1 fun w s₂ r M2 τ2 x2 P2 r2 q2=>h v w p r s₂ M2 τ2 (x1.trans x2) P2 (r1.mono x2.dkeep) r2 q2
theorem cmp_go {A:Around} {τ:Tags} {s:Shared} {M:Mem} {o:Cop} {x y:PV} {v w:Value} {R:Bool→Prop} {Q:Value→Shared→Prop} (rm:Room d A) (mk:MemOk C M τ s.heap)
  (ra:VR C τ s.heap v x) (rb:VR C τ s.heap w y) (q:opt (cmpv o x y M) R) (h:∀ b s',Same s s'→R b→Q (.bool b) s'):wpAny (model C.prog C.w) A (compareOp (copOf o) v w) Q NoE s:=by
 obtain ⟨b,hb,q⟩:=opt_inv q
 exact wpAny_mono (cmp_ok rm hb ra rb mk) (fun z s' hz=>hz.1▸h b s' hz.2 q) fun _ _ e=>e
theorem cmp_post {A:Around} {τ τ':Tags} {h s:Shared} {M:Mem} {o:Cop} {x y:PV} {v w:Value} {Q:PV→Mem→Prop} (R:Room d A) (xx:Ext none τ τ' h s) (mk:MemOk C M τ' s.heap)
  (ra:VR C τ' s.heap v x) (rb:VR C τ' s.heap w y) (q:opt (cmpv o x y M) fun b=>Q (.bool b) M):wpAny (model C.prog C.w) A (compareOp (copOf o) v w) (Post C τ h Q) NoE s :=
 cmp_go R mk ra rb q fun b s' e q=>(PGS mk e (.bool _) q).step xx
theorem PBS {A:Around} {τ:Tags} {s s':Shared} {M:Mem} {Q:Bool→Mem→Prop} {b:Bool} (mk:MemOk C M τ s.heap) (e:Same s s') (q:Q b M):PostB C τ s Q b s' :=
 ⟨M,τ,e.grow.ext,e.h▸mk,q⟩
theorem truth_go {A:Around} {τ:Tags} {s:Shared} {M:Mem} {p:PV} {v:Value} {R:Bool→Prop} {Q:Bool→Shared→Prop} {E:Value→Shared→Prop} (ra:VR C τ s.heap v p) (q:opt (truth p M) R) (h:∀ b s',Same s s'→R b→Q b s') :
  wpAny (model C.prog C.w) A (truthy v) Q E s:=by
 obtain ⟨b,hb,q⟩:=opt_inv q
 exact truth_ok hb ra fun s' e=>h b s' e q
theorem Compare2 {A:Around} {s:Shared} {op op2:CmpOp} {l r r2:Expr} {pos:Pos} {Q:Value→Shared→Prop} {M:Model} {E:Value→Shared→Prop} (hm:behindInMarks op2 r2=false)
  (h:wpAny M A (eval l env) (fun a s₁=>wpAny M A (eval r env) (fun b s₂=>wpAny M A (compareOp op a b) (fun c s₃=>wpAny M A (truthy c) (fun t s₄ =>
   if t then wpAny M A (eval r2 env) (fun b2 s₅=>wpAny M A (compareOp op2 b b2) Q E s₅) E s₄ else Q c s₄) E s₃) E s₂) E s₁) E s) :
  wpAny M A (eval (.Compare l [op,op2] [r,r2] pos) env) Q E s:=by
 have e:eval (.Compare l [op,op2] [r,r2] pos) env=(do
   let a ← eval l env
   let b ← holding [a] (eval r env)
   standAt pos
   let c ← holding [a,b] (compareOp op a b)
   release [a,b] [c]
   if ← holding [c,b] (truthy c) then (do
    let b2 ← holding [b] (markedBehindIn op2 r2 (eval r2 env))
    standAt pos
    operate [b,b2] (compareOp op2 b b2)) else pure c):=rfl
 rw [e,markedBehindIn_of_false hm]
 refine wpAny_bind (wpAny_mono h (fun a s₁ h1=>?_) fun _ _ e=>e)
 refine wpAny_bind (wpAny_holding (wpAny_mono h1 (fun b s₂ h2=>?_) fun _ _ e=>e))
 refine wpAny_bind (wpAny_standAt (wpAny_bind (wpAny_holding (wpAny_mono h2 (fun c s₃ h3=>?_) fun _ _ e=>e))))
 refine wpAny_bind (wpAny_release (wpAny_bind (wpAny_holding (wpAny_mono h3 (fun t s₄ h4=>?_) fun _ _ e=>e))))
 cases t
 ·exact wpAny_pure h4
 ·exact wpAny_bind (wpAny_holding (wpAny_mono h4 (fun b2 s₅ h5=>wpAny_bind (wpAny_standAt (wpAny_operating h5))) fun _ _ e=>e))
theorem Test2 {A:Around} {s:Shared} {op op2:CmpOp} {l r r2:Expr} {pos:Pos} {Q:Bool→Shared→Prop} {M:Model} {E:Value→Shared→Prop} {whole:Sem Value} (hm:behindInMarks op2 r2=false)
  (h:wpAny M A (eval l env) (fun a s₁=>wpAny M A (eval r env) (fun b s₂=>wpAny M A (compareOp op a b) (fun c s₃=>wpAny M A (truthy c) (fun t s₄ =>
   if t then wpAny M A (eval r2 env) (fun b2 s₅=>wpAny M A (compareOp op2 b b2) (fun c2 s₆=>wpAny M A (truthy c2) Q E s₆) E s₅) E s₄ else Q false s₄) E s₃) E s₂) E s₁) E s) :
  wpAny M A (isTrue (.Compare l [op,op2] [r,r2] pos) env whole) Q E s:=by
 have e:isTrue (.Compare l [op,op2] [r,r2] pos) env whole=(do
   let a ← eval l env
   let b ← holding [a] (eval r env)
   standAt pos
   let c ← holding [a,b] (compareOp op a b)
   release [a,b] [c]
   if ← holding [c,b] (truthy c) then (do
    let b2 ← holding [b] (markedBehindIn op2 r2 (eval r2 env))
    standAt pos
    let c2 ← operate [b,b2] (compareOp op2 b b2)
    holding [c2] (truthy c2)) else pure false):=rfl
 rw [e,markedBehindIn_of_false hm]
 refine wpAny_bind (wpAny_mono h (fun a s₁ h1=>?_) fun _ _ e=>e)
 refine wpAny_bind (wpAny_holding (wpAny_mono h1 (fun b s₂ h2=>?_) fun _ _ e=>e))
 refine wpAny_bind (wpAny_standAt (wpAny_bind (wpAny_holding (wpAny_mono h2 (fun c s₃ h3=>?_) fun _ _ e=>e))))
 refine wpAny_bind (wpAny_release (wpAny_bind (wpAny_holding (wpAny_mono h3 (fun t s₄ h4=>?_) fun _ _ e=>e))))
 cases t
 ·exact wpAny_pure h4
 ·exact wpAny_bind (wpAny_holding (wpAny_mono h4 (fun b2 s₅ h5=>wpAny_bind (wpAny_standAt (wpAny_bind (wpAny_operating (wpAny_mono h5 (fun c2 s₆ h6=>wpAny_holding h6) fun _ _ e=>e))))) fun _ _ e=>e))
end
structure Chg (x:Addr) (s s':Shared):Prop where
 keep:∀ b o,b ≠ x→s.heap.get? b=some o→s'.heap.get? b=some o
 os:s'.os=s.os
 gens:s'.gens=s.gens
section
variable {C:Cx} {τ:Tags} {h:Heap} {s s':Shared} {x:Addr}
theorem oth_ne {b:Addr} (t:τ x = .other) (d:τ b = .data):b ≠ x:=fun q=>by rw [q,t] at d; exact Tag.noConfusion d
theorem oth_np {a b:Addr} (t:τ x = .other) (d:τ b = .part a):b ≠ x:=fun q=>oth_part t (q▸d)
theorem get_no {o:Obj} {b:Addr} {P:Prop} (n:h.get? x=none) (g:h.get? b=some o) (q:b=x):P:=no ((q▸n).symm.trans g)
theorem Chg.dkeep (c:Chg x s s') (t:τ x = .other):DKeep τ τ s.heap s'.heap:=fun b o e d=>⟨c.keep b o (oth_ne t d) e,d⟩
theorem Chg.mem {M:Mem} (c:Chg x s s') (t:τ x = .other) (m:MemOk C M τ s.heap):MemOk C M τ s'.heap:=fun a o e =>
 (m a o e).keep (c.dkeep t) fun b ob e1 t1=>⟨c.keep b ob (oth_np t t1) e1,t1⟩
theorem Chg.ext {τ₀:Tags} {s₀:Shared} {L:Option Addr} (c:Chg x s s') (t:τ x = .other) (e:Ext L τ₀ τ s₀ s) (n:s₀.heap.get? x=none∨L=some x):Ext L τ₀ τ s₀ s':=⟨fun b o g hb hp=>by
 obtain ⟨e1,t1⟩:=e.keep b o g hb hp
 exact ⟨c.keep b o (fun q=>n.elim (fun n=>get_no n g q) fun n=>hb (q▸n.symm)) e1,t1⟩,c.os.trans e.os,c.gens.trans e.gens⟩
theorem Chg.ext' {τ₀:Tags} {s₀:Shared} {L:Option Addr} (c:Chg x s s') (t:τ x = .other) (e:Ext L τ₀ τ s₀ s) (n:∀ o,s₀.heap.get? x=some o→∃ a,τ₀ x = .part a):Ext L τ₀ τ s₀ s':=⟨fun b o g hb hp=>by
 obtain ⟨e1,t1⟩:=e.keep b o g hb hp
 exact ⟨c.keep b o (fun q=>(n o (q▸g)).elim fun a ha=>hp a (q▸ha)) e1,t1⟩,c.os.trans e.os,c.gens.trans e.gens⟩
theorem Chg.of_same (h:Heap.SameBut x s.heap s'.heap) (k:s'.os=s.os:=by rfl) (l:s'.gens=s.gens:=by rfl):Chg x s s':=⟨fun b o n e=>(h.2 b n).trans e,k,l⟩
theorem Chg.of_ext (h:Heap.ExtBut x s.heap s'.heap) (k:s'.os=s.os:=by rfl) (l:s'.gens=s.gens:=by rfl):Chg x s s':=⟨fun b o n e=>h b o n e,k,l⟩
end
structure ItAt (C:Cx) (A:Around) (τ:Tags) (h:Heap) (I:Addr) (fp:List Addr) (P:Nat→Value→Prop) (St:Nat→Heap→Prop) (l:List PV):Prop where
 W:Walks C.prog C.w A I fp [I] l.length P St
 data:∀ b ∈ fp,b ≠ I→∃ o,h.get? b=some o∧τ b = .data
 self:∃ o,h.get? I=some o
 tag:τ I = .other
 vals:∀ i v,i < l.length→P i v→∃ p,l[i]? = some p∧VR C τ h v p
 quiet:∀ i (s:Shared) (t:Expr) (v:Value) (Q:Unit→Shared→Prop) (E:Value→Shared→Prop),St i s.heap→Q () s→wpAny (model C.prog C.w) A (letOwnedTupleGo t (.ref I) v) Q E s
 live:∀ i h',St i h'→∃ o,h'.get? I=some o
theorem letOwned_quiet {M:Model} {A:Around} {s:Shared} {I:Addr} {o:Obj} {n:String} {t:Expr} {v:Value} {Q:Unit→Shared→Prop} {E:Value→Shared→Prop} (ho:s.heap.get? I=some o) (hc:o.cls = .type n)
  (hn : ["enumerate","zip","dict_itemiterator","dict_reverseitemiterator","odict_iterator","itertools.zip_longest","itertools.pairwise"].contains n=false) (h:Q () s):wpAny M A (letOwnedTupleGo t (.ref I) v) Q E s:=by
 have key:∀ v:Value,wpAny M A (do
   let (.ref r,.ref a):=(Value.ref I,v) | return
   let o ← load r
   match o.cls,o.data with
   | .type n,.fields vs =>
    if ["enumerate","zip","dict_itemiterator","dict_reverseitemiterator","odict_iterator","itertools.zip_longest","itertools.pairwise"].contains n && vs[0]? == some (rawInt a) then
     rule "for.unpacks-the-owned-tuple"
     updateField r 0 .none
   | _,_=>pure ()) Q E s:=by
  intro v
  cases v <;> try exact wpAny_pure h
  refine wpAny_bind (wpAny_load ho ?_)
  obtain ⟨cls,dict,data,sl⟩:=o
  dsimp only at hc
  subst hc
  cases data with
  | fields vs =>
   show wpAny M A (if (["enumerate","zip","dict_itemiterator","dict_reverseitemiterator","odict_iterator","itertools.zip_longest","itertools.pairwise"].contains n && vs[0]? == some (rawInt _))=true then _ else _) Q E s
   rw [hn,Bool.false_and]
   exact wpAny_pure h
  | _=>exact wpAny_pure h
 cases t <;> first | exact wpAny_pure h | exact key v
theorem it_seq {C:Cx} {A:Around} {τ:Tags} {h:Heap} {I ax:Addr} {vs:List Value} {l:List PV} {n:String} {oI o:Obj} {St:Nat→Heap→Prop} (W:Walks C.prog C.w A I [I,ax] [I] vs.toArray.size (fun i v=>vs.toArray[i]? = some v) St)
  (e:h.get? ax=some o) (t:τ ax = .data) (eI:h.get? I=some oI) (tI:τ I = .other) (r:VRs C τ h vs l) (hs:∀ i h',St i h'→∃ o,h'.get? I=some o∧o.cls = .type n)
  (hn : ["enumerate","zip","dict_itemiterator","dict_reverseitemiterator","odict_iterator","itertools.zip_longest","itertools.pairwise"].contains n=false):ItAt C A τ h I [I,ax] (fun i v=>vs.toArray[i]? = some v) St l where
 W:=(r.length:vs.toArray.size=l.length)▸W
 data:=fun b hb hne=>by
  rcases List.mem_cons.mp hb with rfl | hb
  ·exact absurd rfl hne
  ·exact List.mem_singleton.mp hb▸⟨o,e,t⟩
 self:=⟨_,eI⟩
 tag:=tI
 vals:=fun i v hi hv=>by
  obtain ⟨w,hw,rw'⟩:=r.get (List.getElem?_eq_getElem hi)
  exact ⟨_,List.getElem?_eq_getElem hi,(Option.some.inj (hw.symm.trans (List.getElem?_toArray.symm.trans hv)):w=v)▸rw'⟩
 quiet:=fun i s t v Q E hst hq=>(hs i _ hst).elim fun o ho=>letOwned_quiet ho.1 ho.2 hn hq
 live:=fun i h' hst=>(hs i h' hst).elim fun o ho=>⟨o,ho.1⟩
noncomputable abbrev ItK (C:Cx) (A:Around) (τ:Tags) (s:Shared) (l:List PV) (Q:Value→Shared→Prop):Prop:=∀ I s' τ' fp P St,Grow τ τ' s s'→s.heap.get? I=none→ItAt C A τ' s'.heap I fp P St l→St 0 s'.heap→Q (.ref I) s'
theorem it_lst {C:Cx} {A:Around} {s:Shared} {τ:Tags} {v:Value} {l:List PV} (hh:A.handled=none) (r:VR C τ s.heap v (.list l)) {Q:Value→Shared→Prop} {E:Value→Shared→Prop} (h:ItK C A τ s l Q):wpAny (model C.prog C.w) A (pyIter v) Q E s:=by
 refine r.list_i fun ax vs n e1 e2 r=>wpAny_pyIter_list (list_typeIs e1) ?_
 have g:=grow_push τ s { cls:=.type "list_iterator",data:=.fields #[.ref ax,.int 0 0] } .other (s':={ s with heap:=s.heap.push { cls:=.type "list_iterator",data:=.fields #[.ref ax,.int 0 0] } })
 exact h _ _ _ [s.heap.objs.size,ax] _ (fun i h=>h.IsListIter s.heap.objs.size ax i∧h.IsList ax vs.toArray) g (get?_size_none _)
  (it_seq (Walks.list hh _ ax (Nat.ne_of_lt (Heap.lt_size e1)) _) (g.keep _ _ e1).1 ((g.keep _ _ e1).2.trans e2) (Heap.get?_push_size _ rfl) (Tags.set_same ..) (r.mono g.ext.dkeep) (fun i h' st=>st.1.elim fun o ho=>⟨o,ho.1,ho.2.1⟩) (by decide))
  ⟨⟨_,Heap.get?_push_size _ rfl,rfl,rfl⟩,(list_typeIs (s:=s) e1).push _⟩
theorem it_tup {C:Cx} {A:Around} {s:Shared} {τ:Tags} {v:Value} {l:List PV} (hh:A.handled=none) (r:VR C τ s.heap v (.tup l)) {Q:Value→Shared→Prop} {E:Value→Shared→Prop} (h:ItK C A τ s l Q):wpAny (model C.prog C.w) A (pyIter v) Q E s:=by
 refine r.tup_i fun ax vs n e1 e2 r=>wpAny_pyIter_tuple (⟨_,e1,rfl,_,rfl⟩:s.heap.IsTuple ax vs.toArray) ?_
 have g:=grow_push τ s { cls:=.type "tuple_iterator",data:=.fields #[.ref ax,.int 0 0] } .other (s':={ s with heap:=s.heap.push { cls:=.type "tuple_iterator",data:=.fields #[.ref ax,.int 0 0] } })
 exact h _ _ _ [s.heap.objs.size,ax] _ (fun i h=>h.IsTupleIter s.heap.objs.size ax i∧h.IsTuple ax vs.toArray) g (get?_size_none _)
  (it_seq (Walks.tuple hh _ ax (Nat.ne_of_lt (Heap.lt_size e1)) _) (g.keep _ _ e1).1 ((g.keep _ _ e1).2.trans e2) (Heap.get?_push_size _ rfl) (Tags.set_same ..) (r.mono g.ext.dkeep) (fun i h' st=>st.1.elim fun o ho=>⟨o,ho.1,ho.2.1⟩) (by decide))
  ⟨⟨_,Heap.get?_push_size _ rfl,rfl,rfl⟩,⟨_,(g.keep _ _ e1).1,rfl,_,rfl⟩⟩
theorem it_val {C:Cx} {A:Around} {s:Shared} {τ:Tags} {M:Mem} {p:PV} {v:Value} {l:List PV} (hh:A.handled=none) (e:seqOf p M=some l) (r:VR C τ s.heap v p) {Q:Value→Shared→Prop} {E:Value→Shared→Prop} (h:ItK C A τ s l Q):wpAny (model C.prog C.w) A (pyIter v) Q E s:=by
 cases p with
 | list m=>exact it_lst hh r ((Option.some.inj e).symm▸h)
 | tup m=>exact it_tup hh r ((Option.some.inj e).symm▸h)
 | _=>exact no e
theorem it_range {C:Cx} {A:Around} {s:Shared} {τ:Tags} {n:Int} {t:Tok} (hh:A.handled=none) (h0:0 ≤ n) (h1:n ≤ 1000000) {Q:Value→Shared→Prop} {E:Value→Shared→Prop}
  (h:∀ I s' τ' fp P St,Grow τ τ' s s'→s.heap.get? I=none→ItAt C A τ' s'.heap I fp P St (rangeL n)→St 0 s'.heap→Q (.ref I) s') :
  wpAny (model C.prog C.w) A (call (.type "range") [.int n t]) (fun v s₁=>wpAny (model C.prog C.w) A (pyIter v) Q E s₁) E s:=by
 refine call_range_1 ?_
 refine wpAny_pyIter_range (IsRange.new ..) (small_one (by decide) (by decide) (by omega) (by omega)) ?_
 have hsz:Builtin.Range.rangeSize 0 n 1=(n.toNat:Int):=by rw [rangeSize_one]; split <;> omega
 have g1:=grow_push τ s { cls:=.type "range",data:=.fields #[.int 0 s.toks,.int n t,.int 1 (s.toks + 1)] } .other (s':={ s with heap:=s.heap.push { cls:=.type "range",data:=.fields #[.int 0 s.toks,.int n t,.int 1 (s.toks + 1)] } })
 generalize s.heap.push { cls:=.type "range",data:=.fields #[.int 0 s.toks,.int n t,.int 1 (s.toks + 1)] }=hp at g1 ⊢
 have g2:=grow_push (τ.set s.heap.objs.size .other) { s with heap:=hp } { cls:=.type "range_iterator",data:=.fields #[rawInt 0,rawInt (Builtin.Range.rangeSize 0 n 1),rawInt 1] } .other (s':={ s with heap:=hp.push { cls:=.type "range_iterator",data:=.fields #[rawInt 0,rawInt (Builtin.Range.rangeSize 0 n 1),rawInt 1] } })
 refine h hp.objs.size _ _ [hp.objs.size] (fun i v=>∃ t,v = .int (0 + i * 1) t) (fun i h=>IsRangeIter h hp.objs.size (0 + (i:Nat) * 1) ((n.toNat:Int) - (i:Nat)) 1) (g1.trans (g2.trans (Same.grow rfl))) ?_ ?_ ?_
 ·cases e:s.heap.get? hp.objs.size with
  | none=>rfl
  | some o=>exact absurd (Heap.lt_size (g1.keep _ _ e).1) (Nat.lt_irrefl _)
 ·have ln:(rangeL n).length=n.toNat:=by simp [rangeL]
  refine ⟨?_,?_,⟨_,Heap.get?_push_size _ rfl⟩,Tags.set_same ..,?_,?_,?_⟩
  ·rw [ln]; exact Walks.range hh hp.objs.size 0 1 n.toNat
  ·intro b hb hbI; simp at hb; exact absurd hb hbI
  ·rintro i v hi ⟨t,rfl⟩
   rw [ln] at hi
   refine ⟨.int i,by simp [rangeL,hi],?_⟩
   exact vr_int (by omega)
  ·intro i s' t v Q E hst hq
   exact letOwned_quiet hst rfl (by decide) hq
  ·intro i h' hst
   exact ⟨_,hst⟩
 ·have e2:((n.toNat:Int) - ((0:Nat):Int))=Builtin.Range.rangeSize 0 n 1:=by rw [hsz]; simp
  have e1:(0 + ((0:Nat):Int) * 1)=0:=by simp
  rw [e1,e2]
  exact Heap.get?_push_size _ rfl
section
variable {C:Cx} {f:Fs} {d:Nat} {env:Env} {A:Around} {τ:Tags} {M:Mem} {lo:Lo}
theorem VarIs.chg {s s':Shared} {m m':Str→Option Value} {x:Str} {p:PV} {L:Addr} (c:Chg L s s') (t:τ L = .other) (hm:env.kindOf x=some .local→m' x=m x) (v:VarIs C env τ s.heap m x p):VarIs C env τ s'.heap m' x p:=by
 cases v with
 | loc a b g=>exact .loc a ((hm a).trans b) (g.mono (c.dkeep t))
 | cel a b e tt g=>exact .cel a b (e.elim fun o e=>⟨o,c.keep _ _ (oth_ne t tt) e.1,e.2⟩) tt (g.mono (c.dkeep t))
theorem fnp (X:EnvOk C f env):(env.scope.kind == .class || (env.scope.kind == .module && env.locals != env.globals))=false:=by
 rw [X.kind]; rfl
theorem nodup_ne:∀ {l:List Str} {i j:Nat} {x y:Str},l.Nodup→l[i]? = some x→l[j]? = some y→i ≠ j→y ≠ x:=by
 intro l i j x y nd hi hj hne q
 subst q
 obtain ⟨h1,e1⟩:=List.getElem?_eq_some_iff.mp hi
 exact hne ((List.getElem?_inj h1 nd).mp (hi.trans hj.symm))
theorem store_ok {s:Shared} {i:Nat} {x:Str} {p:PV} {v:Value} {Q:Unit→Shared→Prop} {E:Value→Shared→Prop} (X:EnvOk C f env) (hx:f.vars[i]? = some x) (hl:f.sc.lookup x=some .local)
  (P:Pre C f d env A τ s.heap lo M) (r:VR C τ s.heap v p) (h:∀ s',Chg env.locals s s'→Pre C f d env A τ s'.heap (lo.set i (some p)) M→Q () s') :
  wpAny (model C.prog C.w) A (storeName env x v) Q E s:=by
 obtain ⟨m,n,t,vars⟩:=P.fr
 have hk:env.kindOf x=some .local:=(kind_is X x).trans hl
 refine wpAny_storeName_local hk n (fun h' n' hs=>?_) (fnp X)
 have c:Chg env.locals s { s with heap:=h',toks:=s.toks + 1 }:=Chg.of_same hs
 refine h _ c ⟨P.room,fun b o e=>?_,⟨_,n',t,fun j y q hy hj=>?_⟩,c.mem t P.mem⟩
 ·obtain ⟨e1,t1⟩:=P.base b o e
  exact c.dkeep t b o e1 t1
 ·by_cases hji:j=i
  ·subst hji
   obtain rfl:x=y:=Option.some.inj (hx.symm.trans hy)
   rw [List.getElem?_set_self' ] at hj
   obtain ⟨_,_,e⟩:=Option.map_eq_some_iff.mp hj
   exact .loc hk (if_pos rfl) ((Option.some.inj e:p=q)▸r.mono (c.dkeep t))
  ·rw [List.getElem?_set_ne (Ne.symm hji)] at hj
   exact (vars j y q hy hj).chg c t fun _=>if_neg (nodup_ne X.nd hx hy (Ne.symm hji))
theorem nm_ok {s:Shared} {i:Nat} {e:Expr} {p:PV} {v:Value} {Q:Unit→Shared→Prop} {E:Value→Shared→Prop} (X:EnvOk C f env) (hx:nmOk f i e=true)
  (P:Pre C f d env A τ s.heap lo M) (r:VR C τ s.heap v p) (h:∀ s',Chg env.locals s s'→Pre C f d env A τ s'.heap (lo.set i (some p)) M→Q () s') :
  wpAny (model C.prog C.w) A (assign e env v) Q E s :=
 kName_i (P:=fun e=>wpAny (model C.prog C.w) A (assign e env v) Q E s) hx fun x px hx=>wpAny_assign_Name (store_ok X (beq (ba hx)) (beq (bb hx)) P r h)
theorem Chg.trans {x:Addr} {s s' s'':Shared} (a:Chg x s s') (b:Chg x s' s''):Chg x s s'':=⟨fun c o n e=>b.keep c o n (a.keep c o n e),b.os.trans a.os,b.gens.trans a.gens⟩
theorem each_cons {i:Nat} {e:Expr} {es:List Expr} {P:List (Bool×(Value→Sem Unit))→Prop} (hx:nmOk f i e=true) (q:P ((false,assign e env) :: assignEach es env)):P (assignEach (e :: es) env) :=
 kName_i (P:=fun e=>P ((false,assign e env) :: assignEach es env)→P (assignEach (e :: es) env)) hx (fun x px hx q=>q) q
theorem nms_ok {Q:Unit→Shared→Prop} {E:Value→Shared→Prop} (X:EnvOk C f env):∀ {is:List Nat} {es:List Expr} {ps:List PV} {vs:List Value} {s:Shared} {lo:Lo},nmsOk f is es=true→Pre C f d env A τ s.heap lo M →
  VRs C τ s.heap vs ps→τ env.locals = .other→(∀ s',Chg env.locals s s'→Pre C f d env A τ s'.heap (setAll is ps lo) M→Q () s')→ps.length=is.length →
  wpAny (model C.prog C.w) A (assignInOrder ((assignEach es env).map (·.2)) vs) Q E s
 | [],es,[],vs,s,lo,hx,P,r,t,h,hl=>by
  obtain rfl:=List.isEmpty_iff.mp hx
  exact r.nil_i (wpAny_pure (h s ⟨fun _ _ _ e=>e,rfl,rfl⟩ P))
 | [],es,p :: ps,vs,s,lo,hx,P,r,t,h,hl=>ns hl
 | i :: is,es,[],vs,s,lo,hx,P,r,t,h,hl=>nz hl
 | i :: is,es,p :: ps,vs,s,lo,hx,P,r,t,h,hl =>
  unc_i (P:=fun es=>wpAny (model C.prog C.w) A (assignInOrder ((assignEach es env).map (·.2)) vs) Q E s) hx fun e es hx=>each_cons (P:=fun l=>wpAny (model C.prog C.w) A (assignInOrder (l.map (·.2)) vs) Q E s) (ba hx)
   (r.cons_i fun v ws r1 r2=>wpAny_bind (wpAny_holding (nm_ok X (ba hx) P r1 fun s' c P'=>nms_ok X (bb hx) P' (r2.mono (c.dkeep t)) t (fun s'' c' P''=>h s'' (c.trans c') P'') (Nat.succ.inj hl))))
theorem each_len:∀ {is:List Nat} {es:List Expr},nmsOk f is es=true→(assignEach es env).length=is.length
 | [],es,h=>List.isEmpty_iff.mp h▸rfl
 | i :: is,es,h=>unc_i (P:=fun es=>(assignEach es env).length=is.length + 1) h fun e es h=>each_cons (P:=fun l=>l.length=is.length + 1) (ba h) (congrArg Nat.succ (each_len (bb h)))
theorem each_star:∀ {is:List Nat} {es:List Expr},nmsOk f is es=true→(assignEach es env).findIdx? (·.1)=none
 | [],es,h=>List.isEmpty_iff.mp h▸rfl
 | i :: is,es,h=>unc_i (P:=fun es=>(assignEach es env).findIdx? (·.1)=none) h fun e es h=>each_cons (P:=fun l=>l.findIdx? (·.1)=none) (ba h) (by rw [List.findIdx?_cons,each_star (bb h)]; rfl)
theorem grow_but {s:Shared} {h':Heap} (e:Heap.ExtBut s.heap.objs.size s.heap h'):Grow τ τ s { s with heap:=h' }:=⟨fun b o g=>⟨e b o (Nat.ne_of_lt (Heap.lt_size g)) g,rfl⟩,rfl,rfl⟩
theorem row_ok {s:Shared} {is:List Nat} {es:List Expr} {kk:Nat} {pos:Pos} {p:PV} {v:Value} {R:Lo→Prop} {Q:Unit→Shared→Prop} {E:Value→Shared→Prop} (X:EnvOk C f env) (hx:nmsOk f is es=true)
  (P:Pre C f d env A τ s.heap lo M) (r:VR C τ s.heap v p) (q:opt (bindS (.inr is) p lo) R) (h:∀ lo' s',Chg env.locals s s'→Pre C f d env A τ s'.heap lo' M→R lo'→Q () s') :
  wpAny (model C.prog C.w) A (assign (.Tuple es kk pos) env v) Q E s:=by
 obtain ⟨lo',hlo,q⟩:=opt_inv q
 cases p with
 | tup l =>
  obtain ⟨hlen,rfl⟩:=itp_inv (hlo:(if l.length=is.length then some (setAll is l lo) else none)=some lo')
  refine r.tup_i fun a vs n e1 e2 r=>?_
  refine assign_Tuple_tuple P.room.1 (tup_typeIs e1) ((each_len (env:=env) hx).trans (r.length.trans hlen).symm) (each_star hx) fun h' ex=>?_
  have g:=grow_but (τ:=τ) ex
  exact nms_ok (s:={ s with heap:=h' }) X hx (P.ext g.ext (P.mem.grow g)) (r.mono (g.ext (L:=none)).dkeep) P.fr.tag (fun s' c P'=>h _ s' ⟨fun b o n e=>c.keep b o n (g.keep b o e).1,c.os,c.gens⟩ P' q) hlen
 | _=>exact no hlo
theorem tgt_ok {s:Shared} {tg:Sum Nat (List Nat)} {e:Expr} {p:PV} {v:Value} {R:Lo→Prop} {Q:Unit→Shared→Prop} {E:Value→Shared→Prop} (X:EnvOk C f env) (hx:tgtOk f tg e=true)
  (P:Pre C f d env A τ s.heap lo M) (r:VR C τ s.heap v p) (q:opt (bindS tg p lo) R) (h:∀ lo' s',Chg env.locals s s'→Pre C f d env A τ s'.heap lo' M→R lo'→Q () s') :
  wpAny (model C.prog C.w) A (assign e env v) Q E s:=by
 cases tg with
 | inl i=>exact nm_ok X hx P r fun s' c P'=>h _ s' c P' q
 | inr is=>exact kTuple_i (P:=fun e=>wpAny (model C.prog C.w) A (assign e env v) Q E s) hx fun es kk pos hx=>row_ok X hx P r q h
end
section
variable {C:Cx} {k:Kn} {f:Fs} {G:Nat→PV} {d:Nat} {env:Env} {A:Around} {τ τ':Tags} {h h':Heap} {s s':Shared} {I:Addr} {fp:List Addr} {P:Nat→Value→Prop} {St:Nat→Heap→Prop} {l:List PV}
theorem ItAt.keep (a:ItAt C A τ h I fp P St l) (k1:∀ o,h.get? I=some o→h'.get? I=some o∧τ' I=τ I) (kd:DKeep τ τ' h h'):ItAt C A τ' h' I fp P St l∧∀ i,St i h→St i h':=by
 obtain ⟨o,ho⟩:=a.self
 refine ⟨⟨a.W,fun b hb hne=>(a.data b hb hne).elim fun o' e=>⟨o',kd _ _ e.1 e.2⟩,⟨o,(k1 o ho).1⟩,(k1 o ho).2.trans a.tag,fun i v hi hv=>(a.vals i v hi hv).elim fun p e=>⟨p,e.1,e.2.mono kd⟩,a.quiet,a.live⟩,fun i st=>a.W.frame i h h' st fun b hb o' e=>?_⟩
 by_cases hb':b=I
 ·exact hb'▸(k1 o' (hb'▸e)).1
 ·exact (a.data b hb hb').elim fun o'' e'=>(kd _ _ e e'.2).1
theorem ItAt.ext (a:ItAt C A τ s.heap I fp P St l) (x:Ext none τ τ' s s'):ItAt C A τ' s'.heap I fp P St l∧∀ i,St i s.heap→St i s'.heap :=
 a.keep (fun o ho=>x.keep I o ho (fun e=>no e.symm) fun b=>oth_part a.tag) x.dkeep
theorem ItAt.in (a:ItAt C A τ h I fp P St l):I ∈ fp:=a.W.sub I (List.mem_singleton.mpr rfl)
theorem ItAt.chg {x:Addr} (a:ItAt C A τ s.heap I fp P St l) (c:Chg x s s') (hx:x ∉ fp) (t:τ x = .other):ItAt C A τ s'.heap I fp P St l∧∀ i,St i s.heap→St i s'.heap :=
 a.keep (fun o ho=>⟨c.keep _ _ (fun q=>hx (q▸a.in)) ho,rfl⟩) (c.dkeep t)
theorem ItAt.next {i:Nat} (a:ItAt C A τ s.heap I fp P St l) (c:Chg I s s') (st:St i s'.heap):ItAt C A τ s'.heap I fp P St l :=
 ⟨a.W,fun b hb hne=>(a.data b hb hne).elim fun o' e=>⟨o',c.keep _ _ hne e.1,e.2⟩,a.live i _ st,a.tag,fun i v hi hv=>(a.vals i v hi hv).elim fun p e=>⟨p,e.1,e.2.mono (c.dkeep a.tag)⟩,a.quiet,a.live⟩
noncomputable abbrev SIt (C:Cx) (k:Kn) (f:Fs) (G:Nat→PV) (d:Nat) (env:Env) (e:It) (x:Expr):Prop :=
 ∀ (lo:Lo) (M:Mem) (Q:List PV→Mem→Prop) (A:Around) (s:Shared) (τ:Tags),Pre C f d env A τ s.heap lo M→wpIt C G d e lo M Q→∀ (K:Value→Shared→Prop),
  (∀ I s' τ₁ s₁ τ' M' fp P St l,Ext none τ τ₁ s s₁→Grow τ₁ τ' s₁ s'→s₁.heap.get? I=none→Pre C f d env A τ' s'.heap lo M'→ItAt C A τ' s'.heap I fp P St l→St 0 s'.heap→Q l M'→l.length ≤ 10000000→K (.ref I) s') →
  wpAny (model C.prog C.w) A (eval x env) (fun xv s₁=>wpAny (model C.prog C.w) A (pyIter xv) K NoE s₁) NoE s
theorem tests_false {M:Model} {s:Shared} {E:Value→Shared→Prop} {Q:Bool→Shared→Prop} (h:Q false s):∀ (ifs:List Expr),
  wpAny M A (forIn ifs false fun c r=>if r=true then do let ok ← isTrue c env (eval c env); pure (ForInStep.yield ok) else pure (ForInStep.yield r)) Q E s
 | []=>by rw [List.forIn_nil]; exact wpAny_pure h
 | c :: cs=>by
  rw [List.forIn_cons,if_neg (by decide),pure_bind]
  exact tests_false h cs
theorem tests_cons {M:Model} {E:Value→Shared→Prop} {Q:Bool→Shared→Prop} {c:Expr} {cs:List Expr} {s:Shared}
  (h:wpAny M A (isTrue c env (eval c env)) (fun b s₁=>if b=true then wpAny M A (forIn cs true fun c r=>if r=true then do let ok ← isTrue c env (eval c env); pure (ForInStep.yield ok) else pure (ForInStep.yield r)) Q E s₁ else Q false s₁) E s) :
  wpAny M A (forIn (c :: cs) true fun c r=>if r=true then do let ok ← isTrue c env (eval c env); pure (ForInStep.yield ok) else pure (ForInStep.yield r)) Q E s:=by
 rw [List.forIn_cons,if_pos rfl]
 refine wpAny_bind (wpAny_bind (wpAny_mono h (fun b s₁ q=>wpAny_pure ?_) fun _ _ e=>e))
 cases b
 ·exact tests_false q cs
 ·exact q
noncomputable abbrev SFor (C:Cx) (k:Kn) (f:Fs) (G:Nat→PV) (d:Nat) (env:Env) (e:Ts) (x:List Expr):Prop :=
 ∀ (lo:Lo) (M:Mem) (Q:Bool→Mem→Prop) (A:Around) (s:Shared) (τ:Tags),Pre C f d env A τ s.heap lo M→wpTs C G d e lo M Q →
  wpAny (model C.prog C.w) A (forIn x true fun c r=>if r=true then do let ok ← isTrue c env (eval c env); pure (ForInStep.yield ok) else pure (ForInStep.yield r)) (PostB C τ s Q) NoE s
theorem no_e {α:Type} {M:Model} {s:Shared} {t:Sem α} {Q:α→Shared→Prop} {E:Value→Shared→Prop} (h:wpAny M A t Q NoE s):wpAny M A t Q E s:=wpAny_mono h (fun _ _ q=>q) fun _ _ f=>f.elim
theorem compLoop_gen {elt target iter:Expr} {ifs:List Expr} {scope:Scope} {pos:Pos} {it acc:Value} {env:Env} {prog:Program} {w:World} {R:Result→Shared→Prop} (J:Nat→Shared→Prop)
  (turn:∀ n s,J n s→wpAny (model prog w) A (pyNext it) (fun r s₁=>match r with
   | none=>R (.ok .next) s₁
   | some v=>wpAny (model prog w) A (letOwnedTupleGo target it v) (fun _ s₁'=>wpAny (model prog w) A (assign target env v) (fun _ s₂ =>
     wpAny (model prog w) A (forIn ifs true fun c r=>if r=true then do let ok ← isTrue c env (eval c env); pure (ForInStep.yield ok) else pure (ForInStep.yield r)) (fun ok s₃ =>
      if ok=true then wpAny (model prog w) A (eval elt env) (fun x s₄ =>
       wpAny (model prog w) A (call (.builtin "list.append") [acc,x]) (fun _ s₅=>∃ m,m < n∧J m s₅) NoE s₄) NoE s₃
      else ∃ m,m < n∧J m s₃) NoE s₂) NoE s₁') NoE s₁) NoE s) {s:Shared}
  (n:Nat) (h:J n s) :
  codeAny (model prog w) A (.compLoop (.ListComp elt [⟨target,iter,ifs,0⟩] scope pos) 0 it acc env) R s:=by
 refine codeAny_loop rfl J (fun n s hI=>?_) n h
 show wpAny _ A ((compTurn (.ListComp elt [⟨target,iter,ifs,0⟩] scope pos) 0 it acc env).onRaise (fun x=>do noteFrame x env; theTreesLotGoes x)) _ _ s
 refine wpAny_noted ?_
 rw [compTurn_list]
 refine wpAny_bind (wpAny_standAt (wpAny_bind (wpAny_mono (no_e (turn n s hI)) (fun r s₁ h₁=>?_) fun _ _ h'=>h')))
 cases r with
 | none=>exact wpAny_pure h₁
 | some v =>
  refine wpAny_bind (wpAny_mono (no_e h₁) (fun _ s₁' h₁'=>?_) fun _ _ h'=>h')
  refine wpAny_bind (wpAny_mono (no_e h₁') (fun _ s₂ h₂=>wpAny_bind (wpAny_mono (no_e h₂) (fun ok s₃ h₃=>?_) fun _ _ h'=>h')) fun _ _ h'=>h')
  cases ok with
  | false=>exact wpAny_pure ⟨rfl,h₃⟩
  | true =>
   exact wpAny_bind (wpAny_bind (wpAny_mono (no_e h₃) (fun x s₄ h₄=>wpAny_bind (wpAny_mono (no_e h₄) (fun _ s₅ h₅=>wpAny_pure (wpAny_pure ⟨rfl,h₅⟩)) fun _ _ h'=>h')) fun _ _ h'=>h'))
theorem append_raw {s:Shared} {D:Addr} {vs:List Value} {n:Nat} {v:Value} {Q:Value→Shared→Prop} {E:Value→Shared→Prop} (hD:s.heap.get? D=some (lstObj vs n)) (hz:vs.length ≤ sizeLine)
  (h:∀ h' n',Chg D s { s with heap:=h' }→h'.get? D=some (lstObj (vs++[v]) n')→Q .none { s with heap:=h' }):wpAny (model C.prog C.w) A (call (.builtin "list.append") [.ref D,v]) Q E s:=by
 refine call_meets F.slot_list_append ⟨_,hD,rfl⟩ F.entry_list_append (F.args_list_append_2 _ _) (PySem.list_append D vs.toArray n v (by simpa using hz)) ⟨hD,?_⟩
 have hg:(s.heap.update D (Obj.mapSeq fun xs=>xs.push v)).get? D=some (lstObj (vs++[v]) (n + 1)):=by
  rw [Heap.get?_update_self _ hD (by rfl)]
  simp [lstObj,Obj.mapSeq]
 exact h _ _ (Chg.of_same (Heap.SameBut.update ..)) hg
inductive CelIs (C:Cx) (env:Env) (τ:Tags) (h:Heap) (x:Str) (p:PV):Prop
 | mk {c v} (k:env.kindOf x=some .cell∨env.kindOf x=some .free) (l:env.cells.lookup x=some c) (g:h.IsCell c (some v)) (t:τ c = .data) (r:VR C τ h v p):CelIs C env τ h x p
noncomputable def CapOk (C:Cx) (f:Fs) (env:Env) (τ:Tags) (h:Heap) (lo:Lo):Prop:=∀ (i:Nat) (x:Str) (p:PV),f.vars[i]? = some x→lo[i]? = some (some p)→CelIs C env τ h x p
theorem CapOk.keep {lo:Lo} (c:CapOk C f env τ h lo) (k:DKeep τ τ' h h'):CapOk C f env τ' h' lo:=fun i x p a b=>by
 obtain ⟨a1,b1,g,t,r⟩:=c i x p a b
 exact ⟨a1,b1,g.elim fun o g=>⟨o,(k _ _ g.1 t).1,g.2⟩,g.elim fun o g=>(k _ _ g.1 t).2,r.mono k⟩
theorem CapOk.fr {lo:Lo} (c:CapOk C f env τ h lo) (n:∃ m,h.Ns env.locals m) (t:τ env.locals = .other):FrOk C f env τ h lo:=by
 obtain ⟨m,n⟩:=n
 exact ⟨m,n,t,fun i x p a b=>by obtain ⟨a1,b1,g,t,r⟩:=c i x p a b; exact .cel a1 b1 g t r⟩
inductive Dd (C:Cx) (τ:Tags) (h:Heap) (D:Addr) (acc:List PV):Prop
 | mk {vs n} (e:h.get? D=some (lstObj vs n)) (r:VRs C τ h vs acc) (t:τ D = .other):Dd C τ h D acc
theorem Dd.ext {D:Addr} {acc:List PV} (d:Dd C τ s.heap D acc) (x:Ext none τ τ' s s'):Dd C τ' s'.heap D acc:=by
 obtain ⟨e,r,t⟩:=d
 have kd:=x.keep D _ e (fun e=>no e.symm) fun b=>oth_part t
 exact ⟨kd.1,r.mono x.dkeep,kd.2.trans t⟩
theorem Dd.chg {D x:Addr} {acc:List PV} (d:Dd C τ s.heap D acc) (c:Chg x s s') (t:τ x = .other) (n:D ≠ x):Dd C τ s'.heap D acc:=by
 obtain ⟨e,r,td⟩:=d
 exact ⟨c.keep _ _ n e,r.mono (c.dkeep t),td⟩
theorem Dd.push {s:Shared} {D:Addr} {acc:List PV} {v:Value} {p:PV} {Q:Value→Shared→Prop} {E:Value→Shared→Prop} (d:Dd C τ s.heap D acc) (r:VR C τ s.heap v p) (hz:acc.length ≤ 10000000)
  (h:∀ h',Chg D s { s with heap:=h' }→τ D = .other→Dd C τ h' D (acc++[p])→Q .none { s with heap:=h' }):wpAny (model C.prog C.w) A (call (.builtin "list.append") [.ref D,v]) Q E s:=by
 obtain ⟨e,rs,t⟩:=d
 exact append_raw e (slot_len hz rs.length) fun h6 n6 ch6 e6=>h h6 ch6 t ⟨e6,VRs.append (.cons (r.mono (ch6.dkeep t)) .nil) (rs.mono (ch6.dkeep t)),t⟩
structure CInv (C:Cx) (f:Fs) (d:Nat) (env:Env) (A:Around) (τ₀:Tags) (s₀:Shared) (D I:Addr) (fp:List Addr) (P:Nat→Value→Prop) (St:Nat→Heap→Prop) (l:List PV) (lo:Lo) (i:Nat) (acc:List PV) (M:Mem) (τ:Tags) (s:Shared):Prop where
 ext:Ext none τ₀ τ s₀ s
 base:Base C τ s.heap
 cap:CapOk C f env τ s.heap lo
 ns:∃ m,s.heap.Ns env.locals m
 loc:τ env.locals = .other
 mem:MemOk C M τ s.heap
 dd:Dd C τ s.heap D acc
 it:ItAt C A τ s.heap I fp P St l
 st:St i s.heap
theorem ns_ext {a:Addr} (n:∃ m,s.heap.Ns a m) (t:τ a = .other) (x:Ext none τ τ' s s'):(∃ m,s'.heap.Ns a m)∧τ' a = .other:=by
 obtain ⟨m,n⟩:=n
 have k:=fun o ho=>x.keep a o ho (fun e=>no e.symm) fun b=>oth_part t
 exact ⟨⟨m,ns_keep n fun o ho=>(k o ho).1⟩,(ns_has n).elim fun o ho=>(k o ho).2.trans t⟩
theorem ns_chg {a x:Addr} (n:∃ m,s.heap.Ns a m) (c:Chg x s s') (ne:a ≠ x):∃ m,s'.heap.Ns a m:=n.elim fun m n=>⟨m,ns_keep n fun o ho=>c.keep _ _ ne ho⟩
theorem base_dk (B:Base C τ h) (k:DKeep τ τ' h h'):Base C τ' h':=fun b o e=>k b o (B b o e).1 (B b o e).2
section
variable {τ₀:Tags} {s₀:Shared} {D:Addr} {lo:Lo} {i:Nat} {acc:List PV} {M:Mem}
theorem CInv.ex {M':Mem} (c:CInv C f d env A τ₀ s₀ D I fp P St l lo i acc M τ s) (x:Ext none τ τ' s s') (m:MemOk C M' τ' s'.heap) :
  CInv C f d env A τ₀ s₀ D I fp P St l lo i acc M' τ' s':=by
 have n:=ns_ext c.ns c.loc x
 have ki:=c.it.ext x
 exact ⟨c.ext.trans x,c.base.ext x,c.cap.keep x.dkeep,n.1,n.2,m,c.dd.ext x,ki.1,ki.2 i c.st⟩
theorem CInv.pre (c:CInv C f d env A τ₀ s₀ D I fp P St l lo i acc M τ s) (rm:Room d A):Pre C f d env A τ s.heap lo M :=
 ⟨rm,c.base,c.cap.fr c.ns c.loc,c.mem⟩
theorem CInv.item (c:CInv C f d env A τ₀ s₀ D I fp P St l lo i acc M τ s) (h0:s₀.heap.get? I=none) (hD:D ≠ I) (hL:env.locals ≠ I) (ch:Chg I s s') {j:Nat} (st:St j s'.heap):CInv C f d env A τ₀ s₀ D I fp P St l lo j acc M τ s' :=
 have kd:=ch.dkeep c.it.tag
 ⟨ch.ext c.it.tag c.ext (.inl h0),base_dk c.base kd,c.cap.keep kd,ns_chg c.ns ch hL,c.loc,ch.mem c.it.tag c.mem,c.dd.chg ch c.it.tag hD,c.it.next ch st,st⟩
theorem CInv.store {lo':Lo} (c:CInv C f d env A τ₀ s₀ D I fp P St l lo i acc M τ s) (h0:s₀.heap.get? env.locals=none) (hD:D ≠ env.locals) (hL:env.locals ∉ fp) (ch:Chg env.locals s s') (P2:Pre C f d env A τ s'.heap lo' M):CInv C f d env A τ₀ s₀ D I fp P St l lo i acc M τ s' :=
 have it:=c.it.chg ch hL c.loc
 ⟨ch.ext c.loc c.ext (.inl h0),P2.base,c.cap.keep (ch.dkeep c.loc),(by obtain ⟨m,n,_,_⟩:=P2.fr; exact ⟨m,n⟩),c.loc,P2.mem,c.dd.chg ch c.loc hD,it.1,it.2 _ c.st⟩
theorem CInv.push {acc':List PV} (c:CInv C f d env A τ₀ s₀ D I fp P St l lo i acc M τ s) (h0:s₀.heap.get? D=none) (hD:env.locals ≠ D) (hf:D ∉ fp) (ch:Chg D s s') (t:τ D = .other) (dd:Dd C τ s'.heap D acc'):CInv C f d env A τ₀ s₀ D I fp P St l lo i acc' M τ s' :=
 have it:=c.it.chg ch hf t
 ⟨ch.ext t c.ext (.inl h0),base_dk c.base (ch.dkeep t),c.cap.keep (ch.dkeep t),ns_chg c.ns ch hD,c.loc,ch.mem t c.mem,dd,it.1,it.2 _ c.st⟩
end
end
section
variable {C:Cx} {k:Kn} {f:Fs} {G:Nat→PV} {d:Nat} {env:Env} {A:Around} {τ τ':Tags} {h h':Heap} {I:Addr} {fp:List Addr} {P:Nat→Value→Prop} {St:Nat→Heap→Prop} {l:List PV}
theorem drop_at {α:Type} {l:List α} {i:Nat} {p:α} (h:l[i]? = some p):l.drop i=p :: l.drop (i + 1):=by
 obtain ⟨hi,e⟩:=List.getElem?_eq_some_iff.mp h
 rw [List.drop_eq_getElem_cons hi,e]
theorem chg_one {s s':Shared} (hk:∀ b o,b ∉ [I]→s.heap.get? b=some o→s'.heap.get? b=some o) (k:s'.os=s.os:=by rfl) (g:s'.gens=s.gens:=by rfl):Chg I s s':=⟨fun b o hb e=>hk b o (fun m=>hb (List.mem_singleton.mp m)) e,k,g⟩
theorem sub_lt {n i:Nat} (h:i < n):n + 1 - (i + 1) < n + 1 - i:=Nat.sub_succ_lt_self _ _ (Nat.lt_succ_of_lt h)
inductive CJ (C:Cx) (f:Fs) (d:Nat) (env:Env) (A:Around) (τ₀:Tags) (s₀:Shared) (D I:Addr) (fp:List Addr) (P:Nat→Value→Prop) (St:Nat→Heap→Prop) (l:List PV) (lo:Lo) (W:List PV→List PV→Mem→Prop) (n:Nat) (s:Shared):Prop
 | mk {i acc M τ} (hi:i ≤ l.length) (ha:acc.length ≤ i) (hn:n=l.length + 1 - i) (c:CInv C f d env A τ₀ s₀ D I fp P St l lo i acc M τ s) (q:W (l.drop i) acc M):CJ C f d env A τ₀ s₀ D I fp P St l lo W n s
inductive CEnd (C:Cx) (τ₀:Tags) (s₀:Shared) (D L:Addr) (acc:List PV) (M:Mem) (τ:Tags) (s:Shared):Prop
 | mk (x:Ext none τ₀ τ s₀ s) (m:MemOk C M τ s.heap) (d:Dd C τ s.heap D acc) (ns:∃ m,s.heap.Ns L m) (t:τ L = .other):CEnd C τ₀ s₀ D L acc M τ s
theorem CInv.end {τ₀:Tags} {s₀ s s':Shared} {D:Addr} {lo:Lo} {i:Nat} {acc:List PV} {M:Mem} (c:CInv C f d env A τ₀ s₀ D I fp P St l lo i acc M τ s) (h0:s₀.heap.get? I=none) (hD:D ≠ I) (hL:env.locals ≠ I) (ch:Chg I s s'):CEnd C τ₀ s₀ D env.locals acc M τ s' :=
 ⟨ch.ext c.it.tag c.ext (.inl h0),ch.mem c.it.tag c.mem,c.dd.chg ch c.it.tag hD,ns_chg c.ns ch hL,c.loc⟩
section
variable {τ₀:Tags} {s₀:Shared} {D:Addr} {lo:Lo} {elt:E} {cond:Ts} {tg:Sum Nat (List Nat)} {x tgt:Expr} {ifs:List Expr} {Q:List PV→Mem→Prop}
theorem comp_turn {i:Nat} {acc:List PV} {M:Mem} {s:Shared} {p:PV} {v:Value} (X:EnvOk C f env) (rm:Room d A) (ht:tgtOk f tg tgt=true) (hcond:SFor C k f G d env cond ifs)
  (helt:SE C k f G d env elt x) (hDC:D ≠ env.locals) (hDf:D ∉ fp) (hCf:env.locals ∉ fp) (h0D:s₀.heap.get? D=none) (h0C:s₀.heap.get? env.locals=none) (hl:l.length ≤ 10000000) (hlt:i < l.length) (hai:acc.length ≤ i)
  (c:CInv C f d env A τ₀ s₀ D I fp P St l lo (i + 1) acc M τ s) (rp:VR C τ s.heap v p) (q:compP tg (fun env M Q=>wpTs C G d cond env M Q) (fun env M Q=>wpE C G d elt env M Q) lo (p :: l.drop (i + 1)) acc M Q) {J:Nat→Shared→Prop}
  (hJ:∀ n s,CJ C f d env A τ₀ s₀ D I fp P St l lo (fun r acc M=>compP tg (fun env M Q=>wpTs C G d cond env M Q) (fun env M Q=>wpE C G d elt env M Q) lo r acc M Q) n s→J n s) :
  wpAny (model C.prog C.w) A (assign tgt env v) (fun _ s₂ =>
     wpAny (model C.prog C.w) A (forIn ifs true fun c r=>if r=true then do let ok ← isTrue c env (eval c env); pure (ForInStep.yield ok) else pure (ForInStep.yield r)) (fun ok s₃ =>
      if ok=true then wpAny (model C.prog C.w) A (eval x env) (fun x s₄ =>
       wpAny (model C.prog C.w) A (call (.builtin "list.append") [.ref D,x]) (fun _ s₅=>∃ m,m < l.length + 1 - i∧J m s₅) NoE s₄) NoE s₃
      else ∃ m,m < l.length + 1 - i∧J m s₃) NoE s₂) NoE s:=by
 refine tgt_ok (M:=M) X ht (c.pre rm) rp q fun lo' s2 ch2 P2 q2=>?_
 have c2:=c.store h0C hDC hCf ch2 P2
 refine wpAny_mono (hcond lo' M _ A s2 τ P2 q2) (fun b s3 q3=>?_) fun _ _ e=>e
 obtain ⟨M3,τ3,x3,m3,q3⟩:=q3
 have c3:=c2.ex x3 m3
 cases b with
 | false=>exact ⟨_,sub_lt hlt,hJ _ _ ⟨hlt,Nat.le_succ_of_le hai,rfl,c3,q3⟩⟩
 | true =>
  refine SE.go helt (P2.ext x3 m3) q3 fun y s4 py M4 τ4 x4 P4 r4 q4=>?_
  obtain ⟨py',M5,τ5,x5,m5,r5,q5⟩:=frz_ok (s:=s4) q4 r4 P4.mem
  have c5:=c3.ex (x4.trans x5) m5
  exact c5.dd.push r5 (Nat.le_trans hai (Nat.le_trans (Nat.le_of_lt hlt) hl)) fun h6 ch6 t6 d6=>⟨_,sub_lt hlt,hJ _ _ ⟨hlt,(by rw [List.length_append]; exact Nat.succ_le_succ hai),rfl,c5.push h0D hDC.symm hDf ch6 t6 d6,q5⟩⟩
theorem comp_loop {iter:Expr} {scope:Scope} {pos:Pos} (X:EnvOk C f env) (rm:Room d A) (ht:tgtOk f tg tgt=true) (hcond:SFor C k f G d env cond ifs)
  (helt:SE C k f G d env elt x) (hDC:D ≠ env.locals) (hDf:D ∉ fp) (hCf:env.locals ∉ fp) (h0D:s₀.heap.get? D=none) (h0C:s₀.heap.get? env.locals=none)
  (h0I:s₀.heap.get? I=none) {M:Mem} {s:Shared} (hl:l.length ≤ 10000000) (inv:CInv C f d env A τ₀ s₀ D I fp P St l lo 0 [] M τ s)
  (q:compP tg (fun env M Q=>wpTs C G d cond env M Q) (fun env M Q=>wpE C G d elt env M Q) lo l [] M Q) {R:Result→Shared→Prop}
  (hR:∀ acc M' τ' s',CEnd C τ₀ s₀ D env.locals acc M' τ' s'→Q acc M'→R (.ok .next) s') :
  codeAny (model C.prog C.w) A (.compLoop (.ListComp x [⟨tgt,iter,ifs,0⟩] scope pos) 0 (.ref I) (.ref D) env) R s:=by
 have hDI:D ≠ I:=fun e=>hDf (e▸inv.it.in)
 have hLI:env.locals ≠ I:=fun e=>hCf (e▸inv.it.in)
 refine compLoop_gen (CJ C f d env A τ₀ s₀ D I fp P St l lo fun r acc M=>compP tg (fun env M Q=>wpTs C G d cond env M Q) (fun env M Q=>wpE C G d elt env M Q) lo r acc M Q) (fun n s' j=>?_) (l.length + 1) ⟨Nat.zero_le _,Nat.le_refl _,rfl,inv,q⟩
 obtain ⟨hi,hai,rfl,c,q⟩:=j
 rcases Nat.lt_or_eq_of_le hi with hlt | rfl
 ·refine c.it.W.item _ s' _ NoE hlt c.st fun v h1 tk1 hP hst hk=>?_
  have ch:Chg I s' { s' with heap:=h1,toks:=tk1 }:=chg_one hk
  obtain ⟨p,hp,rp⟩:=c.it.vals _ v hlt hP
  have c1:=c.item h0I hDI hLI ch hst
  rw [drop_at hp] at q
  exact c1.it.quiet _ _ _ v _ _ hst (comp_turn (s:={ s' with heap:=h1,toks:=tk1 }) X rm ht hcond helt hDC hDf hCf h0D h0C hl hlt hai c1 (rp.mono (ch.dkeep c.it.tag)) q fun n s j=>j)
 ·refine c.it.W.done s' _ NoE c.st fun h1 tk1 hk=>?_
  rw [List.drop_length] at q
  exact hR _ _ _ { s' with heap:=h1,toks:=tk1 } (c.end h0I hDI hLI (chg_one hk)) q
end
end
noncomputable def clStep (env:Env) (n:Str) (k:NameKind) (cs:List (Str×Addr)):List (Str×Addr):=if (k == .free)=true then (match env.cells.lookup n with | some a=>(n,a) :: cs | none=>cs) else cs
noncomputable def clGo (env:Env):List (Str×NameKind)→List (Str×Addr)→List (Str×Addr)
 | [],cs=>cs
 | x :: r,cs=>clGo env r (clStep env x.1 x.2 cs)
theorem step_eq {env:Env} {n:Str} {k:NameKind} {cs:List (Str×Addr)} (h:k = .free→∃ c,env.cells.lookup n=some c) :
  (if (k == NameKind.free)=true then do let a ← cellOf env n; pure (ForInStep.yield ((n,a) :: cs)) else pure (ForInStep.yield cs):Sem (ForInStep (List (Str×Addr))))=pure (.yield (clStep env n k cs)):=by
 unfold clStep
 by_cases hk:(k == NameKind.free)=true
 ·rw [if_pos hk,if_pos hk]
  obtain ⟨c,hc⟩:=h (beq hk)
  have e1:cellOf env n=pure c:=by unfold cellOf; rw [hc]
  rw [hc,e1,pure_bind]
 ·rw [if_neg hk,if_neg hk]
theorem clos_go {env:Env}:∀ (names:List (Str×NameKind)) (cs:List (Str×Addr)),(∀ x ∈ names,x.2 = .free→∃ c,env.cells.lookup x.1=some c) →
  (forIn names cs fun (x:Str×NameKind) (r:List (Str×Addr))=>match x with
   | (name,kind)=>if (kind == NameKind.free)=true then do let a ← cellOf env name; pure (ForInStep.yield ((name,a) :: r)) else pure (ForInStep.yield r):Sem (List (Str×Addr)))=pure (clGo env names cs)
 | [],cs,_=>List.forIn_nil
 | (n,kd) :: r,cs,h=>by
  rw [List.forIn_cons]
  dsimp only
  rw [step_eq (h _ List.mem_cons_self),pure_bind]
  exact clos_go r _ fun x hx=>h x (List.mem_cons_of_mem _ hx)
theorem closure_eq {env:Env} {scope:Scope} (h:∀ x ∈ scope.names,x.2 = .free→∃ c,env.cells.lookup x.1=some c):closureFor scope env=pure (clGo env scope.names []):=by
 unfold closureFor
 have:=clos_go scope.names [] h
 simp only [bind_pure] 
 exact this
theorem step_at {env:Env} {x n:Str} {k:NameKind} {c:Addr} {cs:List (Str×Addr)} (hx:env.cells.lookup x=some c):(clStep env n k cs).lookup x=cs.lookup x∨(clStep env n k cs).lookup x=some c:=by
 unfold clStep
 by_cases hk:(k == NameKind.free)=true
 ·rw [if_pos hk]
  cases hn:env.cells.lookup n with
  | none=>exact .inl rfl
  | some a =>
   dsimp only
   rw [List.lookup_cons]
   cases hb:x == n with
   | false=>exact .inl rfl
   | true=>exact .inr (by rw [← beq hb,hx] at hn; exact hn.symm)
 ·rw [if_neg hk]; exact .inl rfl
theorem step_hit {env:Env} {x:Str} {c:Addr} {cs:List (Str×Addr)} (hx:env.cells.lookup x=some c):(clStep env x .free cs).lookup x=some c:=by
 unfold clStep
 rw [if_pos (beq_self_eq_true NameKind.free),hx]
 dsimp only
 rw [List.lookup_cons,beq_self_eq_true]
theorem cl_find {env:Env} {x:Str} {c:Addr} (hx:env.cells.lookup x=some c):∀ (names:List (Str×NameKind)) (cs:List (Str×Addr)),
  ((x,NameKind.free) ∈ names∨cs.lookup x=some c)→(clGo env names cs).lookup x=some c
 | [],cs,h=>h.resolve_left List.not_mem_nil
 | y :: r,cs,h=>cl_find hx r _ (h.elim (fun h=>(List.mem_cons.mp h).elim (fun h=>.inr (h▸step_hit hx)) .inl) fun h=>.inr ((step_at hx).elim (fun e=>e.trans h) id))
theorem lookup_map {sc:List (Str×NameKind)} {x:Str}:∀ {names:List (Str×NameKind)},(relab sc names).lookup x=(names.lookup x).map (rk sc x)
 | []=>rfl
 | (n,kd) :: r=>by
  show List.lookup x ((n,rk sc n kd) :: relab sc r)=_
  rw [List.lookup_cons,List.lookup_cons]
  cases hb:x == n with
  | true=>rw [beq hb]; rfl
  | false=>exact lookup_map
theorem rk_free {sc:List (Str×NameKind)} {x:Str}:rk sc x .free = .cell∨rk sc x .free = .free:=by
 unfold rk
 by_cases h:((NameKind.free == .free) && sc.lookup x == some .cell)=true
 ·exact .inl (if_pos h)
 ·exact .inr (if_neg h)
theorem rk_cell {sc:List (Str×NameKind)} {x:Str} {kd:NameKind} (hc:kd ≠ .cell) (h:rk sc x kd = .cell):kd = .free∧sc.lookup x=some .cell:=by
 unfold rk at h
 by_cases k:(kd == .free && sc.lookup x == some .cell)=true
 ·exact ⟨beq (ba k),beq (bb k)⟩
 ·rw [if_neg k] at h; exact absurd h hc
theorem relab_free {sc:List (Str×NameKind)} {x:Str} {names:List (Str×NameKind)} (h:names.lookup x=some .free):(relab sc names).lookup x=some .cell∨(relab sc names).lookup x=some .free:=by
 rw [lookup_map,h]
 exact rk_free.imp (congrArg some) (congrArg some)
theorem lookup_mem {β:Type} {x:Str} {kd:β}:∀ {l:List (Str×β)},l.lookup x=some kd→(x,kd) ∈ l
 | [],h=>no h
 | (n,k) :: r,h=>by
  rw [List.lookup_cons] at h
  cases hb:x == n with
  | true=>rw [hb] at h; rw [beq hb,Option.some.inj h]; exact List.mem_cons_self
  | false=>rw [hb] at h; exact List.mem_cons_of_mem _ (lookup_mem h)
theorem relab_cell {sc:List (Str×NameKind)} {x:Str} {names:List (Str×NameKind)} (hc:∀ y ∈ names,y.2 ≠ .cell) (h:(relab sc names).lookup x=some .cell):(x,NameKind.free) ∈ names∧sc.lookup x=some .cell:=by
 rw [lookup_map] at h
 obtain ⟨kd,h1,h2⟩:=Option.map_eq_some_iff.mp h
 have m:=lookup_mem h1
 obtain ⟨rfl,e⟩:=rk_cell (hc _ m) h2
 exact ⟨m,e⟩
theorem nodupB_iff:∀ {l:List Str},nodupB l=true→l.Nodup
 | [],_=>List.nodup_nil
 | x :: xs,h=>List.nodup_cons.mpr ⟨fun hm=>Bool.noConfusion ((List.contains_iff_mem.mpr hm).symm.trans (ntb h)),nodupB_iff (bb h)⟩
structure CompOk (f:Fs) (n:Nat) (caps:List Nat) (scope:Scope) (tgt:Expr):Prop where
 len:(namesOf tgt).length=n
 kind:scope.kind = .function
 nocell:∀ y ∈ scope.names,y.2 ≠ .cell
 loc:∀ y ∈ scope.names,y.2 = .local→scope.names.lookup y.1=some .local
 free:∀ y ∈ scope.names,y.2 = .free→f.sc.lookup y.1=some .cell
 caps_ok:∀ i ∈ caps,∃ x,f.vars[i]? = some x∧scope.names.lookup x=some .free∧f.sc.lookup x=some .cell
 nd:(inner f n tgt caps scope).vars.Nodup
theorem all_at {α:Type} {l:List α} {p:α→Bool} (h:l.all p=true) {x:α} (hx:x ∈ l):p x=true:=List.all_eq_true.mp h x hx
theorem imp_b {a b:Bool} (h:(!a || b)=true) (k:a=true):b=true:=by rw [k] at h; exact h
theorem cap_b {f:Fs} {scope:Scope} {i:Nat} (h:(match f.vars[i]? with | some x=>scope.names.lookup x == some .free && f.sc.lookup x == some .cell | none=>false)=true):∃ x,f.vars[i]? = some x∧scope.names.lookup x=some .free∧f.sc.lookup x=some .cell:=by
 cases e:f.vars[i]? with
 | none=>rw [e] at h; exact nb h
 | some x=>rw [e] at h; exact ⟨x,rfl,beq (ba h),beq (bb h)⟩
theorem compOk_iff {f:Fs} {tg n caps scope tgt} (h:compOk f tg n caps scope tgt=true):CompOk f n caps scope tgt where
 len:=beq (ba (ba (ba (ba (ba (ba h))))))
 kind:=of_decide_eq_true (bb (ba (ba (ba (ba (ba h))))))
 nocell:=fun y hy hc=>Bool.noConfusion ((ntb' (all_at (bb (ba (ba (ba (ba h))))) hy)).symm.trans (beq_iff_eq.mpr hc))
 loc:=fun y hy hl=>beq (imp_b (all_at (bb (ba (ba (ba h)))) hy) (beq_iff_eq.mpr hl))
 free:=fun y hy hl=>beq (imp_b (all_at (bb (ba (ba h))) hy) (beq_iff_eq.mpr hl))
 caps_ok:=fun i hi=>cap_b (all_at (bb (ba h)) hi)
 nd:=nodupB_iff (bb h)
section
variable {C:Cx} {k:Kn} {f:Fs} {G:Nat→PV} {d:Nat} {env:Env} {A:Around} {τ τ':Tags} {h h':Heap}
theorem relabel_eq (X:EnvOk C f env) (scope:Scope):(relabel scope env).names=relab f.sc scope.names:=by
 unfold relabel relab rk
 refine List.map_congr_left fun x _=>?_
 obtain ⟨n,kd⟩:=x
 simp only [X.kind,kind_is X n]
 by_cases h1:kd = .free <;> simp [h1]
 by_cases h2:f.sc.lookup n=some .cell <;> simp [h2]
theorem inner_env {n caps scope tgt} (X:EnvOk C f env) (o:CompOk f n caps scope tgt) (Cc:Addr):EnvOk C (inner f n tgt caps scope) (compEnvC scope (clGo env scope.names []) Cc env) where
 names:=relabel_eq X scope
 kind:=o.kind
 globals:=X.globals
 builtins:=X.builtins
 nd:=o.nd
 cells:=fun x hx=>by
  obtain ⟨h1,h2⟩:=relab_cell o.nocell hx
  obtain ⟨c,hc⟩:=X.cells x h2
  exact ⟨c,cl_find hc _ _ (.inl h1)⟩
theorem caps_at {f:Fs}:∀ {caps:List Nat},(∀ i ∈ caps,∃ x,f.vars[i]? = some x)→∀ m:Nat,(caps.filterMap fun i=>f.vars[i]?)[m]? = (caps[m]?).bind fun i=>f.vars[i]?
 | [],_,m=>rfl
 | i :: r,h,m=>by
  obtain ⟨x,hx⟩:=h i List.mem_cons_self
  rw [List.filterMap_cons,hx]
  cases m with
  | zero=>exact hx.symm
  | succ m=>exact caps_at (fun j hj=>h j (List.mem_cons_of_mem _ hj)) m
theorem caps_lo {lo:Lo} {n i:Nat} {caps:List Nat} {p:PV} (hp:(List.replicate n none++caps.map fun i=>(lo[i]?).join)[i]? = some (some p)):n ≤ i∧∃ j,caps[i - n]? = some j∧lo[j]? = some (some p):=by
 by_cases hi:i < n
 ·rw [List.getElem?_append_left (by rw [List.length_replicate]; exact hi),List.getElem?_replicate,if_pos hi] at hp
  exact no (Option.some.inj hp)
 ·have hi:=Nat.le_of_not_lt hi
  rw [List.getElem?_append_right (by rw [List.length_replicate]; exact hi),List.length_replicate,List.getElem?_map] at hp
  obtain ⟨j,hj,hjp⟩:=Option.map_eq_some_iff.mp hp
  refine ⟨hi,j,hj,?_⟩
  cases e:lo[j]? with
  | none=>rw [e] at hjp; exact no hjp
  | some q=>rw [e] at hjp; exact congrArg some hjp
theorem inner_cap {n caps scope tgt} {lo:Lo} (X:EnvOk C f env) (o:CompOk f n caps scope tgt) (F:FrOk C f env τ h lo) (Cc:Addr) :
  CapOk C (inner f n tgt caps scope) (compEnvC scope (clGo env scope.names []) Cc env) τ h (List.replicate n none++caps.map fun i=>(lo[i]?).join):=by
 intro i x p hx hp
 obtain ⟨hi,j,hj,hlo⟩:=caps_lo hp
 have hl:((namesOf tgt).take n).length=n:=by rw [List.length_take,o.len,Nat.min_self]
 obtain ⟨y,hy,h1,h2⟩:=o.caps_ok j (List.mem_of_getElem? hj)
 have hx:((namesOf tgt).take n++caps.filterMap fun i=>f.vars[i]?)[i]? = some x:=hx
 rw [List.getElem?_append_right (by rw [hl]; exact hi),hl,caps_at (fun i hi=>(o.caps_ok i hi).elim fun x e=>⟨x,e.1⟩),hj] at hx
 obtain rfl:y=x:=Option.some.inj (hy.symm.trans hx)
 obtain ⟨m,ns,t,vars⟩:=F
 cases vars j y p hy hlo with
 | loc a=>rw [kind_is X,h2] at a; exact NameKind.noConfusion (Option.some.inj a)
 | cel a b1 b2 b3 b4 =>
  have e:(compEnvC scope (clGo env scope.names []) Cc env).kindOf y=(relab f.sc scope.names).lookup y:=congrArg (fun l=>List.lookup y l) (relabel_eq X scope)
  exact ⟨e▸relab_free h1,cl_find b1 _ _ (.inl (lookup_mem h1)),b2,b3,b4⟩
end
section
variable {C:Cx} {k:Kn} {f:Fs} {G:Nat→PV} {d:Nat} {env:Env} {A:Around} {τ τ':Tags} {h h':Heap}
theorem notSet_i {iter:Expr} {x:Value} {P:Sem Value→Prop} (h:notSet iter=true) (q:P (pure x)):P (foldedSetIterable iter env x):=by
 cases iter <;> first | exact q | exact nb h
theorem notSet_eq {iter:Expr} (h:notSet iter=true) (x:Value):foldedSetIterable iter env x=pure x:=notSet_i (P:=fun t=>t=pure x) h rfl
inductive Fz (C:Cx) (τ₀:Tags) (s₀:Shared) (D:Addr) (acc:List PV) (M:Mem) (τ:Tags) (s:Shared):Prop
 | mk (τ':Tags) (x:Ext none τ₀ τ' s₀ s) (m:MemOk C M τ' s.heap) (r:VR C τ' s.heap (.ref D) (.list acc)) (k:∀ c,c ≠ D→τ' c=τ c):Fz C τ₀ s₀ D acc M τ s
theorem data_now {τ:Tags} {s:Shared} {M:Mem} {D:Addr} {acc:List PV} {τ₀:Tags} {s₀:Shared} (x:Ext none τ₀ τ s₀ s) (h0:s₀.heap.get? D=none) (m:MemOk C M τ s.heap) (d:Dd C τ s.heap D acc):Fz C τ₀ s₀ D acc M τ s:=by
 obtain ⟨e,r,t⟩:=d
 refine ⟨τ.set D .data,⟨fun b o g hb hp=>?_,x.os,x.gens⟩,fun a o g=>(m a o g).keep (dk_data D _) fun b ob e1 t1=>⟨e1,(Tags.set_ne _ _ (oth_np t t1)).trans t1⟩,.list e (Tags.set_same ..) (r.mono (dk_data D _)),fun c hc=>Tags.set_ne _ _ hc⟩
 obtain ⟨e1,t1⟩:=x.keep b o g hb hp
 exact ⟨e1,(Tags.set_ne _ _ fun q=>get_no h0 g q).trans t1⟩
inductive NewC (C:Cx) (f:Fs) (d:Nat) (env:Env) (A:Around) (lo:Lo) (M:Mem) (I:Addr) (fp:List Addr) (P:Nat→Value→Prop) (St:Nat→Heap→Prop) (l:List PV) (τ₁:Tags) (s₁:Shared) (D Cc:Addr) (s3:Shared):Prop
 | mk (τ3:Tags) (x:Ext none τ₁ τ3 s₁ s3) (P3:Pre C f d env A τ3 s3.heap lo M) (it:ItAt C A τ3 s3.heap I fp P St l) (st:St 0 s3.heap) (dd:Dd C τ3 s3.heap D []) (tC:τ3 Cc = .other) (DC:D ≠ Cc) (fD:D ∉ fp) (fC:Cc ∉ fp) (nD:s₁.heap.get? D=none) (nC:s₁.heap.get? Cc=none) (lC:Cc ≠ env.locals) :
   NewC C f d env A lo M I fp P St l τ₁ s₁ D Cc s3
section
variable {I:Addr} {fp:List Addr} {Pv:Nat→Value→Prop} {St:Nat→Heap→Prop} {l:List PV} {lo:Lo} {M:Mem}
theorem none_back (g:∀ b o,h.get? b=some o→h'.get? b=some o) {b:Addr} (n:h'.get? b=none):h.get? b=none:=by
 cases e:h.get? b with
 | none=>rfl
 | some o=>exact no (n.symm.trans (g _ _ e))
theorem fp_not (a:ItAt C A τ h I fp Pv St l) {b:Addr} (n:h.get? b=none):b ∉ fp:=fun hm=>by
 by_cases e:b=I
 ·exact a.self.elim fun o ho=>get_no n ho e.symm
 ·exact (a.data b hm e).elim fun o ho=>no (n.symm.trans ho.1)
inductive NewG (C:Cx) (env:Env) (τ₂:Tags) (s₂:Shared) (D Cc:Addr) (s3:Shared):Prop
 | mk (τ3:Tags) (g:Grow τ₂ τ3 s₂ s3) (dd:Dd C τ3 s3.heap D []) (tC:τ3 Cc = .other) (DC:D ≠ Cc) (nD:s₂.heap.get? D=none) (nC:s₂.heap.get? Cc=none) (lC:Cc ≠ env.locals):NewG C env τ₂ s₂ D Cc s3
theorem new_g {τ₂:Tags} {s₂ s3:Shared} (P2:Pre C f d env A τ₂ s₂.heap lo M)
  (hsb:Heap.SameBut (s₂.heap.push (lstObj [] 0)).objs.size ((s₂.heap.push (lstObj [] 0)).push { cls:=.type "dict",data:=.dict #[] }) s3.heap) (k:s3.os=s₂.os) (kg:s3.gens=s₂.gens):NewG C env τ₂ s₂ s₂.heap.objs.size (s₂.heap.push (lstObj [] 0)).objs.size s3:=by
 have gD:=grow_push τ₂ s₂ (lstObj [] 0) .other (s':={ s₂ with heap:=s₂.heap.push (lstObj [] 0) })
 have hD0:=get?_size_none s₂.heap
 have hDat:(s₂.heap.push (lstObj [] 0)).get? s₂.heap.objs.size=some (lstObj [] 0):=Heap.get?_push_size _ rfl
 generalize s₂.heap.objs.size=D at gD hD0 hDat ⊢
 generalize s₂.heap.push (lstObj [] 0)=H2 at gD hDat hsb ⊢
 have gC:=grow_push (τ₂.set D .other) { s₂ with heap:=H2 } { cls:=.type "dict",data:=.dict #[] } .other (s':={ s₂ with heap:=H2.push { cls:=.type "dict",data:=.dict #[] } })
 have hC0:=get?_size_none H2
 generalize H2.objs.size=Cc at gC hC0 hsb ⊢
 have ch:Chg Cc { s₂ with heap:=H2.push { cls:=.type "dict",data:=.dict #[] } } s3:=Chg.of_same hsb k kg
 have hDC:D ≠ Cc:=fun e=>get_no hC0 hDat e
 have hC2:s₂.heap.get? Cc=none:=none_back (fun b o e=>(gD.keep b o e).1) hC0
 exact ⟨_,⟨fun b ob e=>by
  obtain ⟨e1,t1⟩:=(gD.trans gC).keep b ob e
  exact ⟨ch.keep b ob (fun q=>get_no hC2 e q) e1,t1⟩,k,kg⟩,⟨ch.keep _ _ hDC (gC.keep _ _ hDat).1,.nil,(Tags.set_ne _ _ hDC).trans (Tags.set_same ..)⟩,Tags.set_same ..,hDC,hD0,hC2,
  fun e=>by obtain ⟨m,n,_,_⟩:=P2.fr; exact (ns_has n).elim fun o ho=>get_no hC2 ho e.symm⟩
theorem new_c {τ₁ τ₂:Tags} {s₁ s₂ s3:Shared} (g1:Grow τ₁ τ₂ s₁ s₂) (P2:Pre C f d env A τ₂ s₂.heap lo M) (it2:ItAt C A τ₂ s₂.heap I fp Pv St l) (st2:St 0 s₂.heap)
  (hsb:Heap.SameBut (s₂.heap.push (lstObj [] 0)).objs.size ((s₂.heap.push (lstObj [] 0)).push { cls:=.type "dict",data:=.dict #[] }) s3.heap) (k:s3.os=s₂.os) (kg:s3.gens=s₂.gens):NewC C f d env A lo M I fp Pv St l τ₁ s₁ s₂.heap.objs.size (s₂.heap.push (lstObj [] 0)).objs.size s3:=by
 obtain ⟨τ3,G,dd,tC,hDC,nD,nC,lC⟩:=new_g P2 hsb k kg
 have it3:=it2.ext (G.ext (L:=none))
 have b1:∀ b,s₂.heap.get? b=none→s₁.heap.get? b=none:=fun b=>none_back fun b o e=>(g1.keep b o e).1
 exact ⟨_,(g1.trans G).ext,P2.ext G.ext (P2.mem.grow G),it3.1,it3.2 0 st2,dd,tC,hDC,fp_not it2 nD,fp_not it2 nC,b1 _ nD,b1 _ nC,lC⟩
theorem free_at {τ₁:Tags} {s s₁:Shared} {b:Addr} (x:Ext none τ τ₁ s s₁) (n:s₁.heap.get? b=none):∀ o,s.heap.get? b=some o→∃ a,τ b = .part a:=fun o ho=>by
 by_cases hp:∃ a,τ b = .part a
 ·exact hp
 ·exact no (n.symm.trans (x.keep b o ho (fun e=>no e.symm) fun a e=>hp ⟨a,e⟩).1)
inductive UseC (C:Cx) (f:Fs) (d:Nat) (env:Env) (A:Around) (lo:Lo) (τ:Tags) (s:Shared) (D Cc:Addr) (acc:List PV) (M:Mem) (s':Shared):Prop
 | mk (τ':Tags) (x:Ext none τ τ' s s') (P:Pre C f d env A τ' s'.heap lo M) (r:VR C τ' s'.heap (.ref D) (.list acc)) (t:τ' Cc = .other) (ne:Cc ≠ env.locals) (ns:∃ m,s'.heap.Ns Cc m) (fr:∀ o,s.heap.get? Cc=some o→∃ a,τ Cc = .part a):UseC C f d env A lo τ s D Cc acc M s'
theorem use_c {τ₁ τ':Tags} {s s₁ s':Shared} {D Cc:Addr} {acc:List PV} {M':Mem} (P:Pre C f d env A τ s.heap lo M) (x1:Ext none τ τ₁ s s₁) (n:s₁.heap.get? D=none) (nC:s₁.heap.get? Cc=none) (lC:Cc ≠ env.locals) (DC:D ≠ Cc) (e:CEnd C τ₁ s₁ D Cc acc M' τ' s'):UseC C f d env A lo τ s D Cc acc M' s':=by
 obtain ⟨xx,mm,dd,ns,t⟩:=e
 obtain ⟨τ5,y1,y2,y3,y4⟩:=data_now xx n mm dd
 exact ⟨τ5,x1.trans y1,P.ext (x1.trans y1) y2,y3,(y4 Cc DC.symm).trans t,lC,ns,free_at x1 nC⟩
end
theorem comp_ok {elt:E} {tg:Sum Nat (List Nat)} {n:Nat} {it:It} {cond:Ts} {caps:List Nat} {x tgt iter:Expr} {ifs:List Expr} {scope:Scope} {pos p:Pos} (X:EnvOk C f env) (o:CompOk f n caps scope tgt)
  (ht:tgtOk (inner f n tgt caps scope) tg tgt=true) (hn:notSet iter=true) (hit:SIt C k f G d env it iter)
  (hcond:∀ env',EnvOk C (inner f n tgt caps scope) env'→SFor C k (inner f n tgt caps scope) G d env' cond ifs) (helt:∀ env',EnvOk C (inner f n tgt caps scope) env'→SE C k (inner f n tgt caps scope) G d env' elt x)
  {use:Option (Value→Sem Unit)} {Qv:Value→Shared→Prop} {QL:List PV→Mem→Prop} {lo:Lo} {M:Mem} {s:Shared} (P:Pre C f d env A τ s.heap lo M)
  (q:wpIt C G d it lo M fun l M=>IteP (compP tg (fun env M Q=>wpTs C G d cond env M Q) (fun env M Q=>wpE C G d elt env M Q) (List.replicate n none++caps.map fun i=>(lo[i]?).join) l [] M QL))
  (huse:∀ D Cc acc M' s',UseC C f d env A lo τ s D Cc acc M' s'→QL acc M'→compPost (model C.prog C.w) A NoE use Qv (.ref D) Cc (.ok .next) s') :
  wpAny (model C.prog C.w) A (comprehension (.ListComp x [⟨tgt,iter,ifs,0⟩] scope pos) scope env p (newList []) false (eval iter env) use) Qv NoE s:=by
 have hclos:closureFor scope env=pure (clGo env scope.names []):=closure_eq fun y hy hf=>X.cells _ (o.free y hy hf)
 refine wpAny_comprehension_free (g:=⟨tgt,iter,ifs,0⟩) (gs:=[]) rfl (notSet_eq hn) hclos o.kind o.loc ?_
 refine hit lo M _ A s τ P q _ fun I s₂ τ₁ s₁ τ₂ M₂ fp Pv St l x1 g1 hI P2 it2 st2 q2 hlen=>?_
 refine wpAny_newObj_type (wpAny_newFunctionEnv o.nocell (fun y hy=>absurd hy List.not_mem_nil) (fun h3 hns hsb=>?_) o.kind)
 obtain ⟨τ3,x3,P3,it3,st3,dd,tC,hDC,fD,fC,nD,nC,lC⟩:=new_c (s3:={ s₂ with heap:=h3 }) g1 P2 it2 st2 hsb rfl rfl
 have X':=inner_env X o (s₂.heap.push (lstObj [] 0)).objs.size
 have loop:∀ s3:Shared,Same { s₂ with heap:=h3 } s3→codeAny (model C.prog C.w) A (.compLoop (.ListComp x [⟨tgt,iter,ifs,0⟩] scope pos) 0 (.ref I) (.ref s₂.heap.objs.size) (compEnvC scope (clGo env scope.names []) (s₂.heap.push (lstObj [] 0)).objs.size env))
   (compPost (model C.prog C.w) A NoE use Qv (.ref s₂.heap.objs.size) (s₂.heap.push (lstObj [] 0)).objs.size) s3:=by
  intro s3 e
  obtain rfl:s3.heap=h3:=e.h
  exact comp_loop (P:=Pv) (St:=St) (τ₀:=τ₁) (s₀:=s₁) X' P.room ht (hcond _ X') (helt _ X') hDC fD fC nD nC hI (M:=M₂) (τ:=τ3) hlen ⟨x3.trans e.grow.ext,P3.base,inner_cap X o P3.fr _,⟨_,hns⟩,tC,P3.mem,dd,it3,st3⟩ q2.run
   fun acc M' τ' s' e qq=>huse _ _ acc M' s' (use_c P x1 nD nC lC hDC e) qq
 exact codeAny_compStart_list (loop _ rfl) (it3.W.self 0 _ _ _ st3 (loop _ rfl))
end
end Mine
end
section
open PySem PySem.W PySem.Calls Builtin.Str
set_option tactic.hygienic true
namespace Mine
open PyProof.Rows
theorem at_iff (l a:List Nat) (i:Nat):StrLaws.At ⟨l.toArray⟩ ⟨a.toArray⟩ l.length i ↔ i + a.length ≤ l.length∧(l.drop i).take a.length=a:=by
 unfold StrLaws.At
 simp only [str_len]
 constructor
 ·rintro ⟨h1,h2⟩
  refine ⟨h1,?_⟩
  unfold Builtin.Str.subAt at h2
  simp only [str_len] at h2
  have:=beq_iff_eq.mp h2
  have:=congrArg Array.toList this
  simpa using this
 ·rintro ⟨h1,h2⟩
  refine ⟨h1,?_⟩
  unfold Builtin.Str.subAt
  simp only [str_len]
  refine beq_iff_eq.mpr ?_
  apply Array.toList_inj.mp
  simpa using h2
theorem pre_iff (l a:List Nat):a.isPrefixOf l=true ↔ l.take a.length=a:=by
 rw [List.isPrefixOf_iff_prefix,List.prefix_iff_eq_take]
 exact ⟨Eq.symm,Eq.symm⟩
noncomputable def rp (l b:List Nat) (w:Nat):Nat→List Nat→List Nat
 | lo,[]=>l.drop lo
 | lo,c :: r=>(l.drop lo).take (c - lo)++b++rp l b w (c + w) r
theorem pre_at {l a:List Nat} {lo:Nat} (hl:lo ≤ l.length) (h:¬ StrLaws.At ⟨l.toArray⟩ ⟨a.toArray⟩ l.length lo):a.isPrefixOf (l.drop lo)=false:=by
 cases e:a.isPrefixOf (l.drop lo) with
 | false=>rfl
 | true =>
  have e':=(pre_iff _ _).mp e
  have k:a.length ≤ l.length - lo:=List.length_drop▸(List.isPrefixOf_iff_prefix.mp e).length_le
  exact absurd ((at_iff l a lo).mpr ⟨Nat.add_le_of_le_sub' hl k,e'⟩) h
theorem replL_no {a b r:List Nat} {x N:Nat} (h:a.isPrefixOf (x :: r)=false):replL a b (N + 1) (x :: r)=x :: replL a b N r:=by
 show (if a.isPrefixOf (x :: r)=true then _ else _)=_
 rw [h]; rfl
theorem replL_yes {a b r:List Nat} {x N:Nat} (h:a.isPrefixOf (x :: r)=true):replL a b (N + 1) (x :: r)=b++replL a b N ((x :: r).drop a.length):=by
 show (if a.isPrefixOf (x :: r)=true then _ else _)=_
 rw [h]; rfl
theorem cut_lt {l a:List Nat} {c:Nat} (ha:1 ≤ a.length) (h:StrLaws.At ⟨l.toArray⟩ ⟨a.toArray⟩ l.length c):c < l.length:=Nat.lt_of_lt_of_le (Nat.add_lt_add_left ha c) ((at_iff l a c).mp h).1
theorem run_rp (l a b:List Nat) (ha:1 ≤ a.length):∀ (N lo:Nat) (cuts:List Nat) (f:Nat),StrLaws.ChainG ⟨l.toArray⟩ ⟨a.toArray⟩ l.length lo cuts f→(∀ k,f ≤ k→¬ StrLaws.At ⟨l.toArray⟩ ⟨a.toArray⟩ l.length k)→lo ≤ l.length→l.length - lo ≤ N →
  replL a b N (l.drop lo)=rp l b a.length lo cuts
 | 0,lo,[],f,h,hn,hl,hN=>rfl
 | 0,lo,c :: r,f,h,hn,hl,hN=>absurd (Nat.le_trans (Nat.le_of_sub_eq_zero (Nat.le_zero.mp hN)) h.1) (Nat.not_le.mpr (cut_lt ha h.2.1))
 | N + 1,lo,cuts,f,h,hn,hl,hN=>by
  rcases Nat.lt_or_eq_of_le hl with hlt | rfl
  ·have hd:l.drop lo=l[lo] :: l.drop (lo + 1):=List.drop_eq_getElem_cons hlt
   have hN':l.length - (lo + 1) ≤ N:=Nat.pred_le_pred hN
   cases cuts with
   | nil =>
    obtain rfl:f=lo:=h
    have np:=pre_at (a:=a) hl (hn f (Nat.le_refl _))
    rw [hd] at np ⊢
    rw [replL_no np,run_rp l a b ha N (f + 1) [] (f + 1) rfl (fun k hk=>hn k (Nat.le_of_succ_le hk)) hlt hN']
    exact hd.symm
   | cons c r =>
    obtain ⟨h1,h2,h3,h4⟩:=h
    rcases Nat.lt_or_eq_of_le h1 with hc | rfl
    ·have np:=pre_at (a:=a) hl (h3 lo (Nat.le_refl _) hc)
     have e:c - lo=(c - (lo + 1)) + 1:=(Nat.succ_pred_eq_of_pos (Nat.sub_pos_of_lt hc)).symm
     rw [hd] at np ⊢
     rw [replL_no np,run_rp l a b ha N (lo + 1) (c :: r) f ⟨hc,h2,fun k k1 k2=>h3 k (Nat.le_of_succ_le k1) k2,h4⟩ hn hlt hN']
     show _=(l.drop lo).take (c - lo)++b++rp l b a.length (c + a.length) r
     rw [hd,e]; rfl
    ·obtain ⟨g1,g2⟩:=(at_iff l a lo).mp h2
     have hp:a.isPrefixOf (l.drop lo)=true:=(pre_iff _ _).mpr g2
     show _=(l.drop lo).take (lo - lo)++b++rp l b a.length (lo + a.length) r
     rw [Nat.sub_self]
     rw [hd] at hp
     rw [hd,replL_yes hp,← hd,List.drop_drop,run_rp l a b ha N (lo + a.length) r f (str_len a▸h4) hn g1 (Nat.le_trans (Nat.sub_le_sub_left (Nat.add_le_add_left ha lo) _) hN')]
     rfl
  ·cases cuts with
   | nil =>
    rw [List.drop_length]
    exact (List.drop_length).symm
   | cons c r=>exact absurd h.1 (Nat.not_le.mpr (cut_lt ha h.2.1))
theorem join_rp (l b:List Nat) (w:Nat):∀ (cuts:List Nat) (lo:Nat),joinL b (((lo :: cuts.map (· + w)).zip (cuts++[l.length])).map fun p=>(l.drop p.1).take (p.2 - p.1))=rp l b w lo cuts
 | [],lo=>List.take_of_length_le (Nat.le_of_eq List.length_drop)
 | c :: r,lo=>by
  have ih:=join_rp l b w r (c + w)
  cases r <;> exact congrArg (fun t=>(l.drop lo).take (c - lo)++b++t) ih
theorem txt_replace (l a b:List Nat) (ha:1 ≤ a.length):Txt.replace ⟨l.toArray⟩ ⟨a.toArray⟩ ⟨b.toArray⟩=⟨(replL a b l.length l).toArray⟩:=by
 obtain ⟨f,h1,h2⟩:=StrLaws.occ_tight ⟨l.toArray⟩ ⟨a.toArray⟩ (by rw [str_len]; exact ha)
 rw [str_len] at h1 h2
 have key:=run_rp l a b ha l.length 0 _ f h1 h2 (Nat.zero_le _) (Nat.sub_le _ _)
 rw [List.drop_zero] at key
 rw [key]
 unfold Txt.replace
 simp only [str_len]
 split
 ·rename_i he
  have:(occurrences ⟨l.toArray⟩ ⟨a.toArray⟩ 0 l.length (l.length + 1))=[]:=by
   rw [Bool.or_eq_true] at he
   rcases he with he | he
   ·exact List.isEmpty_iff.mp he
   ·rw [Bool.and_eq_true,beq_iff_eq] at he; omega
  rw [this]
  simp [rp]
 ·unfold partsBetween
  simp only [str_len]
  rw [StrLaws.glued_eq_join]
  generalize occurrences ⟨l.toArray⟩ ⟨a.toArray⟩ 0 l.length (l.length + 1)=cuts
  have e:((0 :: cuts.map (· + a.length)).zip (cuts++[l.length])).map (fun (x:Nat×Nat)=>strSub ⟨l.toArray⟩ x.1 x.2) =
    (((0 :: cuts.map (· + a.length)).zip (cuts++[l.length])).map fun p=>(l.drop p.1).take (p.2 - p.1)).map fun y=>(⟨y.toArray⟩:Str):=by
   rw [List.map_map]
   refine List.map_congr_left fun x _=>?_
   show strSub _ _ _=_
   have:=StrLaws.strSub_toList ⟨l.toArray⟩ x.1 x.2
   cases hs:strSub ⟨l.toArray⟩ x.1 x.2
   rw [hs] at this
   simp only at this
   simp only [Function.comp]
   rw [← this]
  show Str.join _ (List.map (fun (x:Nat×Nat)=>strSub ⟨l.toArray⟩ x.1 x.2) _)=_
  rw [e,join_eq,join_rp]
end Mine
end
section
open PySem PySem.W PySem.Calls
namespace Mine
open PyProof.Rows
section
variable {C:Cx} {k:Kn} {f:Fs} {G:Nat→PV} {d:Nat} {env:Env} {A:Around}
theorem repl_ok {s:Shared} {τ τ₀:Tags} {h₀:Shared} {M:Mem} {l a b:List Nat} {t u v:Tok} {Q:PV→Mem→Prop} (hu:u ≠ 0) (hv:v ≠ 0) (huv:u ≠ v) (x:Ext none τ₀ τ h₀ s) (mk:MemOk C M τ s.heap)
  (q:replP a b (.str l) fun p=>Q p M):wpAny (model C.prog C.w) A (call (.builtin "str.replace") [.str ⟨l.toArray⟩ t,.str ⟨a.toArray⟩ u,.str ⟨b.toArray⟩ v]) (Post C τ₀ h₀ Q) NoE s:=by
 obtain ⟨⟨h1,h2,h3,h4⟩,q⟩:=q
 refine SC.replaceW hu hv huv ?_ (by rw [str_len]; omega) (by rw [str_len]; exact h4) fun t' k=>?_
 ·rw [str_beq]; exact beq_eq_false_iff_ne.mpr h2
 ·rw [txt_replace l a b h3]
  exact Post.step x (PGS mk rfl (.str _ _) q)
theorem MethodOnS_up {C:Cx} {A:Around} {n:Str} {ov:Value} {pos:Pos} {args:List (Bool×Sem Value)} {s:Shared} {Q:Value→Shared→Prop} (h:MethodOnS C.prog C.w A NoE n ov pos args Q { s with toks:=s.toks + 1 }) :
  MethodOnS C.prog C.w A NoE n ov pos args (fun v s'=>1 ≤ s'.toks∧Q v s') { s with toks:=s.toks + 1 }:=by
 obtain ⟨T,id,g1,g2,g3,g4,g5,g6⟩:=h
 exact ⟨T,id,g1,g2,g3,g4,g5,wpAny_mono (wpAny_toks (s:={ s with toks:=s.toks + 1 }) g6) (fun v s' q=>⟨Nat.le_trans (Nat.le_add_left 1 s.toks) q.1,q.2⟩) fun _ _ e=>e.2⟩
theorem two_lits {s:Shared} {a b:Str} {ka kb:Nat} {pa pb pos:Pos} {Q:List Value→Shared→Prop} {E:Value→Shared→Prop} {M:Model} (h:Q [.str a s.toks,.str b (s.toks + 1)] { s with toks:=s.toks + 1 + 1 }) :
  wpAny M A (spliced (backTo pos (starEach [.Constant (.str a) ka pa,.Constant (.str b) kb pb] env))) Q E s :=
 wpAny_items_cons (wpAny_Constant_str (wpAny_items_cons (wpAny_Constant_str (wpAny_items_nil h))))
theorem join_go {sep a b:List Nat} {x:E} {y:Expr} {ks:Nat} {ps ap1 p1:Pos} {lo:Lo} {M:Mem} {Q:PV→Mem→Prop} {s:Shared} {τ:Tags} (h1:(ap1.endLine == p1.line)=true) (hy:isStar y=false)
  (ih:SE C k f G d env x y) (P:Pre C f d env A τ s.heap lo M) (q:wpE C G d (.jrep sep x a b) lo M Q) :
  wpAny (model C.prog C.w) A (eval (.Call (.Attribute (.Constant (.str ⟨sep.toArray⟩) ks ps) "join" ap1) [y] [] p1) env) (fun ov s₁=>1 ≤ s₁.toks∧Post C τ s (fun p M=>∃ l,p = .str l∧replP a b (.str l) fun v=>Q v M) ov s₁) NoE s:=by
 have hs:∀ z ∈ [y],isStar z=false:=fun z hz=>List.mem_singleton.mp hz▸hy
 refine wpAny_Call_method_lateS rfl (few_call hs (by decide:1 < 29)) h1 (wpAny_Constant_str ?_)
 refine MethodOnS_up (meth_go (s:={ s with toks:=s.toks + 1 }) (M:=M) (Q:=fun p M=>∃ l,p = .str l∧replP a b (.str l) fun v=>Q v M) (m:=.join) (n:=1) (by simp) hs (VR.str sep s.toks) ?_ trivial P.mem fun v s' q=>Post.step Ext.up q)
 refine wpAny_items_cons (SE.go (s:={ s with toks:=s.toks + 1 }) ih P q fun v s₁ p M1 τ1 x1 P1 r1 q1=>wpAny_items_nil ?_) (starEach_cons hy)
 refine ⟨rfl,[p],M1,τ1,x1,P1.mem,.cons r1 .nil,?_⟩
 obtain ⟨l,hl,q1⟩:=opt_inv q1
 show opt ((items p M1).bind strsOf) _
 rw [hl]
 exact ⟨Nat.le_trans q1.1 (by decide),_,rfl,q1.2⟩
theorem jrep_ok {sep a b:List Nat} {x:E} {y:Expr} {ks ka kb:Nat} {ps ap1 p1 ap2 p2 pa pb:Pos} {lo:Lo} {M:Mem} {Q:PV→Mem→Prop} {s:Shared} {τ:Tags} (h1:(ap1.endLine == p1.line)=true) (h2:(ap2.endLine == p2.line)=true) (hy:isStar y=false)
  (ih:SE C k f G d env x y) (P:Pre C f d env A τ s.heap lo M) (q:wpE C G d (.jrep sep x a b) lo M Q) :
  wpAny (model C.prog C.w) A (eval (.Call (.Attribute (.Call (.Attribute (.Constant (.str ⟨sep.toArray⟩) ks ps) "join" ap1) [y] [] p1) "replace" ap2) [.Constant (.str ⟨a.toArray⟩) ka pa,.Constant (.str ⟨b.toArray⟩) kb pb] [] p2) env) (Post C τ s Q) NoE s:=by
 refine wpAny_Call_method_lateS rfl (few_call (fun x hx=>by rcases List.mem_cons.mp hx with rfl | hx <;> first | rfl | exact List.mem_singleton.mp hx▸rfl) (by decide:2 < 29)) h2 (wpAny_mono (join_go h1 hy ih P q) (fun ov s₁ q1=>?_) fun _ _ e=>e)
 obtain ⟨ht,p,M1,τ1,x1,m1,r1,l,rfl,q2⟩:=q1
 refine r1.str_i fun t=>⟨"str","str.replace",F.plainAttrs_str,F.slot_str_replace,F.type_str_replace,typeIs_str _ _ _,(fun b hb=>nomatch hb),?_⟩
 refine callWith_builtin rfl (evalArgs_plain (two_lits (pos:=p2) ?_))
 exact repl_ok (s:={ s₁ with toks:=s₁.toks + 1 + 1 }) (u:=s₁.toks) (v:=s₁.toks + 1) (Nat.ne_of_gt ht) (Nat.succ_ne_zero _) (Nat.ne_of_lt (Nat.lt_succ_self _)) (x1.trans Ext.up) m1 q2
end
section
variable {C:Cx} {k:Kn} {f:Fs} {G:Nat→PV} {d:Nat} {env:Env} {A:Around}
inductive DPost (C:Cx) (τ:Tags) (h:Shared) (ks:List (List Nat)) (Q:List PV→Mem→Prop) (r:List (Value×Value)) (s':Shared):Prop
 | mk (kvs:List (Str×Value)) (ps:List PV) (M':Mem) (τ':Tags) (c:Carries (strKind C.prog C.w) r kvs) (e:kvs.map (·.1)=ks.map (fun k=>(⟨k.toArray⟩:Str))) (x:Ext none τ τ' h s') (m:MemOk C M' τ' s'.heap)
   (v:VRs C τ' s'.heap (kvs.map (·.2)) ps) (q:Q ps M'):DPost C τ h ks Q r s'
noncomputable abbrev SDic (C:Cx) (k:Kn) (f:Fs) (G:Nat→PV) (d:Nat) (env:Env) (ks:List (List Nat)) (es:Es) (keys:List (Option Expr)) (vals:List Expr):Prop :=
 ∀ (lo:Lo) (M:Mem) (Q:List PV→Mem→Prop) (A:Around) (s:Shared) (τ:Tags) (pos:Pos),Pre C f d env A τ s.heap lo M→wpEs C G d es lo M Q →
  wpAny (model C.prog C.w) A (evalPairs (pairTrees keys vals env pos)) (DPost C τ s ks Q) NoE s
theorem merged_app:∀ (kvs acc:List (Str×Value)),((acc++kvs).map (·.1)).Nodup→merged acc kvs=acc++kvs
 | [],acc,_=>by simp [merged]
 | (k,v) :: r,acc,h=>by
  have hk:stored acc k v=acc++[(k,v)]:=by
   unfold stored
   rw [if_neg]
   intro ha
   obtain ⟨x,hx,e⟩:=List.any_eq_true.mp ha
   have e':x.1=k:=of_decide_eq_true e
   rw [List.map_append,List.nodup_append] at h
   exact h.2.2 k (by rw [← e']; exact List.mem_map_of_mem hx) k (by simp) rfl
  show merged (stored acc k v) r=_
  rw [hk,merged_app r (acc++[(k,v)]) (by simpa using h)]
  simp
theorem pairs_keys {es:List DictEntry} {kvs:List (Str×Value)} {ks:List (List Nat)} (hk:∀ e ∈ es,∃ k,(strKind C.prog C.w).is k e.key=true∧e.hash=(strKind C.prog C.w).hash k) (h:Pairs (strKind C.prog C.w) es kvs)
  (e:kvs.map (·.1)=ks.map (fun k=>(⟨k.toArray⟩:Str))):fieldKeys C es ks∧es.map (·.val)=kvs.map (·.2):=by
 induction h generalizing ks with
 | nil =>
  cases ks with
  | nil=>exact ⟨trivial,rfl⟩
  | cons _ _=>exact absurd e.symm (List.cons_ne_nil _ _)
 | cons h1 h2 h3 ih =>
  cases ks with
  | nil=>exact absurd e (List.cons_ne_nil _ _)
  | cons k0 ks =>
   obtain ⟨e1,e2⟩:=List.cons.inj e
   dsimp only at e1
   obtain ⟨i1,i2⟩:=ih (fun e he=>hk e (List.mem_cons_of_mem _ he)) e2
   obtain ⟨t,ht⟩:=Value.isStrOf_shape h1
   obtain ⟨k',g1,g2⟩:=hk _ List.mem_cons_self
   obtain rfl:=(strKind C.prog C.w).inj _ _ _ g1 h1
   exact ⟨⟨⟨⟨t,ht.trans (e1▸rfl)⟩,e1▸g2⟩,i1⟩,congr (congrArg List.cons h2) i2⟩
theorem keys_some:∀ {ks:List (List Nat)} {keys:List (Option Expr)},keysOk ks keys=true→keys.all (·.isSome)=true
 | [],es,h=>List.isEmpty_iff.mp h▸rfl
 | k :: ks,es,h=>unc_i (P:=fun l=>l.all (·.isSome)=true) h fun e es h=>oK_i (P:=fun o=>(o :: es).all (·.isSome)=true) (ba h) fun e _=>(keys_some (bb h):es.all (·.isSome)=true)
theorem nodupL_iff:∀ {l:List (List Nat)},nodupL l=true→l.Nodup
 | [],_=>List.nodup_nil
 | x :: xs,h=>List.nodup_cons.mpr ⟨fun hm=>Bool.noConfusion ((List.contains_iff_mem.mpr hm).symm.trans (ntb h)),nodupL_iff (bb h)⟩
theorem nodup_str:∀ {l:List (List Nat)},l.Nodup→(l.map (fun k=>(⟨k.toArray⟩:Str))).Nodup
 | [],_=>List.nodup_nil
 | x :: xs,h=>by
  obtain ⟨h1,h2⟩:=List.nodup_cons.mp h
  refine List.nodup_cons.mpr ⟨fun hm=>?_,nodup_str h2⟩
  obtain ⟨y,hy,e⟩:=List.mem_map.mp hm
  injection e with e
  exact h1 ((show y=x by simpa using e)▸hy)
theorem obj_eq {o:Obj} {es:Array DictEntry} {n:Nat} (h1:o.cls = .type "dict") (h2:o.dict=none) (h3:o.slots = #[]) (h4:o.data = .dict es n):o=dctObj es.toList n:=by
 obtain ⟨oc,od,oda,osl⟩:=o
 subst h1; subst h2; subst h3; subst h4
 rfl
theorem fz_dict {τ₀:Tags} {h₀ s:Shared} {D:Addr} {M:Mem} {τ:Tags} {p:PV} {Q:PV→Mem→Prop} {s':Shared} (xx:Ext none τ₀ τ h₀ s) (h0:h₀.heap.get? D=none) (m:MemOk C M τ s.heap) (t:τ D = .other) (ch:Chg D s s') (r:DKeep τ (τ.set D .data) s.heap s'.heap→VR C (τ.set D .data) s'.heap (.ref D) p) (q:Q p M) :
  Post C τ₀ h₀ Q (.ref D) s':=by
 have k:DKeep τ (τ.set D .data) s.heap s'.heap:=fun b ob e tb=>⟨(ch.dkeep t b ob e tb).1,set_data D tb⟩
 have xt:=ch.ext t xx (.inl h0)
 refine ⟨p,M,τ.set D .data,⟨fun b o g hb hp=>?_,xt.os,xt.gens⟩,fun a o g=>(m a o g).keep k fun b ob e1 t1=>⟨ch.keep _ _ (oth_np t t1) e1,(Tags.set_ne _ _ (oth_np t t1)).trans t1⟩,r k,q⟩
 obtain ⟨e1,t1⟩:=xt.keep b o g hb hp
 exact ⟨e1,(Tags.set_ne _ _ fun q=>get_no h0 g q).trans t1⟩
theorem dic_ok {ks:List (List Nat)} {es:Es} {keys:List (Option Expr)} {vals:List Expr} {pos:Pos} {lo:Lo} {M:Mem} {Q:PV→Mem→Prop} {s:Shared} {τ:Tags} (O:GOk C k G) (hk:keysOk ks keys=true) (h0:0 < keys.length) (h15:keys.length ≤ 15)
  (hl:keys.length=vals.length) (nd:nodupL ks=true) (hd:SDic C k f G d env ks es keys vals) (P:Pre C f d env A τ s.heap lo M) (q:wpE C G d (.dic ks es) lo M Q) :
  wpAny (model C.prog C.w) A (eval (.Dict keys vals pos) env) (Post C τ s Q) NoE s:=by
 refine wpAny_Dict_walk (knd:=strKind C.prog C.w) (keys_some hk) hl (fun e=>by rw [e] at h0; exact absurd h0 (Nat.lt_irrefl 0)) h15 ?_
 have g:=grow_push τ s { cls:=.type "dict",data:=.dict #[] } .other (s':={ s with heap:=s.heap.push { cls:=.type "dict",data:=.dict #[] } })
 have hD:s.heap.get? s.heap.objs.size=none:=get?_size_none _
 have hD':(s.heap.push { cls:=.type "dict",data:=.dict #[] }).get? s.heap.objs.size=some { cls:=.type "dict",data:=.dict #[] }:=Heap.get?_push_size _ rfl
 have hne:s.heap.objs.size ≠ 1:=fun e=>O.sys.elim fun o ho=>absurd (e▸Heap.lt_size (P.base _ _ ho).1:2 < 1) (by decide)
 generalize s.heap.objs.size=D at g hD hD' hne ⊢
 have tD:(τ.set D .other) D = .other:=Tags.set_same ..
 have P1:Pre C f d env A (τ.set D .other) ({ s with heap:=s.heap.push { cls:=.type "dict",data:=.dict #[] } }:Shared).heap lo M:=P.ext g.ext (P.mem.grow g)
 refine wpAny_mono (hd lo M _ A _ _ pos P1 q) (fun r s' q1=>?_) fun _ _ e=>e
 obtain ⟨kvs,ps,M',τ',hc,hks,x1,m1,r1,q1⟩:=q1
 have hnd:(kvs.map (·.1)).Nodup:=hks▸nodup_str (nodupL_iff nd)
 have kd:=x1.keep D _ hD' (fun e=>no e.symm) fun b=>oth_part tD
 refine ⟨kvs,hc,⟨_,#[],0,kd.1,⟨rfl,rfl,rfl⟩,rfl,(fun e he=>absurd (Array.mem_toList_iff.mpr he) List.not_mem_nil),.nil,List.nodup_nil⟩,fun h' hdo hs=>?_⟩
 rw [merged_app kvs [] hnd] at hdo
 obtain ⟨o,es',ep,ho,hx,hdat,hkeys,hp,_⟩:=hdo
 obtain ⟨f1,f2⟩:=pairs_keys (ks:=ks) (fun e he=>hkeys e (Array.mem_toList_iff.mp he)) hp hks
 exact fz_dict (s':={ s' with heap:=h',toks:=s'.toks + r.length }) (g.ext.trans x1) hD m1 (kd.2.trans tD) (Chg.of_same hs) (fun kk=>.dict (ho.trans (congrArg some (obj_eq hx.1 hx.2.1 hx.2.2 hdat))) (Tags.set_same ..) hne f1 (f2.symm▸r1.mono kk)) q1
end
section
variable {C:Cx} {k:Kn} {f:Fs} {G:Nat→PV} {d:Nat} {env:Env} {A:Around}
theorem room_up {u u' d:Nat} (h:u' ≤ u + 4) (r:u + 8 * (d + 1) + 100 < cLine):u' + 8 * d + 100 < cLine :=
 Nat.lt_of_le_of_lt (Nat.add_le_add_right (Nat.le_trans (Nat.add_le_add_right h (8 * d)) (by rw [Nat.add_assoc,Nat.add_comm 4]; exact Nat.add_le_add_left (Nat.add_le_add_left (by decide:4 ≤ 8) (8 * d)) u)) 100) r
theorem room_dep {a d:Nat} (r:a + (d + 1) < recursionLimit):a + 1 + d < recursionLimit:=Nat.add_right_comm a 1 d▸r
theorem under_room {c:Addr} {vs:List Value} (r:Room (d + 1) A):Room d (A.under (.builtin "type.__call__" ⟨.ref c :: vs,[]⟩)):=by
 have hd:A.depth + (Code.builtin "type.__call__" ⟨.ref c :: vs,[]⟩).weight=A.depth + 1:=depth_under_make A c vs
 have hf:(Code.builtin "type.__call__" ⟨.ref c :: vs,[]⟩).frames ≤ 1:=Nat.add_left_cancel hd▸Nat.le_trans (Nat.le_trans (Nat.le_add_right _ _) (Nat.le_add_right _ _)) (Nat.le_add_right _ _)
 exact ⟨r.1,(congrArg (· + d < recursionLimit) hd).mpr (room_dep r.2.1),room_up (Nat.add_le_add_left (Nat.add_le_add_left (Nat.mul_le_mul_left 3 hf) 1) _) r.2.2⟩
inductive NewO (C:Cx) (τ:Tags) (s:Shared) (M:Mem) (v:Value) (p:PV) (x:Addr) (s':Shared):Prop
 | mk (τ':Tags) (e:Ext none τ τ' s s') (B:Base C τ' s'.heap) (n:M x=none) (m:MemOk C (M.upd x (.obj [])) τ' s'.heap) (r:VRs C τ' s'.heap [.ref x,v] [.mref x,p]):NewO C τ s M v p x s'
theorem new_obj {s:Shared} {τ:Tags} {M:Mem} {v:Value} {p:PV} (mk:MemOk C M τ s.heap) (B:Base C τ s.heap) (rv:VR C τ s.heap v p):NewO C τ s M v p (s.heap.objs.size + 1) { s with heap:=(s.heap.push emptyDict).push (instObj C.cls s.heap.objs.size) }:=by
 have e1:(s.heap.push emptyDict).objs.size=s.heap.objs.size + 1:=Heap.size_push ..
 have g1:=grow_push τ s emptyDict (.part (s.heap.objs.size + 1)) (s':={ s with heap:=s.heap.push emptyDict })
 have g2:=grow_push (τ.set s.heap.objs.size (.part (s.heap.objs.size + 1))) { s with heap:=s.heap.push emptyDict } (instObj C.cls s.heap.objs.size) (.part (s.heap.objs.size + 1)) (s':={ s with heap:=(s.heap.push emptyDict).push (instObj C.cls s.heap.objs.size) })
 rw [show ({ s with heap:=s.heap.push emptyDict }:Shared).heap.objs.size=s.heap.objs.size + 1 from e1] at g2
 have g:=g1.trans g2
 have d2:=(g2.keep _ _ (Heap.get?_push_size _ rfl:(s.heap.push emptyDict).get? s.heap.objs.size=some emptyDict)).1
 have x2:((s.heap.push emptyDict).push (instObj C.cls s.heap.objs.size)).get? (s.heap.objs.size + 1)=some (instObj C.cls s.heap.objs.size):=e1▸Heap.get?_push_size _ rfl
 have hn:M (s.heap.objs.size + 1)=none:=by
  cases hm:M (s.heap.objs.size + 1) with
  | none=>rfl
  | some o=>exact (mk _ _ hm).has.elim fun ob e=>absurd (Nat.lt_of_succ_lt (Heap.lt_size e)) (Nat.lt_irrefl _)
 refine ⟨_,g.ext,B.ext g.ext,hn,fun a o e=>?_,.cons (.mref _) (.cons (rv.mono (g.ext (L:=none)).dkeep) .nil)⟩
 rcases upd_some e with ⟨rfl,rfl⟩ | ⟨_,e⟩
 ·exact .obj (es:=[]) (m:=0) x2 (Tags.set_same ..) d2 rfl ((Tags.set_ne _ _ (Nat.ne_of_lt (Nat.lt_succ_self _))).trans (Tags.set_same ..)) (Nat.ne_of_gt (Nat.lt_succ_self _)) (Nat.zero_le _) trivial .nil
 ·exact mk.grow g a o e
theorem make_go {v:Value} {p:PV} {M:Mem} {s:Shared} {τ:Tags} {Q:PV→Mem→Prop} (O:GOk C k G) (rm:Room d A) (B:Base C τ s.heap) (mk:MemOk C M τ s.heap) (r:VR C τ s.heap v p)
  (q:∀ ad,M ad=none→∃ d',d=d' + 1∧InitOk C d' k.ini [.mref ad,p] (M.upd ad (.obj [])) fun M=>Q (.mref ad) M) :
  wpAny (model C.prog C.w) A (call (.ref C.cls) [v] []) (Post C τ s Q) NoE s:=by
 obtain ⟨τ4,x4,B4,hn,m4,r4⟩:=new_obj mk B r
 obtain ⟨d',rfl,q5⟩:=q _ hn
 obtain ⟨fI,e1,e2,e3⟩:=O.maker.init
 have K2:=kin_of O.cls B
 refine wpAny_call ?_
 obtain ⟨hh,gg,dd,tt,os⟩:=s
 refine make_core (makes_of K2 O.maker.makes) (looks_findIn K2 e2) (fun self=>bind_fn K2 self e3) (.inl rfl) ?_
 refine codeAny_mono (e1▸q5.run (A.under (.builtin "type.__call__" ⟨.ref C.cls :: [v],[]⟩)) ⟨(hh.push emptyDict).push (instObj C.cls hh.objs.size),gg,dd,tt,os⟩ τ4 _ (under_room rm) B4 m4 r4) fun r s' z=>?_
 rcases r with e | (v' | _ | _ | _) <;> first | exact z.elim | skip
 obtain ⟨rfl,M5,τ5,x5,m5,q6⟩:=z
 exact ⟨rfl,_,M5,τ5,x4.trans x5,m5,.mref _,q6⟩
theorem mk_ok {g i:Nat} {a:E} {x:Str} {y:Expr} {np pos:Pos} {lo:Lo} {M:Mem} {Q:PV→Mem→Prop} {s:Shared} {τ:Tags} (O:GOk C k G) (X:EnvOk C f env) (h1:gloOk k f g x=true) (hi:i=k.ini) (hy:isStar y=false) (ia:SE C k f G d env a y)
  (P:Pre C f d env A τ s.heap lo M) (q:wpE C G d (.mkobj g i a) lo M Q):wpAny (model C.prog C.w) A (eval (.Call (.Name x np) [y] [] pos) env) (Post C τ s Q) NoE s:=by
 obtain ⟨hg,q⟩:=q
 subst hi
 refine wpAny_Call_any rfl (wpAny_mono (glo_ok (Q:=fun v M'=>v = .cls∧M'=M) O X h1 P ⟨hg,rfl⟩) (fun v s₁ q1=>?_) fun _ _ e=>e)
 obtain ⟨p,M1,τ1,x1,m1,r1,rfl,rfl⟩:=q1
 rw [vr_cls r1]
 have P1:=P.ext x1 m1
 refine callWith_K (h₀:=s₁.heap) (kin_of O.cls P1.base) O.maker.keep ?_ (starEach_cons hy) rfl
 refine wpAny_items_cons (SE.go ia P1 q fun v s₂ px M2 τ2 x2 P2 r2 q2=>wpAny_items_nil ⟨kin_of O.cls P2.base,?_⟩) (starEach_cons hy)
 obtain ⟨px',M3,τ3,x3,m3,r3,q3⟩:=frz_ok (s:=s₂) q2 r2 P2.mem
 exact wpAny_mono (make_go O P.room (P2.base.ext x3) m3 r3 q3) (fun v s' q=>q.step (x1.trans (x2.trans x3))) fun _ _ e=>e
end
section
variable {prog:Program} {w:World} {A:Around} {env:Env} {R:Result→Shared→Prop}
noncomputable abbrev two2 (elt t1 i1 t2 i2:Expr) (scope:Scope) (pos:Pos):Expr:=.ListComp elt [⟨t1,i1,[],0⟩,⟨t2,i2,[],0⟩] scope pos
theorem start_one {elt t1 i1 t2 i2 scope pos it acc} {s:Shared} (h0:codeAny (model prog w) A (.compLoop (two2 elt t1 i1 t2 i2 scope pos) 1 it acc env) R s)
  (h:wpAny (model prog w) A (pyIter it) (fun it' s'=>codeAny (model prog w) A (.compLoop (two2 elt t1 i1 t2 i2 scope pos) 1 it' acc env) R s') NoE s) :
  codeAny (model prog w) A (.compStart (two2 elt t1 i1 t2 i2 scope pos) 1 it acc env) R s:=by
 refine codeAny_of_tree ?_
 show wpAny _ _ ((compStart (two2 elt t1 i1 t2 i2 scope pos) 1 it acc env).onRaise (fun x=>do noteFrame x env; standAt theWindowsPlace)) _ _ s
 refine wpAny_notedAt ?_
 unfold compStart
 show wpAny _ _ (ask >>= _) _ _ s
 refine wpAny_bind (wpAny_askSetting (wpAny_ite ?_))
 split
 ·first
   | exact wpAny_bind (wpAny_pure (wpAny_pure (And.intro rfl h0)))
   | exact wpAny_pure (And.intro rfl h0)
 ·first
   | exact wpAny_bind (wpAny_rule (wpAny_bind (wpAny_standAt (wpAny_bind (wpAny_mono (no_e h) (fun it' s' h'=>wpAny_pure (And.intro rfl h')) fun _ _ x=>x)))))
   | (refine wpAny_bind (wpAny_rule ?_); show wpAny _ _ (standAt i2.pos >>= _) _ _ s; exact wpAny_bind (wpAny_standAt (wpAny_bind (wpAny_mono (no_e h) (fun it' s' h'=>wpAny_pure (And.intro rfl h')) fun _ _ x=>x))))
theorem turn_one (elt t1 i1 t2 i2:Expr) (scope:Scope) (pos:Pos) (it acc:Value) (env:Env) :
  compTurn (two2 elt t1 i1 t2 i2 scope pos) 1 it acc env=(standAt i2.pos >>= fun _=>pyNext it >>= fun r=>match r with
   | none=>pure (.done .next)
   | some v=>letOwnedTupleGo t2 it v >>= fun _=>assign t2 env v >>= fun _ =>
    (eval elt env >>= fun x=>call (.builtin "list.append") [acc,x] >>= fun _=>pure ()) >>= fun _ =>
     again (.compLoop (two2 elt t1 i1 t2 i2 scope pos) 1 it acc env)):=by rfl
theorem turn_nought (elt t1 i1 t2 i2:Expr) (scope:Scope) (pos:Pos) (it acc:Value) (env:Env) :
  compTurn (two2 elt t1 i1 t2 i2 scope pos) 0 it acc env=(standAt i1.pos >>= fun _=>pyNext it >>= fun r=>match r with
   | none=>pure (.done .next)
   | some v=>letOwnedTupleGo t1 it v >>= fun _=>assign t1 env v >>= fun _ =>
    (eval i2 env >>= fun x=>standAt i2.pos >>= fun _=>foldedSetIterable i2 env x >>= fun x=>holding [x] (pyIter x) >>= fun j=>runOwn (.compStart (two2 elt t1 i1 t2 i2 scope pos) 1 j acc env) env >>= fun _ =>
     again (.compLoop (two2 elt t1 i1 t2 i2 scope pos) 0 it acc env))):=by rfl
theorem loop_one {elt t1 i1 t2 i2 scope pos it acc} (J:Nat→Shared→Prop)
  (turn:∀ n s,J n s→wpAny (model prog w) A (pyNext it) (fun r s₁=>match r with
   | none=>R (.ok .next) s₁
   | some v=>wpAny (model prog w) A (letOwnedTupleGo t2 it v) (fun _ s₁'=>wpAny (model prog w) A (assign t2 env v) (fun _ s₂=>wpAny (model prog w) A (eval elt env) (fun x s₄ =>
       wpAny (model prog w) A (call (.builtin "list.append") [acc,x]) (fun _ s₅=>∃ m,m < n∧J m s₅) NoE s₄) NoE s₂) NoE s₁') NoE s₁) NoE s) {s:Shared}
  (n:Nat) (h:J n s):codeAny (model prog w) A (.compLoop (two2 elt t1 i1 t2 i2 scope pos) 1 it acc env) R s:=by
 refine codeAny_loop rfl J (fun n s hI=>?_) n h
 show wpAny _ A ((compTurn (two2 elt t1 i1 t2 i2 scope pos) 1 it acc env).onRaise (fun x=>do noteFrame x env; theTreesLotGoes x)) _ _ s
 refine wpAny_noted ?_
 rw [turn_one]
 refine wpAny_bind (wpAny_standAt (wpAny_bind (wpAny_mono (no_e (turn n s hI)) (fun r s₁ h₁=>?_) fun _ _ h'=>h')))
 cases r with
 | none=>exact wpAny_pure h₁
 | some v =>
  refine wpAny_bind (wpAny_mono (no_e h₁) (fun _ s₁' h₁'=>?_) fun _ _ h'=>h')
  refine wpAny_bind (wpAny_mono (no_e h₁') (fun _ s₂ h₂=>?_) fun _ _ h'=>h')
  exact wpAny_bind (wpAny_bind (wpAny_mono (no_e h₂) (fun x s₄ h₄=>wpAny_bind (wpAny_mono (no_e h₄) (fun _ s₅ h₅=>wpAny_pure (wpAny_pure ⟨rfl,h₅⟩)) fun _ _ h'=>h')) fun _ _ h'=>h'))
theorem loop_nought {elt t1 i1 t2 i2 scope pos it acc} (hs:notSet i2=true) (J:Nat→Shared→Prop)
  (turn:∀ n s,J n s→wpAny (model prog w) A (pyNext it) (fun r s₁=>match r with
   | none=>R (.ok .next) s₁
   | some v=>wpAny (model prog w) A (letOwnedTupleGo t1 it v) (fun _ s₁'=>wpAny (model prog w) A (assign t1 env v) (fun _ s₂=>wpAny (model prog w) A (eval i2 env) (fun x s₃=>wpAny (model prog w) A (pyIter x) (fun j s₄ =>
       codeAny (model prog w) A (.compStart (two2 elt t1 i1 t2 i2 scope pos) 1 j acc env) (fun r s₅=>r = .ok .next∧∃ m,m < n∧J m s₅) s₄) NoE s₃) NoE s₂) NoE s₁') NoE s₁) NoE s) {s:Shared}
  (n:Nat) (h:J n s):codeAny (model prog w) A (.compLoop (two2 elt t1 i1 t2 i2 scope pos) 0 it acc env) R s:=by
 refine codeAny_loop rfl J (fun n s hI=>?_) n h
 show wpAny _ A ((compTurn (two2 elt t1 i1 t2 i2 scope pos) 0 it acc env).onRaise (fun x=>do noteFrame x env; theTreesLotGoes x)) _ _ s
 refine wpAny_noted ?_
 rw [turn_nought]
 refine wpAny_bind (wpAny_standAt (wpAny_bind (wpAny_mono (no_e (turn n s hI)) (fun r s₁ h₁=>?_) fun _ _ h'=>h')))
 cases r with
 | none=>exact wpAny_pure h₁
 | some v =>
  refine wpAny_bind (wpAny_mono (no_e h₁) (fun _ s₁' h₁'=>?_) fun _ _ h'=>h')
  refine wpAny_bind (wpAny_mono (no_e h₁') (fun _ s₂ h₂=>?_) fun _ _ h'=>h')
  refine wpAny_bind (wpAny_mono (no_e h₂) (fun x s₃ h₃=>?_) fun _ _ h'=>h')
  refine wpAny_bind (wpAny_standAt (wpAny_bind (wpAny_of_eq (notSet_eq hs x) ?_)))
  refine wpAny_bind (wpAny_holding (wpAny_mono (no_e h₃) (fun j s₄ h₄=>?_) fun _ _ h'=>h'))
  refine wpAny_bind (wpAny_runOwn (h:=none) (codeAny_mono h₄ fun r s₅ h₅=>?_))
  obtain ⟨rfl,h₅⟩:=h₅
  exact wpAny_pure ⟨rfl,h₅⟩
end
structure Kp (D L:Addr) (τ τ':Tags) (s s':Shared):Prop where
 keep:∀ b o,s.heap.get? b=some o→b ≠ D→b ≠ L→(∀ a,τ b ≠ .part a)→s'.heap.get? b=some o∧τ' b=τ b
 os:s'.os=s.os
 gens:s'.gens=s.gens
section
variable {C:Cx} {k:Kn} {f:Fs} {G:Nat→PV} {d:Nat} {env:Env} {A:Around} {τ τ':Tags} {h:Heap} {s s':Shared} {I:Addr} {fp:List Addr} {P:Nat→Value→Prop} {St:Nat→Heap→Prop} {l:List PV} {D L:Addr}
theorem Kp.trans {τ'':Tags} {s'':Shared} (a:Kp D L τ τ' s s') (x:Kp D L τ' τ'' s' s''):Kp D L τ τ'' s s'':=⟨fun b o e h1 h2 h3=>by
 obtain ⟨e1,t1⟩:=a.keep b o e h1 h2 h3
 obtain ⟨e2,t2⟩:=x.keep b o e1 h1 h2 fun c=>t1▸h3 c
 exact ⟨e2,t2.trans t1⟩,x.os.trans a.os,x.gens.trans a.gens⟩
theorem Kp.of (x:Ext none τ τ' s s'):Kp D L τ τ' s s':=⟨fun b o e _ _ h3=>x.keep b o e (fun e=>no e.symm) h3,x.os,x.gens⟩
theorem Kp.chg {x:Addr} {s'':Shared} (a:Kp D L τ τ' s s') (c:Chg x s' s'') (n:x=D∨x=L∨∀ o,s.heap.get? x=some o→∃ a,τ x = .part a):Kp D L τ τ' s s'':=⟨fun b o e h1 h2 h3=>by
 obtain ⟨e1,t1⟩:=a.keep b o e h1 h2 h3
 exact ⟨c.keep b o (fun q=>n.elim (fun n=>h1 (q.trans n)) fun n=>n.elim (fun n=>h2 (q.trans n)) fun n=>(n o (q▸e)).elim fun a ha=>h3 a (q▸ha)) e1,t1⟩,c.os.trans a.os,c.gens.trans a.gens⟩
theorem Kp.ext (a:Kp D L τ τ' s s') (nD:s.heap.get? D=none) (nL:s.heap.get? L=none):Ext none τ τ' s s':=⟨fun b o e _ hp=>a.keep b o e (fun q=>get_no nD e q) (fun q=>get_no nL e q) hp,a.os,a.gens⟩
structure In2 (C:Cx) (f:Fs) (d:Nat) (env:Env) (A:Around) (τA:Tags) (hA:Shared) (D I:Addr) (fp:List Addr) (P:Nat→Value→Prop) (St:Nat→Heap→Prop) (l:List PV) (lo:Lo) (i:Nat) (acc:List PV) (M:Mem) (τ:Tags) (s:Shared):Prop where
 kp:Kp D env.locals τA τ hA s
 pre:Pre C f d env A τ s.heap lo M
 dd:Dd C τ s.heap D acc
 it:ItAt C A τ s.heap I fp P St l
 st:St i s.heap
inductive Fin2 (C:Cx) (f:Fs) (d:Nat) (env:Env) (A:Around) (τA:Tags) (hA:Shared) (D:Addr) (lo:Lo) (acc:List PV) (M:Mem) (τ:Tags) (s:Shared):Prop
 | mk (kp:Kp D env.locals τA τ hA s) (pre:Pre C f d env A τ s.heap lo M) (dd:Dd C τ s.heap D acc):Fin2 C f d env A τA hA D lo acc M τ s
theorem Pre.weaken {lo lo':Lo} {M:Mem} (P:Pre C f d env A τ h lo M) (w:∀ (i:Nat) (p:PV),lo'[i]? = some (some p)→lo[i]? = some (some p)):Pre C f d env A τ h lo' M :=
 ⟨P.room,P.base,(by obtain ⟨m,n,t,v⟩:=P.fr; exact ⟨m,n,t,fun i x p a b=>v i x p a (w i p b)⟩),P.mem⟩
theorem Pre.chg {lo:Lo} {M:Mem} {x:Addr} (P:Pre C f d env A τ s.heap lo M) (c:Chg x s s') (t:τ x = .other) (hx:env.locals ≠ x):Pre C f d env A τ s'.heap lo M:=by
 obtain ⟨m,ns,tl,vars⟩:=P.fr
 exact ⟨P.room,base_dk P.base (c.dkeep t),⟨m,ns_keep ns fun o ho=>c.keep _ _ hx ho,tl,fun j y p a b=>(vars j y p a b).chg c t fun _=>rfl⟩,c.mem t P.mem⟩
section
variable {τA:Tags} {hA:Shared} {lo lo':Lo} {i j:Nat} {acc acc':List PV} {M M':Mem}
theorem In2.item (c:In2 C f d env A τA hA D I fp P St l lo i acc M τ s) (hI:∀ o,hA.heap.get? I=some o→∃ a,τA I = .part a) (hDI:D ≠ I) (hLI:env.locals ≠ I) (ch:Chg I s s') (st:St j s'.heap):In2 C f d env A τA hA D I fp P St l lo j acc M τ s' :=
 ⟨c.kp.chg ch (.inr (.inr hI)),c.pre.chg ch c.it.tag hLI,c.dd.chg ch c.it.tag hDI,c.it.next ch st,st⟩
theorem In2.end (c:In2 C f d env A τA hA D I fp P St l lo i acc M τ s) (hI:∀ o,hA.heap.get? I=some o→∃ a,τA I = .part a) (hDI:D ≠ I) (hLI:env.locals ≠ I) (ch:Chg I s s'):Fin2 C f d env A τA hA D lo acc M τ s' :=
 ⟨c.kp.chg ch (.inr (.inr hI)),c.pre.chg ch c.it.tag hLI,c.dd.chg ch c.it.tag hDI⟩
theorem In2.store (c:In2 C f d env A τA hA D I fp P St l lo i acc M τ s) (hDL:D ≠ env.locals) (hLf:env.locals ∉ fp) (ch:Chg env.locals s s') (P2:Pre C f d env A τ s'.heap lo' M):In2 C f d env A τA hA D I fp P St l lo' i acc M τ s' :=
 have it:=c.it.chg ch hLf P2.fr.tag
 ⟨c.kp.chg ch (.inr (.inl rfl)),P2,c.dd.chg ch P2.fr.tag hDL,it.1,it.2 _ c.st⟩
theorem In2.ex (c:In2 C f d env A τA hA D I fp P St l lo i acc M τ s) (x:Ext none τ τ' s s') (m:MemOk C M' τ' s'.heap):In2 C f d env A τA hA D I fp P St l lo i acc M' τ' s' :=
 have it:=c.it.ext x
 ⟨c.kp.trans (.of x),c.pre.ext x m,c.dd.ext x,it.1,it.2 _ c.st⟩
theorem In2.push (c:In2 C f d env A τA hA D I fp P St l lo i acc M τ s) (hDL:D ≠ env.locals) (hDf:D ∉ fp) (ch:Chg D s s') (t:τ D = .other) (dd:Dd C τ s'.heap D acc'):In2 C f d env A τA hA D I fp P St l lo i acc' M τ s' :=
 have it:=c.it.chg ch hDf t
 ⟨c.kp.chg ch (.inl rfl),c.pre.chg ch t hDL.symm,dd,it.1,it.2 _ c.st⟩
theorem In2.wk (c:In2 C f d env A τA hA D I fp P St l lo i acc M τ s) (w:∀ (i:Nat) (p:PV),lo'[i]? = some (some p)→lo[i]? = some (some p)):In2 C f d env A τA hA D I fp P St l lo' i acc M τ s:=⟨c.kp,c.pre.weaken w,c.dd,c.it,c.st⟩
end
inductive J2 (C:Cx) (f:Fs) (d:Nat) (env:Env) (A:Around) (τA:Tags) (hA:Shared) (D I:Addr) (fp:List Addr) (P:Nat→Value→Prop) (St:Nat→Heap→Prop) (l:List PV) (lo:Lo) (W:List PV→List PV→Mem→Prop) (n:Nat) (s:Shared):Prop
 | mk {i acc M τ} (hi:i ≤ l.length) (hn:n=l.length + 1 - i) (c:In2 C f d env A τA hA D I fp P St l lo i acc M τ s) (q:W (l.drop i) acc M):J2 C f d env A τA hA D I fp P St l lo W n s
theorem lo_a {px py:PV} (i:Nat) (p:PV) (h:([some px,none]:Lo)[i]? = some (some p)):([some px,some py]:Lo)[i]? = some (some p):=match i,h with
 | 0,h=>h
 | 1,h=>no (Option.some.inj h)
 | _ + 2,h=>no h
theorem lo_b {px:Option PV} (i:Nat) (p:PV) (h:([none,none]:Lo)[i]? = some (some p)):([px,none]:Lo)[i]? = some (some p):=match i,h with
 | 0,h=>no (Option.some.inj h)
 | 1,h=>no (Option.some.inj h)
 | _ + 2,h=>no h
theorem two_in {elt:E} {x t1 i1 i2:Expr} {b:Str} {pb:Pos} {scope:Scope} {pos:Pos} (X:EnvOk C f env) (hb:nmOk f 1 (.Name b pb)=true) (helt:SE C k f G d env elt x) {px:PV} {τA:Tags} {hA:Shared}
  (hDL:D ≠ env.locals) (hDf:D ∉ fp) (hLf:env.locals ∉ fp) (hI:∀ o,hA.heap.get? I=some o→∃ a,τA I = .part a) {acc:List PV} {M:Mem} {s:Shared} {Q:List PV→Mem→Prop}
  (inv:In2 C f d env A τA hA D I fp P St l [some px,none] 0 acc M τ s) (q:compI (fun env M Q=>wpE C G d elt env M Q) px l acc M Q) {R:Result→Shared→Prop}
  (hR:∀ acc' M' τ' s',Fin2 C f d env A τA hA D [some px,none] acc' M' τ' s'→Q acc' M'→R (.ok .next) s') :
  codeAny (model C.prog C.w) A (.compLoop (two2 x t1 i1 (.Name b pb) i2 scope pos) 1 (.ref I) (.ref D) env) R s:=by
 have hDI:D ≠ I:=fun e=>hDf (e▸inv.it.in)
 have hLI:env.locals ≠ I:=fun e=>hLf (e▸inv.it.in)
 refine loop_one (J2 C f d env A τA hA D I fp P St l [some px,none] fun r acc M=>compI (fun env M Q=>wpE C G d elt env M Q) px r acc M Q) (fun n s' j=>?_) (l.length + 1) ⟨Nat.zero_le _,rfl,inv,q⟩
 obtain ⟨hi,rfl,c,q⟩:=j
 rcases Nat.lt_or_eq_of_le hi with hlt | rfl
 ·refine c.it.W.item _ s' _ NoE hlt c.st fun v h1 tk1 hP hst hk=>?_
  have ch:Chg I s' { s' with heap:=h1,toks:=tk1 }:=chg_one hk
  obtain ⟨p,hp,rp⟩:=c.it.vals _ v hlt hP
  have c1:=c.item hI hDI hLI ch hst
  rw [drop_at hp] at q
  refine c1.it.quiet _ _ _ v _ _ hst (nm_ok (s:={ s' with heap:=h1,toks:=tk1 }) (M:=_) X hb c1.pre (rp.mono (ch.dkeep c.it.tag)) fun s2 ch2 P2=>?_)
  have c2:=c1.store (lo':=[some px,some p]) hDL hLf ch2 P2
  refine SE.go helt c2.pre q.2 fun y s4 py M4 τ4 x4 P4 r4 q4=>?_
  obtain ⟨py',M5,τ5,x5,m5,r5,q5⟩:=frz_ok (s:=s4) q4 r4 P4.mem
  have c5:=c2.ex (x4.trans x5) m5
  exact c5.dd.push r5 q.1 fun h6 ch6 t6 d6=>⟨_,sub_lt hlt,hlt,rfl,(c5.push hDL hDf ch6 t6 d6).wk lo_a,q5⟩
 ·refine c.it.W.done s' _ NoE c.st fun h1 tk1 hk=>?_
  rw [List.drop_length] at q
  exact hR _ _ _ { s' with heap:=h1,toks:=tk1 } (c.end hI hDI hLI (chg_one hk)) q
end
section
variable {C:Cx} {k:Kn} {f:Fs} {G:Nat→PV} {d:Nat} {env:Env} {A:Around} {τ τ':Tags} {h h':Heap} {s s':Shared} {I:Addr} {fp:List Addr} {P:Nat→Value→Prop} {St:Nat→Heap→Prop} {l:List PV} {D L:Addr}
theorem ItAt.kp (a:ItAt C A τ s.heap I fp P St l) (x:Kp D L τ τ' s s') (hD:D ∉ fp) (hL:L ∉ fp) (tD:τ D = .other) (tL:τ L = .other):ItAt C A τ' s'.heap I fp P St l∧∀ i,St i s.heap→St i s'.heap :=
 a.keep (fun o ho=>x.keep I o ho (fun e=>hD (e▸a.in)) (fun e=>hL (e▸a.in)) fun b=>oth_part a.tag) fun b ob e t=>by
  obtain ⟨e1,t1⟩:=x.keep b ob e (oth_ne tD t) (oth_ne tL t) (fun a q=>by rw [t] at q; exact Tag.noConfusion q)
  exact ⟨e1,t1.trans t⟩
theorem fp_free {τ₁:Tags} {s₁:Shared} {b:Addr} {o:Obj} (a:ItAt C A τ' h' I fp P St l) (hI:s₁.heap.get? I=none) (x:Ext none τ τ₁ s s₁) (e:s.heap.get? b=some o) (t:τ b = .other) (t':τ' b = .other):b ∉ fp:=fun hm=>by
 by_cases q:b=I
 ·exact (free_at x hI o (q▸e)).elim fun c hc=>oth_part t (q▸hc)
 ·exact (a.data b hm q).elim fun o ho=>by rw [t'] at ho; exact Tag.noConfusion ho.2
theorem Dd.has {acc:List PV} (d:Dd C τ h D acc):∃ o,h.get? D=some o∧τ D = .other:=by obtain ⟨e,r,t⟩:=d; exact ⟨_,e,t⟩
theorem Pre.has {lo:Lo} {M:Mem} (P:Pre C f d env A τ h lo M):∃ o,h.get? env.locals=some o∧τ env.locals = .other:=by obtain ⟨m,n,t,v⟩:=P.fr; exact (ns_has n).elim fun o ho=>⟨o,ho,t⟩
theorem two_out {elt:E} {it2:It} {x i1 i2:Expr} {a b:Str} {pa pb:Pos} {scope:Scope} {pos:Pos} (X:EnvOk C f env) (ha:nmOk f 0 (.Name a pa)=true) (hb:nmOk f 1 (.Name b pb)=true) (hs:notSet i2=true)
  (hit:SIt C k f G d env it2 i2) (helt:SE C k f G d env elt x) {Q:List PV→Mem→Prop} {τ₀:Tags} {h₀:Shared} (hDL:D ≠ env.locals) (hDf:D ∉ fp) (hLf:env.locals ∉ fp) (hI:∀ o,h₀.heap.get? I=some o→∃ a,τ₀ I = .part a)
  {M:Mem} {s:Shared} (inv:In2 C f d env A τ₀ h₀ D I fp P St l [none,none] 0 [] M τ s)
  (q:compP2 (fun env M Q=>wpIt C G d it2 env M Q) (fun env M Q=>wpE C G d elt env M Q) l [] M Q) {R:Result→Shared→Prop}
  (hR:∀ acc M' τ' s',Fin2 C f d env A τ₀ h₀ D [none,none] acc M' τ' s'→Q acc M'→R (.ok .next) s') :
  codeAny (model C.prog C.w) A (.compLoop (two2 x (.Name a pa) i1 (.Name b pb) i2 scope pos) 0 (.ref I) (.ref D) env) R s:=by
 have hDI:D ≠ I:=fun e=>hDf (e▸inv.it.in)
 have hLI:env.locals ≠ I:=fun e=>hLf (e▸inv.it.in)
 refine loop_nought hs (J2 C f d env A τ₀ h₀ D I fp P St l [none,none] fun r acc M=>compP2 (fun env M Q=>wpIt C G d it2 env M Q) (fun env M Q=>wpE C G d elt env M Q) r acc M Q) (fun n s' j=>?_) (l.length + 1) ⟨Nat.zero_le _,rfl,inv,q⟩
 obtain ⟨hi,rfl,c,q⟩:=j
 rcases Nat.lt_or_eq_of_le hi with hlt | rfl
 ·refine c.it.W.item _ s' _ NoE hlt c.st fun v h1 tk1 hP hst hk=>?_
  have ch:Chg I s' { s' with heap:=h1,toks:=tk1 }:=chg_one hk
  obtain ⟨p,hp,rp⟩:=c.it.vals _ v hlt hP
  have c1:=c.item hI hDI hLI ch hst
  rw [drop_at hp] at q
  refine c1.it.quiet _ _ _ v _ _ hst (nm_ok (s:={ s' with heap:=h1,toks:=tk1 }) (M:=_) X ha c1.pre (rp.mono (ch.dkeep c.it.tag)) fun s2 ch2 P2=>?_)
  have c2:=c1.store (lo':=[some p,none]) hDL hLf ch2 P2
  refine hit [some p,none] _ _ A s2 _ P2 q _ fun I2 s3 τ₁ h₁ τ3 M3 fp2 Pv2 St2 l2 y1 g1 hI2 P3 it3 st3 q3 hlen=>?_
  have y13:=y1.trans g1.ext
  have dd3:=c2.dd.ext y13
  obtain ⟨oD,eD,tD⟩:=c2.dd.has
  obtain ⟨oL,eL,tL⟩:=c2.pre.has
  have inner:∀ s4:Shared,Same s3 s4→codeAny (model C.prog C.w) A (.compLoop (two2 x (.Name a pa) i1 (.Name b pb) i2 scope pos) 1 (.ref I2) (.ref D) env) (fun r s₅=>r = .ok .next∧∃ m,m < l.length + 1 - _ ∧
    J2 C f d env A τ₀ h₀ D I fp P St l [none,none] (fun r acc M=>compP2 (fun env M Q=>wpIt C G d it2 env M Q) (fun env M Q=>wpE C G d elt env M Q) r acc M Q) m s₅) s4:=fun s4 es=>by
   refine two_in (k:=k) (τ:=τ3) (P:=Pv2) (St:=St2) (M:=M3) X hb helt hDL (fp_free it3 hI2 y1 eD tD (dd3.has.elim fun _ e=>e.2)) (fp_free it3 hI2 y1 eL tL P3.fr.tag) (free_at y1 hI2) ⟨.of (y13.trans es.grow.ext),es.h.symm▸P3,es.h.symm▸dd3,es.h.symm▸it3,es.h.symm▸st3⟩ q3 ?_
   rintro acc' M' τ' s5 ⟨kp5,P5,dd5⟩ q5
   have it5:=c2.it.kp kp5 hDf hLf tD tL
   exact ⟨rfl,_,sub_lt hlt,hlt,rfl,⟨c2.kp.trans kp5,P5.weaken lo_b,dd5,it5.1,it5.2 _ c2.st⟩,q5⟩
  exact start_one (inner _ rfl) (it3.W.self 0 _ _ _ st3 (inner _ rfl))
 ·refine c.it.W.done s' _ NoE c.st fun h1 tk1 hk=>?_
  rw [List.drop_length] at q
  exact hR _ _ _ { s' with heap:=h1,toks:=tk1 } (c.end hI hDI hLI (chg_one hk)) q
structure Comp2Ok (f:Fs) (a b:Str) (scope:Scope):Prop where
 kind:scope.kind = .function
 nof:∀ y ∈ scope.names,y.2 = .local∨y.2 = .globalImplicit
 loc:∀ y ∈ scope.names,y.2 = .local→scope.names.lookup y.1=some .local
 la:scope.names.lookup a=some .local
 lb:scope.names.lookup b=some .local
 ne:a ≠ b
theorem comp2Ok_iff {a b scope} (h:comp2Ok scope a b=true):Comp2Ok f a b scope where
 kind:=of_decide_eq_true (ba (ba (ba (ba (ba h)))))
 nof:=fun y hy=>(Bool.or_eq_true_iff.mp (all_at (bb (ba (ba (ba (ba h))))) hy)).imp beq beq
 loc:=fun y hy hl=>beq (imp_b (all_at (bb (ba (ba (ba h)))) hy) (beq_iff_eq.mpr hl))
 la:=beq (bb (ba (ba h)))
 lb:=beq (bb (ba h))
 ne:=fun e=>Bool.noConfusion ((ntb' (bb h)).symm.trans (beq_iff_eq.mpr e))
theorem relab_id {sc names:List (Str×NameKind)} (h:∀ y ∈ names,y.2 = .local∨y.2 = .globalImplicit):relab sc names=names:=by
 unfold relab
 have:∀ y ∈ names,((y.1,rk sc y.1 y.2):Str×NameKind)=y:=fun y hy=>by
  obtain ⟨n,kd⟩:=y
  rcases h _ hy with e | e <;> (dsimp only at e; subst e; rfl)
 rw [List.map_congr_left this,List.map_id']
theorem not_local {α:Prop} {x:NameKind} (h:x = .local∨x = .globalImplicit):(x = .cell→α)∧(x = .free→α):=by
 rcases h with rfl | rfl <;> exact ⟨fun e=>NameKind.noConfusion e,fun e=>NameKind.noConfusion e⟩
theorem inner2_env {a b:Str} {scope:Scope} (X:EnvOk C f env) (o:Comp2Ok f a b scope) (Cc:Addr):EnvOk C (inner2 f a b scope) (compEnvC scope (clGo env scope.names []) Cc env) where
 names:=relabel_eq X scope
 kind:=o.kind
 globals:=X.globals
 builtins:=X.builtins
 nd:=List.nodup_cons.mpr ⟨fun h=>o.ne (List.mem_singleton.mp h),List.nodup_cons.mpr ⟨List.not_mem_nil,List.nodup_nil⟩⟩
 cells:=fun y hy=>(not_local (o.nof _ (lookup_mem ((congrArg (fun l=>List.lookup y l) (relab_id (sc:=f.sc) o.nof)).symm.trans hy)))).1 rfl
theorem lo_n (i:Nat) (p:PV) (h:([none,none]:Lo)[i]? = some (some p)):False:=match i,h with
 | 0,h=>no (Option.some.inj h)
 | 1,h=>no (Option.some.inj h)
 | _ + 2,h=>no h
theorem nm_at {F:Fs} {x:Str} {px:Pos} {i:Nat} (h1:F.vars[i]? = some x) (h2:F.sc.lookup x=some .local):nmOk F i (.Name x px)=true:=and_tt (beq_iff_eq.mpr h1) (beq_iff_eq.mpr h2)
theorem two_ok {elt:E} {it it2:It} {x i1 i2:Expr} {a b:Str} {pa pb:Pos} {scope:Scope} {pos p:Pos} (X:EnvOk C f env) (o:Comp2Ok f a b scope) (hn:notSet i1=true) (hn2:notSet i2=true) (hit:SIt C k f G d env it i1)
  (hit2:∀ env',EnvOk C (inner2 f a b scope) env'→SIt C k (inner2 f a b scope) G d env' it2 i2) (helt:∀ env',EnvOk C (inner2 f a b scope) env'→SE C k (inner2 f a b scope) G d env' elt x)
  {use:Option (Value→Sem Unit)} {Qv:Value→Shared→Prop} {QL:List PV→Mem→Prop} {lo:Lo} {M:Mem} {s:Shared} (P:Pre C f d env A τ s.heap lo M)
  (q:wpIt C G d it lo M fun l M=>compP2 (fun env M Q=>wpIt C G d it2 env M Q) (fun env M Q=>wpE C G d elt env M Q) l [] M QL)
  (huse:∀ D Cc acc M' s',UseC C f d env A lo τ s D Cc acc M' s'→QL acc M'→compPost (model C.prog C.w) A NoE use Qv (.ref D) Cc (.ok .next) s') :
  wpAny (model C.prog C.w) A (comprehension (two2 x (.Name a pa) i1 (.Name b pb) i2 scope pos) scope env p (newList []) false (eval i1 env) use) Qv NoE s:=by
 have hclos:closureFor scope env=pure (clGo env scope.names []):=closure_eq fun y hy hf=>(not_local (o.nof y hy)).2 hf
 refine wpAny_comprehension_free (g:=⟨.Name a pa,i1,[],0⟩) (gs:=[⟨.Name b pb,i2,[],0⟩]) rfl (notSet_eq hn) hclos o.kind o.loc ?_
 refine hit lo M _ A s τ P q _ fun I s₂ τ₁ h₁ τ₂ M₂ fp Pv St l x1 g1 hI P2 it2' st2 q2 hlen=>?_
 refine wpAny_newObj_type (wpAny_newFunctionEnv (fun y hy=>(not_local (o.nof y hy)).1) (fun y hy=>absurd hy List.not_mem_nil) (fun h3 hns hsb=>?_) o.kind)
 obtain ⟨τ3,x3,P3,it3,st3,dd,tC,hDC,fD,fC,nD,nC,lC⟩:=new_c (s3:={ s₂ with heap:=h3 }) g1 P2 it2' st2 hsb rfl rfl
 have X':=inner2_env X o (s₂.heap.push (lstObj [] 0)).objs.size
 have e:(inner2 f a b scope).sc=scope.names:=relab_id o.nof
 have loop:∀ s3:Shared,Same { s₂ with heap:=h3 } s3→codeAny (model C.prog C.w) A (.compLoop (two2 x (.Name a pa) i1 (.Name b pb) i2 scope pos) 0 (.ref I) (.ref s₂.heap.objs.size) (compEnvC scope (clGo env scope.names []) (s₂.heap.push (lstObj [] 0)).objs.size env))
   (compPost (model C.prog C.w) A NoE use Qv (.ref s₂.heap.objs.size) (s₂.heap.push (lstObj [] 0)).objs.size) s3:=by
  intro s3 es
  obtain rfl:s3.heap=h3:=es.h
  refine two_out (k:=k) (P:=Pv) (St:=St) (τ:=τ3) (τ₀:=τ₁) (h₀:=h₁) (M:=M₂) X' (nm_at rfl (e▸o.la)) (nm_at rfl (e▸o.lb)) hn2 (hit2 _ X') (helt _ X') hDC fD fC (fun o ho=>no (hI.symm.trans ho)) ⟨.of (x3.trans es.grow.ext),⟨P.room,P3.base,⟨_,hns,tC,fun j y pj hy hj=>(lo_n j pj hj).elim⟩,P3.mem⟩,dd,it3,st3⟩ q2 ?_
  rintro acc M' τ' s' ⟨kp,P5,dd5⟩ qq
  refine huse _ _ acc M' s' (use_c P x1 nD nC lC hDC ⟨kp.ext nD nC,P5.mem,dd5,?_,P5.fr.tag⟩) qq
  obtain ⟨m,n,t,v⟩:=P5.fr
  exact ⟨m,n⟩
 exact codeAny_compStart_list (loop _ rfl) (it3.W.self 0 _ _ _ st3 (loop _ rfl))
end
section
variable {C:Cx} {k:Kn} {G:Nat→PV} {d:Nat}
noncomputable abbrev IE (C:Cx) (k:Kn) (G:Nat→PV) (d:Nat) (e:E):Prop:=∀ (f:Fs) (env:Env),EnvOk C f env→∀ x:Expr,mE k f e x=true→SE C k f G d env e x
noncomputable abbrev IEs (C:Cx) (k:Kn) (G:Nat→PV) (d:Nat) (e:Es):Prop:=∀ (f:Fs) (env:Env),EnvOk C f env→∀ x:List Expr,mEs k f e x=true→SEs C k f G d env e x
noncomputable abbrev IO (C:Cx) (k:Kn) (G:Nat→PV) (d:Nat) (e:Eo):Prop:=∀ (f:Fs) (env:Env),EnvOk C f env→∀ x:Option Expr,mO k f e x=true→SO C k f G d env e x
noncomputable abbrev IT (C:Cx) (k:Kn) (G:Nat→PV) (d:Nat) (e:T):Prop:=∀ (f:Fs) (env:Env),EnvOk C f env→∀ x:Expr,mT k f e x=true→ST C k f G d env e x
noncomputable abbrev ITs (C:Cx) (k:Kn) (G:Nat→PV) (d:Nat) (e:Ts):Prop:=∀ (f:Fs) (env:Env),EnvOk C f env→∀ x:List Expr,mTs k f e x=true→STs C k f G d env e x
noncomputable abbrev IFor (C:Cx) (k:Kn) (G:Nat→PV) (d:Nat) (e:Ts):Prop:=∀ (f:Fs) (env:Env),EnvOk C f env→∀ x:List Expr,mTs k f e x=true→SFor C k f G d env e x
noncomputable abbrev IIt (C:Cx) (k:Kn) (G:Nat→PV) (d:Nat) (e:It):Prop:=∀ (f:Fs) (env:Env),EnvOk C f env→∀ x:Expr,mIt k f e x=true→SIt C k f G d env e x
noncomputable abbrev IAnd (C:Cx) (k:Kn) (G:Nat→PV) (d:Nat) (e:Es):Prop:=∀ (f:Fs) (env:Env),EnvOk C f env→∀ x:List Expr,mEs k f e x=true→SAnd C k f G d env e x
noncomputable abbrev IOr (C:Cx) (k:Kn) (G:Nat→PV) (d:Nat) (e:Es):Prop:=∀ (f:Fs) (env:Env),EnvOk C f env→∀ x:List Expr,mEs k f e x=true→SOr C k f G d env e x
noncomputable abbrev IDic (C:Cx) (k:Kn) (G:Nat→PV) (d:Nat) (e:Es):Prop:=∀ (f:Fs) (env:Env),EnvOk C f env→∀ (ks:List (List Nat)) (keys:List (Option Expr)) (x:List Expr),keysOk ks keys=true→mEs k f e x=true→keys.length=x.length→SDic C k f G d env ks e keys x
theorem nnil {α:Type} {l:List α} (h:(!l.isEmpty)=true):l ≠ []:=fun e=>by subst e; exact nb h
theorem stars_of {f:Fs}:∀ {as:Es} {args:List Expr},mEs k f as args=true→∀ x ∈ args,isStar x=false
 | .nil,args,h=>List.isEmpty_iff.mp h▸fun x hx=>absurd hx List.not_mem_nil
 | .cons e es,args,h=>unc_i (P:=fun args=>∀ x ∈ args,isStar x=false) h fun y ys h x hx=>(List.mem_cons.mp hx).elim (fun e=>e▸ntb h) (stars_of (bb (bb h)) x)
theorem c_cst {f:Fs} {env:Env} {v x} (h:mE k f (.cst v) x=true):SE C k f G d env (.cst v) x :=
 kConstant_i (P:=SE C k f G d env (.cst v)) h fun c _ _ h lo M Q A s τ P q=>const_ok h P.mem q
theorem c_loc {i}:IE C k G d (.loc i):=fun f env X x h=>kName_i (P:=SE C k f G d env (.loc i)) h fun x px h lo M Q A s τ P q=>loc_ok X h P q
theorem c_glo (O:GOk C k G) {i}:IE C k G d (.glo i):=fun f env X x h=>kName_i (P:=SE C k f G d env (.glo i)) h fun x px h lo M Q A s τ P q=>glo_ok O X h P q
theorem c_1 {o a b} (ia:IE C k G d a) (ib:IE C k G d b):IE C k G d (.bin o a b):=fun f env X x h =>
 kBinOp_i (P:=SE C k f G d env (.bin o a b)) h fun l op r p h=>eq_i (P:=fun op=>SE C k f G d env (.bin o a b) (.BinOp l op r p)) h fun h lo M Q A s τ P q =>
  wpAny_BinOp (two (ia f env X _ (ba h)) (ib f env X _ (bb h)) P q fun v w p r s' M' τ' x1 P' r1 r2 q'=>PG.to x1 P'.mem (bin_ok q' r1 r2 P'.mem))
theorem cmp_i {f:Fs} {o:Cop} {a b:E} {l:Expr} {ops:List CmpOp} {rs:List Expr} {P:List CmpOp→List Expr→Prop}
  (h:(oneL ops fun op=>oneL rs fun r=>copOf o == op && (!behindInMarks op r && (mE k f a l && mE k f b r)))=true) (q:∀ r,behindInMarks (copOf o) r=false→mE k f a l=true→mE k f b r=true→P [copOf o] [r]):P ops rs :=
 oneL_i (P:=fun ops=>P ops rs) h fun op h=>oneL_i (P:=fun rs=>P [op] rs) h fun r h=>eq_i (P:=fun op=>(!behindInMarks op r && (mE k f a l && mE k f b r))=true→P [op] [r]) h (fun _ h=>q r (ntb h) (ba (bb h)) (bb (bb h))) (bb h)
theorem cmp2_i {f:Fs} {o p:Cop} {a b c:E} {l:Expr} {ops:List CmpOp} {rs:List Expr} {P:List CmpOp→List Expr→Prop}
  (h:(twoL ops fun op op2=>twoL rs fun r r2=>copOf o == op && (copOf p == op2 && (!behindInMarks op2 r2 && (mE k f a l && (mE k f b r && mE k f c r2)))))=true)
  (q:∀ r r2,behindInMarks (copOf p) r2=false→mE k f a l=true→mE k f b r=true→mE k f c r2=true→P [copOf o,copOf p] [r,r2]):P ops rs :=
 twoL_i (P:=fun ops=>P ops rs) h fun op op2 h=>twoL_i (P:=fun rs=>P [op,op2] rs) h fun r r2 h=>eq_i (P:=fun op=>P [op,op2] [r,r2]) h fun h=>eq_i (P:=fun op2=>(!behindInMarks op2 r2 && (mE k f a l && (mE k f b r && mE k f c r2)))=true→P [copOf o,op2] [r,r2]) h
  (fun _ h=>q r r2 (ntb h) (ba (bb h)) (ba (bb (bb h))) (bb (bb (bb h)))) (bb h)
theorem c_2 {o a b} (ia:IE C k G d a) (ib:IE C k G d b):IE C k G d (.cmp o a b):=fun f env X x h =>
 kCompare_i (P:=SE C k f G d env (.cmp o a b)) h fun l ops rs p h=>cmp_i (P:=fun ops rs=>SE C k f G d env (.cmp o a b) (.Compare l ops rs p)) h fun r h2 h3 h4 lo M Q A s τ P q =>
  wpAny_Compare1 (two (ia f env X _ h3) (ib f env X _ h4) P q fun v w p r s' M' τ' x1 P' r1 r2 q'=>cmp_post P'.room x1 P'.mem r1 r2 q') h2
theorem Pre.same {f:Fs} {env:Env} {A:Around} {τ:Tags} {s s':Shared} {lo:Lo} {M:Mem} (P:Pre C f d env A τ s.heap lo M) (e:Same s s'):Pre C f d env A τ s'.heap lo M:=e.h▸P
theorem Ext.same {τ τ':Tags} {s s' s₁:Shared} {L} (x:Ext L τ τ' s' s₁) (e:Same s s'):Ext L τ τ' s s₁:=e.grow.ext.trans x
theorem c_3 {o p a b c} (ia:IE C k G d a) (ib:IE C k G d b) (ic:IE C k G d c):IE C k G d (.cmp2 o p a b c):=fun f env X x h =>
 kCompare_i (P:=SE C k f G d env (.cmp2 o p a b c)) h fun l ops rs pos h=>cmp2_i (P:=fun ops rs=>SE C k f G d env (.cmp2 o p a b c) (.Compare l ops rs pos)) h fun r r2 h2 h3 h4 h5 lo M Q A s τ P q=>by
  refine Compare2 h2 (two (ia f env X _ h3) (ib f env X _ h4) P q fun v w pv pw s' M' τ' x1 P' r1 r2 q'=>cmp_go P'.room P'.mem r1 r2 q' fun b s'' e q2=>wpAny_truthy_bool ?_)
  cases b
  ·exact (PGS P'.mem e (.bool _) q2).step x1
  ·exact SE.go (ic f env X _ h5) (P'.same e) q2 fun z s₃ pz M3 τ3 x3 P3 r3 q3=>cmp_post P'.room (x1.trans (x3.same e)) P3.mem (r2.mono (x3.same e).dkeep) r3 q3
theorem c_4 {a} (ia:IE C k G d a):IE C k G d (.not a):=fun f env X x h =>
 kUnaryOp_i (P:=SE C k f G d env (.not a)) h fun op y p h=>eq_i (P:=fun op=>SE C k f G d env (.not a) (.UnaryOp op y p)) h fun h lo M Q A s τ P q =>
  wpAny_UnaryOp (SE.go (ia f env X _ h) P q fun v s₁ p M1 τ1 x1 P1 r1 q1=>not_value (truth_go r1 q1 fun b s' e q2=>(PGS P1.mem e (.bool _) q2).step x1))
theorem c_5 {a} (ia:IE C k G d a):IE C k G d (.neg a):=fun f env X x h =>
 kUnaryOp_i (P:=SE C k f G d env (.neg a)) h fun op y p h=>eq_i (P:=fun op=>SE C k f G d env (.neg a) (.UnaryOp op y p)) h fun h lo M Q A s τ P q =>
  wpAny_UnaryOp (SE.go (ia f env X _ h) P q fun v s₁ p M1 τ1 x1 P1 r1 q1=>by
   obtain ⟨i,rfl,q1⟩:=intK_inv q1
   refine r1.int_i fun t=>PySem.P.neg_int (Post.step x1 ?_)
   exact PGS P1.mem rfl (.int _ _) q1)
theorem c_6 {t a b} (it:IT C k G d t) (ia:IE C k G d a) (ib:IE C k G d b):IE C k G d (.ite t a b):=fun f env X x h =>
 kIfExp_i (P:=SE C k f G d env (.ite t a b)) h fun x y z p h lo M Q A s τ P q=>wpAny_IfExp (ST.go (it f env X _ (ba h)) P q.run fun c s₁ M1 τ1 x1 P1 q1=>by
  cases c
  ·exact wpAny_mono (ib f env X _ (bb (bb h)) lo M1 Q A s₁ τ1 P1 q1) (fun v s' q=>q.step x1) fun _ _ e=>e
  ·exact wpAny_mono (ia f env X _ (ba (bb h)) lo M1 Q A s₁ τ1 P1 q1) (fun v s' q=>q.step x1) fun _ _ e=>e)
theorem c_7 (O:GOk C k G) {fn as} (ia:IE C k G d fn) (ib:IEs C k G d as):IE C k G d (.call fn as):=fun f env X x h =>
 kCall_i (P:=SE C k f G d env (.call fn as)) h fun c args kws p h=>nil_i (P:=fun kws=>SE C k f G d env (.call fn as) (.Call c args kws p)) h fun h lo M Q A s τ P q =>
  wpAny_Call_any (ba h) (SE.go (ia f env X _ (ba (bb h))) P q fun v s₁ p M1 τ1 x1 P1 r1 q1 =>
   wpAny_mono (call_go O (nnil (ba (bb (bb h)))) (stars_of (bb (bb (bb h)))) r1 P1.base P1.room (ib f env X _ (bb (bb (bb h))) lo M1 _ A s₁ τ1 _ P1 q1)) (fun v s' q=>q.step x1) fun _ _ e=>e)
theorem c_8 {m o as} (ia:IE C k G d o) (ib:IEs C k G d as):IE C k G d (.meth m o as):=fun f env X x h =>
 kCall_i (P:=SE C k f G d env (.meth m o as)) h fun c args kws p h=>kAttribute_i (P:=fun c=>SE C k f G d env (.meth m o as) (.Call c args kws p)) h fun v name ap h=>nil_i (P:=fun kws=>SE C k f G d env (.meth m o as) (.Call (.Attribute v name ap) args kws p)) h fun h =>
  eq_i (P:=fun name=>SE C k f G d env (.meth m o as) (.Call (.Attribute v name ap) args [] p)) h fun h lo M Q A s τ P q =>
   have hs:=stars_of (bb (bb (bb (bb (bb h)))))
   wpAny_Call_method_lateS (attrBase_plain (ntb h)) (few_call hs (Nat.le_of_ble_eq_true (ba (bb (bb h))))) (ba (bb h)) (SE.go (ia f env X _ (ba (bb (bb (bb (bb h)))))) P q fun ov s₁ p M1 τ1 x1 P1 r1 q1 =>
    meth_go (nnil (ba (bb (bb (bb h))))) hs r1 (ib f env X _ (bb (bb (bb (bb (bb h))))) lo M1 _ A s₁ τ1 _ P1 q1.2) q1.1 P1.mem fun v s' q=>q.step x1)
theorem c_9 (O:GOk C k G) {o i} (ia:IE C k G d o):IE C k G d (.attr o i):=fun f env X x h =>
 kAttribute_i (P:=SE C k f G d env (.attr o i)) h fun v name p h=>attrIs_i (P:=fun name=>SE C k f G d env (.attr o i) (.Attribute v name p)) (ba h) fun a ha lo M Q A s τ P q=>by
  rw [arm_eval_Attribute,attrBase_plain (ntb (bb h))]
  exact wpAny_bind (SE.go (ia f env X _ (bb (bb h))) P q fun ov s₁ p M1 τ1 x1 P1 r1 q1=>wpAny_bind (wpAny_standAt (wpAny_mono (attr_go O ha P1.base r1 P1.mem q1) (fun v s' q=>q.step x1) fun _ _ e=>e)))
theorem c_10 {o i} (ia:IE C k G d o) (ib:IE C k G d i):IE C k G d (.sub o i):=fun f env X x h =>
 kSubscript_i (P:=SE C k f G d env (.sub o i)) h fun v sl p h lo M Q A s τ P q =>
  Subscript_ (two (ia f env X _ (ba h)) (ib f env X _ (bb h)) P q fun v w p r s' M' τ' x1 P' r1 r2 q'=>PG.to x1 P'.mem (sub_ok q' r1 r2 P'.mem))
theorem sub_k {o:PV} {i:Int} {M:Mem} {Q:PV→Prop} (hi:0 ≤ i∧i < 1000) (q:subPk o i M Q):subP o (.int i) M Q:=by
 have hs:small i:=⟨Int.lt_of_lt_of_le (by decide) hi.1,Int.lt_trans hi.2 (by decide)⟩
 cases o with
 | mref a=>exact ⟨q.run.elim fun l q=>⟨l,q.1,hs,q.2⟩⟩
 | tup l=>exact ⟨hs,q⟩
 | str l=>exact ⟨hs,q⟩
 | list l=>exact ⟨hs,q⟩
 | _=>exact False.elim q
theorem c_10k {o i} (ia:IE C k G d o):IE C k G d (.subk o i):=fun f env X x h =>
 kSubscript_i (P:=SE C k f G d env (.subk o i)) h fun v sl p h lo M Q A s τ P q =>
  Subscript_ (SE.go (ia f env X _ (ba h)) P q fun v s₁ p M1 τ1 x1 P1 r1 q1=>SE.go (c_cst (k:=k) (G:=G) (bb (bb h))) (Q:=fun z M=>z = .int i∧M=M1) P1 ⟨rfl,rfl⟩ fun w s₂ z M2 τ2 x2 P2 r2 q2=>by
   obtain ⟨rfl,rfl⟩:=q2
   exact PG.to (x1.trans x2) P2.mem (sub_ok (sub_k (of_decide_eq_true (ba (bb h))) q1) (r1.mono x2.dkeep) r2 P2.mem))
theorem c_11 {o a b} (ia:IE C k G d o) (ib:IO C k G d a) (ic:IO C k G d b):IE C k G d (.slc o a b):=fun f env X x h =>
 kSubscript_i (P:=SE C k f G d env (.slc o a b)) h fun v sl p h=>kSlice_i (P:=fun sl=>SE C k f G d env (.slc o a b) (.Subscript v sl p)) h fun l u st pp h=>nO_i (P:=fun st=>SE C k f G d env (.slc o a b) (.Subscript v (.Slice l u st pp) p)) h fun h lo M Q A s τ P q =>
  Subscript_ (SE.go (ia f env X _ (ba h)) P q fun ov s₁ p M1 τ1 x1 P1 r1 q1=>wpAny_Slice (SO.go (ib f env X _ (ba (bb h))) P1 q1 fun lv s₂ o1 M2 τ2 x2 P2 p2 q2=>SO.go (ic f env X _ (bb (bb h))) P2 q2 fun uv s₃ o2 M3 τ3 x3 P3 p3 q3=>by
   rw [evalPart_none]
   exact wpAny_pure (wpAny_mono (slc_ok q3 (r1.mono (x2.trans x3).dkeep) p2 p3 P3.mem) (fun v s' q=>(PG.post P3.mem q).step (x1.trans (x2.trans x3))) fun _ _ e=>e)))
theorem len_sl {n m:Nat} (h:Nat.ble n 1000=true) (e:m=n):m ≤ sizeLine:=e▸Nat.le_trans (Nat.le_of_ble_eq_true h) (by rw [sizeLine_eq]; decide)
theorem c_12 {es} (ia:IEs C k G d es):IE C k G d (.tup es):=fun f env X x h =>
 kTuple_i (P:=SE C k f G d env (.tup es)) h fun vs kk p h lo M Q A s τ P q=>wpAny_Tuple (SEs.go (ia f env X _ (bb h)) P q fun vs s₁ ps M1 τ1 hl x1 P1 r1 q1=>by
  obtain ⟨ps',M2,τ2,x2,m2,r2,q2⟩:=frzs_ok (s:=s₁) q1 r1 P1.mem
  exact ⟨len_sl (ba h) hl,(PG.post (Q:=Q) m2 (PG.newTup rfl r2 q2)).step (x1.trans x2)⟩)
theorem c_13 {es} (ia:IEs C k G d es):IE C k G d (.lst es):=fun f env X x h =>
 kList_i (P:=SE C k f G d env (.lst es)) h fun vs p h lo M Q A s τ P q=>wpAny_List (SEs.go (ia f env X _ (bb h)) P q fun vs s₁ ps M1 τ1 hl x1 P1 r1 q1=>by
  obtain ⟨ps',M2,τ2,x2,m2,r2,q2⟩:=frzs_ok (s:=s₁) q1 r1 P1.mem
  exact ⟨len_sl (ba h) hl,(PG.post (Q:=Q) m2 (PG.newList rfl r2 q2)).step (x1.trans x2)⟩)
theorem c_14 {es} (ia:IEs C k G d es):IE C k G d (.mls es):=fun f env X x h =>
 kList_i (P:=SE C k f G d env (.mls es)) h fun vs p h lo M Q A s τ P q=>wpAny_List (SEs.go (ia f env X _ (bb h)) P q fun vs s₁ ps M1 τ1 hl x1 P1 r1 q1=>by
  obtain ⟨ps',M2,τ2,x2,m2,r2,q2⟩:=frzs_ok (s:=s₁) q1 r1 P1.mem
  exact ⟨len_sl (ba h) hl,(Post.newMut m2 rfl r2 q2).step (x1.trans x2)⟩)
theorem c_15 {sep y a b} (ia:IE C k G d y):IE C k G d (.jrep sep y a b):=fun f env X x h =>
 let S:=SE C k f G d env (.jrep sep y a b)
 kCall_i (P:=S) h fun c args kws p2 h=>twoL_i (P:=fun args=>S (.Call c args kws p2)) h fun u v h=>kAttribute_i (P:=fun c=>S (.Call c [u,v] kws p2)) h fun i rn ap2 h=>kCall_i (P:=fun i=>S (.Call (.Attribute i rn ap2) [u,v] kws p2)) h fun ci ca ki p1 h =>
  kAttribute_i (P:=fun ci=>S (.Call (.Attribute (.Call ci ca ki p1) rn ap2) [u,v] kws p2)) h fun w jn ap1 h=>oneL_i (P:=fun ca=>S (.Call (.Attribute (.Call (.Attribute w jn ap1) ca ki p1) rn ap2) [u,v] kws p2)) h fun z h =>
  nil_i (P:=fun kws=>S (.Call (.Attribute (.Call (.Attribute w jn ap1) [z] ki p1) rn ap2) [u,v] kws p2)) h fun h=>nil_i (P:=fun ki=>S (.Call (.Attribute (.Call (.Attribute w jn ap1) [z] ki p1) rn ap2) [u,v] [] p2)) h fun h =>
  eq_i (P:=fun rn=>S (.Call (.Attribute (.Call (.Attribute w jn ap1) [z] [] p1) rn ap2) [u,v] [] p2)) h fun h=>eq_i (P:=fun jn=>S (.Call (.Attribute (.Call (.Attribute w jn ap1) [z] [] p1) "replace" ap2) [u,v] [] p2)) h fun h =>
  kLit_i (P:=fun w=>S (.Call (.Attribute (.Call (.Attribute w "join" ap1) [z] [] p1) "replace" ap2) [u,v] [] p2)) (ba (bb (bb h))) fun ks ps=>kLit_i (P:=fun u=>S (.Call (.Attribute (.Call (.Attribute (.Constant (.str ⟨sep.toArray⟩) ks ps) "join" ap1) [z] [] p1) "replace" ap2) [u,v] [] p2)) (ba (bb (bb (bb h)))) fun ka pa =>
  kLit_i (P:=fun v=>S (.Call (.Attribute (.Call (.Attribute (.Constant (.str ⟨sep.toArray⟩) ks ps) "join" ap1) [z] [] p1) "replace" ap2) [.Constant (.str ⟨a.toArray⟩) ka pa,v] [] p2)) (ba (bb (bb (bb (bb h))))) fun kb pb lo M Q A s τ P q =>
  jrep_ok (ba (bb h)) (ba h) (ntb (bb (bb (bb (bb (bb h)))))) (ia f env X _ (bb (bb (bb (bb (bb (bb h))))))) P q
theorem use_none {f:Fs} {env:Env} {A:Around} {lo:Lo} {M:Mem} {s:Shared} {τ:Tags} {D Cc:Addr} {acc:List PV} {s':Shared} {Q:PV→Mem→Prop} (u:UseC C f d env A lo τ s D Cc acc M s') (q:Q (.list acc) M):compPost (model C.prog C.w) A NoE none (Post C τ s Q) (.ref D) Cc (.ok .next) s':=by
 obtain ⟨τ',x1,P1,r1,t1,ne,⟨m,ns⟩,fr⟩:=u
 refine ⟨m,ns,fun h2 hs=>?_⟩
 have ch:Chg Cc s' { s' with heap:=h2 }:=Chg.of_same hs
 exact ⟨_,M,τ',ch.ext' t1 x1 fr,ch.mem t1 P1.mem,r1.mono (ch.dkeep t1),q⟩
theorem c_16 {elt tg n it cond caps} (ia:IE C k G d elt) (ib:IIt C k G d it) (ic:IFor C k G d cond):IE C k G d (.comp elt tg n it cond caps):=fun f env X x h =>
 kListComp_i (P:=SE C k f G d env (.comp elt tg n it cond caps)) h fun y gens scope pos h=>oneL_i (P:=fun gens=>SE C k f G d env (.comp elt tg n it cond caps) (.ListComp y gens scope pos)) h fun g h=>kGen_i (P:=fun g=>SE C k f G d env (.comp elt tg n it cond caps) (.ListComp y [g] scope pos)) h fun tgt iter ifs h lo M Q A s τ P q=>by
  rw [arm_eval_ListComp]
  exact comp_ok (use:=none) (QL:=fun vs M=>Q (.list vs) M) X (compOk_iff (ba h)) (ba (bb h)) (ba (bb (bb h))) (ib f env X _ (ba (bb (bb (bb h))))) (fun env' X'=>ic _ env' X' _ (ba (bb (bb (bb (bb h)))))) (fun env' X'=>ia _ env' X' _ (bb (bb (bb (bb (bb h)))))) P q fun D Cc acc M' s' u q=>use_none u q
theorem two_i {f:Fs} {elt:E} {it it2:It} {x:Expr} {gens:List Comprehension} {scope:Scope} {P:List Comprehension→Prop}
  (h:(twoL gens fun g1 g2=>kGen g1 fun t1 i1 f1=>kGen g2 fun t2 i2 f2=>kName t1 fun a _=>kName t2 fun b _=>f1.isEmpty && (f2.isEmpty && (comp2Ok scope a b && (notSet i1 && (notSet i2 && (mIt k f it i1 && (mIt k (inner2 f a b scope) it2 i2 && mE k (inner2 f a b scope) elt x)))))))=true)
  (q:∀ a pa i1 b pb i2,Comp2Ok f a b scope→notSet i1=true→notSet i2=true→mIt k f it i1=true→mIt k (inner2 f a b scope) it2 i2=true→mE k (inner2 f a b scope) elt x=true→P [⟨.Name a pa,i1,[],0⟩,⟨.Name b pb,i2,[],0⟩]):P gens :=
 twoL_i (P:=P) h fun g1 g2 h=>kGen_i (P:=fun g1=>P [g1,g2]) h fun t1 i1 f1 h=>kGen_i (P:=fun g2=>P [⟨t1,i1,f1,0⟩,g2]) h fun t2 i2 f2 h=>kName_i (P:=fun t1=>P [⟨t1,i1,f1,0⟩,⟨t2,i2,f2,0⟩]) h fun a pa h=>kName_i (P:=fun t2=>P [⟨.Name a pa,i1,f1,0⟩,⟨t2,i2,f2,0⟩]) h fun b pb h =>
  nil_i (P:=fun f1=>P [⟨.Name a pa,i1,f1,0⟩,⟨.Name b pb,i2,f2,0⟩]) h fun h=>nil_i (P:=fun f2=>P [⟨.Name a pa,i1,[],0⟩,⟨.Name b pb,i2,f2,0⟩]) h fun h =>
  q a pa i1 b pb i2 (comp2Ok_iff (ba h)) (ba (bb h)) (ba (bb (bb h))) (ba (bb (bb (bb h)))) (ba (bb (bb (bb (bb h))))) (bb (bb (bb (bb (bb h)))))
theorem c_17 {elt it it2} (ia:IE C k G d elt) (ib:IIt C k G d it) (ic:IIt C k G d it2):IE C k G d (.comp2 elt it it2):=fun f env X x h =>
 kListComp_i (P:=SE C k f G d env (.comp2 elt it it2)) h fun y gens scope pos h=>two_i (P:=fun gens=>SE C k f G d env (.comp2 elt it it2) (.ListComp y gens scope pos)) h fun a pa i1 b pb i2 h1 h2 h3 h4 h5 h6 lo M Q A s τ P q=>by
  rw [arm_eval_ListComp]
  exact two_ok (k:=k) (use:=none) (QL:=fun vs M=>Q (.list vs) M) X h1 h2 h3 (ib f env X _ h4) (fun env' X'=>ic _ env' X' _ h5) (fun env' X'=>ia _ env' X' _ h6) P q fun D Cc acc M' s' u q=>use_none u q
theorem c_18 {e} (ia:IE C k G d e):IO C k G d (.so e):=fun f env X x h=>oK_i (P:=SO C k f G d env (.so e)) h fun x h lo M Q A s τ P q=>by
 rw [evalPart_some]
 refine SE.go (ia f env X _ h) P q fun v s₁ p M1 τ1 x1 P1 r1 q1=>?_
 obtain ⟨i,rfl,q1⟩:=intK_inv q1
 exact r1.int_i fun t=>⟨_,M1,τ1,x1,P1.mem,.int _ _,q1⟩
theorem c_no:IO C k G d .no:=fun f env X x h=>nO_i (P:=SO C k f G d env .no) h fun _ lo M Q A s τ P q=>by
 rw [evalPart_none]
 exact wpAny_pure ⟨none,M,τ,Ext.refl ..,P.mem,.none,q⟩
theorem c_nil:IEs C k G d .nil:=fun f env X x h=>List.isEmpty_iff.mp h▸fun lo M Q A s τ pos P q=>splice_nil P.mem q
theorem c_19 {e es} (ia:IE C k G d e) (ib:IEs C k G d es):IEs C k G d (.cons e es):=fun f env X x h=>unc_i (P:=SEs C k f G d env (.cons e es)) h fun x xs h lo M Q A s τ pos P q =>
 wpAny_items_cons (SE.go (ia f env X _ (ba (bb h))) P q fun v s₁ p M1 τ1 x1 P1 r1 q1=>SEs.go (ib f env X _ (bb (bb h))) P1 q1 fun vs s₂ ps M2 τ2 hl x2 P2 r2 q2 =>
  ⟨congrArg Nat.succ hl,p :: ps,M2,τ2,x1.trans x2,P2.mem,.cons (r1.mono x2.dkeep) r2,q2⟩) (starEach_cons (ntb h))
theorem c_dnil:IDic C k G d .nil:=fun f env X ks keys x hk h hl=>by
 obtain rfl:=List.isEmpty_iff.mp h
 obtain rfl:=List.length_eq_zero_iff.mp hl
 cases ks with
 | nil=>exact fun lo M Q A s τ pos P q=>pairTrees_nil_walk ⟨[],[],M,τ,trivial,rfl,Ext.refl ..,P.mem,.nil,q⟩
 | cons k0 ks=>exact nb hk
theorem c_20 {e es} (ia:IE C k G d e) (ib:IDic C k G d es):IDic C k G d (.cons e es):=fun f env X ks keys x hk h hl=>by
 cases ks with
 | nil =>
  obtain rfl:=List.isEmpty_iff.mp hk
  exact unc_i (P:=fun x=>([]:List (Option Expr)).length=x.length→SDic C k f G d env [] (.cons e es) [] x) h (fun x xs h hl=>nz hl) hl
 | cons k0 ks =>
  refine unc_i (P:=fun keys=>keys.length=x.length→SDic C k f G d env (k0 :: ks) (.cons e es) keys x) hk (fun key keys hk hl=>?_) hl
  refine unc_i (P:=fun x=>(key :: keys).length=x.length→SDic C k f G d env (k0 :: ks) (.cons e es) (key :: keys) x) h (fun x xs h hl=>?_) hl
  refine oK_i (P:=fun key=>SDic C k f G d env (k0 :: ks) (.cons e es) (key :: keys) (x :: xs)) (ba hk) fun key h0=>kLit_i (P:=fun key=>SDic C k f G d env (k0 :: ks) (.cons e es) (some key :: keys) (x :: xs)) h0 fun kk p lo M Q A s τ pos P q=>?_
  refine pairTrees_cons_walk (wpAny_Constant_str (SE.go (s:={ s with toks:=s.toks + 1 }) (ia f env X _ (ba (bb h))) P q fun v s₁ pv M1 τ1 x1 P1 r1 q1=>wpAny_mono (ib f env X ks keys xs (bb hk) (bb (bb h)) (Nat.succ.inj hl) lo M1 _ A s₁ τ1 pos P1 q1) (fun r s₂ q2=>?_) fun _ _ e=>e))
  obtain ⟨kvs,ps,M2,τ2,hc,hks,x2,m2,r2,q2⟩:=q2
  exact ⟨(⟨k0.toArray⟩,v) :: kvs,pv :: ps,M2,τ2,⟨strKind_is _ _ _ _,rfl,hc⟩,congrArg (List.cons _) hks,Ext.trans Ext.up (x1.trans x2),m2,.cons (r1.mono x2.dkeep) r2,q2⟩
theorem c_21 {e} (ia:IE C k G d e):IAnd C k G d (.cons e .nil):=fun f env X x h=>unc_i (P:=SAnd C k f G d env (.cons e .nil)) h fun x xs h lo M Q A s τ pos P q=>by
 obtain rfl:=List.isEmpty_iff.mp (bb (bb h))
 exact ia f env X _ (ba (bb h)) lo M Q A s τ P q
theorem c_22 {e e2 es} (ia:IE C k G d e) (ib:IAnd C k G d (.cons e2 es)):IAnd C k G d (.cons e (.cons e2 es)):=fun f env X x h=>unc_i (P:=SAnd C k f G d env (.cons e (.cons e2 es))) h fun x xs h=>unc_i (P:=fun xs=>mEs k f (.cons e2 es) xs=true→SAnd C k f G d env (.cons e (.cons e2 es)) (x :: xs)) (bb (bb h)) (fun y ys _ hm lo M Q A s τ pos P q=>by
  rw [eval_BoolOp_cons]
  refine wpAny_bind (SE.go (ia f env X _ (ba (bb h))) P q fun v s₁ p M1 τ1 x1 P1 r1 q1=>wpAny_bind (wpAny_standAt (wpAny_bind (wpAny_holding (truth_go r1 q1 fun b s' e q2=>?_)))))
  cases b
  ·exact wpAny_pure ((PGS P1.mem e r1 q2).step x1)
  ·exact wpAny_mono (ib f env X _ hm lo M1 Q A s' τ1 pos (P1.same e) q2) (fun v s₂ q3=>q3.step (x1.trans e.grow.ext)) fun _ _ e=>e) (bb (bb h))
theorem c_23 {e} (ia:IE C k G d e):IOr C k G d (.cons e .nil):=fun f env X x h=>unc_i (P:=SOr C k f G d env (.cons e .nil)) h fun x xs h lo M Q A s τ pos P q=>by
 obtain rfl:=List.isEmpty_iff.mp (bb (bb h))
 exact ia f env X _ (ba (bb h)) lo M Q A s τ P q
theorem c_24 {e e2 es} (ia:IE C k G d e) (ib:IOr C k G d (.cons e2 es)):IOr C k G d (.cons e (.cons e2 es)):=fun f env X x h=>unc_i (P:=SOr C k f G d env (.cons e (.cons e2 es))) h fun x xs h=>unc_i (P:=fun xs=>mEs k f (.cons e2 es) xs=true→SOr C k f G d env (.cons e (.cons e2 es)) (x :: xs)) (bb (bb h)) (fun y ys _ hm lo M Q A s τ pos P q=>by
  rw [eval_BoolOp_cons]
  refine wpAny_bind (SE.go (ia f env X _ (ba (bb h))) P q fun v s₁ p M1 τ1 x1 P1 r1 q1=>wpAny_bind (wpAny_standAt (wpAny_bind (wpAny_holding (truth_go r1 q1 fun b s' e q2=>?_)))))
  cases b
  ·exact wpAny_mono (ib f env X _ hm lo M1 Q A s' τ1 pos (P1.same e) q2) (fun v s₂ q3=>q3.step (x1.trans e.grow.ext)) fun _ _ e=>e
  ·exact wpAny_pure ((PGS P1.mem e r1 q2).step x1)) (bb (bb h))
theorem c_25 {e} (ia:IE C k G d e):IIt C k G d (.val e):=fun f env X x h lo M Q A s τ P q K hK =>
 SE.go (ia f env X x h) P q fun v s₁ p M1 τ1 x1 P1 r1 q1=>by
  obtain ⟨l,hl,q1⟩:=opt_inv q1
  exact it_val P.room.1 hl r1 fun I s' τ' fp Pv St g hI it st=>hK I s' τ1 s₁ τ' M1 fp Pv St l x1 g hI (P1.ext g.ext (P1.mem.grow g)) it st q1.2 q1.1
theorem range_len {i:Int} (h:i ≤ 1000000):(rangeL i).length ≤ 10000000:=by
 unfold rangeL
 rw [List.length_map,List.length_range]
 exact Nat.le_trans (Int.toNat_le.mpr h:i.toNat ≤ 1000000) (by decide)
theorem c_26 (O:GOk C k G) {g e} (ia:IE C k G d e):IIt C k G d (.range g e):=fun f env X x h =>
 kCall_i (P:=SIt C k f G d env (.range g e)) h fun c args kws p h=>kName_i (P:=fun c=>SIt C k f G d env (.range g e) (.Call c args kws p)) h fun n np h=>oneL_i (P:=fun args=>SIt C k f G d env (.range g e) (.Call (.Name n np) args kws p)) h fun a h =>
  nil_i (P:=fun kws=>SIt C k f G d env (.range g e) (.Call (.Name n np) [a] kws p)) h fun h lo M Q A s τ P q K hK=>by
   refine wpAny_Call_any rfl (wpAny_mono (glo_ok (Q:=fun v M'=>v = .bi 7∧M'=M) O X (ba h) P ⟨q.1,rfl⟩) (fun v s₁ q1=>?_) fun _ _ e=>e)
   obtain ⟨p,M1,τ1,x1,m1,r1,rfl,rfl⟩:=q1
   rw [vr_bi r1,O.bis,back_cons (ntb (bb h))]
   refine PySem.callWith_type rfl (evalArgs_plain (spliced_cons (SE.go (ia f env X _ (bb (bb h))) (P.ext x1 m1) q.2 fun v s₂ p M2 τ2 x2 P2 r2 q2=>spliced_nil ?_)))
   obtain ⟨i,rfl,q2⟩:=intK_inv q2
   exact r2.int_i fun t=>it_range P.room.1 q2.1.1 q2.1.2 fun I s' τ' fp Pv St g hI it st=>hK I s' τ2 s₂ τ' M2 fp Pv St _ (x1.trans x2) g hI (P2.ext g.ext (P2.mem.grow g)) it st q2.2 (range_len q2.1.2)
theorem c_fnil:IFor C k G d .nil:=fun f env X x h=>List.isEmpty_iff.mp h▸fun lo M Q A s τ P q=>by
 rw [List.forIn_nil]
 exact wpAny_pure (PBS (A:=A) P.mem rfl q)
theorem c_27 {t ts} (ia:IT C k G d t) (ib:IFor C k G d ts):IFor C k G d (.cons t ts):=fun f env X x h=>unc_i (P:=SFor C k f G d env (.cons t ts)) h fun x xs h lo M Q A s τ P q =>
 tests_cons (ST.go (ia f env X _ (ba h)) P q fun b s₁ M1 τ1 x1 P1 q1=>by
  cases b
  ·exact ⟨M1,τ1,x1,P1.mem,q1⟩
  ·exact wpAny_mono (ib f env X _ (bb h) lo M1 Q A s₁ τ1 P1 q1) (fun v s₂ q3=>q3.step x1) fun _ _ e=>e)
theorem c_28 {t} (ia:IT C k G d t):IT C k G d (.not t):=fun f env X x h =>
 kUnaryOp_i (P:=ST C k f G d env (.not t)) h fun op y p h=>eq_i (P:=fun op=>ST C k f G d env (.not t) (.UnaryOp op y p)) h fun h lo M Q A s τ P q =>
  wpAny_isTrue_Not (ST.go (ia f env X _ h) P q fun b s₁ M1 τ1 x1 P1 q1=>⟨M1,τ1,x1,P1.mem,q1⟩)
theorem c_29 {ts} (ia:ITs C k G d ts):IT C k G d (.and ts):=fun f env X x h =>
 kBoolOp_i (P:=ST C k f G d env (.and ts)) h fun op vs p h=>eq_i (P:=fun op=>ST C k f G d env (.and ts) (.BoolOp op vs p)) h fun h lo M Q A s τ P q=>wpAny_isTrue_BoolOp ((ia f env X _ h lo M Q A s τ P).1 q)
theorem c_30 {ts} (ia:ITs C k G d ts):IT C k G d (.or ts):=fun f env X x h =>
 kBoolOp_i (P:=ST C k f G d env (.or ts)) h fun op vs p h=>eq_i (P:=fun op=>ST C k f G d env (.or ts) (.BoolOp op vs p)) h fun h lo M Q A s τ P q=>wpAny_isTrue_BoolOp ((ia f env X _ h lo M Q A s τ P).2 q)
theorem c_31 {o a b} (ia:IE C k G d a) (ib:IE C k G d b):IT C k G d (.cmp o a b):=fun f env X x h =>
 kCompare_i (P:=ST C k f G d env (.cmp o a b)) h fun l ops rs p h=>cmp_i (P:=fun ops rs=>ST C k f G d env (.cmp o a b) (.Compare l ops rs p)) h fun r h2 h3 h4 lo M Q A s τ P q =>
  wpAny_isTrue_Compare1 (two (ia f env X _ h3) (ib f env X _ h4) P q fun v w p r s' M' τ' x1 P' r1 r2 q'=>cmp_go P'.room P'.mem r1 r2 q' fun b s'' e q2=>wpAny_truthy_bool ((PBS (A:=A) P'.mem e q2).step x1)) h2
theorem c_32 {o p a b c} (ia:IE C k G d a) (ib:IE C k G d b) (ic:IE C k G d c):IT C k G d (.cmp2 o p a b c):=fun f env X x h =>
 kCompare_i (P:=ST C k f G d env (.cmp2 o p a b c)) h fun l ops rs pos h=>cmp2_i (P:=fun ops rs=>ST C k f G d env (.cmp2 o p a b c) (.Compare l ops rs pos)) h fun r r2 h2 h3 h4 h5 lo M Q A s τ P q=>by
  refine Test2 h2 (two (ia f env X _ h3) (ib f env X _ h4) P q fun v w pv pw s' M' τ' x1 P' r1 r2 q'=>cmp_go P'.room P'.mem r1 r2 q' fun b s'' e q2=>wpAny_truthy_bool ?_)
  cases b
  ·exact (PBS (A:=A) P'.mem e q2).step x1
  ·exact SE.go (ic f env X _ h5) (P'.same e) q2 fun z s₃ pz M3 τ3 x3 P3 r3 q3=>cmp_go P'.room P3.mem (r2.mono (x3.same e).dkeep) r3 q3 fun b s₄ e' q4=>wpAny_truthy_bool ((PBS (A:=A) P3.mem e' q4).step (x1.trans (x3.same e)))
theorem c_33 {e} (ia:IE C k G d e):IT C k G d (.val e):=fun f env X x h lo M Q A s τ P q =>
 wpAny_isTrue_value (SE.go (ia f env X _ (bb h)) P q fun v s₁ p M1 τ1 x1 P1 r1 q1=>truth_go r1 q1 fun b s' e q2=>(PBS (A:=A) P1.mem e q2).step x1) (isTrue_plain (ba h))
theorem c_tnil:ITs C k G d .nil:=fun f env X x h=>List.isEmpty_iff.mp h▸fun lo M Q A s τ P=>⟨fun q=>wpAny_allTrue_And_nil (PBS (A:=A) P.mem rfl q),fun q=>wpAny_allTrue_Or_nil (PBS (A:=A) P.mem rfl q)⟩
theorem c_34 {t ts} (ia:IT C k G d t) (ib:ITs C k G d ts):ITs C k G d (.cons t ts):=fun f env X x h=>unc_i (P:=STs C k f G d env (.cons t ts)) h fun x xs h lo M Q A s τ P =>
 ⟨fun q=>wpAny_allTrue_And_cons (ST.go (ia f env X _ (ba h)) P q fun b s₁ M1 τ1 x1 P1 q1=>by
  cases b
  ·exact ⟨M1,τ1,x1,P1.mem,q1⟩
  ·exact wpAny_mono ((ib f env X _ (bb h) lo M1 Q A s₁ τ1 P1).1 q1) (fun v s₂ q3=>q3.step x1) fun _ _ e=>e),
 fun q=>wpAny_allTrue_Or_cons (ST.go (ia f env X _ (ba h)) P q fun b s₁ M1 τ1 x1 P1 q1=>by
  cases b
  ·exact wpAny_mono ((ib f env X _ (bb h) lo M1 Q A s₁ τ1 P1).2 q1) (fun v s₂ q3=>q3.step x1) fun _ _ e=>e
  ·exact ⟨M1,τ1,x1,P1.mem,q1⟩)⟩
theorem c_mk (O:GOk C k G) {g i a} (ia:IE C k G d a):IE C k G d (.mkobj g i a):=fun f env X x h =>
 kCall_i (P:=SE C k f G d env (.mkobj g i a)) h fun c args kws p h=>kName_i (P:=fun c=>SE C k f G d env (.mkobj g i a) (.Call c args kws p)) h fun n np h=>oneL_i (P:=fun args=>SE C k f G d env (.mkobj g i a) (.Call (.Name n np) args kws p)) h fun y h =>
  nil_i (P:=fun kws=>SE C k f G d env (.mkobj g i a) (.Call (.Name n np) [y] kws p)) h fun h lo M Q A s τ P q=>mk_ok O X (ba h) (beq (ba (bb h))) (ntb (bb (bb h))) (ia f env X _ (bb (bb (bb h)))) P q
theorem c_dic (O:GOk C k G) {ks es} (ia:IDic C k G d es):IE C k G d (.dic ks es):=fun f env X x h =>
 kDict_i (P:=SE C k f G d env (.dic ks es)) h fun keys vals p h lo M Q A s τ P q =>
  have e:=beq (ba (bb (bb (bb h))))
  dic_ok O (ba h) (Nat.le_of_ble_eq_true (ba (bb h))) (Nat.le_of_ble_eq_true (ba (bb (bb h)))) e (ba (bb (bb (bb (bb h))))) (ia f env X ks _ _ (ba h) (bb (bb (bb (bb (bb h))))) e) P q
theorem c_bnd {es} (ia:IAnd C k G d es):IE C k G d (.bnd es):=fun f env X x h =>
 kBoolOp_i (P:=SE C k f G d env (.bnd es)) h fun op vs p h=>eq_i (P:=fun op=>SE C k f G d env (.bnd es) (.BoolOp op vs p)) h fun h lo M Q A s τ P q=>ia f env X _ h lo M Q A s τ p P q
theorem c_bor {es} (ia:IOr C k G d es):IE C k G d (.bor es):=fun f env X x h =>
 kBoolOp_i (P:=SE C k f G d env (.bor es)) h fun op vs p h=>eq_i (P:=fun op=>SE C k f G d env (.bor es) (.BoolOp op vs p)) h fun h lo M Q A s τ P q=>ia f env X _ h lo M Q A s τ p P q
mutual
theorem sE (O:GOk C k G):∀ (e:E),IE C k G d e
 | .cst v=>fun f env X x h=>c_cst h
 | .loc i=>c_loc
 | .glo i=>c_glo O
 | .bin o a b=>c_1 (sE O a) (sE O b)
 | .cmp o a b=>c_2 (sE O a) (sE O b)
 | .cmp2 o p a b c=>c_3 (sE O a) (sE O b) (sE O c)
 | .bnd es=>c_bnd (sAnd O es)
 | .bor es=>c_bor (sOr O es)
 | .not a=>c_4 (sE O a)
 | .neg a=>c_5 (sE O a)
 | .ite t a b=>c_6 (sT O t) (sE O a) (sE O b)
 | .call fn as=>c_7 O (sE O fn) (sEs O as)
 | .meth m o as=>c_8 (sE O o) (sEs O as)
 | .attr o i=>c_9 O (sE O o)
 | .sub o i=>c_10 (sE O o) (sE O i)
 | .subk o i=>c_10k (sE O o)
 | .slc o a b=>c_11 (sE O o) (sO O a) (sO O b)
 | .tup es=>c_12 (sEs O es)
 | .lst es=>c_13 (sEs O es)
 | .mls es=>c_14 (sEs O es)
 | .jrep sep y a b=>c_15 (sE O y)
 | .mkobj g i a=>c_mk O (sE O a)
 | .dic ks es=>c_dic O (sDic O es)
 | .comp elt tg n it cond caps=>c_16 (sE O elt) (sIt O it) (sFor O cond)
 | .comp2 elt it it2=>c_17 (sE O elt) (sIt O it) (sIt O it2)
theorem sO (O:GOk C k G):∀ (e:Eo),IO C k G d e
 | .no=>c_no
 | .so e=>c_18 (sE O e)
theorem sEs (O:GOk C k G):∀ (e:Es),IEs C k G d e
 | .nil=>c_nil
 | .cons e es=>c_19 (sE O e) (sEs O es)
theorem sDic (O:GOk C k G):∀ (e:Es),IDic C k G d e
 | .nil=>c_dnil
 | .cons e es=>c_20 (sE O e) (sDic O es)
theorem sAnd (O:GOk C k G):∀ (e:Es),IAnd C k G d e
 | .nil=>fun f env X x h lo M Q A s τ pos P q=>q.elim
 | .cons e .nil=>c_21 (sE O e)
 | .cons e (.cons e2 es)=>c_22 (sE O e) (sAnd O (.cons e2 es))
theorem sOr (O:GOk C k G):∀ (e:Es),IOr C k G d e
 | .nil=>fun f env X x h lo M Q A s τ pos P q=>q.elim
 | .cons e .nil=>c_23 (sE O e)
 | .cons e (.cons e2 es)=>c_24 (sE O e) (sOr O (.cons e2 es))
theorem sIt (O:GOk C k G):∀ (e:It),IIt C k G d e
 | .val e=>c_25 (sE O e)
 | .range g e=>c_26 O (sE O e)
 | .zip a b=>fun f env X x h=>nb h
theorem sFor (O:GOk C k G):∀ (e:Ts),IFor C k G d e
 | .nil=>c_fnil
 | .cons t ts=>c_27 (sT O t) (sFor O ts)
theorem sT (O:GOk C k G):∀ (e:T),IT C k G d e
 | .not t=>c_28 (sT O t)
 | .and ts=>c_29 (sTs O ts)
 | .or ts=>c_30 (sTs O ts)
 | .cmp o a b=>c_31 (sE O a) (sE O b)
 | .cmp2 o p a b c=>c_32 (sE O a) (sE O b) (sE O c)
 | .val e=>c_33 (sE O e)
theorem sTs (O:GOk C k G):∀ (e:Ts),ITs C k G d e
 | .nil=>c_tnil
 | .cons t ts=>c_34 (sT O t) (sTs O ts)
end
end
@[elab_as_elim] theorem sReturn_i {P:Stmt→Prop} {x:Stmt} {K:(Option Expr)→Pos→Bool} (h:sReturn x K=true) (q:∀ a b,K a b=true→P (.Return a b)):P x :=
 dk h fun w h=>@Stmt.Return.elim (fun x=>(w:x.ctorIdx=3)→@Stmt.Return.elim (fun _=>Bool) x w K=true→P x) x w (fun a b w h=>q a b h) w h
@[elab_as_elim] theorem sAssign_i {P:Stmt→Prop} {x:Stmt} {K:(List Expr)→Expr→Pos→Bool} (h:sAssign x K=true) (q:∀ a b c,K a b c=true→P (.Assign a b c)):P x :=
 dk h fun w h=>@Stmt.Assign.elim (fun x=>(w:x.ctorIdx=5)→@Stmt.Assign.elim (fun _=>Bool) x w K=true→P x) x w (fun a b c w h=>q a b c h) w h
@[elab_as_elim] theorem sAugAssign_i {P:Stmt→Prop} {x:Stmt} {K:Expr→Operator→Expr→Pos→Bool} (h:sAugAssign x K=true) (q:∀ a b c d,K a b c d=true→P (.AugAssign a b c d)):P x :=
 dk h fun w h=>@Stmt.AugAssign.elim (fun x=>(w:x.ctorIdx=7)→@Stmt.AugAssign.elim (fun _=>Bool) x w K=true→P x) x w (fun a b c d w h=>q a b c d h) w h
@[elab_as_elim] theorem sFor'_i {P:Stmt→Prop} {x:Stmt} {K:Expr→Expr→(List Stmt)→(List Stmt)→Pos→Bool} (h:sFor' x K=true) (q:∀ a b c d e,K a b c d e=true→P (.For a b c d e)):P x :=
 dk h fun w h=>@Stmt.For.elim (fun x=>(w:x.ctorIdx=9)→@Stmt.For.elim (fun _=>Bool) x w K=true→P x) x w (fun a b c d e w h=>q a b c d e h) w h
@[elab_as_elim] theorem sWhile_i {P:Stmt→Prop} {x:Stmt} {K:Expr→(List Stmt)→(List Stmt)→Pos→Bool} (h:sWhile x K=true) (q:∀ a b c d,K a b c d=true→P (.While a b c d)):P x :=
 dk h fun w h=>@Stmt.While.elim (fun x=>(w:x.ctorIdx=11)→@Stmt.While.elim (fun _=>Bool) x w K=true→P x) x w (fun a b c d w h=>q a b c d h) w h
@[elab_as_elim] theorem sIf_i {P:Stmt→Prop} {x:Stmt} {K:Expr→(List Stmt)→(List Stmt)→Pos→Bool} (h:sIf x K=true) (q:∀ a b c d,K a b c d=true→P (.If a b c d)):P x :=
 dk h fun w h=>@Stmt.If.elim (fun x=>(w:x.ctorIdx=12)→@Stmt.If.elim (fun _=>Bool) x w K=true→P x) x w (fun a b c d w h=>q a b c d h) w h
noncomputable def sRaise (x:Stmt) (K:(Option Expr)→(Option Expr)→Pos→Bool):Bool:=if w:x.ctorIdx=16 then @Stmt.Raise.elim (fun _=>Bool) x w K else false
@[elab_as_elim] theorem sRaise_i {P:Stmt→Prop} {x:Stmt} {K:(Option Expr)→(Option Expr)→Pos→Bool} (h:sRaise x K=true) (q:∀ a b c,K a b c=true→P (.Raise a b c)):P x :=
 dk h fun w h=>@Stmt.Raise.elim (fun x=>(w:x.ctorIdx=16)→@Stmt.Raise.elim (fun _=>Bool) x w K=true→P x) x w (fun a b c w h=>q a b c h) w h
@[elab_as_elim] theorem sExpr_i {P:Stmt→Prop} {x:Stmt} {K:Expr→Pos→Bool} (h:sExpr x K=true) (q:∀ a b,K a b=true→P (.Expr a b)):P x :=
 dk h fun w h=>@Stmt.Expr.elim (fun x=>(w:x.ctorIdx=24)→@Stmt.Expr.elim (fun _=>Bool) x w K=true→P x) x w (fun a b w h=>q a b h) w h
@[elab_as_elim] theorem sBreak_i {P:Stmt→Prop} {x:Stmt} {K:Pos→Bool} (h:sBreak x K=true) (q:∀ a,K a=true→P (.Break a)):P x :=
 dk h fun w h=>@Stmt.Break.elim (fun x=>(w:x.ctorIdx=26)→@Stmt.Break.elim (fun _=>Bool) x w K=true→P x) x w (fun a w h=>q a h) w h
inductive FlIs (C:Cx) (τ:Tags) (h:Heap):Flow→Out→Prop
 | next:FlIs C τ h .next .next
 | ret {v p}:VR C τ h v p→FlIs C τ h (.ret v) (.ret p)
 | brk:FlIs C τ h .brk .brk
inductive SPost (C:Cx) (f:Fs) (d:Nat) (env:Env) (A:Around) (τ:Tags) (h:Shared) (Q:Out→Lo→Mem→Prop) (fl:Flow) (s':Shared):Prop
 | mk (o:Out) (lo':Lo) (M':Mem) (τ':Tags) (x:Ext (some env.locals) τ τ' h s') (P:Pre C f d env A τ' s'.heap lo' M') (r:FlIs C τ' s'.heap fl o) (q:Q o lo' M'):SPost C f d env A τ h Q fl s'
noncomputable abbrev SS (C:Cx) (k:Kn) (f:Fs) (G:Nat→PV) (d:Nat) (env:Env) (e:S) (x:Stmt):Prop :=
 ∀ (lo:Lo) (M:Mem) (Q:Out→Lo→Mem→Prop) (A:Around) (s:Shared) (τ:Tags),Pre C f d env A τ s.heap lo M→wpS C G d e lo M Q→wpAny (model C.prog C.w) A (exec x env) (SPost C f d env A τ s Q) NoE s
noncomputable abbrev SSs (C:Cx) (k:Kn) (f:Fs) (G:Nat→PV) (d:Nat) (env:Env) (e:Ss) (x:List Stmt):Prop :=
 ∀ (lo:Lo) (M:Mem) (Q:Out→Lo→Mem→Prop) (A:Around) (s:Shared) (τ:Tags),Pre C f d env A τ s.heap lo M→wpSs C G d e lo M Q→wpAny (model C.prog C.w) A (execs x env) (SPost C f d env A τ s Q) NoE s
section
variable {C:Cx} {k:Kn} {f:Fs} {G:Nat→PV} {d:Nat} {env:Env} {A:Around} {τ τ':Tags} {h h':Shared}
theorem SPost.step {Q:Out→Lo→Mem→Prop} {fl:Flow} {s':Shared} (x:Ext (some env.locals) τ τ' h h') (p:SPost C f d env A τ' h' Q fl s'):SPost C f d env A τ h Q fl s':=by
 obtain ⟨o,lo,M,τ'',y,P,r,q⟩:=p
 exact ⟨o,lo,M,τ'',x.trans y,P,r,q⟩
theorem SPost.next {Q:Out→Lo→Mem→Prop} {s':Shared} {lo:Lo} {M:Mem} (x:Ext (some env.locals) τ τ' h s') (P:Pre C f d env A τ' s'.heap lo M) (q:Q .next lo M):SPost C f d env A τ h Q .next s' :=
 ⟨.next,lo,M,τ',x,P,.next,q⟩
theorem Pre.loc {s:Shared} {lo:Lo} {M:Mem} (P:Pre C f d env A τ s.heap lo M):τ env.locals = .other:=P.fr.tag
theorem swaps_i {v:Expr} {t:Option Expr} {n:Nat} {P:Sem Bool→Prop} (h:notComp v=true) (q:P (pure false)):P (swapsWith v t n env):=by
 cases v <;> first | exact q | exact nb h
theorem swaps_no {v:Expr} {t:Option Expr} {n:Nat} (h:notComp v=true):swapsWith v t n env=pure false:=swaps_i (P:=fun t=>t=pure false) h rfl
theorem stores_i {es kk tp} {v:Expr} {P:Sem (Option (List Str))→Prop} (h:notTup v=true) (q:P (pure none)):P (swappedStores [.Tuple es kk tp] v env):=by
 cases v <;> first | exact q | exact nb h
theorem stores_no {es kk tp} {v:Expr} (h:notTup v=true):swappedStores [.Tuple es kk tp] v env=pure none:=stores_i (P:=fun t=>t=pure none) h rfl
theorem swaps_yes {x:Str} {px:Pos} {y gens scope pos n} (X:EnvOk C f env) (hl:f.sc.lookup x=some .local) (h:swapC x px scope pos=true):swapsWith (.ListComp y gens scope pos) (some (.Name x px)) n env=pure true:=by
 have hk:env.kindOf x=some .local:=(kind_is X x).trans hl
 have hb:env.blockKind = .function:=by unfold Env.blockKind; rw [X.kind]; rfl
 show pure (env.blockKind == .function && env.kindOf x == some .local && px.line == pos.line && !(scope.names.any fun (n,k)=>n == x && (k == .local || k == .cell)))=_
 rw [hk,hb,ba h,bb h]
 rfl
theorem exec_Assign_used {x px y gens scope pos spos} (hs:swapsWith (.ListComp y gens scope pos) (some (.Name x px)) spos.line env=pure true) :
  exec (.Assign [.Name x px] (.ListComp y gens scope pos) spos) env=(do standAt spos; evalThenUse (.ListComp y gens scope pos) env (assign (.Name x px) env); pure .next):=exec_Assign_Name_used _ _ _ _ hs
end
section
variable {C:Cx} {k:Kn} {f:Fs} {G:Nat→PV} {d:Nat} {env:Env} {A:Around} {τ τ':Tags} {h h':Shared}
theorem aug_ok {s:Shared} {o:Bop} {x y:PV} {a b:Value} {Q:PV→Prop} (hq:augP o x y Q) (ra:VR C τ s.heap a x) (rb:VR C τ s.heap b y) :
  wpAny (model C.prog C.w) A (inplaceOp (opOf o) a b) (PG C τ s Q) NoE s:=by
 cases o with
 | add =>
  replace hq:augA x y Q:=hq
  cases x with
  | int i =>
   obtain ⟨j,rfl,hq⟩:=intK_inv (p:=y) hq
   exact ra.int_i fun t=>rb.int_i fun u=>PySem.P.iadd_int (PG.same rfl (.int _ _) hq)
  | str i =>
   obtain ⟨j,rfl,hq⟩:=strK_inv (p:=y) hq
   refine ra.str_i fun t=>?_
   refine rb.str_i fun u=>SB.iadd (fun t' k=>PG.same rfl ?_ hq.2) (by rw [str_len,str_len]; exact sl_ok hq.1)
   rw [str_app]; exact .str _ _
  | _=>exact False.elim hq
 | sub=>exact intsK hq ra rb fun i j t u hq=>PySem.P.isub_int (PG.same rfl (.int _ _) hq)
 | _=>exact False.elim hq
theorem store_next {s:Shared} {i:Nat} {x:Str} {p:PV} {v:Value} {lo:Lo} {M:Mem} {τ₀:Tags} {h₀:Shared} {Q:Out→Lo→Mem→Prop} (X:EnvOk C f env) (h1:f.vars[i]? = some x) (h2:f.sc.lookup x=some .local) (x1:Ext (some env.locals) τ₀ τ h₀ s)
  (P:Pre C f d env A τ s.heap lo M) (r:VR C τ s.heap v p) (q:Q .next (lo.set i (some p)) M):wpAny (model C.prog C.w) A (storeName env x v) (fun _=>SPost C f d env A τ₀ h₀ Q .next) NoE s :=
 store_ok X h1 h2 P r fun s' c P'=>SPost.next (c.ext P.loc x1 (.inr rfl)) P' q
theorem use_some {s s':Shared} {i:Nat} {x:Str} {px:Pos} {lo:Lo} {M:Mem} {D Cc:Addr} {acc:List PV} {Q:Out→Lo→Mem→Prop} (X:EnvOk C f env) (h1:f.vars[i]? = some x) (h2:f.sc.lookup x=some .local) (u:UseC C f d env A lo τ s D Cc acc M s') (q:Q .next (lo.set i (some (.list acc))) M) :
  compPost (model C.prog C.w) A NoE (some (assign (.Name x px) env)) (fun _ s'=>SPost C f d env A τ s Q .next s') (.ref D) Cc (.ok .next) s':=by
 obtain ⟨τ',x1,P1,r1,t1,ne,⟨m,ns⟩,fr⟩:=u
 show wpAny _ A (assign (.Name x px) env (.ref D)) _ _ s'
 refine wpAny_assign_Name (store_ok X h1 h2 P1 r1 fun s'' c P2=>⟨m,ns_keep ns fun o ho=>c.keep _ _ ne ho,fun h3 hs=>?_⟩)
 have ch:Chg Cc s'' { s'' with heap:=h3 }:=Chg.of_same hs
 have x2:Ext (some env.locals) τ τ' s s'':=c.ext P1.loc x1.weak (.inr rfl)
 exact SPost.next (s':={ s'' with heap:=h3 }) (ch.ext' t1 x2 fr) (P2.chg ch t1 ne.symm) q
theorem use_bind {x:Str} {px:Pos} {y:Expr} {gens:List Comprehension} {scope:Scope} {pos p:Pos} {iter:Expr} {s:Shared} {Q:Out→Lo→Mem→Prop}
  (K:wpAny (model C.prog C.w) A (comprehension (.ListComp y gens scope pos) scope env p (newList []) false (eval iter env) (some (assign (.Name x px) env))) (fun _ s'=>SPost C f d env A τ h Q .next s') NoE s)
  (e:evalThenUse (.ListComp y gens scope pos) env (assign (.Name x px) env)=(do let _ ← comprehension (.ListComp y gens scope pos) scope env p (newList []) false (eval iter env) (some (assign (.Name x px) env)))) :
  wpAny (model C.prog C.w) A (do evalThenUse (.ListComp y gens scope pos) env (assign (.Name x px) env); pure Flow.next) (SPost C f d env A τ h Q) NoE s:=by
 rw [e]
 exact wpAny_bind (wpAny_bind (wpAny_mono K (fun _ s' q=>wpAny_pure (wpAny_pure q)) fun _ _ e=>e))
theorem comp_use {s:Shared} {i:Nat} {x:Str} {px:Pos} {y:Expr} {gens:List Comprehension} {scope:Scope} {pos:Pos} {elt:E} {tg:Sum Nat (List Nat)} {n:Nat} {it:It} {cond:Ts} {caps:List Nat} {lo:Lo} {M:Mem} {Q:Out→Lo→Mem→Prop}
  (O:GOk C k G) (X:EnvOk C f env) (h1:f.vars[i]? = some x) (h2:f.sc.lookup x=some .local) (P:Pre C f d env A τ s.heap lo M)
  (q:wpE C G d (.comp elt tg n it cond caps) lo M fun v M=>Q .next (lo.set i (some v)) M)
  (h:(oneL gens fun g=>kGen g fun tgt iter ifs=>compOk f tg n caps scope tgt && (tgtOk (inner f n tgt caps scope) tg tgt && (notSet iter && (mIt k f it iter && (mTs k (inner f n tgt caps scope) cond ifs && mE k (inner f n tgt caps scope) elt y)))))=true) :
  wpAny (model C.prog C.w) A (do evalThenUse (.ListComp y gens scope pos) env (assign (.Name x px) env); pure Flow.next) (SPost C f d env A τ s Q) NoE s :=
 oneL_i (P:=fun gens=>wpAny (model C.prog C.w) A (do evalThenUse (.ListComp y gens scope pos) env (assign (.Name x px) env); pure Flow.next) (SPost C f d env A τ s Q) NoE s) h fun g h =>
  kGen_i (P:=fun g=>wpAny (model C.prog C.w) A (do evalThenUse (.ListComp y [g] scope pos) env (assign (.Name x px) env); pure Flow.next) (SPost C f d env A τ s Q) NoE s) h fun tgt iter ifs h =>
   use_bind (comp_ok (use:=some (assign (.Name x px) env)) (QL:=fun vs M=>Q .next (lo.set i (some (.list vs))) M) X (compOk_iff (ba h)) (ba (bb h)) (ba (bb (bb h))) (sIt O it f env X _ (ba (bb (bb (bb h))))) (fun env' X'=>sFor O cond _ env' X' _ (ba (bb (bb (bb (bb h))))))
    (fun env' X'=>sE O elt _ env' X' _ (bb (bb (bb (bb (bb h)))))) P q fun D Cc acc M' s' u q=>use_some X h1 h2 u q) rfl
theorem two_use {s:Shared} {i:Nat} {x:Str} {px:Pos} {y:Expr} {gens:List Comprehension} {scope:Scope} {pos:Pos} {elt:E} {it it2:It} {lo:Lo} {M:Mem} {Q:Out→Lo→Mem→Prop}
  (O:GOk C k G) (X:EnvOk C f env) (hx:f.vars[i]? = some x) (hl:f.sc.lookup x=some .local) (P:Pre C f d env A τ s.heap lo M)
  (q:wpE C G d (.comp2 elt it it2) lo M fun v M=>Q .next (lo.set i (some v)) M)
  (h:(twoL gens fun g1 g2=>kGen g1 fun t1 i1 f1=>kGen g2 fun t2 i2 f2=>kName t1 fun a _=>kName t2 fun b _=>f1.isEmpty && (f2.isEmpty && (comp2Ok scope a b && (notSet i1 && (notSet i2 && (mIt k f it i1 && (mIt k (inner2 f a b scope) it2 i2 && mE k (inner2 f a b scope) elt y)))))))=true) :
  wpAny (model C.prog C.w) A (do evalThenUse (.ListComp y gens scope pos) env (assign (.Name x px) env); pure Flow.next) (SPost C f d env A τ s Q) NoE s :=
 two_i (P:=fun gens=>wpAny (model C.prog C.w) A (do evalThenUse (.ListComp y gens scope pos) env (assign (.Name x px) env); pure Flow.next) (SPost C f d env A τ s Q) NoE s) h fun a pa i1 b pb i2 h1 h2 h3 h4 h5 h6 =>
  use_bind (two_ok (k:=k) (use:=some (assign (.Name x px) env)) (QL:=fun vs M=>Q .next (lo.set i (some (.list vs))) M) X h1 h2 h3
   (sIt O it f env X _ h4) (fun env' X'=>sIt O it2 _ env' X' _ h5) (fun env' X'=>sE O elt _ env' X' _ h6) P q fun D Cc acc M' s' u q=>use_some X hx hl u q) rfl
theorem ItAt.extL {I L:Addr} {fp:List Addr} {P:Nat→Value→Prop} {St:Nat→Heap→Prop} {l:List PV} (a:ItAt C A τ h.heap I fp P St l) (x:Ext (some L) τ τ' h h') (hL:τ L = .other) (hf:L ∉ fp):ItAt C A τ' h'.heap I fp P St l∧∀ i,St i h.heap→St i h'.heap :=
 a.keep (fun o ho=>x.keep I o ho (fun e=>hf (Option.some.inj e▸a.in)) fun b=>oth_part a.tag) (x.dkeepL hL)
theorem swaps1_no {v:Expr} {t:Expr} {n:Nat} (h:notComp v=true):swapsWithSole [t] v n env=pure false:=swaps_no h
theorem setattr_go {s:Shared} {lo:Lo} {M:Mem} {o p:PV} {i:Nat} {a:List Nat} {ov v:Value} {Q:Mem→Prop} {K:Unit→Shared→Prop} (O:GOk C k G) (ha:k.an[i]? = some a) (P:Pre C f d env A τ s.heap lo M) (ro:VR C τ s.heap ov o)
  (rv:VR C τ s.heap v p) (q:setP o i p M Q) (h:∀ s' τ' M',Ext none τ τ' s s'→Pre C f d env A τ' s'.heap lo M'→Q M'→K () s'):wpAny (model C.prog C.w) A (setAttr ov ⟨a.toArray⟩ v) K NoE s :=
 wpAny_mono (set_ok O.cls P.base (O.an▸ha) q ro rv P.mem) (fun _ s' q=>by
  obtain ⟨M',τ',x,m,q⟩:=q
  exact h s' τ' M' x (P.ext x m) q) fun _ _ e=>e
noncomputable abbrev IS (C:Cx) (k:Kn) (f:Fs) (G:Nat→PV) (d:Nat) (env:Env) (e:S):Prop:=∀ x:Stmt,mS k f e x=true→SS C k f G d env e x
noncomputable abbrev ISs (C:Cx) (k:Kn) (f:Fs) (G:Nat→PV) (d:Nat) (env:Env) (e:Ss):Prop:=∀ x:List Stmt,mSs k f e x=true→SSs C k f G d env e x
theorem d_1 (O:GOk C k G) (X:EnvOk C f env) {i e}:IS C k f G d env (.asg i e):=fun x h =>
 sAssign_i (P:=SS C k f G d env (.asg i e)) h fun ts v pos h=>oneL_i (P:=fun ts=>SS C k f G d env (.asg i e) (.Assign ts v pos)) h fun t h=>kName_i (P:=fun t=>SS C k f G d env (.asg i e) (.Assign [t] v pos)) h fun x px h lo M Q A s τ P q=>by
  rcases Bool.or_eq_true_iff.mp (ba (bb (bb h))) with h2 | h2
  ·exact wpAny_Assign_Name (SE.go (sE O e f env X _ (bb (bb (bb h)))) P q fun w s₁ p M1 τ1 x1 P1 r1 q1=>store_next X (beq (ba h)) (beq (ba (bb h))) x1.weak P1 r1 q1) (swaps_no h2)
  ·refine kListComp_i (P:=fun v=>mE k f e v=true→wpAny (model C.prog C.w) A (exec (.Assign [.Name x px] v pos) env) (SPost C f d env A τ s Q) NoE s) h2 (fun y gens scope cpos h2 h3=>?_) (bb (bb (bb h)))
   rw [exec_Assign_used (swaps_yes X (beq (ba (bb h))) h2)]
   refine wpAny_bind (wpAny_standAt ?_)
   cases e with
   | comp elt tg n it cond caps=>exact comp_use O X (beq (ba h)) (beq (ba (bb h))) P q h3
   | comp2 elt it it2=>exact two_use O X (beq (ba h)) (beq (ba (bb h))) P q h3
   | _=>exact nb h3
theorem d_2 (O:GOk C k G) (X:EnvOk C f env) {is e}:IS C k f G d env (.asgT is e):=fun x h =>
 sAssign_i (P:=SS C k f G d env (.asgT is e)) h fun ts v pos h=>oneL_i (P:=fun ts=>SS C k f G d env (.asgT is e) (.Assign ts v pos)) h fun t h=>kTuple_i (P:=fun t=>SS C k f G d env (.asgT is e) (.Assign [t] v pos)) h fun es kk tp h lo M Q A s τ P q =>
  Assign_Tuple (SE.go (sE O e f env X _ (bb (bb (bb h)))) P q fun w s₁ p M1 τ1 x1 P1 r1 q1=>row_ok X (ba h) P1 r1 q1 fun lo' s' c P' q'=>SPost.next (c.ext P1.loc x1.weak (.inr rfl)) P' q') (swaps1_no (ba (bb h))) (stores_no (ba (bb (bb h))))
theorem d_3 (O:GOk C k G) (X:EnvOk C f env) {o i e}:IS C k f G d env (.setattr o i e):=fun x h =>
 sAssign_i (P:=SS C k f G d env (.setattr o i e)) h fun ts v pos h=>oneL_i (P:=fun ts=>SS C k f G d env (.setattr o i e) (.Assign ts v pos)) h fun t h=>kAttribute_i (P:=fun t=>SS C k f G d env (.setattr o i e) (.Assign [t] v pos)) h fun ov name ap h =>
  attrIs_i (P:=fun name=>SS C k f G d env (.setattr o i e) (.Assign [.Attribute ov name ap] v pos)) (ba h) fun a ha lo M Q A s τ P q=>by
   refine wpAny_Assign_stores (SE.go (sE O e f env X _ (bb (bb (bb h)))) P q fun w s₁ p M1 τ1 x1 P1 r1 q1=>?_) (swaps1_no (ba (bb h))) rfl
   show wpAny _ A (assign (.Attribute ov ⟨a.toArray⟩ ap) env w) _ _ s₁
   rw [arm_assign_Attribute]
   refine wpAny_bind (wpAny_holding (SE.go (sE O o f env X _ (ba (bb (bb h)))) P1 q1 fun wo s₂ po M2 τ2 x2 P2 r2 q2=>wpAny_bind (wpAny_standAt (wpAny_bind (wpAny_holding ?_)))))
   exact setattr_go O ha P2 r2 (r1.mono x2.dkeep) q2 fun s' τ' M' x3 P3 q3=>wpAny_release (SPost.next ((x1.trans x2).trans x3).weak P3 q3)
theorem d_4 (O:GOk C k G) (X:EnvOk C f env) {o e}:IS C k f G d env (.setslc o e):=fun x h =>
 sAssign_i (P:=SS C k f G d env (.setslc o e)) h fun ts v pos h=>oneL_i (P:=fun ts=>SS C k f G d env (.setslc o e) (.Assign ts v pos)) h fun t h=>kSubscript_i (P:=fun t=>SS C k f G d env (.setslc o e) (.Assign [t] v pos)) h fun ov sl sp h =>
  kSlice_i (P:=fun sl=>SS C k f G d env (.setslc o e) (.Assign [.Subscript ov sl sp] v pos)) h fun l u st p h=>nO_i (P:=fun l=>SS C k f G d env (.setslc o e) (.Assign [.Subscript ov (.Slice l u st p) sp] v pos)) h fun h =>
  nO_i (P:=fun u=>SS C k f G d env (.setslc o e) (.Assign [.Subscript ov (.Slice none u st p) sp] v pos)) h fun h=>nO_i (P:=fun st=>SS C k f G d env (.setslc o e) (.Assign [.Subscript ov (.Slice none none st p) sp] v pos)) h fun h lo M Q A s τ P q=>by
   refine wpAny_Assign_stores (SE.go (sE O e f env X _ (bb (bb h))) P q fun w s₁ pv M1 τ1 x1 P1 r1 q1=>?_) (swaps1_no (ba h)) rfl
   show wpAny _ A (assign (.Subscript ov (.Slice none none none p) sp) env w) _ _ s₁
   rw [arm_assign_Subscript]
   refine wpAny_bind (wpAny_holding (SE.go (sE O o f env X _ (ba (bb h))) P1 q1 fun wo s₂ po M2 τ2 x2 P2 r2 q2=>wpAny_bind (wpAny_holding (wpAny_Slice ?_))))
   rw [evalPart_none]
   refine wpAny_pure (wpAny_pure (wpAny_pure (wpAny_bind (wpAny_standAt (wpAny_bind (wpAny_holding ?_))))))
   obtain ⟨a,rfl,q2⟩:=refK_inv q2
   obtain ⟨ys,rfl,q2⟩:=lstK_inv q2
   obtain ⟨l,hm,q2⟩:=q2.run
   rw [vr_m r2]
   refine wpAny_mono (setslc_ok hm (r1.mono x2.dkeep) P2.mem q2.1 q2.2) (fun _ s' q3=>?_) fun _ _ e=>e
   obtain ⟨M3,τ3,x3,m3,q3⟩:=q3
   exact wpAny_release (SPost.next ((x1.trans x2).trans x3).weak (P2.ext x3 m3) q3)
theorem d_5 (O:GOk C k G) (X:EnvOk C f env) {i o e}:IS C k f G d env (.aug i o e):=fun x h =>
 sAugAssign_i (P:=SS C k f G d env (.aug i o e)) h fun t op v pos h=>kName_i (P:=fun t=>SS C k f G d env (.aug i o e) (.AugAssign t op v pos)) h fun x px h=>eq_i (P:=fun op=>SS C k f G d env (.aug i o e) (.AugAssign (.Name x px) op v pos)) (bb (bb h)) fun h3 lo M Q A s τ P q=>by
  obtain ⟨p,hp,q⟩:=look_inv q
  refine wpAny_AugAssign_Name ?_
  obtain ⟨m,ns,t,vars⟩:=P.fr
  have hk:env.kindOf x=some .local:=(kind_is X x).trans (beq (ba (bb h)))
  cases vars i x p (beq (ba h)) hp with
  | loc a hw rw' =>
   exact wpAny_loadName_local X.kind hk ns hw (SE.go (sE O e f env X _ h3) P q fun w2 s₁ p2 M1 τ1 x1 P1 r1 q1=>wpAny_mono (aug_ok q1 (rw'.mono x1.dkeep) r1) (fun nv s₂ q2=>by
    obtain ⟨pn,τ2,g2,r2,q2⟩:=q2
    exact store_next X (beq (ba h)) (beq (ba (bb h))) (x1.trans g2.ext).weak (P1.ext g2.ext (P1.mem.grow g2)) r2 q2) fun _ _ e=>e)
  | cel a=>exact a.elim (fun a=>NameKind.noConfusion (Option.some.inj (hk.symm.trans a))) fun a=>NameKind.noConfusion (Option.some.inj (hk.symm.trans a))
theorem d_6 (O:GOk C k G) (X:EnvOk C f env) {ob i o e}:IS C k f G d env (.augattr ob i o e):=fun x h =>
 sAugAssign_i (P:=SS C k f G d env (.augattr ob i o e)) h fun t op v pos h=>kAttribute_i (P:=fun t=>SS C k f G d env (.augattr ob i o e) (.AugAssign t op v pos)) h fun ov name ap h=>attrIs_i (P:=fun name=>SS C k f G d env (.augattr ob i o e) (.AugAssign (.Attribute ov name ap) op v pos)) (ba h) fun a ha =>
  eq_i (P:=fun op=>SS C k f G d env (.augattr ob i o e) (.AugAssign (.Attribute ov ⟨a.toArray⟩ ap) op v pos)) (bb h) fun h lo M Q A s τ P q=>by
   refine wpAny_AugAssign_AttributeAny (SE.go (sE O ob f env X _ (ba h)) P q fun wo s₁ po M1 τ1 x1 P1 r1 q1=>wpAny_mono (get_ok O.cls P1.base (O.an▸ha) q1 r1 P1.mem) (fun old s₂ q2=>?_) fun _ _ e=>e)
   obtain ⟨pold,τ2,g2,r2,q2⟩:=q2
   refine SE.go (sE O e f env X _ (bb h)) (P1.ext g2.ext (P1.mem.grow g2)) q2 fun w s₃ pw M3 τ3 x3 P3 r3 q3=>wpAny_mono (aug_ok q3 (r2.mono x3.dkeep) r3) (fun nv s₄ q4=>?_) fun _ _ e=>e
   obtain ⟨pn,τ4,g4,r4,q4⟩:=q4
   have x14:=(g2.ext.trans x3).trans g4.ext
   exact setattr_go O ha (P3.ext g4.ext (P3.mem.grow g4)) (r1.mono x14.dkeep) r4 q4 fun s' τ' M' x5 P5 q5=>SPost.next ((x1.trans x14).trans x5).weak P5 q5
theorem d_7 (O:GOk C k G) (X:EnvOk C f env) {t a b} (ia:ISs C k f G d env a) (ib:ISs C k f G d env b):IS C k f G d env (.ifs t a b):=fun x h =>
 sIf_i (P:=SS C k f G d env (.ifs t a b)) h fun x y z p h lo M Q A s τ P q=>wpAny_If (ST.go (sT O t f env X _ (ba h)) P q fun c s₁ M1 τ1 x1 P1 q1=>by
  cases c
  ·exact wpAny_mono (ib _ (bb (bb h)) lo M1 Q A s₁ τ1 P1 q1) (fun v s' q=>q.step x1.weak) fun _ _ e=>e
  ·exact wpAny_mono (ia _ (ba (bb h)) lo M1 Q A s₁ τ1 P1 q1) (fun v s' q=>q.step x1.weak) fun _ _ e=>e)
inductive WJ (C:Cx) (f:Fs) (d:Nat) (env:Env) (A:Around) (τ:Tags) (h:Shared) (W:Nat→Lo→Mem→Prop) (n:Nat) (s:Shared):Prop
 | mk {lo M τ'} (x:Ext (some env.locals) τ τ' h s) (P:Pre C f d env A τ' s.heap lo M) (q:W n lo M):WJ C f d env A τ h W n s
theorem d_8 (O:GOk C k G) (X:EnvOk C f env) {t b} (ib:ISs C k f G d env b):IS C k f G d env (.whl t b):=fun x h =>
 sWhile_i (P:=SS C k f G d env (.whl t b)) h fun test body orelse pos h=>nil_i (P:=fun orelse=>SS C k f G d env (.whl t b) (.While test body orelse pos)) h fun h lo M Q A s τ P q=>by
  obtain ⟨n0,hJ⟩:=q
  refine wpAny_While (codeAny_whileLoop (WJ C f d env A τ s fun n lo M=>unrP (fun env M K=>wpT C G d t env M K) (fun env M K=>wpSs C G d b env M K) n lo M Q) (fun n s' j=>?_) n0 ⟨Ext.refl ..,P,hJ⟩)
  obtain ⟨x1,P1,q⟩:=j
  cases n with
  | zero=>exact q.elim
  | succ n =>
   refine no_e (ST.go (sT O t f env X _ (ba h)) P1 q fun c s₁ M1 τ1 x2 P2 q1=>?_)
   cases c
   ·exact wpAny_execs_nil (SPost.next (x1.trans x2.weak) P2 q1)
   ·refine no_e (wpAny_mono (ib _ (bb h) _ M1 _ A s₁ τ1 P2 q1) (fun fl s₂ q2=>?_) fun _ _ e=>e)
    obtain ⟨o,lo2,M2,τ2,x3,P3,fi,q2⟩:=q2
    have xx:=(x1.trans x2.weak).trans x3
    cases fi with
    | next=>exact ⟨n,Nat.lt_succ_self n,xx,P3,q2⟩
    | ret r=>exact ⟨_,_,M2,τ2,xx,P3,.ret r,q2⟩
    | brk=>exact SPost.next xx P3 q2
inductive FJ (C:Cx) (f:Fs) (d:Nat) (env:Env) (A:Around) (τ:Tags) (h:Shared) (I:Addr) (fp:List Addr) (Pv:Nat→Value→Prop) (St:Nat→Heap→Prop) (l:List PV) (W:List PV→Lo→Mem→Prop) (n:Nat) (s:Shared):Prop
 | mk {i lo M τ'} (hi:i ≤ l.length) (hn:n=l.length + 1 - i) (x:Ext (some env.locals) τ τ' h s) (P:Pre C f d env A τ' s.heap lo M) (it:ItAt C A τ' s.heap I fp Pv St l) (st:St i s.heap) (q:W (l.drop i) lo M):FJ C f d env A τ h I fp Pv St l W n s
theorem for_body {I:Addr} {fp:List Addr} {Pv:Nat→Value→Prop} {St:Nat→Heap→Prop} {l:List PV} {i:Nat} {lo:Lo} {M:Mem} {tg:Sum Nat (List Nat)} {b:Ss} {body:List Stmt} {tgt:Expr} {s:Shared} {p:PV} {v:Value} {τ₀:Tags} {h₀:Shared} {Q:Out→Lo→Mem→Prop} {R:Flow→Shared→Prop} {E E':Value→Shared→Prop}
  (X:EnvOk C f env) (h1:tgtOk f tg tgt=true) (hb:mSs k f b body=true) (ib:ISs C k f G d env b) (hlt:i < l.length) (hfp:env.locals ∉ fp) (x:Ext (some env.locals) τ₀ τ h₀ s) (P:Pre C f d env A τ s.heap lo M) (it:ItAt C A τ s.heap I fp Pv St l) (st:St (i + 1) s.heap) (rp:VR C τ s.heap v p)
  (q:forP (fun x env M K=>opt (bindS tg x env) fun env=>wpSs C G d b env M K) (p :: l.drop (i + 1)) lo M Q)
  (hn:∀ s,FJ C f d env A τ₀ h₀ I fp Pv St l (fun r lo M=>forP (fun x env M K=>opt (bindS tg x env) fun env=>wpSs C G d b env M K) r lo M Q) (l.length + 1 - (i + 1)) s→R .next s)
  (hR:∀ v s,SPost C f d env A τ₀ h₀ Q (.ret v) s→R (.ret v) s) (hk:∀ s,SPost C f d env A τ₀ h₀ Q .next s→R .brk s) :
  wpAny (model C.prog C.w) A (assign tgt env v) (fun _ s=>wpAny (model C.prog C.w) A (execs body env) R E s) E' s :=
 tgt_ok X h1 P rp q fun lo5 s5 ch5 P5 q5=>no_e (wpAny_mono (ib _ hb lo5 _ _ A s5 τ P5 q5) (fun fl s6 q6=>by
  have tL:τ env.locals = .other:=P5.loc
  have it5:=it.chg ch5 hfp tL
  obtain ⟨o,lo6,M6,τ6,x6,P6,fi,q6⟩:=q6
  have xx6:=(ch5.ext tL x (.inr rfl)).trans x6
  have it6:=it5.1.extL x6 tL hfp
  cases fi with
  | next=>exact hn _ ⟨hlt,rfl,xx6,P6,it6.1,it6.2 _ (it5.2 _ st),q6⟩
  | ret r=>exact hR _ _ ⟨_,lo6,M6,τ6,xx6,P6,.ret r,q6⟩
  | brk=>exact hk _ (SPost.next xx6 P6 q6)) fun _ _ e=>e)
theorem d_9 (O:GOk C k G) (X:EnvOk C f env) {tg it b} (ib:ISs C k f G d env b):IS C k f G d env (.for tg it b):=fun x h =>
 sFor'_i (P:=SS C k f G d env (.for tg it b)) h fun tgt iter body orelse pos h=>nil_i (P:=fun orelse=>SS C k f G d env (.for tg it b) (.For tgt iter body orelse pos)) h fun h lo M Q A s τ P q=>by
  refine wpAny_For (sIt O it f env X _ (ba (bb (bb h))) lo M _ A s τ P q _ fun I s₁ τ₁ s₀ τ₂ M₂ fp Pv St l x1 g1 hI P2 it2 st2 q2 hlen=>?_) (notSet_eq (ba (bb h)))
  have hfp:env.locals ∉ fp:=P.has.elim fun o ho=>fp_free it2 hI x1 ho.1 ho.2 P2.loc
  refine codeAny_forLoop_any (FJ C f d env A τ s I fp Pv St l fun r lo M=>forP (fun x env M K=>opt (bindS tg x env) fun env=>wpSs C G d b env M K) r lo M Q) (fun n s' j=>?_) (l.length + 1) ⟨Nat.zero_le _,rfl,(x1.trans g1.ext).weak,P2,it2,st2,q2.run⟩
  obtain ⟨hi,rfl,xx,P3,it3,st3,q3⟩:=j
  have hne:env.locals ≠ I:=fun e=>hfp (e▸it3.in)
  rcases Nat.lt_or_eq_of_le hi with hlt | rfl
  ·refine it3.W.item _ s' _ _ hlt st3 fun v h4' tk4 hP hst hk=>?_
   have ch:Chg I s' { s' with heap:=h4',toks:=tk4 }:=chg_one hk
   obtain ⟨p,hp,rp⟩:=it3.vals _ v hlt hP
   have it4:=it3.next ch hst
   rw [drop_at hp] at q3
   exact it4.quiet _ _ _ v _ _ hst (for_body (s:={ s' with heap:=h4',toks:=tk4 }) X (ba h) (bb (bb (bb h))) ib hlt hfp (ch.ext' it3.tag xx (free_at x1 hI)) (P3.chg ch it3.tag hne) it4 hst (rp.mono (ch.dkeep it3.tag)) q3 (fun s j=>⟨_,sub_lt hlt,j⟩) (fun v s p=>p) fun s p=>p)
  ·refine it3.W.done s' _ _ st3 fun h4' tk4 hk=>?_
   have ch:Chg I s' { s' with heap:=h4',toks:=tk4 }:=chg_one hk
   rw [List.drop_length] at q3
   exact wpAny_execs_nil (SPost.next (s':={ s' with heap:=h4',toks:=tk4 }) (ch.ext' it3.tag xx (free_at x1 hI)) (P3.chg ch it3.tag hne) q3)
theorem d_10 (O:GOk C k G) (X:EnvOk C f env) {e}:IS C k f G d env (.ret e):=fun x h =>
 sReturn_i (P:=SS C k f G d env (.ret e)) h fun v pos h=>oK_i (P:=fun v=>SS C k f G d env (.ret e) (.Return v pos)) h fun v h lo M Q A s τ P q=>wpAny_Return_some (SE.go (sE O e f env X _ h) P q fun v s₁ p M1 τ1 x1 P1 r1 q1=>by
  obtain ⟨p',M2,τ2,x2,m2,r2,q2⟩:=frz_ok (s:=s₁) q1 r1 P1.mem
  exact ⟨_,lo,M2,τ2,(x1.trans x2).weak,P1.ext x2 m2,.ret r2,q2⟩)
theorem d_11:IS C k f G d env .ret0:=fun x h =>
 sReturn_i (P:=SS C k f G d env .ret0) h fun v pos h=>nO_i (P:=fun v=>SS C k f G d env .ret0 (.Return v pos)) h fun _ lo M Q A s τ P q=>wpAny_Return_none ⟨_,lo,M,τ,Ext.refl ..,P,.ret .none,q⟩
theorem d_12 (O:GOk C k G) (X:EnvOk C f env) {e}:IS C k f G d env (.expr e):=fun x h =>
 sExpr_i (P:=SS C k f G d env (.expr e)) h fun v pos h lo M Q A s τ P q=>wpAny_Expr_any (SE.go (sE O e f env X _ (bb h)) P q fun v s₁ p M1 τ1 x1 P1 r1 q1=>SPost.next x1.weak P1 q1) (by unfold interactive; rw [X.kind]; rfl) (swaps_no (ba h))
theorem d_13 {e es} (ia:IS C k f G d env e) (ib:ISs C k f G d env es):ISs C k f G d env (.cons e es):=fun x h=>unc_i (P:=SSs C k f G d env (.cons e es)) h fun x xs h lo M Q A s τ P q =>
 wpAny_execs_cons (wpAny_mono (ia _ (ba h) lo M _ A s τ P q) (fun fl s₁ q1=>by
  obtain ⟨o,lo1,M1,τ1,x1,P1,fi,q1⟩:=q1
  cases fi with
  | next=>exact wpAny_mono (ib _ (bb h) lo1 M1 Q A s₁ τ1 P1 q1) (fun v s' q=>q.step x1) fun _ _ e=>e
  | ret r=>exact ⟨_,lo1,M1,τ1,x1,P1,.ret r,q1⟩
  | brk=>exact ⟨_,lo1,M1,τ1,x1,P1,.brk,q1⟩) fun _ _ e=>e)
theorem d_brk:IS C k f G d env .brk:=fun x h=>sBreak_i (P:=SS C k f G d env .brk) h fun pos _ lo M Q A s τ P q=>wpAny_Break ⟨_,lo,M,τ,Ext.refl ..,P,.brk,q⟩
theorem d_nil:ISs C k f G d env .nil:=fun x h=>List.isEmpty_iff.mp h▸fun lo M Q A s τ P q=>wpAny_execs_nil (SPost.next (Ext.refl ..) P q)
mutual
theorem sS (O:GOk C k G) (X:EnvOk C f env):∀ (e:S),IS C k f G d env e
 | .asg i e=>d_1 O X
 | .asgT is e=>d_2 O X
 | .setattr o i e=>d_3 O X
 | .setslc o e=>d_4 O X
 | .aug i o e=>d_5 O X
 | .augattr ob i o e=>d_6 O X
 | .ifs t a b=>d_7 O X (sSs O X a) (sSs O X b)
 | .whl t b=>d_8 O X (sSs O X b)
 | .for tg it b=>d_9 O X (sSs O X b)
 | .ret e=>d_10 O X
 | .ret0=>d_11
 | .expr e=>d_12 O X
 | .raise=>fun x h lo M Q A s τ P q=>q.elim
 | .brk=>d_brk
theorem sSs (O:GOk C k G) (X:EnvOk C f env):∀ (e:Ss),ISs C k f G d env e
 | .nil=>d_nil
 | .cons e es=>d_13 (sS O X e) (sSs O X es)
end
end
end Mine
end
section
open PySem PySem.W PySem.Calls
set_option tactic.hygienic true
namespace Mine
open PyProof.Rows
noncomputable def entry (F:Fn) (args:List PV):Lo:=args.map some++List.replicate (F.f.vars.length - F.np) none
noncomputable def wpF (C:Cx) (G:Nat→PV) (d:Nat) (F:Fn) (args:List PV) (M:Mem) (Q:PV→Mem→Prop):Prop :=
 wpSs C G d F.body (entry F args) M (retK Q)
structure FdIs (C:Cx) (i:Nat) (F:Fn) (a:Addr) (o:Obj) (fd:FuncData) (body:List Stmt):Prop where
 fv:C.fv i = .ref a
 obj:C.H.get? a=some o
 data:o.data = .func fd
 cd:C.H.CodeRec fd.code fd.qualname
 bod:fd.body = .stmts body
 nm:fd.scope.names=F.f.sc
 kd:fd.scope.kind = .function
 co:fd.scope.isCoroutine=false
 ge:fd.scope.isGenerator=false
 gl:fd.globals=C.mod
 bi:fd.builtins=C.bmod
 cl:fd.closure=[]
inductive FnOk (C:Cx) (k:Kn) (i:Nat) (F:Fn):Prop
 | mk (a:Addr) (o:Obj) (fd:FuncData) (body:List Stmt) (names:namesB F=true) (is:FdIs C i F a o fd body) (m:mSs k F.f F.body body=true) (bind:∀ vals:List Value,vals.length=F.np→bindArgs fd ⟨vals,[]⟩=pure ((F.f.vars.take F.np).zip vals)):FnOk C k i F
noncomputable def newTags (τ:Tags) (n:Nat):Tags:=fun b=>if b < n then τ b else if b=n then .other else .data
theorem newTags_eq (τ:Tags) (n:Nat):newTags τ n n = .other:=(if_neg (Nat.lt_irrefl n)).trans (if_pos rfl)
theorem newTags_gt (τ:Tags) {n c:Nat} (h:n < c):newTags τ n c = .data:=(if_neg (Nat.not_lt.mpr (Nat.le_of_lt h))).trans (if_neg (Nat.ne_of_gt h))
section
variable {C:Cx} {k:Kn} {G:Nat→PV} {d:Nat}
theorem Room.deep {A:Around} {env:Env} (r:Room (d + 1) A):Room d (A.deeper env) :=
 ⟨r.1,room_dep r.2.1,room_up (Nat.le_succ (A.units + 3)) r.2.2⟩
theorem newTags_grow {τ:Tags} {s s':Shared} (g:∀ b o,s.heap.get? b=some o→s'.heap.get? b=some o) (k:s'.os=s.os:=by rfl) (l:s'.gens=s.gens:=by rfl):Grow τ (newTags τ s.heap.objs.size) s s' :=
 ⟨fun b o e=>⟨g b o e,if_pos (Heap.lt_size e)⟩,k,l⟩
theorem bindL_not {kd:Str→Option NameKind} {x:Str}:∀ {binds:List (Str×Value)} {m:Str→Option Value},x ∉ binds.map (·.1)→bindL kd binds m x=m x
 | [],m,_=>rfl
 | (n,v) :: r,m,h=>by
  have h1:x ≠ n∧x ∉ r.map (·.1):=by simpa using h
  unfold bindL
  rw [bindL_not h1.2]
  split
  ·exact if_neg h1.1
  ·rfl
theorem bindC_not {kd:Str→Option NameKind} {x:Str}:∀ {binds:List (Str×Value)} {m:Str→Option Value},x ∉ binds.map (·.1)→bindC kd binds m x=m x
 | [],m,_=>rfl
 | (n,v) :: r,m,h=>by
  have h1:x ≠ n∧x ∉ r.map (·.1):=by simpa using h
  unfold bindC
  rw [bindC_not h1.2]
  split
  ·rfl
  ·exact if_neg h1.1
theorem bindL_at {kd:Str→Option NameKind} {x:Str} {v:Value} (hk:kd x=some .local):∀ {binds:List (Str×Value)} {m:Str→Option Value},(binds.map (·.1)).Nodup→(x,v) ∈ binds→bindL kd binds m x=some v
 | (n,w) :: r,m,nd,h=>by
  rw [List.map_cons,List.nodup_cons] at nd
  unfold bindL
  rcases List.mem_cons.mp h with e | h
  ·cases e
   rw [bindL_not nd.1,if_pos hk]; exact if_pos rfl
  ·exact bindL_at hk nd.2 h
theorem bindC_at {kd:Str→Option NameKind} {x:Str} {v:Value} (hk:kd x ≠ some .local):∀ {binds:List (Str×Value)} {m:Str→Option Value},(binds.map (·.1)).Nodup→(x,v) ∈ binds→bindC kd binds m x=some v
 | (n,w) :: r,m,nd,h=>by
  rw [List.map_cons,List.nodup_cons] at nd
  unfold bindC
  rcases List.mem_cons.mp h with e | h
  ·cases e
   rw [bindC_not nd.1,if_neg hk]; exact if_pos rfl
  ·exact bindC_at hk nd.2 h
theorem cellsFrom_some:∀ {names:List (Str×NameKind)} {x:Str} {n:Nat} {acc:List (Str×Addr)},((x,NameKind.cell) ∈ names∨∃ c,acc.lookup x=some c)→∃ c,(cellsFrom n names acc).lookup x=some c
 | [],x,n,acc,h=>by
  rcases h with h | h
  ·cases h
  ·exact h
 | (y,kd) :: r,x,n,acc,h=>by
  unfold cellsFrom
  split
  ·rename_i hk
   refine cellsFrom_some ?_
   by_cases hx:x=y
   ·subst hx; exact .inr ⟨n,by simp⟩
   ·rcases h with h | ⟨c,h⟩
    ·rcases List.mem_cons.mp h with h | h
     ·exact absurd (by injection h) hx
     ·exact .inl h
    ·exact .inr ⟨c,by rw [List.lookup_cons,beq_eq_false_iff_ne.mpr hx]; exact h⟩
  ·rename_i hk
   refine cellsFrom_some ?_
   rcases h with h | h
   ·rcases List.mem_cons.mp h with h | h
    ·injection h with _ h; subst h; simp at hk
    ·exact .inl h
   ·exact .inr h
theorem zip_at {names:List Str} {vals:List Value} {i:Nat} {x:Str} {v:Value} (h1:names[i]? = some x) (h2:vals[i]? = some v):(x,v) ∈ names.zip vals :=
 List.mem_of_getElem? (i:=i) (by rw [List.getElem?_zip_eq_some]; exact ⟨h1,h2⟩)
theorem zip_fst {names:List Str} {vals:List Value} (h:names.length=vals.length):(names.zip vals).map (·.1)=names:=List.map_fst_zip (Nat.le_of_eq h)
theorem entry_at {F:Fn} {args:List PV} {j:Nat} {p:PV} (hp:(entry F args)[j]? = some (some p)):args[j]? = some p:=by
 unfold entry at hp
 by_cases hj:j < args.length
 ·rw [List.getElem?_append_left (by rw [List.length_map]; exact hj),List.getElem?_map] at hp
  obtain ⟨w,hw,e⟩:=Option.map_eq_some_iff.mp hp
  exact hw.trans e
 ·rw [List.getElem?_append_right (by rw [List.length_map]; exact Nat.le_of_not_lt hj)] at hp
  exact no (List.eq_of_mem_replicate (List.mem_of_getElem? hp)).symm
theorem call_end {A:Around} {env:Env} {f:Fs} {s s₁:Shared} {τ τ₁:Tags} {M:Mem} {Q:PV→Mem→Prop} {body:List Stmt} {ss:Ss} {lo:Lo} (O:GOk C k G) (X:EnvOk C f env) (hm:mSs k f ss body=true) (hL:s.heap.get? env.locals=none)
  (g:Grow τ τ₁ s s₁) (P:Pre C f d env (A.deeper env) τ₁ s₁.heap lo M) (q:wpSs C G d ss lo M (retK Q)) {E:Value→Shared→Prop} :
  wpAny (model C.prog C.w) (A.deeper env) (execs body env) (fun f s'=>Post C τ s Q (match f with | .ret v=>v | _=>.none) s') E s₁:=by
 refine no_e (wpAny_mono (sSs O X ss _ hm lo M _ _ s₁ τ₁ P q) (fun fl s₂ q2=>?_) fun _ _ e=>e)
 obtain ⟨o,lo2,M2,τ2,x,P2,fi,q2⟩:=q2
 have xx:Ext none τ τ2 s s₂:=⟨fun b ob e hb hp=>by
  obtain ⟨e1,t1⟩:=g.keep b ob e
  obtain ⟨e2,t2⟩:=x.keep b ob e1 (fun w=>get_no hL e (Option.some.inj w)) fun c=>t1.symm▸hp c
  exact ⟨e2,t2.trans t1⟩,x.os.trans g.os,x.gens.trans g.gens⟩
 cases fi with
 | next=>exact ⟨.none,M2,τ2,xx,P2.mem,.none,q2⟩
 | ret r=>exact ⟨_,M2,τ2,xx,P2.mem,r,q2⟩
 | brk=>exact q2.elim
theorem names_i {F:Fn} (h:namesB F=true):F.f.vars.Nodup∧F.np ≤ F.f.vars.length∧∀ x ∈ F.f.vars.take F.np,F.f.sc.lookup x=some .local∨F.f.sc.lookup x=some .cell :=
 ⟨nodupB_iff (ba (ba h)),of_decide_eq_true (bb (ba h)),fun x hx=>(Bool.or_eq_true_iff.mp (all_at (bb h) hx)).imp beq beq⟩
theorem take_len {F:Fn} {vs:List Value} (h:F.np ≤ F.f.vars.length) (hl:vs.length=F.np):(F.f.vars.take F.np).length=vs.length:=by rw [List.length_take,Nat.min_eq_left h,hl]
theorem zip_nd {F:Fn} {vs:List Value} (nd:F.f.vars.Nodup) (hz:((F.f.vars.take F.np).zip vs).map (·.1)=F.f.vars.take F.np):(((F.f.vars.take F.np).zip vs).map (·.1)).Nodup:=hz.symm▸List.Nodup.sublist (List.take_sublist ..) nd
theorem zip_mem {F:Fn} {vs:List Value} (hz:((F.f.vars.take F.np).zip vs).map (·.1)=F.f.vars.take F.np) {x:Str×Value} (hx:x ∈ (F.f.vars.take F.np).zip vs):x.1 ∈ F.f.vars.take F.np:=hz▸List.mem_map_of_mem hx
theorem par_at {F:Fn} {args:List PV} {vs:List Value} {τ:Tags} {h:Heap} {j:Nat} {x:Str} {p:PV} (rs:VRs C τ h vs args) (hl:vs.length=F.np) (hx:F.f.vars[j]? = some x) (hp:(entry F args)[j]? = some (some p)) :
  ∃ v,VR C τ h v p∧(x,v) ∈ (F.f.vars.take F.np).zip vs∧x ∈ F.f.vars.take F.np:=by
 obtain ⟨v,hv,rv⟩:=rs.get (entry_at hp)
 have hxt:=take_at (hl▸(List.getElem?_eq_some_iff.mp hv).1) hx
 exact ⟨v,rv,zip_at hxt hv,List.mem_of_getElem? hxt⟩
theorem call_gen {i:Nat} {F:Fn} {args:List PV} {M:Mem} {Q:PV→Mem→Prop} {a:Addr} {o:Obj} {fd:FuncData} {body:List Stmt} (lim:C.H.NoLimit) (names:namesB F=true) (I:FdIs C i F a o fd body)
  (hbind:∀ vals:List Value,vals.length=F.np→bindArgs fd ⟨vals,[]⟩=pure ((F.f.vars.take F.np).zip vals)) (hn:args.length=F.np)
  (hb:∀ (A:Around) (env:Env) (s s₁:Shared) (τ τ₁:Tags) (E:Value→Shared→Prop),EnvOk C F.f env→s.heap.get? env.locals=none→Grow τ τ₁ s s₁→Pre C F.f d env (A.deeper env) τ₁ s₁.heap (entry F args) M →
   wpAny (model C.prog C.w) (A.deeper env) (execs body env) (fun f s'=>Post C τ s Q (match f with | .ret v=>v | _=>.none) s') E s₁):CallOk C (d + 1) (.fn i) args M Q:=by
 refine ⟨fun A s τ fv vs rm B mk rf rs=>?_⟩
 rw [vr_fn rf,I.fv]
 obtain ⟨nd,n2,n3⟩:=names_i names
 have hl:vs.length=F.np:=rs.length.trans hn
 have kp:∀ b o,C.H.get? b=some o→s.heap.get? b=some o:=fun b o e=>(B b o e).1
 have hz:=zip_fst (take_len n2 hl)
 refine wpAny_call (codeAny_call_cells (Nat.lt_of_le_of_lt (Nat.le_add_right _ _) rm.2.1) (kp _ _ I.obj) I.data (lim.keeps kp) (I.cd.keeps kp) I.bod (hbind vs hl) I.cl (fun x hx=>?_) (fun s₁ ic=>?_) I.co I.ge I.kd)
 ·rw [I.nm]
  exact (n3 _ (zip_mem hz hx)).imp id fun h1=>(cellsFrom_some (n:=s.heap.objs.size + 1) (acc:=[]) (.inl (lookup_mem h1))).elim fun c hc=>⟨h1,hc▸rfl⟩
 ·have g:=newTags_grow (τ:=τ) ic.toInCall.keep (ic.toInCall.same.elim fun h e=>e.elim fun tk e=>e▸rfl) (ic.toInCall.same.elim fun h e=>e.elim fun tk e=>e▸rfl)
  have X:EnvOk C F.f (callEnvC fd s.heap.objs.size a):=⟨I.nm,I.kd,I.gl,I.bi,nd,fun x hx=>by
   show ∃ c,(cellsFrom (s.heap.objs.size + 1) fd.scope.names []).lookup x=some c
   rw [I.nm]
   exact cellsFrom_some (.inl (lookup_mem hx))⟩
  refine hb A _ s s₁ τ _ _ X (get?_size_none _) g ⟨rm.deep,B.ext g.ext,⟨_,ic.toInCall.ns,newTags_eq τ _,fun j x p hx hp=>?_⟩,mk.grow g⟩
  obtain ⟨v,rv,hmem,hxm⟩:=par_at rs hl hx hp
  have rv':=rv.mono (g.ext (L:=none)).dkeep
  have hkk:=kind_is X x
  rcases n3 x hxm with h1 | h1
  ·exact .loc (hkk.trans h1) (bindL_at (hkk.trans h1) (zip_nd nd hz) hmem) rv'
  ·obtain ⟨c,hc⟩:=X.cells x h1
   have ce:=ic.cell x c hc
   rw [bindC_at (by rw [hkk,h1]; decide) (zip_nd nd hz) hmem] at ce
   exact .cel (.inl (hkk.trans h1)) hc ce (newTags_gt τ (ic.above x c (mem_of_lookup hc))) rv'
theorem call_ok {i:Nat} {F:Fn} {args:List PV} {M:Mem} {Q:PV→Mem→Prop} (O:GOk C k G) (lim:C.H.NoLimit) (h:FnOk C k i F) (hn:args.length=F.np) (q:wpF C G d F args M Q):CallOk C (d + 1) (.fn i) args M Q:=by
 obtain ⟨a,o,fd,body,names,I,m,hbind⟩:=h
 exact call_gen lim names I hbind hn fun A env s s₁ τ τ₁ E X hL g P=>call_end O X m hL g P q
end
end Mine
end
section
open PySem PySem.W PySem.Calls
namespace Mine
open PyProof.Rows
inductive FnOkD (C:Cx) (k:Kn) (i:Nat) (F:Fn) (dfl:List PV):Prop
 | mk (a:Addr) (o:Obj) (fd:FuncData) (body:List Stmt) (names:namesB F=true) (nocell:∀ x ∈ F.f.sc,x.2 ≠ .cell) (is:FdIs C i F a o fd body) (m:mSs k F.f F.body body=true) (bind:∀ (s:Shared) (vals:List Value),(∀ b o,C.H.get? b=some o→s.heap.get? b=some o)→vals.length + dfl.length=F.np →
   ∃ dv:List Value,(∀ τ,Base C τ s.heap→VRs C τ s.heap dv dfl)∧BindsTo s fd ⟨vals,[]⟩ ((F.f.vars.take F.np).zip (vals++dv))):FnOkD C k i F dfl
section
variable {C:Cx} {k:Kn} {G:Nat→PV} {d:Nat}
theorem lookup_rev {l:List (Str×Value)} {x:Str} {v:Value} (nd:(l.map (·.1)).Nodup) (h:(x,v) ∈ l):l.reverse.lookup x=some v:=by
 induction l with
 | nil=>cases h
 | cons y ys ih =>
  rw [List.map_cons,List.nodup_cons] at nd
  rw [List.reverse_cons,List.lookup_append]
  rcases List.mem_cons.mp h with e | h
  ·subst e
   have:ys.reverse.lookup x=none:=by
    cases hh:ys.reverse.lookup x with
    | none=>rfl
    | some w=>exact absurd (List.mem_map_of_mem (f:=(·.1)) (List.mem_reverse.mp (mem_of_lookup hh))) nd.1
   rw [this]
   simp
  ·rw [ih nd.2 h]; rfl
theorem codeD {i:Nat} {F:Fn} {dfl args:List PV} {M:Mem} {Q:PV→Mem→Prop} (O:GOk C k G) (lim:C.H.NoLimit) (h:FnOkD C k i F dfl) (hn:args.length + dfl.length=F.np) (q:wpF C G d F (args++dfl) M Q) :
  ∀ (A:Around) (s:Shared) (τ:Tags) (vs:List Value),Room (d + 1) A→Base C τ s.heap→MemOk C M τ s.heap→VRs C τ s.heap vs args →
   codeAny (model C.prog C.w) A (.call (C.fv i) ⟨vs,[]⟩) (fun r s'=>match r with | .ok (.ret v)=>Post C τ s Q v s' | _=>False) s:=by
 intro A s τ vs rm B mk rs
 obtain ⟨a,o,fd,body,names,nocell,I,m,hbind⟩:=h
 rw [I.fv]
 obtain ⟨nd,n2,n3⟩:=names_i names
 have kp:∀ b o,C.H.get? b=some o→s.heap.get? b=some o:=fun b o e=>(B b o e).1
 obtain ⟨dv,hdv,hb⟩:=hbind s vs kp (rs.length▸hn)
 have rall:=VRs.append (hdv τ B) rs
 have hl:(vs++dv).length=F.np:=rall.length.trans (List.length_append.trans hn)
 have hz:=zip_fst (take_len n2 hl)
 have locs:∀ x ∈ F.f.vars.take F.np,F.f.sc.lookup x=some .local:=fun x hx=>(n3 x hx).elim id fun h1=>absurd rfl (nocell _ (lookup_mem h1))
 refine codeAny_call_def (Nat.lt_of_le_of_lt (Nat.le_add_right _ _) rm.2.1) (kp _ _ I.obj) I.data (lim.keeps kp) (I.cd.keeps kp) I.bod hb (I.nm.symm▸nocell) (fun x hx=>I.nm.symm▸locs _ (zip_mem hz hx)) (fun h₀ hns hk=>?_) I.co I.ge I.kd
 have g:Grow τ (newTags τ s.heap.objs.size) s { s with heap:=h₀,toks:=s.toks + ((F.f.vars.take F.np).zip (vs++dv)).length }:=newTags_grow hk
 have X:EnvOk C F.f (callEnv fd s.heap.objs.size a):=⟨I.nm,I.kd,I.gl,I.bi,nd,fun x hx=>absurd rfl (nocell _ (lookup_mem hx))⟩
 refine call_end (s₁:={ s with heap:=h₀,toks:=s.toks + ((F.f.vars.take F.np).zip (vs++dv)).length }) O X m (get?_size_none _) g ⟨rm.deep,B.ext g.ext,⟨_,hns,newTags_eq τ _,fun j x p hx hp=>?_⟩,mk.grow g⟩ q
 obtain ⟨v,rv,hmem,hxm⟩:=par_at rall hl hx hp
 exact .loc ((kind_is X x).trans (locs x hxm)) (lookup_rev (zip_nd nd hz) hmem) (rv.mono (g.ext (L:=none)).dkeep)
theorem callD {i:Nat} {F:Fn} {dfl args:List PV} {M:Mem} {Q:PV→Mem→Prop} (O:GOk C k G) (lim:C.H.NoLimit) (h:FnOkD C k i F dfl) (hn:args.length + dfl.length=F.np) (q:wpF C G d F (args++dfl) M Q):CallOk C (d + 1) (.fn i) args M Q:=by
 refine ⟨fun A s τ fv vs rm B mk rf rs=>vr_fn rf▸wpAny_call (codeAny_mono (codeD O lim h hn q A s τ vs rm B mk rs) fun r s' z=>?_)⟩
 rcases r with e | (v | _ | _ | _) <;> first | exact z.elim | exact z
theorem initD {i:Nat} {F:Fn} {dfl args:List PV} {M:Mem} {Q:Mem→Prop} (O:GOk C k G) (lim:C.H.NoLimit) (h:FnOkD C k i F dfl) (hn:args.length + dfl.length=F.np) (q:wpF C G d F (args++dfl) M fun v M=>v = .none∧Q M):InitOk C (d + 1) i args M Q:=by
 refine ⟨fun A s τ vs rm B mk rs=>codeAny_mono (codeD O lim h hn q A s τ vs rm B mk rs) fun r s' z=>?_⟩
 rcases r with e | (v | _ | _ | _) <;> first | exact z.elim | skip
 obtain ⟨p,M',τ',x,m,r,e,q⟩:=z
 exact ⟨vi_none (e▸r),M',τ',x,m,q⟩
end
end Mine
end
section
open PySem PySem.W
namespace Mine
noncomputable def theG (g:Nat):PV:=gtab.getD g .none
end Mine
end
section
namespace Mine
noncomputable abbrev z_name:List Nat:=[110,97,109,101]
noncomputable abbrev z_int:List Nat:=[105,110,116]
noncomputable abbrev z_char:List Nat:=[99,104,97,114]
noncomputable abbrev z_apply:List Nat:=[97,112,112,108,121]
noncomputable abbrev z_select:List Nat:=[115,101,108,101,99,116]
noncomputable abbrev z_tick:List Nat:=[116,105,99,107]
noncomputable abbrev z_range:List Nat:=[114,97,110,103,101]
noncomputable abbrev z_sub:List Nat:=[115,117,98]
noncomputable abbrev z_others:List Nat:=[111,116,104,101,114,115]
noncomputable abbrev z_calendar:List Nat:=[99,97,108,101,110,100,97,114]
noncomputable abbrev z_day:List Nat:=[100,97,121]
noncomputable abbrev z_time:List Nat:=[116,105,109,101]
noncomputable abbrev z_t:List Nat:=[116]
noncomputable abbrev z_f:List Nat:=[102]
noncomputable abbrev z_n:List Nat:=[110]
noncomputable abbrev z_first_one:List Nat:=[102,105,114,115,116,95,111,110,101]
noncomputable abbrev z_x:List Nat:=[120]
noncomputable abbrev z_v:List Nat:=[118]
noncomputable abbrev z_size:List Nat:=[115,105,122,101]
noncomputable abbrev z_a:List Nat:=[97]
noncomputable abbrev z_b_2:List Nat:=[98,95,50]
noncomputable abbrev z_c:List Nat:=[99]
noncomputable abbrev z_kind:List Nat:=[107,105,110,100]
noncomputable abbrev z_aliased:List Nat:=[97,108,105,97,115,101,100]
noncomputable abbrev z_enum:List Nat:=[101,110,117,109]
noncomputable abbrev z_intrange:List Nat:=[105,110,116,114,97,110,103,101]
noncomputable abbrev z_modular:List Nat:=[109,111,100,117,108,97,114]
noncomputable abbrev z_fixed:List Nat:=[102,105,120,101,100]
noncomputable abbrev z_array:List Nat:=[97,114,114,97,121]
noncomputable abbrev z_record:List Nat:=[114,101,99,111,114,100]
noncomputable abbrev z_access:List Nat:=[97,99,99,101,115,115]
noncomputable abbrev z_derived:List Nat:=[100,101,114,105,118,101,100]
noncomputable abbrev z_extension:List Nat:=[101,120,116,101,110,115,105,111,110]
noncomputable abbrev z_private:List Nat:=[112,114,105,118,97,116,101]
noncomputable abbrev z_red:List Nat:=[114,101,100]
noncomputable abbrev z_green:List Nat:=[103,114,101,101,110]
noncomputable abbrev z_all:List Nat:=[97,108,108]
noncomputable abbrev z_constant:List Nat:=[99,111,110,115,116,97,110,116]
noncomputable abbrev z_mod:List Nat:=[109,111,100]
noncomputable abbrev z_delta:List Nat:=[100,101,108,116,97]
noncomputable abbrev z_of:List Nat:=[111,102]
noncomputable abbrev z_null:List Nat:=[110,117,108,108]
noncomputable abbrev z_is:List Nat:=[105,115]
noncomputable abbrev z_case:List Nat:=[99,97,115,101]
noncomputable abbrev z_when:List Nat:=[119,104,101,110]
noncomputable abbrev z_end:List Nat:=[101,110,100]
noncomputable abbrev z_new:List Nat:=[110,101,119]
noncomputable abbrev z_with:List Nat:=[119,105,116,104]
noncomputable abbrev z_abstract:List Nat:=[97,98,115,116,114,97,99,116]
noncomputable abbrev z_tagged:List Nat:=[116,97,103,103,101,100]
noncomputable abbrev z_limited:List Nat:=[108,105,109,105,116,101,100]
noncomputable abbrev z_show:List Nat:=[115,104,111,119]
noncomputable abbrev z_assocs:List Nat:=[97,115,115,111,99,115]
noncomputable abbrev z_box:List Nat:=[98,111,120]
noncomputable abbrev z_op:List Nat:=[111,112]
noncomputable abbrev z_word:List Nat:=[119,111,114,100]
noncomputable abbrev o_lp:List Nat:=[40]
noncomputable abbrev o_rp:List Nat:=[41]
noncomputable abbrev o_cm:List Nat:=[44]
noncomputable abbrev o_sc:List Nat:=[59]
noncomputable abbrev o_co:List Nat:=[58]
noncomputable abbrev o_as:List Nat:=[58,61]
noncomputable abbrev o_dd:List Nat:=[46,46]
noncomputable abbrev o_ar:List Nat:=[61,62]
noncomputable abbrev o_bar:List Nat:=[124]
noncomputable abbrev o_dot:List Nat:=[46]
noncomputable abbrev o_tk:List Nat:=[39]
noncomputable abbrev o_bx:List Nat:=[60,62]
noncomputable abbrev o_none:List Nat:=[]
end Mine
end
section
open PySem PySem.W
namespace Mine
noncomputable def fnOf (i:Nat):List (Nat×Fn)→Option Fn
 | []=>none
 | (j,F) :: r=>match Nat.beq i j with
  | true=>some F
  | false=>fnOf i r
noncomputable def flW (b:Bool) (s:List Nat):List PV:=match b with
 | true=>[.str s]
 | false=>[]
structure Pg (C:Cx):Prop where
 g:GOk C theKn theG
 lim:C.H.NoLimit
 fn:∀ i F,fnOf i ftab=some F→FnOk C theKn i F
 sg:∀ dfl,dfl=[.int 0]∨dfl=[]→FnOkD C theKn 38 f_is_sign dfl
 wd:∀ dfl,dfl=[.int 0]∨dfl=[]→FnOkD C theKn 39 f_is_word dfl
 ini:FnOkD C theKn 33 f_init [.int 0]
 zp:∀ (d:Nat) (x y z:Bool) (M:Mem) (Q:PV→Mem→Prop),Q (.list (flW x [97,98,115,116,114,97,99,116]++flW y [116,97,103,103,101,100]++flW z [108,105,109,105,116,101,100])) M →
  CallOk C (d + 1) (.fn 113) [.tup [.bool x,.bool y,.bool z]] M Q
section
variable {C:Cx} {M:Mem} {Q:PV→Mem→Prop} {d:Nat}
theorem cl (P:Pg C) {i:Nat} {F:Fn} {as:List PV} (h:fnOf i ftab=some F) (hn:as.length=F.np) (q:wpF C theG d F as M Q):CallOk C (d + 1) (.fn i) as M Q :=
 call_ok P.g P.lim (P.fn i F h) hn q
end
section
variable {C:Cx} {G:Nat→PV} {d:Nat} {env:Lo} {M:Mem} {Q:Out→Lo→Mem→Prop} {ss:Ss} {e:E}
theorem ss_asg {i:Nat} (h:wpE C G d e env M fun v M=>wpSs C G d ss (env.set i (some v)) M Q):wpSs C G d (.cons (.asg i e) ss) env M Q:=h
theorem ss_for {tg:Sum Nat (List Nat)} {it:It} {b:Ss} (h:wpIt C G d it env M fun l M=>IteP (forP (fun x env M K=>opt (bindS tg x env) fun env=>wpSs C G d b env M K) l env M (seqK (fun env M Q=>wpSs C G d ss env M Q) Q))):wpSs C G d (.cons (.for tg it b) ss) env M Q:=h
theorem cp_cons {tg:Sum Nat (List Nat)} {body:Lo→Mem→(PV→Mem→Prop)→Prop} {env env':Lo} {x:PV} {xs acc:List PV} {Q:List PV→Mem→Prop} (hb:bindS tg x env=some env') (h:body env' M fun v M=>frzP v M fun v M=>compP tg (fun env M Q=>wpTs C G d .nil env M Q) body env xs (acc++[v]) M Q) :
  compP tg (fun env M Q=>wpTs C G d .nil env M Q) body env (x :: xs) acc M Q:=by
 show opt (bindS tg x env) _
 rw [hb]
 exact h
theorem ss_ifc {t:T} {a b:Ss} {M':Mem} (c:Bool) (h:∀ K:Bool→Mem→Prop,K c M'→wpT C G d t env M K) (q:wpS C G d (.ifs (.val (.cst (.bool c))) a b) env M' (seqK (fun env M Q=>wpSs C G d ss env M Q) Q)):wpSs C G d (.cons (.ifs t a b) ss) env M Q:=h _ q
theorem ite_c {t:T} {a b:E} {M M':Mem} {Q:PV→Mem→Prop} (c:Bool) (h:∀ K:Bool→Mem→Prop,K c M'→wpT C G d t env M K) (q:match (generalizing:=false) c with
  | true=>wpE C G d a env M' Q
  | false=>wpE C G d b env M' Q):IteP (wpT C G d t env M fun c M=>match c with
  | true=>wpE C G d a env M Q
  | false=>wpE C G d b env M Q):=⟨h _ q⟩
end
theorem RdL.at {M a l K} (h:M a=some (.list l)) (q:K l):RdL M a K:=⟨l,h,q⟩
theorem RdO.at {M a l K} (h:M a=some (.obj l)) (q:K l):RdO M a K:=⟨l,h,q⟩
theorem c_op {o:Cop} {x y:PV} {M:Mem} {b:Bool} {K:Bool→Mem→Prop} (h:cmpv o x y M=some b) (k:K b M):opt (cmpv o x y M) fun v=>K v M:=by rw [h]; exact k
theorem opt_b {o:Option Bool} {K:Bool→Prop} (b:Bool) (h:o=some b) (q:K b):opt o K:=by subst h; exact q
theorem eq_f {i j:Int} {M} (h:i ≠ j):cmpv .eq (.int i) (.int j) M=some false:=congrArg some (beq_eq_false_iff_ne.mpr h)
theorem le_split {k d:Nat} (n:Nat) (h:k + n ≤ d):∃ e,d=e + n∧k ≤ e:=⟨d - n,by omega,by omega⟩
theorem and2 {a b:Prop} (h:a) (k:b):a∧b:=⟨h,k⟩
theorem upd_same {M:Mem} {a o}:(M.upd a o) a=some o:=if_pos rfl
theorem upd_ne {M:Mem} {a b o} (h:b ≠ a):(M.upd a o) b=M b:=if_neg h
theorem del_ne {M:Mem} {a b} (h:b ≠ a):(M.del a) b=M b:=if_neg h
theorem del_same {M:Mem} {a}:(M.del a) a=none:=if_pos rfl
structure Cells (a:Nat) (M₀ M:Mem):Prop where
 here:∃ l:List Int,M a=some (.list (l.map .int))∧l.length ≤ 100
 rest:∀ b,b ≠ a→M b=M₀ b
theorem Cells.self {a M₀ M} (h:Cells a M₀ M):Cells a M M:=⟨h.here,fun _ _=>rfl⟩
theorem Cells.trans {a M₀ M M'} (h:Cells a M₀ M) (k:Cells a M M'):Cells a M₀ M':=⟨k.here,fun b n=>(k.rest b n).trans (h.rest b n)⟩
section
variable {C:Cx} {M M₀:Mem} {Q:PV→Mem→Prop} {d a:Nat}
theorem d_next (P:Pg C) (hM:Cells a M₀ M) {n:Nat} (hn:0 < n) (q:∀ (k:Nat) M',k < n→Cells a M₀ M'→Q (.int k) M'):CallOk C (d + 1) (.fn 97) [.mref a,.int (n:Nat)] M Q:=by
 obtain ⟨⟨l,hl,hs⟩,hr⟩:=hM
 refine cl P rfl rfl ?_
 cases l with
 | nil =>
  refine RdL.at hl (and2 (Nat.zero_le _) ?_)
  exact q 0 M hn ⟨⟨[],hl,by decide⟩,hr⟩
 | cons x l =>
  have hs':lenOk (List.map PV.int (x :: l)).length:=by rw [List.length_map]; exact Nat.le_trans hs (by decide)
  refine RdL.at hl (and2 hs' ?_)
  refine RdL.at hl (and2 (by decide) ?_)
  refine RdL.at hl (and2 hs' ?_)
  refine RdL.at hl (and2 ?_ ?_)
  ·show _ + (List.map PV.int l).length ≤ _
   rw [List.length_map,List.length_map]
   exact Nat.le_trans (Nat.add_le_add hs (Nat.le_trans (Nat.le_succ _) hs)) (by decide)
  refine and2 (Int.ofNat_lt.mpr hn) ?_
  show Q (.int (x % (n:Int))) (M.upd a (.list (l.map .int)))
  obtain ⟨k,hk⟩:=Int.eq_ofNat_of_zero_le (Int.emod_nonneg x (Int.ofNat_ne_zero.mpr (Nat.ne_of_gt hn)))
  have hlt:=Int.emod_lt_of_pos x (Int.ofNat_lt.mpr hn)
  rw [hk] at hlt ⊢
  exact q k _ (Int.ofNat_lt.mp hlt) ⟨⟨l,upd_same,Nat.le_trans (Nat.le_succ _) hs⟩,fun b h=>(upd_ne h).trans (hr b h)⟩
theorem case2 {P:Nat→Prop} {k:Nat} (h:k < 2) (h0:P 0) (h1:P 1):P k:=match k,h with
 | 0,_=>h0
 | 1,_=>h1
theorem case3 {P:Nat→Prop} {k:Nat} (h:k < 3) (h0:P 0) (h1:P 1) (h2:P 2):P k:=match k,h with
 | 0,_=>h0
 | k + 1,h=>case2 (P:=fun k=>P (k + 1)) (Nat.lt_of_succ_lt_succ h) h1 h2
theorem case4 {P:Nat→Prop} {k:Nat} (h:k < 4) (h0:P 0) (h1:P 1) (h2:P 2) (h3:P 3):P k:=match k,h with
 | 0,_=>h0
 | k + 1,h=>case3 (P:=fun k=>P (k + 1)) (Nat.lt_of_succ_lt_succ h) h1 h2 h3
theorem case5 {P:Nat→Prop} {k:Nat} (h:k < 5) (h0:P 0) (h1:P 1) (h2:P 2) (h3:P 3) (h4:P 4):P k:=match k,h with
 | 0,_=>h0
 | k + 1,h=>case4 (P:=fun k=>P (k + 1)) (Nat.lt_of_succ_lt_succ h) h1 h2 h3 h4
theorem case6 {P:Nat→Prop} {k:Nat} (h:k < 6) (h0:P 0) (h1:P 1) (h2:P 2) (h3:P 3) (h4:P 4) (h5:P 5):P k:=match k,h with
 | 0,_=>h0
 | k + 1,h=>case5 (P:=fun k=>P (k + 1)) (Nat.lt_of_succ_lt_succ h) h1 h2 h3 h4 h5
theorem case7 {P:Nat→Prop} {k:Nat} (h:k < 7) (h0:P 0) (h1:P 1) (h2:P 2) (h3:P 3) (h4:P 4) (h5:P 5) (h6:P 6):P k:=match k,h with
 | 0,_=>h0
 | k + 1,h=>case6 (P:=fun k=>P (k + 1)) (Nat.lt_of_succ_lt_succ h) h1 h2 h3 h4 h5 h6
theorem case8 {P:Nat→Prop} {k:Nat} (h:k < 8) (h0:P 0) (h1:P 1) (h2:P 2) (h3:P 3) (h4:P 4) (h5:P 5) (h6:P 6) (h7:P 7):P k:=match k,h with
 | 0,_=>h0
 | k + 1,h=>case7 (P:=fun k=>P (k + 1)) (Nat.lt_of_succ_lt_succ h) h1 h2 h3 h4 h5 h6 h7
theorem case9 {P:Nat→Prop} {k:Nat} (h:k < 9) (h0:P 0) (h1:P 1) (h2:P 2) (h3:P 3) (h4:P 4) (h5:P 5) (h6:P 6) (h7:P 7) (h8:P 8):P k:=match k,h with
 | 0,_=>h0
 | k + 1,h=>case8 (P:=fun k=>P (k + 1)) (Nat.lt_of_succ_lt_succ h) h1 h2 h3 h4 h5 h6 h7 h8
theorem case10 {P:Nat→Prop} {k:Nat} (h:k < 10) (h0:P 0) (h1:P 1) (h2:P 2) (h3:P 3) (h4:P 4) (h5:P 5) (h6:P 6) (h7:P 7) (h8:P 8) (h9:P 9):P k:=match k,h with
 | 0,_=>h0
 | k + 1,h=>case9 (P:=fun k=>P (k + 1)) (Nat.lt_of_succ_lt_succ h) h1 h2 h3 h4 h5 h6 h7 h8 h9
theorem case11 {P:Nat→Prop} {k:Nat} (h:k < 11) (h0:P 0) (h1:P 1) (h2:P 2) (h3:P 3) (h4:P 4) (h5:P 5) (h6:P 6) (h7:P 7) (h8:P 8) (h9:P 9) (h10:P 10):P k:=match k,h with
 | 0,_=>h0
 | k + 1,h=>case10 (P:=fun k=>P (k + 1)) (Nat.lt_of_succ_lt_succ h) h1 h2 h3 h4 h5 h6 h7 h8 h9 h10
theorem d_next2 (P:Pg C) (hM:Cells a M₀ M) (q0:∀ M',Cells a M₀ M'→Q (.int 0) M') (q1:∀ M',Cells a M₀ M'→Q (.int 1) M'):CallOk C (d + 1) (.fn 97) [.mref a,.int 2] M Q :=
 d_next P hM (n:=2) (by decide) fun k M' hk=>case2 (P:=fun k=>Cells a M₀ M'→Q (.int (k:Nat)) M') hk (q0 M') (q1 M')
theorem d_next3 (P:Pg C) (hM:Cells a M₀ M) (q0:∀ M',Cells a M₀ M'→Q (.int 0) M') (q1:∀ M',Cells a M₀ M'→Q (.int 1) M') (q2:∀ M',Cells a M₀ M'→Q (.int 2) M'):CallOk C (d + 1) (.fn 97) [.mref a,.int 3] M Q :=
 d_next P hM (n:=3) (by decide) fun k M' hk=>case3 (P:=fun k=>Cells a M₀ M'→Q (.int (k:Nat)) M') hk (q0 M') (q1 M') (q2 M')
theorem d_next4 (P:Pg C) (hM:Cells a M₀ M) (q0:∀ M',Cells a M₀ M'→Q (.int 0) M') (q1:∀ M',Cells a M₀ M'→Q (.int 1) M') (q2:∀ M',Cells a M₀ M'→Q (.int 2) M') (q3:∀ M',Cells a M₀ M'→Q (.int 3) M'):CallOk C (d + 1) (.fn 97) [.mref a,.int 4] M Q :=
 d_next P hM (n:=4) (by decide) fun k M' hk=>case4 (P:=fun k=>Cells a M₀ M'→Q (.int (k:Nat)) M') hk (q0 M') (q1 M') (q2 M') (q3 M')
theorem d_next5 (P:Pg C) (hM:Cells a M₀ M) (q0:∀ M',Cells a M₀ M'→Q (.int 0) M') (q1:∀ M',Cells a M₀ M'→Q (.int 1) M') (q2:∀ M',Cells a M₀ M'→Q (.int 2) M') (q3:∀ M',Cells a M₀ M'→Q (.int 3) M') (q4:∀ M',Cells a M₀ M'→Q (.int 4) M'):CallOk C (d + 1) (.fn 97) [.mref a,.int 5] M Q :=
 d_next P hM (n:=5) (by decide) fun k M' hk=>case5 (P:=fun k=>Cells a M₀ M'→Q (.int (k:Nat)) M') hk (q0 M') (q1 M') (q2 M') (q3 M') (q4 M')
theorem d_next11 (P:Pg C) (hM:Cells a M₀ M) (q0:∀ M',Cells a M₀ M'→Q (.int 0) M') (q1:∀ M',Cells a M₀ M'→Q (.int 1) M') (q2:∀ M',Cells a M₀ M'→Q (.int 2) M') (q3:∀ M',Cells a M₀ M'→Q (.int 3) M') (q4:∀ M',Cells a M₀ M'→Q (.int 4) M') (q5:∀ M',Cells a M₀ M'→Q (.int 5) M') (q6:∀ M',Cells a M₀ M'→Q (.int 6) M') (q7:∀ M',Cells a M₀ M'→Q (.int 7) M') (q8:∀ M',Cells a M₀ M'→Q (.int 8) M') (q9:∀ M',Cells a M₀ M'→Q (.int 9) M') (q10:∀ M',Cells a M₀ M'→Q (.int 10) M'):CallOk C (d + 1) (.fn 97) [.mref a,.int 11] M Q :=
 d_next P hM (n:=11) (by decide) fun k M' hk=>case11 (P:=fun k=>Cells a M₀ M'→Q (.int (k:Nat)) M') hk (q0 M') (q1 M') (q2 M') (q3 M') (q4 M') (q5 M') (q6 M') (q7 M') (q8 M') (q9 M') (q10 M')
end
inductive Tk where
 | nm (s:List Nat)
 | wd (s:List Nat)
 | op (s:List Nat)
 | int (n:Nat)
 | chr (c:Nat)
noncomputable abbrev vName (s:List Nat):List PV:=[.str z_name,.str s]
noncomputable abbrev vInt (k:Nat):List PV:=[.str z_int,.int (k:Int)]
noncomputable abbrev vChr (k:Nat):List PV:=[.str z_char,.int (k:Int)]
noncomputable abbrev vRange (a b:List PV):List PV:=[.str z_range,.tup a,.tup b]
noncomputable abbrev vApply (a:List PV) (l:List PV):List PV:=[.str z_apply,.tup a,.list l]
noncomputable abbrev vSel (m:List PV) (s:List Nat):List PV:=[.str z_select,.tup m,.str s]
noncomputable abbrev vSub (m:List PV) (c:PV):List PV:=[.str z_sub,.tup m,c]
noncomputable abbrev vRg (e:List PV):PV:=.tup [.str z_range,.tup e]
noncomputable abbrev vAp (l:List PV):PV:=.tup [.str z_apply,.list l]
noncomputable abbrev vPos (v:List PV):PV:=.tup [.none,.tup v]
noncomputable abbrev vNamed (s:List Nat) (v:List PV):PV:=.tup [.list [.tup (vName s)],.tup v]
noncomputable abbrev vTick (l:List PV):List PV:=[.str z_tick,.tup (vName z_v),.str z_range,.list l]
noncomputable abbrev vAp1 (v:List PV):List PV:=[vPos (vRange (vInt 1) v)]
noncomputable abbrev vAp2 (v w:List PV):List PV:=[vPos v,vNamed z_size w]
inductive TVal:List PV→List Tk→Prop
 | int (k:Nat):k < 90→TVal (vInt k) [.int k]
 | chr (k:Nat):k < 26→TVal (vChr (97 + k)) [.chr (97 + k)]
 | app:TVal (vApply (vName z_f) [vPos (vName z_n)]) [.nm z_f,.op o_lp,.nm z_n,.op o_rp]
 | nm1:TVal (vName z_n) [.nm z_n]
 | nm2:TVal (vName z_first_one) [.nm z_first_one]
 | nm3:TVal (vName z_x) [.nm z_x]
inductive TExt:List PV→List Tk→Prop
 | t0:TExt (vTick []) [.nm z_v,.op o_tk,.wd z_range]
 | t1:TExt (vTick [.tup (vInt 2)]) [.nm z_v,.op o_tk,.wd z_range,.op o_lp,.int 2,.op o_rp]
 | rg (k v ts):k < 9→TVal v ts→TExt (vRange (vInt k) v) (.int k :: .op o_dd :: ts)
inductive TMark:List PV→List Tk→Prop
 | m1:TMark (vName z_day) [.nm z_day]
 | m2:TMark (vSel (vName z_calendar) z_time) [.nm z_calendar,.op o_dot,.nm z_time]
 | m3:TMark (vName z_t) [.nm z_t]
inductive TSub:List PV→List Tk→Prop
 | no (m ts):TMark m ts→TSub (vSub m .none) ts
 | rg (m ts e us):TMark m ts→TExt e us→TSub (vSub m (vRg e)) (ts++.wd z_range :: us)
 | a1 (m ts v us):TMark m ts→TVal v us→TSub (vSub m (vAp (vAp1 v))) (ts++.op o_lp :: .int 1 :: .op o_dd :: us++[.op o_rp])
 | a2 (m ts v us w xs):TMark m ts→TVal v us→TVal w xs→TSub (vSub m (vAp (vAp2 v w))) (ts++.op o_lp :: us++.op o_cm :: .nm z_size :: .op o_ar :: xs++[.op o_rp])
inductive TDis:List PV→List Tk→Prop
 | ext (e ts):TExt e ts→TDis e ts
 | no (m ts):TMark m ts→TDis (vSub m .none) ts
 | rg (m ts e us):TMark m ts→TExt e us→TDis (vSub m (vRg e)) (ts++.wd z_range :: us)
inductive TNames:List PV→List Tk→Prop
 | n1:TNames [.str z_a] [.nm z_a]
 | n2:TNames [.str z_a,.str z_b_2] [.nm z_a,.op o_cm,.nm z_b_2]
 | n3:TNames [.str z_a,.str z_b_2,.str z_c] [.nm z_a,.op o_cm,.nm z_b_2,.op o_cm,.nm z_c]
inductive TDfl:PV→List Tk→Prop
 | no:TDfl .none []
 | so (v ts):TVal v ts→TDfl (.tup v) (.op o_as :: ts)
inductive TAl:List Tk→Prop
 | no:TAl []
 | so:TAl [.wd z_aliased]
inductive TComp:List PV→List Tk→Prop
 | mk (n ns al s ss f fs):TNames n ns→TAl al→TSub s ss→TDfl f fs→TComp [.list n,.tup s,f] (ns++.op o_co :: al++ss++fs++[.op o_sc])
inductive TComps:List PV→List Tk→Prop
 | nil:TComps [] []
 | one (c ts):TComp c ts→TComps [.tup c] ts
 | two (c ts c' ts'):TComp c ts→TComp c' ts'→TComps [.tup c,.tup c'] (ts++ts')
inductive TCho:List PV→List Tk→Prop
 | one (v ts):TVal v ts→TCho [.tup v] ts
 | two (v ts):TVal v ts→TCho [.tup v,.tup (vRange (vInt 3) (vInt 8))] (ts++[.op o_bar,.int 3,.op o_dd,.int 8])
 | oth:TCho [.tup [.str z_others]] [.wd z_others]
mutual
inductive TBody:Nat→List PV→PV→List Tk→Prop
 | nil (n):TBody n [] .none [.wd z_null,.op o_sc]
 | some (n c l ts):TComps (c :: l) ts→TBody n (c :: l) .none ts
 | var (n l ts a as us):TComps l ts→TArms n (a :: as) us→as.length < 3→TBody (n + 1) l (.tup [.str z_kind,.list (a :: as)]) (ts++.wd z_case :: .nm z_kind :: .wd z_is :: us++[.wd z_end,.wd z_case,.op o_sc])
inductive TArms:Nat→List PV→List Tk→Prop
 | nil (n):TArms n [] []
 | cons (n c cs i v bs as ts):TCho c cs→TBody n i v bs→TArms n as ts→TArms n (.tup [.list c,.list i,v] :: as) (.wd z_when :: cs++.op o_ar :: bs++ts)
end
noncomputable abbrev vRec (c:List PV) (v:PV) (t l a:Bool):List PV:=[.str z_record,.list c,v,.bool t,.bool l,.bool a]
noncomputable def fl (b:Bool) (s:List Nat):List Tk:=match b with
 | true=>[.wd s]
 | false=>[]
inductive TRec (t l a:Bool):List PV→List Tk→Prop
 | null:TRec t l a (vRec [] .none t l a) [.wd z_null,.wd z_record]
 | body (c v ts):TBody 2 c v ts→TRec t l a (vRec c v t l a) (.wd z_record :: ts++[.wd z_end,.wd z_record])
inductive TLits:List PV→List Tk→Prop
 | l1:TLits [.tup (vName z_red),.tup (vChr 65),.tup (vName z_green),.tup (vChr 39)] [.nm z_red,.op o_cm,.chr 65,.op o_cm,.nm z_green,.op o_cm,.chr 39]
 | l2:TLits [.tup (vChr 65),.tup (vName z_green),.tup (vChr 39)] [.chr 65,.op o_cm,.nm z_green,.op o_cm,.chr 39]
 | l3:TLits [.tup (vName z_green),.tup (vChr 39)] [.nm z_green,.op o_cm,.chr 39]
inductive TDisL:List PV→List Tk→Prop
 | one (v ts):TDis v ts→TDisL [.tup v] ts
 | two (v ts w us):TDis v ts→TDis w us→TDisL [.tup v,.tup w] (ts++.op o_cm :: us)
inductive TMarkL:List PV→List Tk→Prop
 | one (v ts):TMark v ts→TMarkL [.tup v] (ts++[.wd z_range,.op o_bx])
 | two (v ts w us):TMark v ts→TMark w us→TMarkL [.tup v,.tup w] (ts++.wd z_range :: .op o_bx :: .op o_cm :: us++[.wd z_range,.op o_bx])
inductive TMode:List Nat→List Tk→Prop
 | m0:TMode o_none []
 | m1:TMode z_all [.wd z_all]
 | m2:TMode z_constant [.wd z_constant]
inductive TDef:List PV→List Tk→Prop
 | enum (l ts):TLits l ts→TDef [.str z_enum,.list l] (.op o_lp :: ts++[.op o_rp])
 | int (e ts):TExt e ts→TDef [.str z_intrange,.tup e] (.wd z_range :: ts)
 | mod (v ts):TVal v ts→TDef [.str z_modular,.tup v] (.wd z_mod :: ts)
 | fix0 (v ts):TVal v ts→TDef [.str z_fixed,.tup v,.none] (.wd z_delta :: ts)
 | fix1 (v ts e us):TVal v ts→TExt e us→TDef [.str z_fixed,.tup v,.tup e] (.wd z_delta :: ts++.wd z_range :: us)
 | arrB (l ts al s us):TDisL l ts→TAl al→TSub s us→TDef [.str z_array,.list l,.bool true,.tup s] (.wd z_array :: .op o_lp :: ts++.op o_rp :: .wd z_of :: al++us)
 | arrU (l ts al s us):TMarkL l ts→TAl al→TSub s us→TDef [.str z_array,.list l,.bool false,.tup s] (.wd z_array :: .op o_lp :: ts++.op o_rp :: .wd z_of :: al++us)
 | rcd (t l a v ts):TRec t l a v ts→(a && !t)=false→TDef v (fl a z_abstract++fl t z_tagged++fl l z_limited++ts)
 | acc (s ts m ms):TSub s ts→TMode m ms→TDef [.str z_access,.tup s,.str m] (.wd z_access :: ms++ts)
 | der0 (a s ts):TSub s ts→TDef [.str z_derived,.tup s,.none,.bool a] (fl a z_abstract++.wd z_new :: ts)
 | der1 (a s ts r us):TSub s ts→TRec false false false r us→TDef [.str z_derived,.tup s,.tup r,.bool a] (fl a z_abstract++.wd z_new :: ts++.wd z_with :: us)
 | ext (a s ts):TSub s ts→TDef [.str z_extension,.tup s,.bool a] (fl a z_abstract++.wd z_new :: ts++[.wd z_with,.wd z_private])
 | priv (t l a):(a && !t)=false→TDef [.str z_private,.bool t,.bool l,.bool a] (fl a z_abstract++fl t z_tagged++fl l z_limited++[.wd z_private])
inductive TRow:List PV→List Tk→Prop
 | row (n ns m ms f fs):TNames n ns→TMark m ms→TDfl f fs→TRow [.list n,.tup (vSub m .none),f] (ns++.op o_co :: ms++fs)
inductive TDiscs:PV→List Tk→Prop
 | no:TDiscs .none []
 | box:TDiscs (.str z_box) [.op o_lp,.op o_bx,.op o_rp]
 | one (v ts):TRow v ts→TDiscs (.list [.tup v]) (.op o_lp :: ts++[.op o_rp])
 | two (v ts w us):TRow v ts→TRow w us→TDiscs (.list [.tup v,.tup w]) (.op o_lp :: ts++.op o_sc :: us++[.op o_rp])
noncomputable def Tk.text:Tk→List Nat
 | .nm s=>s
 | .wd s=>s
 | .op s=>s
 | .int n=>dec n
 | .chr c=>[39,c,39]
noncomputable def isLet (c:Nat):Bool:=([97,98,99,100,101,102,103,104,105,106,107,108,109,110,111,112,113,114,115,116,117,118,119,120,121,122]:List Nat).contains c
noncomputable def isDig (c:Nat):Bool:=([48,49,50,51,52,53,54,55,56,57]:List Nat).contains c
noncomputable def isPart (c:Nat):Bool:=isLet c || isDig c
noncomputable def plainC (c:Nat):Bool:=Nat.blt c 200 && !(Nat.ble 65 c && Nat.ble c 90)
noncomputable def nameB:List Nat→Bool
 | []=>true
 | c :: r=>plainC c && ((isPart c && nameB r) || ((c == 95) && match r with
  | []=>false
  | e :: _=>plainC e && (isPart e && nameB r)))
noncomputable def bndB:List Nat→Bool
 | []=>true
 | c :: _=>plainC c && !((isPart c || (c == 95)) || (Nat.beq c 35 || Nat.beq c 46))
noncomputable def resL:List PV:=match v_RESERVED with
 | .tup l=>l
 | _=>[]
noncomputable def isRes (s:List Nat):Bool:=(inStr resL s).getD false
noncomputable def headLet:List Nat→Bool
 | []=>false
 | c :: _=>isLet c
noncomputable def opB (s:List Nat):Bool:=(s == [40]) || ((s == [44]) || ((s == [59]) || ((s == [124]) || ((s == [41]) || ((s == [58]) || ((s == [46]) || ((s == [39]) || ((s == [61,62]) || ((s == [46,46]) || ((s == [58,61]) || ((s == [60,62]))))))))))))
theorem opB_elim {P:List Nat→Prop} {s:List Nat} (h:opB s=true) (h0:P [40]) (h1:P [44]) (h2:P [59]) (h3:P [124]) (h4:P [41]) (h5:P [58]) (h6:P [46]) (h7:P [39]) (h8:P [61,62]) (h9:P [46,46]) (h10:P [58,61]) (h11:P [60,62]):P s:=by
 unfold opB at h
 rcases (Bool.or_eq_true _ _).mp h with e | h
 ·rw [eq_of_beq e]; exact h0
 rcases (Bool.or_eq_true _ _).mp h with e | h
 ·rw [eq_of_beq e]; exact h1
 rcases (Bool.or_eq_true _ _).mp h with e | h
 ·rw [eq_of_beq e]; exact h2
 rcases (Bool.or_eq_true _ _).mp h with e | h
 ·rw [eq_of_beq e]; exact h3
 rcases (Bool.or_eq_true _ _).mp h with e | h
 ·rw [eq_of_beq e]; exact h4
 rcases (Bool.or_eq_true _ _).mp h with e | h
 ·rw [eq_of_beq e]; exact h5
 rcases (Bool.or_eq_true _ _).mp h with e | h
 ·rw [eq_of_beq e]; exact h6
 rcases (Bool.or_eq_true _ _).mp h with e | h
 ·rw [eq_of_beq e]; exact h7
 rcases (Bool.or_eq_true _ _).mp h with e | h
 ·rw [eq_of_beq e]; exact h8
 rcases (Bool.or_eq_true _ _).mp h with e | h
 ·rw [eq_of_beq e]; exact h9
 rcases (Bool.or_eq_true _ _).mp h with e | h
 ·rw [eq_of_beq e]; exact h10
 rw [eq_of_beq h]; exact h11
noncomputable def Tk.ok (t:Tk):Bool:=match t with
 | .nm s=>nameB s && (headLet s && (!isRes s && Nat.ble s.length 20))
 | .wd s=>nameB s && (headLet s && (isRes s && Nat.ble s.length 20))
 | .op s=>opB s
 | .int n=>Nat.blt n 100
 | .chr c=>Nat.blt 32 c && Nat.blt c 127
theorem lk {n:Nat} (h:Nat.ble n 10000000=true):lenOk n:=Nat.le_of_ble_eq_true h
section
variable {C:Cx} {M M₀:Mem} {Q:PV→Mem→Prop} {d a:Nat}
theorem d_value (P:Pg C) (hM:Cells a M₀ M) (q:∀ v ts M',TVal v ts→Cells a M₀ M'→Q (.tup v) M'):CallOk C (d + 2) (.fn 98) [.mref a] M Q:=by
 refine cl P rfl rfl ?_
 refine d_next5 P hM (fun M hM=>?_) (fun M hM=>?_) (fun M hM=>?_) (fun M hM=>?_) (fun M hM=>?_)
 ·refine d_next3 P hM (fun M hM=>and2 (by decide) (q _ _ _ .nm1 hM)) (fun M hM=>and2 (by decide) (q _ _ _ .nm2 hM)) (fun M hM=>and2 (by decide) (q _ _ _ .nm3 hM))
 ·refine d_next P hM (n:=90) (by decide) fun k M hk hM=>?_
  exact q _ _ _ (.int k hk) hM
 ·refine d_next P hM (n:=26) (by decide) fun k M hk hM=>?_
  exact q _ _ _ (.chr k hk) hM
 ·exact q _ _ _ .app hM
 ·refine d_next3 P hM (fun M hM=>and2 (by decide) (q _ _ _ .nm1 hM)) (fun M hM=>and2 (by decide) (q _ _ _ .nm2 hM)) (fun M hM=>and2 (by decide) (q _ _ _ .nm3 hM))
theorem d_extent (P:Pg C) (hM:Cells a M₀ M) (q:∀ v ts M',TExt v ts→Cells a M₀ M'→Q (.tup v) M'):CallOk C (d + 3) (.fn 99) [.mref a] M Q:=by
 refine cl P rfl rfl ?_
 have rg:∀ M,Cells a M₀ M→CallOk C (d + 2) (.fn 97) [.mref a,.int 9] M fun k M=>frzP k M fun k M=>CallOk C (d + 2) (.fn 98) [.mref a] M fun v M=>frzP v M fun v M=>Q (.tup [.str z_range,.tup [.str z_int,k],v]) M:=fun M hM=>by
  refine d_next P hM (n:=9) (by decide) fun k M hk hM=>?_
  exact d_value P hM fun v ts M hv hM=>q _ _ _ (.rg k v ts hk hv) hM
 refine d_next3 P hM (fun M hM=>rg M hM) (fun M hM=>rg M hM) (fun M hM=>?_)
 exact IteP.mk (d_next2 P hM (fun M hM=>q _ _ _ .t0 hM) fun M hM=>q _ _ _ .t1 hM)
theorem e_mark (P:Pg C) (hM:Cells a M₀ M) (q:∀ m ts M',TMark m ts→Cells a M₀ M'→Q (.tup m) M'):CallOk C (d + 1) (.fn 97) [.mref a,.int 3] M fun v M=>subP v_law_marks v M fun v=>Q v M :=
 d_next3 P hM (fun M hM=>and2 (by decide) (q _ _ _ .m1 hM)) (fun M hM=>and2 (by decide) (q _ _ _ .m2 hM)) (fun M hM=>and2 (by decide) (q _ _ _ .m3 hM))
theorem d_subtype (P:Pg C) (hM:Cells a M₀ M) (q:∀ v ts M',TSub v ts→Cells a M₀ M'→Q (.tup v) M'):CallOk C (d + 4) (.fn 100) [.mref a] M Q:=by
 refine cl P rfl rfl ?_
 refine e_mark P hM fun m ts M hm hM=>?_
 refine d_next4 P hM (fun M hM=>?_) (fun M hM=>?_) (fun M hM=>?_) (fun M hM=>?_)
 ·exact q _ _ _ (.no _ _ hm) hM
 ·refine d_extent P hM fun e us M he hM=>?_
  exact q _ _ _ (.rg _ _ _ _ hm he) hM
 ·refine d_value P hM fun e us M he hM=>?_
  exact q _ _ _ (.a1 _ _ _ _ hm he) hM
 ·refine d_value P hM fun e us M he hM=>?_
  refine d_value P hM fun f vs M hf hM=>?_
  exact q _ _ _ (.a2 _ _ _ _ _ _ hm he hf) hM
theorem d_discrete (P:Pg C) (hM:Cells a M₀ M) (q:∀ v ts M',TDis v ts→Cells a M₀ M'→Q (.tup v) M'):CallOk C (d + 4) (.fn 101) [.mref a] M Q:=by
 refine cl P rfl rfl ?_
 refine d_next3 P hM (fun M hM=>?_) (fun M hM=>?_) (fun M hM=>?_)
 ·exact d_extent P hM fun e us M he hM=>q _ _ _ (.ext _ _ he) hM
 ·exact e_mark P hM fun m ts M hm hM=>IteP.mk (q _ _ _ (.no _ _ hm) hM)
 ·refine e_mark P hM fun m ts M hm hM=>IteP.mk ?_
  exact d_extent P hM fun e us M he hM=>q _ _ _ (.rg _ _ _ _ hm he) hM
theorem d_names (P:Pg C) (hM:Cells a M₀ M) (q:∀ v ts M',TNames v ts→Cells a M₀ M'→Q (.list v) M'):CallOk C (d + 2) (.fn 102) [.mref a] M Q:=by
 refine cl P rfl rfl ?_
 refine d_next3 P hM (fun M hM=>?_) (fun M hM=>?_) (fun M hM=>?_)
 ·exact and2 (by decide) (and2 (lk rfl) (q _ _ _ .n1 hM))
 ·exact and2 (by decide) (and2 (lk rfl) (q _ _ _ .n2 hM))
 ·exact and2 (by decide) (and2 (lk rfl) (q _ _ _ .n3 hM))
theorem d_first (P:Pg C) (hM:Cells a M₀ M) (qn:∀ M',Cells a M₀ M'→Q .none M') (qs:∀ v ts M',TVal v ts→Cells a M₀ M'→Q (.tup v) M'):CallOk C (d + 3) (.fn 103) [.mref a] M Q:=by
 refine cl P rfl rfl (IteP.mk ?_)
 refine d_next2 P hM (fun M hM=>qn _ hM) (fun M hM=>?_)
 exact d_value P hM fun e us M he hM=>qs _ _ _ he hM
end
noncomputable def stm:Nat→Ss→S
 | _,.nil=>.raise
 | 0,.cons s _=>s
 | n + 1,.cons _ r=>stm n r
noncomputable def rhs:S→E
 | .asg _ e=>e
 | .ret e=>e
 | .expr e=>e
 | _=>.tup .nil
noncomputable def sbody:S→Ss
 | .for _ _ b=>b
 | .whl _ b=>b
 | .ifs _ b _=>b
 | _=>.nil
theorem forP_cps {step:PV→Lo→Mem→(Out→Lo→Mem→Prop)→Prop} (I:Nat→Lo→Mem→Prop):∀ (xs:List PV) (n:Nat) (env:Lo) (M:Mem) (Q:Out→Lo→Mem→Prop),
  (∀ i x env M K,xs[i]? = some x→I (n + i) env M→(∀ env M,I (n + (i + 1)) env M→K .next env M)→step x env M K)→I n env M→(∀ env M,I (n + xs.length) env M→Q .next env M)→forP step xs env M Q
 | [],n,env,M,Q,hs,h,q=>q env M h
 | x :: xs,n,env,M,Q,hs,h,q=>hs 0 x env M _ rfl h fun env M h=>forP_cps I xs (n + 1) env M Q (fun i x env M K e hi k=>hs (i + 1) x env M K e (by rw [← Nat.add_assoc,Nat.add_right_comm]; exact hi) fun env M hi=>k env M (by rw [Nat.add_right_comm,Nat.add_assoc]; exact hi)) h fun env M hi=>q env M (by rw [List.length_cons,← Nat.add_assoc,Nat.add_right_comm]; exact hi)
section
variable {C:Cx} {M M₀:Mem} {Q:PV→Mem→Prop} {d a:Nat}
noncomputable abbrev x_parts:E:=rhs (stm 0 f_law_parts.body)
noncomputable def elt:E→E
 | .comp e ..=>e
 | .comp2 e ..=>e
 | _=>.tup .nil
noncomputable abbrev x_part:E:=elt x_parts
theorem e_part (P:Pg C) (hM:Cells a M₀ M) {x:Option PV} (q:∀ n ns s ss f fs M',TNames n ns→TSub s ss→TDfl f fs→Cells a M₀ M'→Q (.tup [.list n,.tup s,f]) M') :
  wpE C theG (d + 4) x_part [x,some (.mref a)] M Q:=by
 refine d_names P hM fun n ns M hn hM=>?_
 refine d_subtype P hM fun s ss M hs hM=>?_
 refine d_first P hM (fun M hM=>?_) fun f fs M hf hM=>?_
 ·exact q _ _ _ _ _ _ _ hn hs .no hM
 ·exact q _ _ _ _ _ _ _ hn hs (.so _ _ hf) hM
theorem e_parts (P:Pg C) (hM:Cells a M₀ M) {rest:Lo} (q:∀ l ts M',TComps l ts→Cells a M₀ M'→Q (.list l) M'):wpE C theG (d + 4) x_parts (some (.mref a) :: rest) M Q:=by
 refine and2 rfl ?_
 refine d_next3 P hM (fun M hM=>?_) (fun M hM=>?_) (fun M hM=>?_)
 ·exact and2 (by decide) (IteP.mk (q _ _ _ .nil hM))
 ·refine and2 (by decide) (IteP.mk ?_)
  refine cp_cons rfl (e_part P hM fun n ns s ss f fs M hn hs hf hM=>?_)
  exact (q _ _ _ (.one _ _ (.mk _ _ _ _ _ _ _ hn .no hs hf)) hM)
 ·refine and2 (by decide) (IteP.mk ?_)
  refine cp_cons rfl (e_part P hM fun n ns s ss f fs M hn hs hf hM=>?_)
  refine cp_cons rfl (e_part P hM fun n ns s ss f fs M hn' hs' hf' hM=>?_)
  exact (q _ _ _ (.two _ _ _ _ (.mk _ _ _ _ _ _ _ hn .no hs hf) (.mk _ _ _ _ _ _ _ hn' .no hs' hf')) hM)
structure Fill (a b:Nat) (M₀:Mem) (l:List PV) (M:Mem):Prop where
 cells:Cells a M M
 arr:M b=some (.list l)
 rest:∀ c,c ≠ a→c ≠ b→M c=M₀ c
theorem Cells.ne {M₁:Mem} {b:Nat} (h:Cells a M₁ M) (e:M b=none):b ≠ a:=fun w=>by
 obtain ⟨l,hl,_⟩:=h.here
 rw [← w,e] at hl; cases hl
theorem Fill.new {b:Nat} (h:Cells a M₀ M) (e:M b=none):Fill a b M₀ [] (M.upd b (.list [])):=by
 have hb:=h.ne e
 exact ⟨⟨by rw [upd_ne hb.symm]; exact h.here,fun _ _=>rfl⟩,upd_same,fun c h1 h2=>(upd_ne h2).trans (h.rest c h1)⟩
theorem Fill.step {b:Nat} {l:List PV} {M':Mem} (h:Fill a b M₀ l M) (k:Cells a M M') (hb:b ≠ a):Fill a b M₀ l M' :=
 ⟨k.self,(k.rest b hb).trans h.arr,fun c h1 h2=>(k.rest c h1).trans (h.rest c h1 h2)⟩
theorem Fill.push {b:Nat} {l l':List PV} (h:Fill a b M₀ l M) (hb:b ≠ a):Fill a b M₀ l' (M.upd b (.list l')) :=
 ⟨⟨by rw [upd_ne hb.symm]; exact h.cells.here,fun _ _=>rfl⟩,upd_same,fun c h1 h2=>(upd_ne h2).trans (h.rest c h1 h2)⟩
theorem Fill.done {b:Nat} {l:List PV} (h:Fill a b M₀ l M) (hb:b ≠ a) (e:M₀ b=none):Cells a M₀ (M.del b) :=
 ⟨by rw [del_ne hb.symm]; exact h.cells.here,fun c h1=>by
  by_cases h2:c=b
  ·rw [h2,del_same,e]
  ·rw [del_ne h2,h.rest c h1 h2]⟩
theorem TArms.app {n:Nat} {l ts l' ts'} (h:TArms n l ts) (k:TArms n l' ts'):TArms n (l++l') (ts++ts'):=by
 induction l generalizing ts with
 | nil=>cases h; exact k
 | cons x l ih =>
  cases h with
  | cons _ c cs i v bs as us h1 h2 h3 =>
   have:=TArms.cons n c cs i v bs _ _ h1 h2 (ih h3)
   simpa using this
noncomputable abbrev b_arms:Ss:=sbody (stm 3 f_law_parts.body)
noncomputable def DParts (C:Cx) (k n:Nat) (i:Int):Prop:=∀ (d a:Nat) (M₀ M:Mem) (Q:PV→Mem→Prop),k ≤ d→Cells a M₀ M→(∀ l ts M',TBody n l .none ts→Cells a M₀ M'→Q (.tup [.list l,.none]) M') →
 (∀ l v ts M',TBody n l (.tup v) ts→Cells a M₀ M'→Q (.tup [.list l,.tup v]) M')→CallOk C d (.fn 104) [.mref a,.int i] M Q
theorem body_of {n:Nat} {l ts} (h:TComps l ts):∃ us,TBody n l .none us:=by
 cases l with
 | nil=>exact ⟨_,.nil n⟩
 | cons c l=>exact ⟨_,.some n c l _ h⟩
theorem d_parts0 (P:Pg C):DParts C 5 0 2:=by
 intro d a M₀ M Q hd hM qn qs
 obtain ⟨d,rfl,_⟩:=le_split (k:=0) 5 hd
 refine cl P rfl rfl ?_
 refine ss_asg (e_parts P (rest:=[some (.int 2),none,none,none,none,none,none]) hM fun l ts M hl hM=>?_)
 obtain ⟨us,h⟩:=body_of hl
 exact qn _ _ _ h hM
theorem e_cho (P:Pg C) {env:Lo} {Q:PV→Mem→Prop} (hM:Cells a M₀ M) (q:∀ c cs M',TCho c cs→Cells a M₀ M'→Q (.list c) M'):wpE C theG (d + 2) (rhs (stm 0 b_arms)) (some (.mref a) :: env) M Q:=by
 refine d_value P hM fun v ts M hv hM=>?_
 refine d_next2 P hM (fun M hM=>?_) (fun M hM=>?_)
 ·exact and2 (by decide) (and2 (lk rfl) (q _ _ _ (.one _ _ hv) hM))
 ·exact and2 (by decide) (and2 (lk rfl) (q _ _ _ (.two _ _ hv) hM))
noncomputable def Arms (a b:Nat) (i:Int) (p:PV) (M₀:Mem) (n j:Nat) (env:Lo) (M:Mem):Prop :=
 ∃ l ts o1 o2 o3 o4,env=[some (.mref a),some (.int i),o1,some p,some (.mref b),o2,o3,o4]∧TArms n l ts∧l.length=j∧Fill a b M₀ l M
theorem Arms.push {b:Nat} {i:Int} {p:PV} {n j:Nat} {l ts} {c cs t v bs} {o1 o2 o3 o4:Option PV} (hb:b ≠ a) (h1:TArms n l ts) (h2:l.length=j) (h3:Fill a b M₀ l M) (k1:TCho c cs) (k2:TBody n t v bs) :
  Arms a b i p M₀ n (j + 1) [some (.mref a),some (.int i),o1,some p,some (.mref b),o2,o3,o4] (M.upd b (.list (l++[.tup [.list c,.list t,v]]))) :=
 ⟨_,_,o1,o2,o3,o4,rfl,h1.app (.cons _ _ _ _ _ _ _ _ k1 k2 (.nil n)),by rw [List.length_append,h2]; rfl,h3.push hb⟩
theorem d_arm (P:Pg C) {k n:Nat} {i:Int} (ih:DParts C k n (i + 1)) (hk:k ≤ d + 2) {b:Nat} (hb:b ≠ a) {p:PV} {j:Nat} (hj:j < 100) {x:PV} {env:Lo} {K:Out→Lo→Mem→Prop} (h:Arms a b i p M₀ n j env M)
  (q:∀ env M,Arms a b i p M₀ n (j + 1) env M→K .next env M):opt (bindS (.inl 2) x env) fun env=>wpSs C theG (d + 2) b_arms env M K:=by
 obtain ⟨l,ts,o1,o2,o3,o4,rfl,h1,h2,h3⟩:=h
 refine ss_asg (env:=[some (.mref a),some (.int i),some x,some p,some (.mref b),o2,o3,o4]) (e_cho P (env:=[some (.int i),some x,some p,some (.mref b),o2,o3,o4]) h3.cells fun c cs M hc hM=>?_)
 have h3:=h3.step hM hb
 have hl:lenOk l.length:=h2▸Nat.le_trans (Nat.le_of_lt hj) (by decide)
 refine ih _ a _ M _ hk h3.cells (fun t us M ht hM=>?_) fun t v us M ht hM=>?_
 ·have h3:=h3.step hM hb
  refine and2 (RdL.at h3.arr trivial) (RdL.at h3.arr (and2 hl ?_))
  exact q _ _ (.push hb h1 h2 h3 hc ht)
 ·have h3:=h3.step hM hb
  refine and2 (RdL.at h3.arr trivial) (RdL.at h3.arr (and2 hl ?_))
  exact q _ _ (.push hb h1 h2 h3 hc ht)
theorem d_partsS (P:Pg C) {k n:Nat} {i:Int} (hi:i=0∨i=1) (ih:DParts C k n (i + 1)):DParts C (k + 6) (n + 1) i:=by
 intro d a M₀ M Q hd hM qn qs
 obtain ⟨d,rfl,hk⟩:=le_split 6 hd
 refine cl P rfl rfl ?_
 refine ss_asg (e_parts P (rest:=[some (.int i),none,none,none,none,none,none]) hM fun l ts M hl hM=>?_)
 have no:∀ M,Cells a M₀ M→Q (.tup [.list l,.none]) M:=fun M hM=>by
  obtain ⟨us,h⟩:=body_of hl
  exact qn _ _ _ h hM
 have go:∀ env M,Cells a M₀ M→env=[some (.mref a),some (.int i),none,some (.list l),none,none,none,none]→wpSs C theG (d + 5) (.cons (stm 2 f_law_parts.body) (.cons (stm 3 f_law_parts.body) (.cons (stm 4 f_law_parts.body) (.cons (stm 5 f_law_parts.body) .nil)))) env M (retK Q):=fun env M hM he=>by
  subst he
  intro b hb
  have hne:=hM.ne hb
  have hF:=Fill.new hM hb
  have hb0:M₀ b=none:=(hM.rest b hne).symm.trans hb
  have fin:∀ env M m,m < 2→Arms a b i (.list l) M₀ n (m + 1) env M→wpSs C theG (d + 5) (.cons (stm 4 f_law_parts.body) (.cons (stm 5 f_law_parts.body) .nil)) env M (retK Q):=fun env M m hm h=>by
   obtain ⟨as,us,o1,o2,o3,o4,rfl,h1,h2,h3⟩:=h
   obtain ⟨a1,as,rfl⟩:∃ a1 r,as=a1 :: r:=by
    cases as with
    | nil=>cases h2
    | cons a1 r=>exact ⟨_,_,rfl⟩
   refine d_next2 P h3.cells (fun M hM=>?_) (fun M hM=>?_)
   ·have h3:=h3.step hM hne
    exact RdL.at h3.arr (qs _ _ _ _ (.var _ _ _ _ _ _ hl h1 (Nat.lt_trans (Nat.succ.inj h2▸hm) (by decide))) (h3.done hne hb0))
   ·have h3:=h3.step hM hne
    refine and2 (RdL.at h3.arr trivial) (RdL.at h3.arr (and2 (h2▸Nat.le_trans hm (by decide)) ?_))
    have h3:=h3.push (l':=(a1 :: as)++[.tup [.list [.tup [.str z_others]],.list [],.none]]) hne
    exact RdL.at h3.arr (qs _ _ _ _ (.var _ _ _ _ _ _ hl (h1.app (.cons _ _ _ _ _ _ _ _ .oth (.nil n) (.nil n))) ((List.length_append (as:=as)).symm▸Nat.succ_lt_succ (Nat.succ.inj h2▸hm))) (h3.done hne hb0))
  have lp:∀ (c:Nat),c < 2→∀ M,Fill a b M₀ [] M→forP (fun x env M K=>opt (bindS (.inl 2) x env) fun env=>wpSs C theG (d + 5) b_arms env M K) (rangeL ((c + 1:Nat):Int)) [some (.mref a),some (.int i),none,some (.list l),some (.mref b),none,none,none] M (seqK (fun env M Q=>wpSs C theG (d + 5) (.cons (stm 4 f_law_parts.body) (.cons (stm 5 f_law_parts.body) .nil)) env M Q) (retK Q)):=fun c hc M hF=>by
   have el:(rangeL ((c + 1:Nat):Int)).length=c + 1:=(List.length_map ..).trans (List.length_range ..)
   refine forP_cps (Arms a b i (.list l) M₀ n) _ 0 _ _ _ (fun j x env M K hx h q=>d_arm (d:=d + 3) P ih (Nat.le_trans hk (Nat.le_add_right _ 5)) hne ?_ h q) ⟨[],_,_,_,_,_,rfl,.nil n,rfl,hF⟩ fun env M h=>?_
   ·have:=(List.getElem?_eq_some_iff.mp hx).1
    rw [el] at this
    omega
   ·rw [el,Nat.zero_add] at h
    exact fin _ _ _ hc h
  refine ss_for (and2 rfl ?_)
  refine d_next2 P hF.cells (fun M hM=>and2 (by decide) (IteP.mk ?_)) (fun M hM=>and2 (by decide) (IteP.mk ?_))
  ·exact lp 0 (by decide) _ (hF.step hM hne)
  ·exact lp 1 (by decide) _ (hF.step hM hne)
 rcases hi with rfl | rfl
 ·exact d_next3 P hM (fun M hM=>no M hM) (fun M hM=>no M hM) (fun M hM=>go _ _ hM rfl)
 ·exact d_next3 P hM (fun M hM=>no M hM) (fun M hM=>no M hM) (fun M hM=>go _ _ hM rfl)
end
section
variable {C:Cx} {M M₀:Mem} {Q:PV→Mem→Prop} {d a:Nat}
theorem d_parts (P:Pg C):DParts C 17 2 0:=d_partsS P (.inl rfl) (d_partsS (i:=1) P (.inr rfl) (d_parts0 P))
theorem d_recP (P:Pg C) (hM:Cells a M₀ M) (q:∀ r ts M',TRec false false false r ts→Cells a M₀ M'→Q (.tup r) M'):CallOk C (d + 18) (.fn 105) [.mref a,.bool true] M Q:=by
 refine cl P rfl rfl ?_
 refine d_parts P _ a _ M _ (Nat.le_add_left _ _) hM (fun l ts M h hM=>?_) fun l v ts M h hM=>?_
 ·exact q _ _ _ (.body _ _ _ h) hM
 ·exact q _ _ _ (.body _ _ _ h) hM
theorem d_rec (P:Pg C) (hM:Cells a M₀ M) (q:∀ t l ab r ts M',TRec t l ab r ts→(ab && !t)=false→Cells a M₀ M'→Q (.tup r) M'):CallOk C (d + 18) (.fn 105) [.mref a,.bool false] M Q:=by
 refine cl P rfl rfl ?_
 refine d_parts P _ a _ M _ (Nat.le_add_left _ _) hM (fun l ts M h hM=>?_) fun l v ts M h hM=>?_
 all_goals
  refine d_next3 P hM (fun M hM=>?_) (fun M hM=>?_) (fun M hM=>?_)
  all_goals refine d_next2 P hM (fun M hM=>?_) (fun M hM=>?_)
  ·exact q _ _ _ _ _ _ (.body _ _ _ h) rfl hM
  ·exact q _ _ _ _ _ _ (.body _ _ _ h) rfl hM
  ·exact q _ _ _ _ _ _ (.body _ _ _ h) rfl hM
  ·exact q _ _ _ _ _ _ (.body _ _ _ h) rfl hM
  ·exact q _ _ _ _ _ _ (.body _ _ _ h) rfl hM
  ·exact q _ _ _ _ _ _ (.body _ _ _ h) rfl hM
theorem d_def (P:Pg C) (hM:Cells a M₀ M) (q:∀ v ts M',TDef v ts→Cells a M₀ M'→Q (.tup v) M'):CallOk C (d + 19) (.fn 106) [.mref a] M Q:=by
 refine cl P rfl rfl ?_
 have priv:∀ (t l ab:Bool) M,(ab && !t)=false→Cells a M₀ M→Q (.tup [.str z_private,.bool t,.bool l,.bool ab]) M:=fun t l ab M h hM=>q _ _ _ (.priv _ _ _ h) hM
 refine d_next11 P hM (fun M hM=>?_) (fun M hM=>?_) (fun M hM=>?_) (fun M hM=>?_) (fun M hM=>?_) (fun M hM=>?_) (fun M hM=>?_) (fun M hM=>?_) (fun M hM=>?_) (fun M hM=>?_) (fun M hM=>?_)
 ·refine d_next3 P hM (fun M hM=>?_) (fun M hM=>?_) (fun M hM=>?_)
  ·exact and2 (by decide) (and2 (lk rfl) (q _ _ _ (.enum _ _ .l1) hM))
  ·exact and2 (by decide) (and2 (lk rfl) (q _ _ _ (.enum _ _ .l2) hM))
  ·exact and2 (by decide) (and2 (lk rfl) (q _ _ _ (.enum _ _ .l3) hM))
 ·exact d_extent P hM fun e us M he hM=>q _ _ _ (.int _ _ he) hM
 ·exact d_value P hM fun e us M he hM=>q _ _ _ (.mod _ _ he) hM
 ·refine d_value P hM fun v ts M hv hM=>?_
  refine IteP.mk (d_next2 P hM (fun M hM=>q _ _ _ (.fix0 _ _ hv) hM) (fun M hM=>?_))
  exact d_extent P hM fun e us M he hM=>q _ _ _ (.fix1 _ _ _ _ hv he) hM
 ·refine and2 rfl ?_
  refine d_next2 P hM (fun M hM=>?_) (fun M hM=>?_)
  ·refine and2 (by decide) (IteP.mk ?_)
   refine d_discrete P hM fun v ts M hv hM=>?_
   exact d_subtype P hM fun s ss M hs hM=>q _ _ _ (.arrB _ _ _ _ _ (.one _ _ hv) .no hs) hM
  ·refine and2 (by decide) (IteP.mk ?_)
   refine d_discrete P hM fun v ts M hv hM=>?_
   refine d_discrete P hM fun w us M hw hM=>?_
   exact d_subtype P hM fun s ss M hs hM=>q _ _ _ (.arrB _ _ _ _ _ (.two _ _ _ _ hv hw) .no hs) hM
 ·refine and2 rfl ?_
  refine d_next2 P hM (fun M hM=>?_) (fun M hM=>?_)
  ·refine and2 (by decide) (IteP.mk ?_)
   refine e_mark P hM fun v ts M hv hM=>?_
   exact d_subtype P hM fun s ss M hs hM=>q _ _ _ (.arrU _ _ _ _ _ (.one _ _ hv) .no hs) hM
  ·refine and2 (by decide) (IteP.mk ?_)
   refine e_mark P hM fun v ts M hv hM=>?_
   refine e_mark P hM fun w us M hw hM=>?_
   exact d_subtype P hM fun s ss M hs hM=>q _ _ _ (.arrU _ _ _ _ _ (.two _ _ _ _ hv hw) .no hs) hM
 ·refine d_next2 P hM (fun M hM=>?_) (fun M hM=>?_)
  ·refine IteP.mk (d_next2 P hM (fun M hM=>?_) (fun M hM=>?_))
   ·exact q _ _ _ (.rcd _ _ _ _ _ .null rfl) hM
   ·exact q _ _ _ (.rcd _ _ _ _ _ .null rfl) hM
  ·exact IteP.mk (d_rec P hM fun t l ab r ts M h1 h2 hM=>q _ _ _ (.rcd _ _ _ _ _ h1 h2) hM)
 ·refine d_subtype P hM fun s ss M hs hM=>?_
  refine d_next3 P hM (fun M hM=>?_) (fun M hM=>?_) (fun M hM=>?_)
  ·exact and2 (by decide) (q _ _ _ (.acc _ _ _ _ hs .m0) hM)
  ·exact and2 (by decide) (q _ _ _ (.acc _ _ _ _ hs .m1) hM)
  ·exact and2 (by decide) (q _ _ _ (.acc _ _ _ _ hs .m2) hM)
 ·refine d_next2 P hM (fun M hM=>?_) (fun M hM=>?_)
  all_goals
   refine d_subtype P hM fun s ss M hs hM=>?_
   refine IteP.mk (d_next2 P hM (fun M hM=>q _ _ _ (.der0 _ _ _ hs) hM) (fun M hM=>?_))
   exact d_recP P hM fun r ts M hr hM=>q _ _ _ (.der1 _ _ _ _ _ hs hr) hM
 ·refine d_next2 P hM (fun M hM=>?_) (fun M hM=>?_)
  all_goals exact d_subtype P hM fun s ss M hs hM=>q _ _ _ (.ext _ _ _ hs) hM
 ·refine d_next2 P hM (fun M hM=>?_) (fun M hM=>?_)
  ·refine d_next2 P hM (fun M hM=>?_) (fun M hM=>?_)
   all_goals exact d_next2 P hM (fun M hM=>priv _ _ _ _ rfl hM) (fun M hM=>priv _ _ _ _ rfl hM)
  ·exact d_next2 P hM (fun M hM=>priv _ _ _ _ rfl hM) (fun M hM=>priv _ _ _ _ rfl hM)
theorem e_row (P:Pg C) (hM:Cells a M₀ M) {x:Option PV} (q:∀ v ts M',TRow v ts→Cells a M₀ M'→Q (.tup v) M'):wpE C theG (d + 3) (elt (rhs (stm 2 f_law_discs.body))) [x,some (.mref a)] M Q:=by
 refine d_names P hM fun n ns M hn hM=>?_
 refine e_mark P hM fun m ms M hm hM=>?_
 refine d_first P hM (fun M hM=>?_) fun f fs M hf hM=>?_
 ·exact q _ _ _ (.row _ _ _ _ _ _ hn hm .no) hM
 ·exact q _ _ _ (.row _ _ _ _ _ _ hn hm (.so _ _ hf)) hM
theorem d_discs (P:Pg C) (hM:Cells a M₀ M) (q:∀ v ts M',TDiscs v ts→Cells a M₀ M'→Q v M'):CallOk C (d + 4) (.fn 107) [.mref a] M Q:=by
 refine cl P rfl rfl ?_
 refine d_next4 P hM (fun M hM=>?_) (fun M hM=>?_) (fun M hM=>?_) (fun M hM=>?_)
 ·exact and2 (by decide) (q _ _ _ .no hM)
 ·exact and2 (by decide) (q _ _ _ .box hM)
 ·refine and2 rfl (and2 (by decide) (IteP.mk ?_))
  refine cp_cons rfl (e_row P hM fun v ts M hv hM=>?_)
  exact (q _ _ _ (.one _ _ hv) hM)
 ·refine and2 rfl (and2 (by decide) (IteP.mk ?_))
  refine cp_cons rfl (e_row P hM fun v ts M hv hM=>?_)
  refine cp_cons rfl (e_row P hM fun w us M hw hM=>?_)
  exact (q _ _ _ (.two _ _ _ _ hv hw) hM)
end
noncomputable def W (ts:List Tk):List PV:=ts.map fun t=>.str t.text
theorem W_app (a b:List Tk):W (a++b)=W a++W b:=List.map_append
theorem W_cons (t:Tk) (b:List Tk):W (t :: b) = .str t.text :: W b:=rfl
theorem W_len (a:List Tk):(W a).length=a.length:=List.length_map _
noncomputable def Ln {α:Type} (n:Nat) (l:List α):Prop:=l.length ≤ n
theorem Ln.app {α:Type} {n m:Nat} {a b:List α} (h:Ln n a) (k:Ln m b):Ln (n + m) (a++b):=by
 show (a++b).length ≤ _
 rw [List.length_append]; exact Nat.add_le_add h k
theorem Ln.cons {α:Type} {n:Nat} {x:α} {b:List α} (k:Ln n b):Ln (n + 1) (x :: b):=Nat.succ_le_succ k
theorem Ln.k {α:Type} {n:Nat} {a:List α} (h:Nat.ble a.length n=true):Ln n a:=Nat.le_of_ble_eq_true h
theorem Ln.w {n:Nat} {a:List Tk} (h:Ln n a):Ln n (W a):=by show (W a).length ≤ n; rw [W_len]; exact h
theorem Ln.lk {α β:Type} {n m:Nat} {a:List α} {b:List β} (h:Ln n a) (k:Ln m b) (e:Nat.ble (n + m) 10000000=true):lenOk (a.length + b.length):=Nat.le_trans (Nat.add_le_add h k) (Nat.le_of_ble_eq_true e)
theorem Ln.le {α:Type} {n m:Nat} {a:List α} (h:Ln n a) (e:Nat.ble n m=true):Ln m a:=Nat.le_trans h (Nat.le_of_ble_eq_true e)
theorem dig1:∀ k:Fin 10,dec (k.val:Int)=[48 + k.val]:=by decide +kernel
theorem dig2:∀ k:Fin 90,dec ((k.val + 10:Nat):Int)=[48 + (k.val + 10) / 10,48 + (k.val + 10) % 10]:=by decide +kernel
theorem dig_ok:∀ k:Fin 100,((Tk.int k.val).text.all fun c=>Nat.blt c 1114112)=true:=by decide +kernel
theorem chr_ok:∀ k:Fin 127,((Tk.chr k.val).text.all fun c=>Nat.blt c 1114112)=true:=by decide +kernel
theorem name_ok:∀ {s:List Nat},nameB s=true→(s.all fun c=>Nat.blt c 1114112)=true
 | [],_=>rfl
 | c :: s,h=>by
  obtain ⟨h1,h2⟩:=(Bool.and_eq_true _ _).mp h
  have h3:Nat.blt c 200=true:=((Bool.and_eq_true _ _).mp h1).1
  have h4:Nat.blt c 1114112=true:=Nat.ble_eq.mpr (Nat.le_trans (Nat.ble_eq.mp h3) (by decide))
  have h5:nameB s=true:=by
   rcases (Bool.or_eq_true _ _).mp h2 with g | g
   ·exact ((Bool.and_eq_true _ _).mp g).2
   ·have g:=((Bool.and_eq_true _ _).mp g).2
    cases s with
    | nil=>exact Bool.noConfusion g
    | cons e s=>exact ((Bool.and_eq_true _ _).mp ((Bool.and_eq_true _ _).mp g).2).2
  rw [List.all_cons,h4,name_ok h5]; rfl
theorem opB_ok {s:List Nat} (h:opB s=true):(s.all fun c=>Nat.blt c 1114112)=true :=
 opB_elim (P:=fun s=>(s.all fun c=>Nat.blt c 1114112)=true) h rfl rfl rfl rfl rfl rfl rfl rfl rfl rfl rfl rfl
theorem ok_chars {t:Tk} (h:t.ok=true):(t.text.all fun c=>Nat.blt c 1114112)=true:=by
 cases t with
 | nm s=>exact name_ok ((Bool.and_eq_true _ _).mp h).1
 | wd s=>exact name_ok ((Bool.and_eq_true _ _).mp h).1
 | op s=>exact opB_ok h
 | int n=>exact dig_ok ⟨n,Nat.ble_eq.mp h⟩
 | chr c=>exact chr_ok ⟨c,Nat.ble_eq.mp ((Bool.and_eq_true _ _).mp h).2⟩
theorem okW {n:Nat}:∀ {ts:List Tk},ts.all Tk.ok=true→okDs n (W ts)=true
 | [],_=>by cases n <;> rfl
 | t :: ts,h=>by
  rw [List.all_cons,Bool.and_eq_true] at h
  have h1:okD n (.str t.text)=true:=by cases n <;> exact ok_chars h.1
  have h2:=okW (n:=n) h.2
  have:okDs n (W (t :: ts))=(okD n (.str t.text) && okDs n (W ts)):=by cases n <;> rfl
  rw [this,h1,h2]; rfl
theorem all_app {a b:List Tk} (h:a.all Tk.ok=true) (k:b.all Tk.ok=true):(a++b).all Tk.ok=true:=by
 rw [List.all_append,h,k]; rfl
theorem all_cons {t:Tk} {b:List Tk} (h:t.ok=true) (k:b.all Tk.ok=true):(t :: b).all Tk.ok=true:=by
 rw [List.all_cons,h,k]; rfl
theorem ok_int {k:Nat} (h:k < 100):Tk.ok (.int k)=true:=Nat.ble_eq.mpr h
theorem ok_chr {k:Nat} (h:k < 127) (h':32 < k):Tk.ok (.chr k)=true:=(Bool.and_eq_true _ _).mpr ⟨Nat.ble_eq.mpr h',Nat.ble_eq.mpr h⟩
theorem TVal.len {v ts} (h:TVal v ts):Ln 4 ts:=by cases h <;> exact Ln.k rfl
theorem TMark.len {v ts} (h:TMark v ts):Ln 3 ts:=by cases h <;> exact Ln.k rfl
theorem TExt.len {v ts} (h:TExt v ts):Ln 6 ts:=by
 cases h with
 | t0=>exact Ln.k rfl
 | t1=>exact Ln.k rfl
 | rg k v ts _ h=>exact h.len.cons.cons
theorem TSub.len {v ts} (h:TSub v ts):Ln 16 ts:=by
 cases h with
 | no m ts h=>exact h.len.le rfl
 | rg m ts e us h k=>exact (h.len.app k.len.cons).le rfl
 | a1 m ts v us h k=>exact ((h.len.app k.len.cons.cons.cons).app (Ln.k (n:=1) rfl)).le rfl
 | a2 m ts v us w xs h k l=>exact (((h.len.app k.len.cons).app l.len.cons.cons.cons).app (Ln.k (n:=1) rfl)).le rfl
theorem TDis.len {v ts} (h:TDis v ts):Ln 16 ts:=by
 cases h with
 | ext _ _ h=>exact h.len.le rfl
 | no m ts h=>exact h.len.le rfl
 | rg m ts e us h k=>exact (h.len.app k.len.cons).le rfl
section
variable {C:Cx} {M:Mem} {Q:PV→Mem→Prop} {d:Nat}
noncomputable def Words (C:Cx) (k:Nat) (v:List PV) (ts:List Tk):Prop:=∀ (d:Nat) (M:Mem) (Q:PV→Mem→Prop),Q (.list (W ts)) M→CallOk C (d + k) (.fn 108) [.tup v] M Q
theorem w_name (P:Pg C) (s:List Nat):Words C 1 (vName s) [.nm s]:=fun d M Q q=>by
 refine cl P rfl rfl (?_)
 refine q
theorem w_int (P:Pg C) {k:Nat} (h:k < 1000):Words C 1 (vInt k) [.int k]:=fun d M Q q=>by
 refine cl P rfl rfl (?_)
 refine (and2 ⟨Int.natCast_nonneg k,Int.ofNat_lt.mpr h⟩ q)
theorem w_chr (P:Pg C) {k:Nat} (h:k < 256):Words C 1 (vChr k) [.chr k]:=fun d M Q q=>by
 refine cl P rfl rfl (?_)
 refine (and2 ⟨Int.natCast_nonneg k,Int.ofNat_lt.mpr h⟩ ?_)
 exact and2 (lk rfl) (and2 (lk rfl) q)
theorem w_one (P:Pg C) {k:Nat} {v ts} (h:Words C k v ts) (hl:Ln 100 ts) (q:Q (.list (W ts)) M):CallOk C (d + k + 1) (.fn 109) [.list [vPos v]] M Q:=by
 refine cl P rfl rfl ?_
 refine and2 (lk rfl) (IteP.mk (IteP.mk ?_))
 refine and2 (lk rfl) ?_
 refine and2 (lk rfl) (IteP.mk ?_)
 refine h _ _ _ ?_
 exact and2 (Ln.lk (n:=0) (Nat.le_refl 0) hl.w rfl) q
theorem w_val (P:Pg C) {v ts} (h:TVal v ts):Words C 3 v ts:=fun d M Q q=>by
 cases h with
 | int k h=>exact w_int P (Nat.lt_trans h (by decide)) _ _ _ q
 | chr k h=>exact w_chr P (Nat.lt_trans (Nat.add_lt_add_left h 97) (by decide)) _ _ _ q
 | app =>
  refine cl P rfl rfl (?_)
  refine w_name P _ _ _ _ ?_
  refine and2 (lk rfl) (?_)
  refine w_one (d:=d) P (w_name P _) (Ln.k rfl) ?_
  exact and2 (lk rfl) (and2 (lk rfl) q)
 | nm1=>exact w_name P _ _ _ _ q
 | nm2=>exact w_name P _ _ _ _ q
 | nm3=>exact w_name P _ _ _ _ q
theorem ne_nil {ts:List Tk} {M:Mem} (h:ts.all Tk.ok=true) (hn:ts ≠ []):cmpv .ne (.list (W ts)) (.list []) M=some true:=by
 cases ts with
 | nil=>exact absurd rfl hn
 | cons t ts =>
  show (if okDs 59 (W (t :: ts)) && true then some true else none)=_
  rw [okW h]; rfl
theorem TVal.ok {v ts} (h:TVal v ts):ts.all Tk.ok=true:=by
 cases h with
 | int k h=>exact all_cons (ok_int (Nat.lt_trans h (by decide))) rfl
 | chr k h=>exact all_cons (ok_chr (Nat.lt_of_lt_of_le (Nat.add_lt_add_left h 97) (by decide)) (Nat.lt_of_lt_of_le (by decide) (Nat.le_add_right 97 k))) rfl
 | _=>rfl
theorem TVal.ne {v ts} (h:TVal v ts):ts ≠ []:=by cases h <;> exact List.cons_ne_nil _ _
theorem TMark.ok {v ts} (h:TMark v ts):ts.all Tk.ok=true:=by cases h <;> rfl
theorem TExt.ok {v ts} (h:TExt v ts):ts.all Tk.ok=true:=by
 cases h with
 | rg k v ts h1 h2=>exact all_cons (ok_int (Nat.lt_trans h1 (by decide))) (all_cons rfl h2.ok)
 | t1=>exact all_cons rfl (all_cons rfl (all_cons rfl (all_cons rfl (all_cons (ok_int (by decide)) rfl))))
 | t0=>rfl
theorem TSub.ok {v ts} (h:TSub v ts):ts.all Tk.ok=true:=by
 cases h with
 | no m ts h=>exact h.ok
 | rg m ts e us h k=>exact all_app h.ok (all_cons rfl k.ok)
 | a1 m ts v us h k=>exact all_app (all_app h.ok (all_cons rfl (all_cons (ok_int (by decide)) (all_cons rfl k.ok)))) rfl
 | a2 m ts v us w xs h k l=>exact all_app (all_app (all_app h.ok (all_cons rfl k.ok)) (all_cons rfl (all_cons rfl (all_cons rfl l.ok)))) rfl
theorem w_two (P:Pg C) {k:Nat} {v ts w us} (h:Words C (k + 1) v ts) (hl:Ln 100 ts) (hk:ts.all Tk.ok=true) (hn:ts ≠ []) (h':Words C (k + 1) w us) (hl':Ln 100 us) (q:Q (.list (W (ts++.op o_cm :: .nm z_size :: .op o_ar :: us))) M) :
  CallOk C (d + (k + 1) + 1) (.fn 109) [.list (vAp2 v w)] M Q:=by
 rw [W_app] at q
 refine cl P rfl rfl ?_
 refine and2 (lk rfl) (IteP.mk (IteP.mk ?_))
 refine and2 (lk rfl) ?_
 refine and2 (lk rfl) (IteP.mk ?_)
 refine h _ _ _ ?_
 refine and2 (Ln.lk (n:=0) (Nat.le_refl 0) hl.w rfl) ?_
 refine ite_c true (fun K k=>show opt (cmpv .ne (.list (W ts)) (.list []) M) fun b=>K b M from c_op (ne_nil hk hn) k) ?_
 refine and2 (Ln.lk hl.w (Ln.k (n:=1) rfl) rfl) ?_
 refine and2 (lk rfl) (IteP.mk ?_)
 refine w_name P z_size (d + k) _ _ ?_
 refine and2 (Ln.lk (hl.w.app (Ln.k (n:=1) rfl)) (Ln.k (n:=1) rfl) rfl) ?_
 refine and2 (Ln.lk ((hl.w.app (Ln.k (n:=1) rfl)).app (Ln.k (n:=1) rfl)) (Ln.k (n:=1) rfl) rfl) ?_
 refine h' _ _ _ ?_
 refine and2 (Ln.lk (((hl.w.app (Ln.k (n:=1) rfl)).app (Ln.k (n:=1) rfl)).app (Ln.k (n:=1) rfl)) hl'.w rfl) ?_
 show Q (.list ((((W ts++[_])++[_])++[_])++W us)) M
 rw [List.append_assoc,List.append_assoc,List.append_assoc]
 exact q
theorem Words.up {k:Nat} {v ts} (h:Words C k v ts) (j:Nat):Words C (j + k) v ts:=fun d M Q q=>by
 rw [← Nat.add_assoc]; exact h _ _ _ q
theorem w_mark (P:Pg C) {v ts} (h:TMark v ts):Words C 2 v ts:=fun d M Q q=>by
 cases h with
 | m1=>exact w_name P _ _ _ _ q
 | m2 =>
  refine cl P rfl rfl (?_)
  refine w_name P _ _ _ _ ?_
  exact (and2 (lk rfl) q)
 | m3=>exact w_name P _ _ _ _ q
theorem w_range (P:Pg C) {i:Nat} {v ts} (hi:i < 1000) (h:Words C 3 v ts) (hl:Ln 100 ts):Words C 4 (vRange (vInt i) v) (.int i :: .op o_dd :: ts):=fun d M Q q=>by
 refine cl P rfl rfl (?_)
 refine w_int P hi _ _ _ ?_
 refine and2 (lk rfl) (?_)
 refine h _ _ _ ?_
 exact and2 (Ln.lk (Ln.k (n:=2) rfl) hl.w rfl) q
theorem w_ext (P:Pg C) {v ts} (h:TExt v ts):Words C 4 v ts:=fun d M Q q=>by
 cases h with
 | t0 =>
  refine cl P rfl rfl (?_)
  refine w_name P _ _ _ _ ?_
  exact (and2 (lk rfl) (IteP.mk ((and2 (lk rfl) q))))
 | t1 =>
  refine cl P rfl rfl (?_)
  refine w_name P _ _ _ _ ?_
  refine (and2 (lk rfl) (IteP.mk (?_)))
  refine (?_)
  refine w_int P (by decide) _ _ _ ?_
  exact and2 (lk rfl) (and2 (lk rfl) (and2 (lk rfl) q))
 | rg k v ts hk h=>exact w_range P (Nat.lt_trans hk (by decide)) (w_val P h) (h.len.le rfl) _ _ _ q
theorem w_sub (P:Pg C) {v ts} (h:TSub v ts):Words C 6 v ts:=fun d M Q q=>by
 cases h with
 | no m ts h =>
  refine cl P rfl rfl ((?_))
  refine w_mark P h _ _ _ ?_
  exact q
 | rg m ts e us h k =>
  refine cl P rfl rfl ((?_))
  refine w_mark P h _ _ _ ?_
  refine ((?_))
  refine and2 (Ln.lk h.len.w (Ln.k (n:=1) rfl) rfl) ((?_))
  refine w_ext P k _ _ _ ?_
  refine and2 (Ln.lk (h.len.w.app (Ln.k (n:=1) rfl)) k.len.w rfl) ?_
  show Q (.list ((W ts++[_])++W us)) M
  rw [List.append_assoc]
  rw [W_app] at q
  exact q
 | a1 m ts v us h k =>
  refine cl P rfl rfl ((?_))
  refine w_mark P h _ _ _ ?_
  refine ((?_))
  refine and2 (Ln.lk h.len.w (Ln.k (n:=1) rfl) rfl) ((?_))
  have hl:Ln 6 (.int 1 :: .op o_dd :: us):=k.len.cons.cons
  refine w_one (d:=d) P (w_range P (i:=1) (by decide) (w_val P k) (k.len.le rfl)) (hl.le rfl) ?_
  refine and2 (Ln.lk (h.len.w.app (Ln.k (n:=1) rfl)) hl.w rfl) ?_
  refine and2 (Ln.lk ((h.len.w.app (Ln.k (n:=1) rfl)).app hl.w) (Ln.k (n:=1) rfl) rfl) ?_
  show Q (.list (((W ts++[_])++W _)++[_])) M
  rw [List.append_assoc (W ts)]
  rw [W_app,W_app] at q
  exact q
 | a2 m ts v us w xs h k l =>
  refine cl P rfl rfl ((?_))
  refine w_mark P h _ _ _ ?_
  refine ((?_))
  refine and2 (Ln.lk h.len.w (Ln.k (n:=1) rfl) rfl) ((?_))
  have hl:Ln 11 (us++.op o_cm :: .nm z_size :: .op o_ar :: xs):=k.len.app l.len.cons.cons.cons
  refine w_two (d:=d + 1) (k:=2) P (w_val P k) (k.len.le rfl) k.ok k.ne (w_val P l) (l.len.le rfl) ?_
  refine and2 (Ln.lk (h.len.w.app (Ln.k (n:=1) rfl)) hl.w rfl) ?_
  refine and2 (Ln.lk ((h.len.w.app (Ln.k (n:=1) rfl)).app hl.w) (Ln.k (n:=1) rfl) rfl) ?_
  show Q (.list (((W ts++[_])++W _)++[_])) M
  rw [List.append_assoc (W ts)]
  rw [List.append_assoc ts,List.cons_append,W_app,W_app] at q
  exact q
theorem w_dis (P:Pg C) {v ts} (h:TDis v ts):Words C 6 v ts:=by
 cases h with
 | ext _ _ h=>exact (w_ext P h).up 2
 | no m ts h=>exact w_sub P (.no _ _ h)
 | rg m ts e us h k=>exact w_sub P (.rg _ _ _ _ h k)
end
theorem rg_ok {n:Nat} (h:Nat.ble n 1000000=true):0 ≤ (n:Int)∧(n:Int) ≤ 1000000:=⟨Int.natCast_nonneg n,Int.ofNat_le.mpr (Nat.le_of_ble_eq_true h)⟩
theorem sm {n:Nat} (h:Nat.ble n 1000000=true):small (n:Int):=⟨Int.lt_of_lt_of_le (by decide) (Int.natCast_nonneg n),Int.lt_of_le_of_lt (Int.ofNat_le.mpr (Nat.le_of_ble_eq_true h)) (by decide)⟩
section
variable {C:Cx} {M:Mem} {Q:PV→Mem→Prop} {d:Nat}
theorem w_bet1 (P:Pg C) {a:List PV} {s:List Nat} (ha:Ln 100 a) (q:Q (.list a) M):CallOk C (d + 1) (.fn 110) [.list [.list a],.str s] M Q:=by
 refine cl P rfl rfl (and2 rfl (and2 (lk rfl) (and2 (rg_ok rfl) (IteP.mk (IteP.mk ?_)))))
 exact and2 (lk rfl) (and2 (sm rfl) (and2 (Ln.lk (Ln.k (n:=0) rfl) ha rfl) q))
theorem w_bet2 (P:Pg C) {a b:List PV} {s:List Nat} (ha:Ln 100 a) (hb:Ln 100 b) (q:Q (.list ((a++[.str s])++b)) M):CallOk C (d + 1) (.fn 110) [.list [.list a,.list b],.str s] M Q:=by
 refine cl P rfl rfl (and2 rfl (and2 (lk rfl) (and2 (rg_ok rfl) (IteP.mk (IteP.mk ?_)))))
 refine and2 (lk rfl) (and2 (sm rfl) (and2 (Ln.lk (Ln.k (n:=0) rfl) ha rfl) (IteP.mk ?_)))
 refine and2 (Ln.lk ha (Ln.k (n:=1) rfl) rfl) (and2 (sm rfl) (and2 (Ln.lk (ha.app (Ln.k (n:=1) rfl)) hb rfl) q))
theorem w_bet3 (P:Pg C) {a b c:List PV} {s:List Nat} (ha:Ln 100 a) (hb:Ln 100 b) (hc:Ln 100 c) (q:Q (.list ((((a++[.str s])++b)++[.str s])++c)) M):CallOk C (d + 1) (.fn 110) [.list [.list a,.list b,.list c],.str s] M Q:=by
 refine cl P rfl rfl (and2 rfl (and2 (lk rfl) (and2 (rg_ok rfl) (IteP.mk (IteP.mk ?_)))))
 refine and2 (lk rfl) (and2 (sm rfl) (and2 (Ln.lk (Ln.k (n:=0) rfl) ha rfl) (IteP.mk ?_)))
 have h1:=(ha.app (Ln.k (a:=[PV.str s]) (n:=1) rfl)).app hb
 have h2:=h1.app (Ln.k (a:=[PV.str s]) (n:=1) rfl)
 refine and2 (Ln.lk ha (Ln.k (n:=1) rfl) rfl) (and2 (sm rfl) (and2 (Ln.lk (ha.app (Ln.k (n:=1) rfl)) hb rfl) (IteP.mk ?_)))
 exact and2 (Ln.lk h1 (Ln.k (n:=1) rfl) rfl) (and2 (sm rfl) (and2 (Ln.lk h2 hc rfl) q))
theorem w_bet4 (P:Pg C) {a b c e:List PV} {s:List Nat} (ha:Ln 100 a) (hb:Ln 100 b) (hc:Ln 100 c) (he:Ln 100 e) (q:Q (.list ((((((a++[.str s])++b)++[.str s])++c)++[.str s])++e)) M):CallOk C (d + 1) (.fn 110) [.list [.list a,.list b,.list c,.list e],.str s] M Q:=by
 refine cl P rfl rfl (and2 rfl (and2 (lk rfl) (and2 (rg_ok rfl) (IteP.mk (IteP.mk ?_)))))
 refine and2 (lk rfl) (and2 (sm rfl) (and2 (Ln.lk (Ln.k (n:=0) rfl) ha rfl) (IteP.mk ?_)))
 have h1:=(ha.app (Ln.k (a:=[PV.str s]) (n:=1) rfl)).app hb
 have h2:=h1.app (Ln.k (a:=[PV.str s]) (n:=1) rfl)
 have h3:=h2.app hc
 have h4:=h3.app (Ln.k (a:=[PV.str s]) (n:=1) rfl)
 refine and2 (Ln.lk ha (Ln.k (n:=1) rfl) rfl) (and2 (sm rfl) (and2 (Ln.lk (ha.app (Ln.k (n:=1) rfl)) hb rfl) (IteP.mk ?_)))
 refine and2 (Ln.lk h1 (Ln.k (n:=1) rfl) rfl) (and2 (sm rfl) (and2 (Ln.lk h2 hc rfl) (IteP.mk ?_)))
 exact and2 (Ln.lk h3 (Ln.k (n:=1) rfl) rfl) (and2 (sm rfl) (and2 (Ln.lk h4 he rfl) q))
theorem TNames.len {n ns} (h:TNames n ns):Ln 5 ns:=by cases h <;> exact Ln.k rfl
theorem TDfl.len {n ns} (h:TDfl n ns):Ln 5 ns:=by
 cases h with
 | no=>exact Ln.k rfl
 | so v ts h=>exact h.len.cons
theorem TAl.len {ns} (h:TAl ns):Ln 1 ns:=by cases h <;> exact Ln.k rfl
theorem c_names (P:Pg C) {n ns} {Q:List PV→Mem→Prop} (h:TNames n ns) (q:Q (n.map fun x=>.list [x]) M):IteP (compP (.inl 0) (fun env M Q=>wpTs C theG d .nil env M Q) (fun env M Q=>wpE C theG d (.lst (.cons (.loc 0) .nil)) env M Q) [none] n [] M fun vs M=>Q vs M):=by
 cases h with
 | n1=>exact IteP.mk q
 | n2=>exact IteP.mk q
 | n3=>exact IteP.mk q
theorem w_betn (P:Pg C) {n ns} (h:TNames n ns) (q:Q (.list (W ns)) M):CallOk C (d + 1) (.fn 110) [.list (n.map fun x=>.list [x]),.str o_cm] M Q:=by
 cases h with
 | n1=>exact w_bet1 P (Ln.k rfl) q
 | n2=>exact w_bet2 P (Ln.k rfl) (Ln.k rfl) q
 | n3=>exact w_bet3 P (Ln.k rfl) (Ln.k rfl) (Ln.k rfl) q
theorem TNames.nlen {n ns} (h:TNames n ns):lenOk n.length:=by cases h <;> exact lk rfl
theorem w_dec (P:Pg C) {n ns s ss f fs b} (hn:TNames n ns) (hs:Words C 6 s ss) (ls:Ln 100 ss) (hf:TDfl f fs) (q:Q (.list (W (ns++.op o_co :: fl b z_aliased++ss++fs))) M) :
  CallOk C (d + 7) (.fn 111) [.tup [.list n,.tup s,f],.bool b] M Q:=by
 refine cl P rfl rfl (and2 hn.nlen (c_names P hn ?_))
 refine w_betn P hn ?_
 have l1:Ln 6 (W ns++[.str o_co]):=hn.len.w.app (Ln.k (n:=1) rfl)
 refine and2 (Ln.lk hn.len.w (Ln.k (n:=1) rfl) rfl) (IteP.mk ?_)
 have fin:∀ al:List Tk,Ln 1 al→Q (.list (W (ns++.op o_co :: al++ss++fs))) M→Ln 107 (((W ns++[.str o_co])++W al)++W ss)∧(∀ gs,gs=W fs→Q (.list ((((W ns++[.str o_co])++W al)++W ss)++gs)) M):=fun al hl q=>by
  refine ⟨(l1.app hl.w).app ls.w,fun gs e=>?_⟩
  rw [e,List.append_assoc (W ns)]
  rw [W_app,W_app,W_app] at q
  exact q
 have l2:=hf.len
 cases b
 all_goals
  obtain ⟨l3,q⟩:=fin _ (Ln.k (a:=fl _ z_aliased) rfl) q
  refine and2 (Ln.lk l1 (Ln.k (n:=1) rfl) rfl) ?_
  refine hs _ _ _ ?_
  refine and2 (Ln.lk (l1.app (Ln.k (n:=1) rfl)) ls.w rfl) (IteP.mk ?_)
  cases hf with
  | no=>exact and2 (Ln.lk l3 (Ln.k (n:=0) rfl) rfl) (q [] rfl)
  | so v ts h =>
   refine (w_val P h).up 3 _ _ _ ?_
   exact and2 (Ln.lk (Ln.k (n:=1) rfl) h.len.w rfl) (and2 (Ln.lk l3 l2.w rfl) (q _ rfl))
end
theorem TNames.ok {n ns} (h:TNames n ns):ns.all Tk.ok=true:=by cases h <;> rfl
theorem TAl.ok {ns} (h:TAl ns):ns.all Tk.ok=true:=by cases h <;> rfl
theorem TDfl.ok {f fs} (h:TDfl f fs):fs.all Tk.ok=true:=by
 cases h with
 | no=>rfl
 | so v ts h=>exact all_cons rfl h.ok
theorem TComp.ok {c ts} (h:TComp c ts):ts.all Tk.ok=true:=by
 cases h with
 | mk n ns al s ss f fs h1 h2 h3 h4=>exact all_app (all_app (all_app (all_app h1.ok (all_cons rfl h2.ok)) h3.ok) h4.ok) rfl
theorem TComp.len {c ts} (h:TComp c ts):Ln 30 ts:=by
 cases h with
 | mk n ns al s ss f fs h1 h2 h3 h4=>exact ((((h1.len.app h2.len.cons).app h3.len).app h4.len).app (Ln.k (n:=1) rfl)).le rfl
theorem TComps.len {c ts} (h:TComps c ts):Ln 60 ts:=by
 cases h with
 | nil=>exact Ln.k rfl
 | one c ts h=>exact h.len.le rfl
 | two c ts c' ts' h k=>exact h.len.app k.len
theorem TComps.ok {c ts} (h:TComps c ts):ts.all Tk.ok=true:=by
 cases h with
 | nil=>rfl
 | one c ts h=>exact h.ok
 | two c ts c' ts' h k=>exact all_app h.ok k.ok
theorem al_fl (b:Bool):TAl (fl b z_aliased):=by
 cases b
 ·exact .no
 ·exact .so
section
variable {C:Cx} {M:Mem} {Q:PV→Mem→Prop} {d:Nat}
noncomputable abbrev b_decl:Ss:=sbody (stm 1 f_law_inside.body)
theorem w_comp1 (P:Pg C) {c ts} (h:TComp c ts) {w l:List PV} {v:PV} (hw:Ln 1000 w) {K:Out→Lo→Mem→Prop} (q:∀ ts',TComp c ts'→K .next [some (.list l),some v,some (.list (w++W ts')),some (.tup c),none,none,none] M) :
  wpSs C theG (d + 7) b_decl [some (.list l),some v,some (.list w),some (.tup c),none,none,none] M K:=by
 cases h with
 | mk n ns al s ss f fs h1 h2 h3 h4 =>
  have fin:∀ b:Bool,Ln (1000 + 29) (w++W (ns++.op o_co :: fl b z_aliased++ss++fs))∧(Ln 29 (W (ns++.op o_co :: fl b z_aliased++ss++fs)))∧K .next [some (.list l),some v,some (.list (w++W (ns++.op o_co :: fl b z_aliased++ss++fs)++[.str o_sc])),some (.tup [.list n,.tup s,f]),none,none,none] M:=fun b=>by
   have l1:Ln 29 (ns++.op o_co :: fl b z_aliased++ss++fs):=(((h1.len.app (al_fl b).len.cons).app h3.len).app h4.len).le rfl
   refine ⟨hw.app l1.w,l1.w,?_⟩
   rw [List.append_assoc]
   have:=q _ (.mk n ns (fl b z_aliased) s ss f fs h1 (al_fl b) h3 h4)
   rw [W_app] at this
   exact this
  cases h4 with
  | no =>
   obtain ⟨l1,l2,q⟩:=fin true
   refine (w_dec P h1 (w_sub P h3) (h3.len.le rfl) .no ?_)
   exact and2 (Ln.lk hw l2 rfl) (and2 (Ln.lk l1 (Ln.k (n:=1) rfl) rfl) q)
  | so v ts h4 =>
   obtain ⟨l1,l2,q⟩:=fin false
   refine (w_dec P h1 (w_sub P h3) (h3.len.le rfl) (.so _ _ h4) ?_)
   exact and2 (Ln.lk hw l2 rfl) (and2 (Ln.lk l1 (Ln.k (n:=1) rfl) rfl) q)
theorem w_comps (P:Pg C) {l ts} (h:TComps l ts) {v:PV} {K:Out→Lo→Mem→Prop} (q:∀ ts' o,TComps l ts'→K .next [some (.list l),some v,some (.list (W ts')),o,none,none,none] M) :
  IteP (forP (fun x env M K=>opt (bindS (.inl 3) x env) fun env=>wpSs C theG (d + 7) b_decl env M K) l [some (.list l),some v,some (.list []),none,none,none,none] M K):=by
 refine IteP.mk ?_
 cases h with
 | nil=>exact q [] _ .nil
 | one c ts h=>exact w_comp1 P h (l:=[.tup c]) (Ln.k (n:=1000) rfl) fun ts' h'=>q _ _ (.one _ _ h')
 | two c ts c' ts' h k =>
  refine w_comp1 P h (l:=[.tup c,.tup c']) (Ln.k (n:=1000) rfl) fun us h'=>?_
  refine w_comp1 P k (l:=[.tup c,.tup c']) (h'.len.w.le rfl) fun us' k'=>?_
  have:=q _ (some (.tup c')) (.two _ _ _ _ h' k')
  rw [W_app] at this
  exact this
end
noncomputable def lenB:Nat→Nat
 | 0=>100
 | n + 1=>100 + 3 * (lenB n + 20)
theorem TCho.len {c cs} (h:TCho c cs):Ln 8 cs:=by
 cases h with
 | one v ts h=>exact h.len.le rfl
 | two v ts h=>exact h.len.app (Ln.k (n:=4) rfl)
 | oth=>exact Ln.k rfl
theorem TCho.ok {c cs} (h:TCho c cs):cs.all Tk.ok=true:=by
 cases h with
 | one v ts h=>exact h.ok
 | two v ts h=>exact all_app h.ok (all_cons rfl (all_cons (ok_int (by decide)) (all_cons rfl (all_cons (ok_int (by decide)) rfl))))
 | oth=>rfl
theorem lenB_ge:∀ n,100 ≤ lenB n
 | 0=>Nat.le_refl _
 | n + 1=>Nat.le_add_right 100 _
mutual
theorem TBody.len:∀ {n l v ts},TBody n l v ts→Ln (lenB n) ts
 | n,_,_,_,.nil _=>Nat.le_trans (by decide:2 ≤ 100) (lenB_ge n)
 | n,_,_,_,.some _ _ _ _ h=>Nat.le_trans h.len (Nat.le_trans (by decide) (lenB_ge n))
 | _,_,_,_,.var n l ts a as us h k hl=>by
  have h1:=h.len
  have h2:=k.len
  show ((ts++Tk.wd z_case :: Tk.nm z_kind :: Tk.wd z_is :: us)++[Tk.wd z_end,Tk.wd z_case,Tk.op o_sc]).length ≤ 100 + 3 * (lenB n + 20)
  have h3:(a :: as).length * (lenB n + 20) ≤ 3 * (lenB n + 20):=Nat.mul_le_mul_right _ hl
  have h4:Ln (60 + ((a :: as).length * (lenB n + 20) + 1 + 1 + 1) + 3) ((ts++Tk.wd z_case :: Tk.nm z_kind :: Tk.wd z_is :: us)++[Tk.wd z_end,Tk.wd z_case,Tk.op o_sc]):=(h1.app h2.cons.cons.cons).app (Ln.k (n:=3) rfl)
  exact Nat.le_trans h4 (by omega)
theorem TArms.len:∀ {n as ts},TArms n as ts→Ln (as.length * (lenB n + 20)) ts
 | _,_,_,.nil _=>Nat.zero_le _
 | _,_,_,.cons n c cs i v bs as ts h k l=>by
  have h2:=k.len
  have h3:=l.len
  have h4:Ln (8 + 1 + (lenB n + 1) + as.length * (lenB n + 20)) ((Tk.wd z_when :: cs++Tk.op o_ar :: bs)++ts):=(h.len.cons.app h2.cons).app h3
  show _ ≤ (as.length + 1) * (lenB n + 20)
  rw [Nat.succ_mul]
  exact Nat.le_trans h4 (by omega)
end
mutual
theorem TBody.ok:∀ {n l v ts},TBody n l v ts→ts.all Tk.ok=true
 | _,_,_,_,.nil _=>rfl
 | _,_,_,_,.some _ _ _ _ h=>h.ok
 | _,_,_,_,.var n l ts a as us h k hl=>all_app (all_app h.ok (all_cons rfl (all_cons rfl (all_cons rfl k.ok)))) rfl
theorem TArms.ok:∀ {n as ts},TArms n as ts→ts.all Tk.ok=true
 | _,_,_,.nil _=>rfl
 | _,_,_,.cons n c cs i v bs as ts h k l=>all_app (all_app (all_cons rfl h.ok) (all_cons rfl k.ok)) l.ok
end
theorem TComp.ne {c ts} (h:TComp c ts):ts ≠ []:=by
 cases h with
 | mk=>intro e; exact absurd (List.append_eq_nil_iff.mp e).2 (List.cons_ne_nil _ _)
theorem TComps.ne {c l ts} (h:TComps (c :: l) ts):ts ≠ []:=by
 cases h with
 | one c ts h=>exact h.ne
 | two c ts c' ts' h k=>intro e; exact h.ne (List.append_eq_nil_iff.mp e).1
section
variable {C:Cx} {M:Mem} {Q:PV→Mem→Prop} {d:Nat}
noncomputable def DIns (C:Cx) (k n:Nat):Prop:=∀ (d:Nat) (l:List PV) (v:PV) (ts:List Tk) (M:Mem) (Q:PV→Mem→Prop),TBody n l v ts→(∀ ts',TBody n l v ts'→Q (.list (W ts')) M)→CallOk C (d + k) (.fn 112) [.list l,v] M Q
theorem c_cho (P:Pg C) {c cs} {Q:List PV→Mem→Prop} (h:TCho c cs) (q:∀ r,(∀ (d:Nat) (M:Mem) (Q:PV→Mem→Prop),Q (.list (W cs)) M→CallOk C (d + 1) (.fn 110) [.list r,.str o_bar] M Q)→Q r M) :
  IteP (compP (.inl 0) (fun env M Q=>wpTs C theG (d + 4) .nil env M Q) (fun env M Q=>wpE C theG (d + 4) (.call (.glo 134) (.cons (.loc 0) .nil)) env M Q) [none] c [] M fun vs M=>Q vs M):=by
 refine IteP.mk ?_
 cases h with
 | one v ts h =>
  refine (w_val P h).up 1 _ _ _ ?_
  exact (q _ fun d M Q q=>w_bet1 P (h.len.w.le rfl) q)
 | two v ts h =>
  refine (w_val P h).up 1 _ _ _ ?_
  refine w_range (C:=C) P (i:=3) (v:=vInt 8) (ts:=[.int 8]) (by decide) ((w_int P (by decide)).up 2) (Ln.k rfl) _ _ _ ?_
  refine (q _ fun d M Q q=>w_bet2 P (h.len.w.le rfl) (Ln.k rfl) ?_)
  rw [W_app] at q
  rw [List.append_assoc]
  exact q
 | oth =>
  refine cl P rfl rfl (?_)
  exact (q _ fun d M Q q=>w_bet1 P (Ln.k rfl) q)
theorem TCho.nlen {n ns} (h:TCho n ns):lenOk n.length:=by cases h <;> exact lk rfl
noncomputable abbrev b_insv:Ss:=sbody (stm 4 f_law_inside.body)
theorem w_arm (P:Pg C) {k n:Nat} (ih:DIns C (k + 5) n) (hn:lenB n ≤ 2000) {l:List PV} {v:PV} {K:Out→Lo→Mem→Prop}:∀ {as ts} {w:List PV} {o3 o4 o5 o6:Option PV},TArms n as ts→w.length + as.length * 2100 ≤ 10000 →
  (∀ ts' o3 o4 o5 o6,TArms n as ts'→K .next [some (.list l),some v,some (.list (w++W ts')),o3,o4,o5,o6] M) →
  forP (fun x env M K=>opt (bindS (.inr [4,5,6]) x env) fun env=>wpSs C theG (d + (k + 5)) b_insv env M K) as [some (.list l),some v,some (.list w),o3,o4,o5,o6] M K
 | [],_,w,o3,o4,o5,o6,_,_,q=>by
  have:=q [] o3 o4 o5 o6 (.nil n)
  rw [show w++W []=w from List.append_nil w] at this
  exact this
 | _ :: _,_,w,o3,o4,o5,o6,.cons _ c cs i vi bs as ts h1 h2 h3,hw,q=>by
  have hw':Ln 10000 w:=Nat.le_trans (Nat.le_add_right _ _) hw
  refine and2 (Ln.lk hw' (Ln.k (n:=1) rfl) rfl) (and2 h1.nlen ?_)
  refine c_cho (d:=d + (k + 1)) P h1 fun r hr=>?_
  refine hr _ _ _ ?_
  have a1:=hw'.app (Ln.k (a:=[PV.str z_when]) (n:=1) rfl)
  have a2:=a1.app h1.len.w
  refine and2 (Ln.lk a1 h1.len.w rfl) ?_
  have a3:=a2.app (Ln.k (a:=[PV.str o_ar]) (n:=1) rfl)
  refine and2 (Ln.lk a2 (Ln.k (n:=1) rfl) rfl) ?_
  refine ih _ _ _ _ _ _ h2 fun bs' h2'=>?_
  have b1:Ln 2000 (W bs'):=Ln.w (Nat.le_trans h2'.len hn)
  refine and2 (Ln.lk a3 b1 rfl) ?_
  have b2:((((w++[PV.str z_when])++W cs)++[PV.str o_ar])++W bs').length=w.length + 1 + cs.length + 1 + bs'.length:=by
   rw [List.length_append,List.length_append,List.length_append,List.length_append,W_len,W_len]; rfl
  have b3:bs'.length ≤ 2000:=Nat.le_trans h2'.len hn
  have b4:cs.length ≤ 8:=h1.len
  refine w_arm P ih hn h3 ?_ fun ts' p3 p4 p5 p6 h3'=>?_
  ·rw [List.length_cons] at hw
   rw [b2]
   omega
  ·have:=q _ p3 p4 p5 p6 (.cons n c cs i vi bs' as ts' h1 h2' h3')
   rw [W_app,W_app,W_cons,W_cons] at this
   have e:w++(PV.str z_when :: W cs++PV.str o_ar :: W bs'++W ts')=((((w++[PV.str z_when])++W cs)++[PV.str o_ar])++W bs')++W ts':=by
    simp only [List.append_assoc,List.cons_append,List.nil_append]
   have e':=e▸this
   exact e'
end
section
variable {C:Cx} {M:Mem} {Q:PV→Mem→Prop} {d:Nat}
theorem w_ins (P:Pg C) {j n:Nat} (ih:∀ m,n=m + 1→DIns C (j + 2 + 5) m∧lenB m ≤ 2000):DIns C (j + 3 + 5) n:=by
 intro d l v ts M Q h q
 refine cl (d:=d + j + 7) P rfl rfl ?_
 cases h with
 | nil n =>
  refine and2 (lk rfl) (w_comps (d:=d + j) P .nil fun ts' o h'=>IteP.mk ?_)
  cases h'
  exact q _ (.nil n)
 | some n c l ts h =>
  refine and2 (by cases h <;> exact lk rfl) (w_comps (d:=d + j) P h fun ts' o h'=>?_)
  refine ite_c true (fun K k=>show opt (cmpv .ne (.list (W ts')) (.list []) M) fun b=>K b M from c_op (ne_nil h'.ok h'.ne) k) ?_
  exact q _ (.some n c l _ h')
 | var n l ts a as us h k hl =>
  obtain ⟨ih,hb⟩:=ih n rfl
  refine and2 (by cases h <;> exact lk rfl) (w_comps (d:=d + j) P h fun ts' o h'=>?_)
  refine (and2 (Ln.lk h'.len.w (Ln.k (n:=3) rfl) rfl) ?_)
  have l1:Ln 63 (W ts'++[.str z_case,.str z_kind,.str z_is]):=h'.len.w.app (Ln.k (n:=3) rfl)
  refine (and2 (Nat.le_trans hl (by decide)) (IteP.mk ?_))
  refine w_arm (d:=d) (k:=j + 2) P ih hb k ?_ fun us' o3 o4 o5 o6 k'=>?_
  ·exact Nat.le_trans (Nat.add_le_add l1 (Nat.mul_le_mul_right 2100 hl)) (by decide)
  ·have l2:Ln 6060 (W us'):=Ln.w (Nat.le_trans k'.len (Nat.le_trans (Nat.mul_le_mul_right _ hl) (Nat.mul_le_mul_left 3 (Nat.add_le_add_right hb 20))))
   refine and2 (Ln.lk (l1.app l2) (Ln.k (n:=3) rfl) rfl) ?_
   have:=q _ (.var n l ts' a as us' h' k' hl)
   rw [W_app,W_app,W_cons,W_cons,W_cons] at this
   show Q (.list (((W ts'++[_,_,_])++W us')++[_,_,_])) M
   rw [List.append_assoc (W ts')]
   exact this
theorem w_inside0 (P:Pg C):DIns C 8 0:=w_ins (j:=0) P fun m e=>nomatch e
theorem w_inside1 (P:Pg C):DIns C 9 1:=w_ins (j:=1) P fun m e=>by
 cases e
 exact ⟨w_inside0 P,by decide⟩
theorem w_inside (P:Pg C):DIns C 10 2:=w_ins (j:=2) P fun m e=>by
 cases e
 exact ⟨w_inside1 P,by decide⟩
end
theorem okc {n:Nat} {x:PV} {xs:List PV} (h:okD n x=true) (k:okDs n xs=true):okDs n (x :: xs)=true:=by
 have:okDs n (x :: xs)=(okD n x && okDs n xs):=by cases n <;> rfl
 rw [this,h,k]; rfl
theorem TVal.okD {n:Nat} {v ts} (h:TVal v ts):okD (n + 4) (.tup v)=true:=by cases h <;> rfl
theorem TMark.okD {n:Nat} {v ts} (h:TMark v ts):Mine.okD (n + 4) (.tup v)=true:=by cases h <;> rfl
theorem TExt.okD {n:Nat} {v ts} (h:TExt v ts):Mine.okD (n + 5) (.tup v)=true:=by
 cases h with
 | t0=>rfl
 | t1=>rfl
 | rg k v ts hk h=>exact okc (n:=n + 4) rfl (okc rfl (okc h.okD rfl))
theorem TSub.okD {n:Nat} {v ts} (h:TSub v ts):Mine.okD (n + 9) (.tup v)=true:=by
 cases h with
 | no m ts h=>exact okc (n:=n + 8) rfl (okc (h.okD (n:=n + 4)) rfl)
 | rg m ts e us h k=>exact okc (n:=n + 8) rfl (okc (h.okD (n:=n + 4)) (okc (okc (n:=n + 7) rfl (okc (k.okD (n:=n + 2)) rfl)) rfl))
 | a1 m ts v us h k=>exact okc (n:=n + 8) rfl (okc (h.okD (n:=n + 4)) (okc (okc (n:=n + 7) rfl (okc (okc (n:=n + 6) (okc (n:=n + 5) rfl (okc (okc (n:=n + 4) rfl (okc rfl (okc k.okD rfl))) rfl)) rfl) rfl)) rfl))
 | a2 m ts v us w xs h k l=>exact okc (n:=n + 8) rfl (okc (h.okD (n:=n + 4)) (okc (okc (n:=n + 7) rfl (okc (okc (n:=n + 6) (okc (n:=n + 5) rfl (okc (k.okD (n:=n + 1)) rfl)) (okc (okc (n:=n + 5) rfl (okc (l.okD (n:=n + 1)) rfl)) rfl)) rfl)) rfl))
theorem TDis.okD {n:Nat} {v ts} (h:TDis v ts):Mine.okD (n + 9) (.tup v)=true:=by
 cases h with
 | ext _ _ h=>exact h.okD (n:=n + 4)
 | no m ts h=>exact TSub.okD (.no _ _ h)
 | rg m ts e us h k=>exact TSub.okD (.rg _ _ _ _ h k)
theorem TNames.okD {n:Nat} {v ts} (h:TNames v ts):Mine.okD (n + 1) (.list v)=true:=by cases h <;> cases n <;> rfl
theorem TDfl.okD {n:Nat} {v ts} (h:TDfl v ts):Mine.okD (n + 4) v=true:=by
 cases h with
 | no=>rfl
 | so v ts h=>exact h.okD
theorem TComp.okD {n:Nat} {v ts} (h:TComp v ts):Mine.okD (n + 10) (.tup v)=true:=by
 cases h with
 | mk nn ns al s ss f fs h1 h2 h3 h4=>exact okc (n:=n + 9) (h1.okD (n:=n + 8)) (okc h3.okD (okc (h4.okD (n:=n + 5)) rfl))
theorem TComps.okD {n:Nat} {v ts} (h:TComps v ts):Mine.okD (n + 11) (.list v)=true:=by
 cases h with
 | nil=>rfl
 | one c ts h=>exact okc (n:=n + 10) h.okD rfl
 | two c ts c' ts' h k=>exact okc (n:=n + 10) h.okD (okc k.okD rfl)
theorem TCho.okD {n:Nat} {v ts} (h:TCho v ts):Mine.okD (n + 5) (.list v)=true:=by
 cases h with
 | one v ts h=>exact okc (n:=n + 4) h.okD rfl
 | two v ts h=>exact okc (n:=n + 4) h.okD rfl
 | oth=>rfl
mutual
theorem TBody.okL {k:Nat}:∀ {n l v ts},TBody n l v ts→Mine.okD (k + 11) (.list l)=true
 | _,_,_,_,.nil _=>rfl
 | _,_,_,_,.some _ _ _ _ h=>h.okD
 | _,_,_,_,.var n l ts a as us h _ _=>h.okD
theorem TBody.okV {k:Nat}:∀ {n l v ts},TBody n l v ts→Mine.okD (k + 11 + 3 * n) v=true
 | _,_,_,_,.nil _=>by cases (k + 11 + 3 * _) <;> rfl
 | _,_,_,_,.some _ _ _ _ _=>by cases (k + 11 + 3 * _) <;> rfl
 | _,_,_,_,.var n l ts a as us _ h _=>okc (n:=k + 11 + 3 * n + 2) (by cases (k + 11 + 3 * n + 2) <;> rfl) (okc (TArms.okD (k:=k) h) rfl)
theorem TArms.okD {k:Nat}:∀ {n as ts},TArms n as ts→Mine.okD (k + 11 + 3 * n + 2) (.list as)=true
 | _,_,_,.nil _=>rfl
 | _,_,_,.cons n c cs i v bs as ts h1 h2 h3=>okc (n:=k + 11 + 3 * n + 1)
   (okc (n:=k + 11 + 3 * n) (by rw [show k + 11 + 3 * n=(k + 3 * n + 6) + 5 by omega]; exact h1.okD) (okc (by rw [show k + 11 + 3 * n=(k + 3 * n) + 11 by omega]; exact TBody.okL h2) (okc (TBody.okV h2) rfl))) (TArms.okD h3)
end
theorem TRec.okD {n:Nat} {t l a r ts} (h:TRec t l a r ts):Mine.okD (n + 18) (.tup r)=true:=by
 cases h with
 | null=>rfl
 | body c v ts h=>exact okc (n:=n + 17) rfl (okc (h.okL (k:=n + 6)) (okc (h.okV (k:=n)) rfl))
theorem TDef.okD {v ts} (h:TDef v ts):Mine.okD 30 (.tup v)=true:=by
 cases h with
 | enum l ts h=>cases h <;> rfl
 | int e ts h=>exact okc (n:=29) rfl (okc (h.okD (n:=24)) rfl)
 | mod v ts h=>exact okc (n:=29) rfl (okc (h.okD (n:=25)) rfl)
 | fix0 v ts h=>exact okc (n:=29) rfl (okc (h.okD (n:=25)) rfl)
 | fix1 v ts e us h k=>exact okc (n:=29) rfl (okc (h.okD (n:=25)) (okc (k.okD (n:=24)) rfl))
 | arrB l ts al s us h hal k =>
  refine okc (n:=29) rfl (okc ?_ (okc rfl (okc (k.okD (n:=20)) rfl)))
  cases h with
  | one v ts h=>exact okc (n:=28) (h.okD (n:=19)) rfl
  | two v ts w us h k=>exact okc (n:=28) (h.okD (n:=19)) (okc (k.okD (n:=19)) rfl)
 | arrU l ts al s us h hal k =>
  refine okc (n:=29) rfl (okc ?_ (okc rfl (okc (k.okD (n:=20)) rfl)))
  cases h with
  | one v ts h=>exact okc (n:=28) (h.okD (n:=24)) rfl
  | two v ts w us h k=>exact okc (n:=28) (h.okD (n:=24)) (okc (k.okD (n:=24)) rfl)
 | rcd t l a v ts h hat=>exact h.okD (n:=12)
 | acc s ts m ms h hm=>cases hm <;> exact okc (n:=29) rfl (okc (h.okD (n:=20)) rfl)
 | der0 a s ts h=>exact okc (n:=29) rfl (okc (h.okD (n:=20)) rfl)
 | der1 a s ts r us h k=>exact okc (n:=29) rfl (okc (h.okD (n:=20)) (okc (k.okD (n:=11)) rfl))
 | ext a s ts h=>exact okc (n:=29) rfl (okc (h.okD (n:=20)) rfl)
 | priv t l a hat=>rfl
theorem TRow.okD {n:Nat} {v ts} (h:TRow v ts):Mine.okD (n + 10) (.tup v)=true:=by
 cases h with
 | row nn ns m ms f fs h1 h2 h3=>exact okc (n:=n + 9) (h1.okD (n:=n + 8)) (okc (TSub.okD (.no _ _ h2)) (okc (h3.okD (n:=n + 5)) rfl))
theorem TDiscs.okD {v ts} (h:TDiscs v ts):Mine.okD 30 v=true:=by
 cases h with
 | no=>rfl
 | box=>rfl
 | one v ts h=>exact okc (n:=29) (h.okD (n:=19)) rfl
 | two v ts w us h k=>exact okc (n:=29) (h.okD (n:=19)) (okc (k.okD (n:=19)) rfl)
theorem W_fl (b:Bool) (s:List Nat):W (fl b s)=flW b s:=by cases b <;> rfl
theorem TRec.len {t l a r ts} (h:TRec t l a r ts):Ln 2000 ts:=by
 cases h with
 | null=>exact Ln.k rfl
 | body c v ts h=>exact Nat.le_trans (h.len.cons.app (Ln.k (n:=2) rfl)) (by decide)
section
variable {C:Cx} {M:Mem} {Q:PV→Mem→Prop} {d:Nat}
theorem flW_len (b:Bool) (s:List Nat):Ln 1 (flW b s):=by cases b <;> exact Ln.k rfl
theorem w_recB (P:Pg C) {t l a:Bool} {c v ts} (h:TBody 2 c v ts) (q:∀ ts',TBody 2 c v ts'→Q (.list (W (fl a z_abstract++fl t z_tagged++fl l z_limited++(.wd z_record :: ts'++[.wd z_end,.wd z_record])))) M) :
  CallOk C (d + 11) (.fn 114) [.tup (vRec c v t l a)] M Q:=by
 refine cl P rfl rfl (?_)
 refine ((?_))
 refine P.zp _ _ _ _ _ _ ?_
 have l0:=((flW_len a z_abstract).app (flW_len t z_tagged)).app (flW_len l z_limited)
 have l1:=l0.app (Ln.k (a:=[PV.str z_record]) (n:=1) rfl)
 refine and2 (Ln.lk l0 (Ln.k (n:=1) rfl) rfl) ((?_))
 refine w_inside P _ _ _ _ _ _ h fun ts' h'=>?_
 have l2:Ln 2000 (W ts'):=Ln.w (Nat.le_trans h'.len (by decide))
 refine and2 (Ln.lk l1 l2 rfl) (and2 (Ln.lk (l1.app l2) (Ln.k (n:=2) rfl) rfl) ?_)
 have:=q _ h'
 rw [W_app,W_app,W_app,W_app,W_cons,W_fl,W_fl,W_fl] at this
 show Q (.list ((((_++[_])++W ts')++[_,_]))) M
 rw [List.append_assoc,List.append_assoc]
 exact this
theorem fl_len (b:Bool) (s:List Nat):Ln 1 (fl b s):=by cases b <;> exact Ln.k rfl
theorem w_rec (P:Pg C) {t l a r ts} (h:TRec t l a r ts) (q:∀ us,TRec t l a r us→Q (.list (W (fl a z_abstract++fl t z_tagged++fl l z_limited++us))) M):CallOk C (d + 11) (.fn 114) [.tup r] M Q:=by
 cases h with
 | null=>exact w_recB P (.nil 2) fun ts' h=>q _ (.body _ _ _ h)
 | body c v ts h=>exact w_recB P h fun ts' h=>q _ (.body _ _ _ h)
theorem c_lits (P:Pg C) {c cs} {Q:List PV→Mem→Prop} (h:TLits c cs) (q:∀ r,(∀ (d:Nat) (M:Mem) (Q:PV→Mem→Prop),Q (.list (W cs)) M→CallOk C (d + 1) (.fn 110) [.list r,.str o_cm] M Q)→Q r M) :
  IteP (compP (.inl 0) (fun env M Q=>wpTs C theG (d + 1) .nil env M Q) (fun env M Q=>wpE C theG (d + 1) (.call (.glo 134) (.cons (.loc 0) .nil)) env M Q) [none] c [] M fun vs M=>Q vs M):=by
 refine IteP.mk ?_
 cases h with
 | l1 =>
  refine (w_name P _ _ _ _ ((w_chr P (by decide) _ _ _ ((w_name P _ _ _ _ ((w_chr P (by decide) _ _ _ ?_)))))))
  exact (q _ fun d M Q q=>w_bet4 P (Ln.k rfl) (Ln.k rfl) (Ln.k rfl) (Ln.k rfl) q)
 | l2 =>
  refine (w_chr P (by decide) _ _ _ ((w_name P _ _ _ _ ((w_chr P (by decide) _ _ _ ?_)))))
  exact (q _ fun d M Q q=>w_bet3 P (Ln.k rfl) (Ln.k rfl) (Ln.k rfl) q)
 | l3 =>
  refine (w_name P _ _ _ _ ((w_chr P (by decide) _ _ _ ?_)))
  exact (q _ fun d M Q q=>w_bet2 P (Ln.k rfl) (Ln.k rfl) q)
theorem TLits.nlen {n ns} (h:TLits n ns):lenOk n.length:=by cases h <;> exact lk rfl
theorem TLits.len {n ns} (h:TLits n ns):Ln 7 ns:=by cases h <;> exact Ln.k rfl
theorem TDisL.len {n ns} (h:TDisL n ns):Ln 40 ns:=by
 cases h with
 | one v ts h=>exact h.len.le rfl
 | two v ts w us h k=>exact (h.len.app k.len.cons).le rfl
theorem TMarkL.len {n ns} (h:TMarkL n ns):Ln 40 ns:=by
 cases h with
 | one v ts h=>exact (h.len.app (Ln.k (n:=2) rfl)).le rfl
 | two v ts w us h k=>exact ((h.len.app k.len.cons.cons.cons).app (Ln.k (n:=2) rfl)).le rfl
noncomputable abbrev x_rows:E:=elt (rhs (stm 0 (sbody (stm 5 f_law_spelled.body))))
theorem c_disl (P:Pg C) {c cs} {Q:List PV→Mem→Prop} (h:TDisL c cs) {s:PV} (q:∀ r,(∀ (d:Nat) (M:Mem) (Q:PV→Mem→Prop),Q (.list (W cs)) M→CallOk C (d + 1) (.fn 110) [.list r,.str o_cm] M Q)→Q r M) :
  IteP (compP (.inl 0) (fun env M Q=>wpTs C theG (d + 6) .nil env M Q) (fun env M Q=>wpE C theG (d + 6) x_rows env M Q) [none,some (.tup [.str z_array,.list c,.bool true,s])] c [] M fun vs M=>Q vs M):=by
 refine IteP.mk ?_
 cases h with
 | one v ts h =>
  refine (w_dis P h _ _ _ (IteP.mk ((and2 (Ln.lk h.len.w (Ln.k (n:=0) rfl) rfl) ?_))))
  refine (q _ fun d M Q q=>?_)
  rw [List.append_nil]
  exact w_bet1 P (h.len.w.le rfl) q
 | two v ts w us h k =>
  refine (w_dis P h _ _ _ (IteP.mk ((and2 (Ln.lk h.len.w (Ln.k (n:=0) rfl) rfl) ?_))))
  refine (w_dis P k _ _ _ (IteP.mk ((and2 (Ln.lk k.len.w (Ln.k (n:=0) rfl) rfl) ?_))))
  refine (q _ fun d M Q q=>?_)
  rw [List.append_nil,List.append_nil]
  refine w_bet2 P (h.len.w.le rfl) (k.len.w.le rfl) ?_
  rw [List.append_assoc]
  rw [W_app] at q
  exact q
theorem c_markl (P:Pg C) {c cs} {Q:List PV→Mem→Prop} (h:TMarkL c cs) {s:PV} (q:∀ r,(∀ (d:Nat) (M:Mem) (Q:PV→Mem→Prop),Q (.list (W cs)) M→CallOk C (d + 1) (.fn 110) [.list r,.str o_cm] M Q)→Q r M) :
  IteP (compP (.inl 0) (fun env M Q=>wpTs C theG (d + 6) .nil env M Q) (fun env M Q=>wpE C theG (d + 6) x_rows env M Q) [none,some (.tup [.str z_array,.list c,.bool false,s])] c [] M fun vs M=>Q vs M):=by
 refine IteP.mk ?_
 cases h with
 | one v ts h =>
  refine ((w_mark P h).up 4 _ _ _ (IteP.mk ((and2 (Ln.lk h.len.w (Ln.k (n:=2) rfl) rfl) ?_))))
  refine (q _ fun d M Q q=>?_)
  rw [W_app] at q
  exact w_bet1 P ((h.len.w.app (Ln.k (n:=2) rfl)).le rfl) q
 | two v ts w us h k =>
  refine ((w_mark P h).up 4 _ _ _ (IteP.mk ((and2 (Ln.lk h.len.w (Ln.k (n:=2) rfl) rfl) ?_))))
  refine ((w_mark P k).up 4 _ _ _ (IteP.mk ((and2 (Ln.lk k.len.w (Ln.k (n:=2) rfl) rfl) ?_))))
  refine (q _ fun d M Q q=>?_)
  refine w_bet2 P ((h.len.w.app (Ln.k (n:=2) rfl)).le rfl) ((k.len.w.app (Ln.k (n:=2) rfl)).le rfl) ?_
  rw [W_app,W_app,W_cons,W_cons,W_cons] at q
  show Q (.list (((W ts++[_,_])++[_])++(W us++[_,_]))) M
  rw [List.append_assoc,List.append_assoc]
  rw [List.append_assoc] at q
  exact q
theorem TDisL.nlen {n ns} (h:TDisL n ns):lenOk n.length:=by cases h <;> exact lk rfl
theorem TMarkL.nlen {n ns} (h:TMarkL n ns):lenOk n.length:=by cases h <;> exact lk rfl
theorem w_fix (P:Pg C) {a:Bool} {s ss} (hs:TSub s ss) {x:PV} {Q:PV→Mem→Prop} (q:Q (.list (W (fl a z_abstract++.wd z_new :: ss))) M) {t:List PV} (ht:t=[.str z_derived,.tup s,x,.bool a]∨t=[.str z_extension,.tup s,.bool a]) :
  wpE C theG (d + 6) (rhs (stm 9 f_law_spelled.body)) [some (.tup t),some (t.getD 0 .none),none,none] M Q:=by
 have l1:=(flW_len a z_abstract).app (Ln.k (a:=[PV.str z_new]) (n:=1) rfl)
 have fin:Q (.list ((flW a z_abstract++[.str z_new])++W ss)) M:=by
  rw [W_app,W_cons,W_fl] at q
  rw [List.append_assoc]
  exact q
 rcases ht with rfl | rfl <;> cases a <;>
 ·refine IteP.mk (and2 (by decide) (and2 (lk rfl) ?_))
  refine w_sub P hs _ _ _ ?_
  exact and2 (Ln.lk l1 hs.len.w rfl) fin
theorem w_spelled (P:Pg C) {v ts} (h:TDef v ts) (q:∀ ts',TDef v ts'→Q (.list (W ts')) M):CallOk C (d + 12) (.fn 114) [.tup v] M Q:=by
 cases h with
 | enum l ts h =>
  refine cl P rfl rfl (((and2 h.nlen (c_lits P h fun r hr=>hr _ _ _ ?_))))
  refine and2 (Ln.lk (Ln.k (n:=1) rfl) h.len.w rfl) (and2 (Ln.lk (Ln.cons h.len.w) (Ln.k (n:=1) rfl) rfl) ?_)
  have:=q _ (.enum l ts h)
  rw [W_app,W_cons] at this
  exact this
 | int e ts h =>
  refine cl P rfl rfl ((((w_ext P h).up 7 _ _ _ ?_)))
  exact and2 (Ln.lk (Ln.k (n:=1) rfl) h.len.w rfl) (q _ (.int e ts h))
 | mod v ts h =>
  refine cl P rfl rfl ((((w_val P h).up 8 _ _ _ ?_)))
  exact and2 (Ln.lk (Ln.k (n:=1) rfl) h.len.w rfl) (q _ (.mod v ts h))
 | fix0 v ts h =>
  refine cl P rfl rfl ((((w_val P h).up 8 _ _ _ ?_)))
  refine and2 (Ln.lk (Ln.k (n:=1) rfl) h.len.w rfl) (IteP.mk ((and2 (Ln.lk (Ln.cons h.len.w) (Ln.k (n:=0) rfl) rfl) ?_)))
  have:=q _ (.fix0 v ts h)
  rw [W_cons] at this
  show Q (.list ((_ :: W ts)++[])) M
  rw [List.append_nil]
  exact this
 | fix1 v ts e us h k =>
  refine cl P rfl rfl ((((w_val P h).up 8 _ _ _ ?_)))
  refine and2 (Ln.lk (Ln.k (n:=1) rfl) h.len.w rfl) (IteP.mk ((((w_ext P k).up 7 _ _ _ ?_))))
  refine and2 (Ln.lk (Ln.k (n:=1) rfl) k.len.w rfl) (and2 (Ln.lk (Ln.cons h.len.w) (Ln.cons k.len.w) rfl) ?_)
  have:=q _ (.fix1 v ts e us h k)
  rw [W_app] at this
  exact this
 | arrB l ts al s us h hal k =>
  refine cl P rfl rfl (((and2 h.nlen (c_disl (d:=d + 5) P h fun r hr=>hr _ _ _ ?_))))
  have l1:Ln 42 ([PV.str z_array,.str o_lp]++W ts):=(Ln.k (n:=2) rfl).app h.len.w
  refine and2 (Ln.lk (Ln.k (n:=2) rfl) h.len.w rfl) (and2 (Ln.lk l1 (Ln.k (n:=3) rfl) rfl) (((w_sub P k).up 5 _ _ _ ?_)))
  refine and2 (Ln.lk (l1.app (Ln.k (n:=3) rfl)) k.len.w rfl) ?_
  have:=q _ (.arrB l ts [.wd z_aliased] s us h .so k)
  rw [W_app,W_app] at this
  exact this
 | arrU l ts al s us h hal k =>
  refine cl P rfl rfl (((and2 h.nlen (c_markl (d:=d + 5) P h fun r hr=>hr _ _ _ ?_))))
  have l1:Ln 42 ([PV.str z_array,.str o_lp]++W ts):=(Ln.k (n:=2) rfl).app h.len.w
  refine and2 (Ln.lk (Ln.k (n:=2) rfl) h.len.w rfl) (and2 (Ln.lk l1 (Ln.k (n:=3) rfl) rfl) (((w_sub P k).up 5 _ _ _ ?_)))
  refine and2 (Ln.lk (l1.app (Ln.k (n:=3) rfl)) k.len.w rfl) ?_
  have:=q _ (.arrU l ts [.wd z_aliased] s us h .so k)
  rw [W_app,W_app] at this
  exact this
 | rcd t l a v ts h hat=>exact w_rec (d:=d + 1) P h fun us h'=>q _ (.rcd _ _ _ _ _ h' hat)
 | acc s ts m ms h hm =>
  cases hm
  ·refine cl P rfl rfl ((IteP.mk ((and2 (lk rfl) (((w_sub P h).up 5 _ _ _ ?_))))))
   exact and2 (Ln.lk (Ln.k (n:=1) rfl) h.len.w rfl) (q _ (.acc _ _ _ _ h .m0))
  ·refine cl P rfl rfl ((IteP.mk (((and2 (lk rfl) (((w_sub P h).up 5 _ _ _ ?_)))))))
   exact and2 (Ln.lk (Ln.k (n:=2) rfl) h.len.w rfl) (q _ (.acc _ _ _ _ h .m1))
  ·refine cl P rfl rfl ((IteP.mk (((and2 (lk rfl) (((w_sub P h).up 5 _ _ _ ?_)))))))
   exact and2 (Ln.lk (Ln.k (n:=2) rfl) h.len.w rfl) (q _ (.acc _ _ _ _ h .m2))
 | der0 a s ts h =>
  refine cl P rfl rfl (?_)
  refine ss_asg (env:=[some (.tup [.str z_derived,.tup s,.none,.bool a]),some (.str z_derived),none,none]) (w_fix (d:=d + 5) P (x:=.none) h ?_ (.inl rfl))
  have l1:Ln 18 (fl a z_abstract++.wd z_new :: ts):=((fl_len a z_abstract).app h.len.cons)
  refine IteP.mk ((and2 (Ln.lk l1.w (Ln.k (n:=0) rfl) rfl) ?_))
  show Q (.list (W _++[])) M
  rw [List.append_nil]
  exact q _ (.der0 _ _ _ h)
 | der1 a s ts r us h k =>
  refine cl P rfl rfl (?_)
  refine ss_asg (env:=[some (.tup [.str z_derived,.tup s,.tup r,.bool a]),some (.str z_derived),none,none]) (w_fix (d:=d + 5) P (x:=.tup r) h ?_ (.inl rfl))
  have l1:Ln 18 (fl a z_abstract++.wd z_new :: ts):=((fl_len a z_abstract).app h.len.cons)
  refine IteP.mk ((?_))
  refine w_rec P k fun us' k'=>?_
  have l2:Ln 2000 (fl false z_abstract++fl false z_tagged++fl false z_limited++us'):=k'.len
  refine and2 (Ln.lk (Ln.k (n:=1) rfl) l2.w rfl) (and2 (Ln.lk l1.w (Ln.cons l2.w) rfl) ?_)
  have:=q _ (.der1 _ _ _ _ _ h k')
  rw [W_app] at this
  exact this
 | ext a s ts h =>
  refine cl P rfl rfl (?_)
  refine ss_asg (env:=[some (.tup [.str z_extension,.tup s,.bool a]),some (.str z_extension),none,none]) (w_fix (d:=d + 5) P (x:=.none) h ?_ (.inr rfl))
  have l1:Ln 18 (fl a z_abstract++.wd z_new :: ts):=((fl_len a z_abstract).app h.len.cons)
  refine and2 (Ln.lk l1.w (Ln.k (n:=2) rfl) rfl) ?_
  have:=q _ (.ext _ _ _ h)
  rw [W_app] at this
  exact this
 | priv t l a hat =>
  refine cl P rfl rfl (((((P.zp _ _ _ _ _ _ ?_)))))
  refine and2 (Ln.lk (((flW_len a z_abstract).app (flW_len t z_tagged)).app (flW_len l z_limited)) (Ln.k (n:=1) rfl) rfl) ?_
  have:=q _ (.priv t l a hat)
  rw [W_app,W_app,W_app,W_fl,W_fl,W_fl] at this
  exact this
theorem w_row (P:Pg C) {v ts} (h:TRow v ts) (q:Q (.list (W ts)) M):CallOk C (d + 7) (.fn 111) [.tup v,.bool false] M Q:=by
 cases h with
 | row n ns m ms f fs hn hm hf =>
  refine w_dec P hn (w_sub P (.no _ _ hm)) (hm.len.le rfl) hf ?_
  rw [List.append_assoc ns]
  exact q
theorem TRow.len {v ts} (h:TRow v ts):Ln 20 ts:=by
 cases h with
 | row n ns m ms f fs hn hm hf=>exact ((hn.len.app hm.len.cons).app hf.len).le rfl
mutual
theorem okD_mono:∀ {n m:Nat} {x:PV},n ≤ m→okD n x=true→okD m x=true
 | n,m,.none,_,_=>by cases m <;> rfl
 | n,m,.bool _,_,_=>by cases m <;> rfl
 | n,m,.int _,_,_=>by cases m <;> rfl
 | n,m,.str s,_,h=>by cases m <;> cases n <;> exact h
 | 0,m,.tup l,_,h=>by cases h
 | n + 1,m + 1,.tup l,hl,h=>okDs_mono (x:=l) (Nat.le_of_succ_le_succ hl) h
 | 0,m,.list l,_,h=>by cases h
 | n + 1,m + 1,.list l,hl,h=>okDs_mono (x:=l) (Nat.le_of_succ_le_succ hl) h
 | n,m,.mref _,_,h=>by cases n <;> cases h
 | n,m,.fn _,_,h=>by cases n <;> cases h
 | n,m,.bi _,_,h=>by cases n <;> cases h
 | n,m,.dict _ _,_,h=>by cases n <;> cases h
 | n,m,.cls,_,h=>by cases n <;> cases h
theorem okDs_mono:∀ {n m:Nat} {x:List PV},n ≤ m→okDs n x=true→okDs m x=true
 | n,m,[],_,_=>by cases m <;> rfl
 | n,m,x :: xs,hl,h=>by
  have e:okDs n (x :: xs)=(okD n x && okDs n xs):=by cases n <;> rfl
  rw [e,Bool.and_eq_true] at h
  exact okc (okD_mono hl h.1) (okDs_mono hl h.2)
end
theorem box_f {l:List PV} {M:Mem} (h:okD 30 (.list l)=true):cmpv .eq (.list l) (.str z_box) M=some false:=by
 have h':okD 60 (.list l)=true:=okD_mono (by decide) h
 show (if okD 60 (.list l) && true then some false else none)=_
 rw [h']; rfl
theorem w_discs (P:Pg C) {v ts} (h:TDiscs v ts) (q:Q (.list (W ts)) M):CallOk C (d + 8) (.fn 115) [v] M Q:=by
 have hd:=h.okD
 cases h with
 | no=>exact cl P rfl rfl q
 | box=>exact cl P rfl rfl q
 | one v ts h =>
  refine cl P rfl rfl ?_
  refine ss_ifc (t:=.cmp .eq (.loc 0) (.cst (.str z_box))) (env:=[some (.list [.tup v])]) false (fun K k=>show opt (cmpv .eq (.list [.tup v]) (.str z_box) M) fun b=>K b M from c_op (box_f hd) k) ?_
  refine and2 (lk rfl) (IteP.mk ((w_row P h ((w_bet1 P (h.len.w.le rfl) ?_)))))
  refine and2 (Ln.lk (Ln.k (n:=1) rfl) h.len.w rfl) (and2 (Ln.lk (Ln.cons h.len.w) (Ln.k (n:=1) rfl) rfl) ?_)
  rw [W_app,W_cons] at q
  exact q
 | two v ts w us h k =>
  refine cl P rfl rfl ?_
  refine ss_ifc (t:=.cmp .eq (.loc 0) (.cst (.str z_box))) (env:=[some (.list [.tup v,.tup w])]) false (fun K k=>show opt (cmpv .eq (.list [.tup v,.tup w]) (.str z_box) M) fun b=>K b M from c_op (box_f hd) k) ?_
  refine and2 (lk rfl) (IteP.mk ((w_row P h ((w_row P k ((w_bet2 P (h.len.w.le rfl) (k.len.w.le rfl) ?_)))))))
  have l1:Ln 41 ((W ts++[PV.str o_sc])++W us):=(h.len.w.app (Ln.k (n:=1) rfl)).app k.len.w
  refine and2 (Ln.lk (Ln.k (n:=1) rfl) l1 rfl) (and2 (Ln.lk (Ln.cons l1) (Ln.k (n:=1) rfl) rfl) ?_)
  rw [W_app,W_app,W_cons,W_cons] at q
  show Q (.list ((_ :: ((W ts++[_])++W us))++[_])) M
  rw [List.append_assoc (W ts)]
  exact q
end
inductive Im where
 | gap (c:Nat)
 | rem (s:List Nat)
 | tk (t:Tk)
noncomputable def Im.text:Im→List Nat
 | .gap c=>[c]
 | .rem s=>s++[10]
 | .tk t=>t.text
noncomputable def flat:List Im→List Nat
 | []=>[]
 | i :: is=>i.text++flat is
noncomputable def toks:List Im→List Tk
 | []=>[]
 | .tk t :: is=>t :: toks is
 | .gap _ :: is=>toks is
 | .rem _ :: is=>toks is
theorem flat_app:∀ a b:List Im,flat (a++b)=flat a++flat b
 | [],b=>rfl
 | i :: is,b=>by show i.text++flat (is++b)=(i.text++flat is)++flat b; rw [flat_app is b,List.append_assoc]
theorem toks_app:∀ a b:List Im,toks (a++b)=toks a++toks b
 | [],b=>rfl
 | .tk t :: is,b=>congrArg (t :: ·) (toks_app is b)
 | .gap _ :: is,b=>toks_app is b
 | .rem _ :: is,b=>toks_app is b
inductive Sx where
 | F | P | N | A | R
 deriving DecidableEq
noncomputable def opTo (s:List Nat):Option Sx:=match s with
 | [40]=>some .F
 | [44]=>some .F
 | [59]=>some .F
 | [124]=>some .F
 | [41]=>some .P
 | [58]=>some .R
 | [46]=>some .R
 | [61,62]=>some .F
 | [46,46]=>some .F
 | [58,61]=>some .F
 | [60,62]=>some .F
 | _=>none
noncomputable def opIn (s:List Nat):Option Sx:=match s with
 | [40]=>some .F
 | [44]=>some .F
 | [59]=>some .F
 | [41]=>some .P
 | _=>none
noncomputable def isAll (s:List Nat):Bool:=s == z_all
noncomputable def wdTo (s:List Nat):Sx:=match isAll s with
 | true=>.N
 | false=>.A
noncomputable def dl (s:Sx) (t:Tk):Option Sx:=match s with
 | .F=>match t with
  | .nm _=>some .N
  | .wd s=>some (wdTo s)
  | .int _=>some .A
  | .chr _=>some .F
  | .op s=>opTo s
 | .P=>match t with
  | .nm _=>some .N
  | .wd s=>some (wdTo s)
  | .int _=>some .A
  | .chr _=>none
  | .op s=>match s with
   | [39]=>some .F
   | s=>opTo s
 | .N=>match t with
  | .op s=>match s with
   | [39]=>some .F
   | s=>opIn s
  | _=>none
 | .A=>match t with
  | .op s=>opIn s
  | _=>none
 | .R=>none
noncomputable def gp:Sx→Sx
 | .F=>.F
 | .P=>.P
 | .N=>.P
 | .A=>.F
 | .R=>.F
noncomputable def gapOk (c:Nat):Bool:=Nat.beq c 32 || Nat.beq c 10
noncomputable def remOk (s:List Nat):Bool:=([45,45]:List Nat).isPrefixOf s && s.all fun c=>Nat.blt 31 c && Nat.blt c 127
noncomputable def run:Sx→List Im→Option Sx
 | s,[]=>some s
 | s,.gap c :: is=>match gapOk c with
  | true=>run (gp s) is
  | false=>none
 | s,.rem x :: is=>match remOk x with
  | true=>match s with
   | .F=>run .F is
   | .P=>run .P is
   | _=>none
  | false=>none
 | s,.tk t :: is=>match dl s t with
  | some s=>run s is
  | none=>none
theorem run_app:∀ {s e:Sx} {a b:List Im},run s a=some e→run s (a++b)=run e b
 | s,e,[],b,h=>by cases h; rfl
 | s,e,.gap c :: is,b,h=>by
  show (match gapOk c with | true=>run (gp s) (is++b) | false=>none)=_
  replace h:(match gapOk c with | true=>run (gp s) is | false=>none)=some e:=h
  cases hd:gapOk c with
  | false=>rw [hd] at h; cases h
  | true=>rw [hd] at h; exact run_app (a:=is) h
 | s,e,.rem x :: is,b,h=>by
  show (match remOk x with | true=>(match (generalizing:=false) s with | .F=>run .F (is++b) | .P=>run .P (is++b) | _=>none) | false=>none)=_
  replace h:(match remOk x with | true=>(match (generalizing:=false) s with | .F=>run .F is | .P=>run .P is | _=>none) | false=>none)=some e:=h
  cases hd:remOk x with
  | false=>rw [hd] at h; cases h
  | true =>
   rw [hd] at h
   cases s <;> first | exact run_app (a:=is) h | cases h
 | s,e,.tk t :: is,b,h=>by
  show (match dl s t with | some s=>run s (is++b) | none=>none)=_
  replace h:(match dl s t with | some s=>run s is | none=>none)=some e:=h
  cases hd:dl s t with
  | none=>rw [hd] at h; cases h
  | some s'=>rw [hd] at h; exact run_app (a:=is) h
structure Sp (n:Nat) (s e:Sx) (x:List Nat) (ts:List Tk):Prop where
 ex:∃ is,flat is=x∧toks is=ts∧run s is=some e
 len:Ln n x
 ok:okD 0 (.str x)=true
theorem ok_app {x y:List Nat} (h:okD 0 (.str x)=true) (k:okD 0 (.str y)=true):okD 0 (.str (x++y))=true:=by
 show (x++y).all _=true
 rw [List.all_append]
 exact (Bool.and_eq_true _ _).mpr ⟨h,k⟩
theorem Sp.app {n m s e g x y ts us} (h:Sp n s e x ts) (k:Sp m e g y us):Sp (n + m) s g (x++y) (ts++us):=by
 obtain ⟨is,rfl,rfl,h3⟩:=h.ex
 obtain ⟨js,rfl,rfl,k3⟩:=k.ex
 exact ⟨⟨is++js,flat_app _ _,toks_app _ _,(run_app h3).trans k3⟩,h.len.app k.len,ok_app h.ok k.ok⟩
noncomputable def spd:List Tk→List Im
 | []=>[]
 | t :: ts=>match ts with
  | []=>[.tk t]
  | _ :: _=>.tk t :: .gap 32 :: spd ts
theorem toks_spd:∀ ts,toks (spd ts)=ts
 | []=>rfl
 | [t]=>rfl
 | t :: u :: ts=>congrArg (t :: ·) (toks_spd (u :: ts))
theorem flat_spd:∀ ts:List Tk,flat (spd ts)=joinL [32] (ts.map Tk.text)
 | []=>rfl
 | [t]=>List.append_nil _
 | t :: u :: ts=>by
  show t.text++([32]++flat (spd (u :: ts)))=t.text++[32]++joinL [32] ((u :: ts).map Tk.text)
  rw [flat_spd (u :: ts),List.append_assoc]
noncomputable def nt:List Nat→Bool
 | []=>true
 | c :: r=>!([32,39,32]:List Nat).isPrefixOf (c :: r) && nt r
theorem repl_id:∀ (n:Nat) (s:List Nat),nt s=true→replL [32,39,32] [39] n s=s
 | 0,s,_=>rfl
 | n + 1,[],_=>rfl
 | n + 1,c :: r,h=>by
  have h':(!([32,39,32]:List Nat).isPrefixOf (c :: r) && nt r)=true:=h
  rw [Bool.and_eq_true,Bool.not_eq_true'] at h'
  show (if ([32,39,32]:List Nat).isPrefixOf (c :: r) then _ else c :: replL _ _ n r)=_
  rw [h'.1,if_neg (by decide),repl_id n r h'.2]
theorem nt_cons {c:Nat} {r:List Nat} (hc:c ≠ 32) (h:nt r=true):nt (c :: r)=true:=by
 show (!((32 == c) && _) && nt r)=true
 rw [beq_eq_false_iff_ne.mpr (Ne.symm hc),h]; rfl
theorem nt_app:∀ {a r:List Nat},(∀ c ∈ a,c ≠ 32)→nt r=true→nt (a++r)=true
 | [],r,_,h=>h
 | c :: a,r,ha,h=>nt_cons (ha c (by simp)) (nt_app (fun x hx=>ha x (by simp [hx])) h)
structure Tame (t:Tk):Prop where
 no:∀ c ∈ t.text,c ≠ 32
 ne:t.text ≠ [39]
 some:t.text ≠ []
theorem nt_join:∀ {ts:List Tk},(∀ t ∈ ts,Tame t)→nt (joinL [32] (ts.map Tk.text))=true
 | [],_=>rfl
 | [t],h=>by
  have:=nt_app (a:=t.text) (r:=[]) (h t (by simp)).no rfl
  rwa [List.append_nil] at this
 | t :: u :: ts,h=>by
  have ih:=nt_join (ts:=u :: ts) fun x hx=>h x (by simp at hx ⊢; exact .inr hx)
  show nt (t.text++[32]++joinL [32] ((u :: ts).map Tk.text))=true
  rw [List.append_assoc]
  refine nt_app (h t (by simp)).no ?_
  have hu:=h u (by simp)
  have e:∃ r,joinL [32] ((u :: ts).map Tk.text)=u.text++r:=by
   cases ts with
   | nil=>exact ⟨[],(List.append_nil _).symm⟩
   | cons v ts=>exact ⟨_,List.append_assoc _ _ _⟩
  obtain ⟨r,e⟩:=e
  rw [e] at ih ⊢
  have h1:=hu.no
  have h2:=hu.ne
  have h3:=hu.some
  revert h1 h2 h3 ih
  generalize u.text=x
  intro ih h1 h2 h3
  match x,h1,h2,h3,ih with
  | [],_,_,h3,_=>exact absurd rfl h3
  | c :: x,h1,h2,_,ih =>
   show (!((32 == 32) && ((39 == c) && ([32]:List Nat).isPrefixOf (x++r))) && nt (c :: x++r))=true
   rw [ih]
   by_cases hc:c=39
   ·subst hc
    match x,h1,h2 with
    | [],_,h2=>exact absurd rfl h2
    | y :: x,h1,_ =>
     show (!((32 == 32) && ((39 == 39) && ((32 == y) && _))) && true)=true
     rw [beq_eq_false_iff_ne.mpr (Ne.symm (h1 y (by simp)))]; rfl
   ·rw [beq_eq_false_iff_ne.mpr (Ne.symm hc)]; rfl
noncomputable def tameB (s:List Nat):Bool:=s.all (fun c=>!Nat.beq c 32) && (!(s == [39]) && (!s.isEmpty && Nat.ble s.length 10))
noncomputable def Tk.tame (t:Tk):Bool:=tameB t.text
theorem tame_of {t:Tk} (h:t.tame=true):Tame t∧t.text.length ≤ 10:=by
 unfold Tk.tame tameB at h
 rw [Bool.and_eq_true,Bool.and_eq_true,Bool.and_eq_true,List.all_eq_true] at h
 obtain ⟨h1,h2,h3,h4⟩:=h
 refine ⟨⟨fun c hc e=>?_,fun e=>?_,fun e=>?_⟩,Nat.le_of_ble_eq_true h4⟩
 ·have:=h1 c hc
  rw [e] at this; cases this
 ·rw [e] at h2; cases h2
 ·rw [e] at h3; cases h3
theorem tame_cons {t:Tk} {b:List Tk} (h:t.tame=true) (k:b.all Tk.tame=true):(t :: b).all Tk.tame=true:=by
 rw [List.all_cons,h,k]; rfl
theorem tame_app {a b:List Tk} (h:a.all Tk.tame=true) (k:b.all Tk.tame=true):(a++b).all Tk.tame=true:=by
 rw [List.all_append,h,k]; rfl
theorem tame_int:∀ k:Fin 100,Tk.tame (.int k.val)=true:=by decide +kernel
theorem tame_chr:∀ k:Fin 130,32 < k.val→Tk.tame (.chr k.val)=true:=by decide +kernel
theorem TVal.tame {v ts} (h:TVal v ts):ts.all Tk.tame=true:=by
 cases h with
 | int k h=>exact tame_cons (tame_int ⟨k,Nat.lt_trans h (by decide)⟩) rfl
 | chr k h=>exact tame_cons (tame_chr ⟨97 + k,Nat.lt_trans (Nat.add_lt_add_left h 97) (by decide)⟩ (Nat.lt_of_lt_of_le (by decide) (Nat.le_add_right 97 k))) rfl
 | _=>rfl
theorem TMark.tame {v ts} (h:TMark v ts):ts.all Tk.tame=true:=by cases h <;> rfl
theorem sum_le:∀ {ts:List Tk},ts.all Tk.tame=true→((ts.map Tk.text).map List.length).sum ≤ 10 * ts.length∧(joinL [32] (ts.map Tk.text)).length ≤ 11 * ts.length
 | [],_=>⟨Nat.le_refl _,Nat.le_refl _⟩
 | [t],h=>by
  rw [List.all_cons,Bool.and_eq_true] at h
  have:=(tame_of h.1).2
  exact ⟨this,Nat.le_succ_of_le this⟩
 | t :: u :: ts,h=>by
  rw [List.all_cons,Bool.and_eq_true] at h
  have h1:=(tame_of h.1).2
  obtain ⟨h2,h3⟩:=sum_le (ts:=u :: ts) h.2
  refine ⟨?_,?_⟩
  ·show t.text.length + (((u :: ts).map Tk.text).map List.length).sum ≤ 10 * ((u :: ts).length + 1)
   rw [Nat.mul_succ,Nat.add_comm]
   exact Nat.add_le_add h2 h1
  ·show (t.text++[32]++joinL [32] ((u :: ts).map Tk.text)).length ≤ 11 * ((u :: ts).length + 1)
   rw [List.length_append,List.length_append,Nat.mul_succ,Nat.add_comm]
   exact Nat.add_le_add h3 (Nat.succ_le_succ h1)
theorem join_ok:∀ {ts:List Tk},ts.all Tk.ok=true→okD 0 (.str (joinL [32] (ts.map Tk.text)))=true
 | [],_=>rfl
 | [t],h=>ok_chars ((Bool.and_eq_true _ _).mp h).1
 | t :: u :: ts,h=>by
  obtain ⟨h1,h2⟩:=(Bool.and_eq_true _ _).mp h
  exact ok_app (ok_app (ok_chars h1) rfl) (join_ok h2)
theorem strs_W:∀ ts:List Tk,strsOf (W ts)=some (ts.map Tk.text)
 | []=>rfl
 | t :: ts=>by
  show (strsOf (W ts)).map (t.text :: ·)=_
  rw [strs_W ts]; rfl
theorem all_tame {ts:List Tk} (h:ts.all Tk.tame=true):∀ t ∈ ts,Tame t:=fun t ht=>(tame_of (List.all_eq_true.mp h t ht)).1
section
variable {C:Cx} {M:Mem} {Q:PV→Mem→Prop} {d:Nat}
theorem jrep_tame {ts:List Tk} (h:ts.all Tk.tame=true) (hl:Ln 100 ts) (q:Q (.str (joinL [32] (ts.map Tk.text))) M) :
  opt ((items (.list (W ts)) M).bind strsOf) fun l=>((l.map List.length).sum + l.length * ([32]:List Nat).length ≤ 1000000)∧replP [32,39,32] [39] (.str (joinL [32] l)) fun v=>Q v M:=by
 have e:(items (.list (W ts)) M).bind strsOf=some (ts.map Tk.text):=strs_W ts
 rw [e]
 obtain ⟨h1,h2⟩:=sum_le h
 have hl':ts.length ≤ 100:=hl
 refine ⟨?_,⟨?_,by decide,by decide,by decide⟩,?_⟩
 ·rw [List.length_map]
  exact Nat.le_trans (Nat.add_le_add (Nat.le_trans h1 (Nat.mul_le_mul_left 10 hl')) (Nat.mul_le_mul_right 1 hl')) (by decide)
 ·exact Nat.le_trans (Nat.le_trans h2 (Nat.mul_le_mul_left 11 hl')) (by decide)
 ·rw [repl_id _ _ (nt_join (all_tame h))]
  exact q
theorem s_show (P:Pg C) {k:Nat} {v ts} (hw:Words C k v ts) (h:ts.all Tk.tame=true) (hl:Ln 100 ts) (q:Q (.str (joinL [32] (ts.map Tk.text))) M):CallOk C (d + k + 1) (.fn 116) [.tup v] M Q :=
 cl P rfl rfl (hw _ _ _ (jrep_tame (Q:=fun v M=>retK Q (.ret v) [] M) h hl q))
noncomputable def Shown (C:Cx) (k n:Nat) (s:Sx) (v:List PV) (ts:List Tk):Prop:=∀ (d:Nat) (M:Mem) (Q:PV→Mem→Prop),(∀ x e,e ≠ .R→Sp n s e x ts→Q (.str x) M)→CallOk C (d + k) (.fn 116) [.tup v] M Q
theorem shown (P:Pg C) {k n:Nat} {s e:Sx} {v ts} (hw:Words C k v ts) (h:ts.all Tk.tame=true) (hl:Ln 100 ts) (hr:run s (spd ts)=some e) (he:e ≠ .R) (hn:Ln n (joinL [32] (ts.map Tk.text))) (ho:ts.all Tk.ok=true):Shown C (k + 1) n s v ts:=fun d M Q q =>
 s_show P hw h hl (q _ e he ⟨⟨spd ts,flat_spd ts,toks_spd ts,hr⟩,hn,join_ok ho⟩)
end
theorem TVal.run {v ts} (h:TVal v ts):∃ e,run .F (spd ts)=some e∧e ≠ Sx.R:=by cases h <;> exact ⟨_,rfl,nofun⟩
theorem TMark.run {v ts} {s:Sx} (h:TMark v ts) (hs:s = .F∨s = .P):∃ e,Mine.run s (spd ts)=some e∧e ≠ Sx.R:=by
 rcases hs with rfl | rfl <;> cases h <;> exact ⟨_,rfl,nofun⟩
theorem spd_cons {t:Tk} {us:List Tk} (h:us ≠ []):spd (t :: us) = .tk t :: .gap 32 :: spd us:=by
 cases us with
 | nil=>exact absurd rfl h
 | cons u us=>rfl
theorem join_len {ts:List Tk} {n:Nat} (h:ts.all Tk.tame=true) (k:Ln n ts):Ln (11 * n) (joinL [32] (ts.map Tk.text)):=Nat.le_trans (sum_le h).2 (Nat.mul_le_mul_left 11 k)
theorem run_rg {k:Nat} {ts} {v} (h:TVal v ts):∃ e,run .F (spd (.int k :: .op o_dd :: ts))=some e∧e ≠ Sx.R:=by
 obtain ⟨e,hr,he⟩:=h.run
 refine ⟨e,?_,he⟩
 show run .F (.tk _ :: .gap 32 :: Mine.spd (_ :: ts))=_
 rw [spd_cons h.ne]
 exact hr
section
variable {C:Cx} {M:Mem} {Q:PV→Mem→Prop} {d:Nat}
theorem sh_val (P:Pg C) {v ts} (h:TVal v ts):Shown C 4 44 .F v ts:=by
 obtain ⟨e,hr,he⟩:=h.run
 exact shown P (w_val P h) h.tame (h.len.le rfl) hr he (join_len h.tame h.len) h.ok
theorem sh_mark (P:Pg C) {v ts} {s:Sx} (h:TMark v ts) (hs:s = .F∨s = .P):Shown C 3 33 s v ts:=by
 obtain ⟨e,hr,he⟩:=h.run hs
 exact shown P (w_mark P h) h.tame (h.len.le rfl) hr he (join_len h.tame h.len) h.ok
theorem sh_range (P:Pg C) {k:Nat} {v ts} (hk:k < 100) (h:TVal v ts):Shown C 5 66 .F (vRange (vInt k) v) (.int k :: .op o_dd :: ts):=by
 obtain ⟨e,hr,he⟩:=run_rg (k:=k) h
 have ht:(Tk.int k :: .op o_dd :: ts).all Tk.tame=true:=tame_cons (tame_int ⟨k,hk⟩) (tame_cons rfl h.tame)
 exact shown P (w_range P (Nat.lt_trans hk (by decide)) (w_val P h) (h.len.le rfl)) ht (h.len.cons.cons.le rfl) hr he (join_len ht h.len.cons.cons) (all_cons (ok_int hk) (all_cons rfl h.ok))
theorem rep0:replL [32,39,32] [39] (joinL [32] [z_v,o_tk,z_range]).length (joinL [32] [z_v,o_tk,z_range])=flat [.tk (.nm z_v),.tk (.op o_tk),.tk (.wd z_range)]:=by decide +kernel
theorem rep1:replL [32,39,32] [39] (joinL [32] [z_v,o_tk,z_range,o_lp,dec 2,o_rp]).length (joinL [32] [z_v,o_tk,z_range,o_lp,dec 2,o_rp])=flat [.tk (.nm z_v),.tk (.op o_tk),.tk (.wd z_range),.gap 32,.tk (.op o_lp),.gap 32,.tk (.int 2),.gap 32,.tk (.op o_rp)]:=by decide +kernel
theorem sh_ext (P:Pg C) {v ts} (h:TExt v ts):Shown C 5 66 .F v ts:=by
 cases h with
 | t0 =>
  intro d M Q q
  refine cl P rfl rfl (w_ext P .t0 _ _ _ ⟨by decide,⟨by decide,by decide,by decide,by decide⟩,?_⟩)
  refine q _ .A nofun ?_
  exact ⟨⟨_,rep0.symm,rfl,rfl⟩,Ln.k (by decide +kernel),by decide +kernel⟩
 | t1 =>
  intro d M Q q
  refine cl P rfl rfl (w_ext P .t1 _ _ _ ⟨by decide +kernel,⟨by decide +kernel,by decide,by decide,by decide⟩,?_⟩)
  refine q _ .P nofun ?_
  exact ⟨⟨_,rep1.symm,rfl,rfl⟩,Ln.k (by decide +kernel),by decide +kernel⟩
 | rg k v ts hk h=>exact sh_range P (Nat.lt_trans hk (by decide)) h
theorem sh_p1 (P:Pg C) {v ts} (h:TVal v ts) (q:∀ x e,e ≠ .R→Sp 66 .F e x (.int 1 :: .op o_dd :: ts)→Q (.str x) M):CallOk C (d + 6) (.fn 117) [.list (vAp1 v)] M Q:=by
 obtain ⟨e,hr,he⟩:=run_rg (k:=1) h
 have ht:(Tk.int 1 :: .op o_dd :: ts).all Tk.tame=true:=tame_cons (tame_int ⟨1,by decide⟩) (tame_cons rfl h.tame)
 have hl:Ln 6 (Tk.int 1 :: .op o_dd :: ts):=h.len.cons.cons
 refine cl P rfl rfl (w_one (d:=d) P (w_range P (i:=1) (by decide) (w_val P h) (h.len.le rfl)) (hl.le rfl) ?_)
 exact jrep_tame (Q:=fun v M=>retK Q (.ret v) [] M) ht (hl.le rfl) (q _ e he ⟨⟨_,flat_spd _,toks_spd _,hr⟩,join_len ht hl,join_ok (all_cons (ok_int (by decide)) (all_cons rfl h.ok))⟩)
theorem spd_app:∀ {t u:Tk} {ts us:List Tk},spd (t :: ts++u :: us)=spd (t :: ts)++.gap 32 :: spd (u :: us)
 | t,u,[],us=>rfl
 | t,u,x :: ts,us=>congrArg (fun y=>Im.tk t :: Im.gap 32 :: y) (spd_app (t:=x) (ts:=ts))
theorem run_p2 {v ts w us} (h:TVal v ts) (k:TVal w us):∃ e,run .F (spd (ts++.op o_cm :: .nm z_size :: .op o_ar :: us))=some e∧e ≠ Sx.R:=by
 obtain ⟨e,hr,he⟩:=h.run
 obtain ⟨g,kr,hg⟩:=k.run
 refine ⟨g,?_,hg⟩
 have:∃ t r,ts=t :: r:=by
  cases ts with
  | nil=>exact absurd rfl h.ne
  | cons t r=>exact ⟨t,r,rfl⟩
 obtain ⟨t,r,rfl⟩:=this
 rw [spd_app,run_app hr]
 have e1:spd (.op o_cm :: .nm z_size :: .op o_ar :: us) = .tk (.op o_cm) :: .gap 32 :: .tk (.nm z_size) :: .gap 32 :: spd (.op o_ar :: us):=rfl
 rw [e1,spd_cons k.ne]
 cases e <;> first | exact kr | exact absurd rfl he
theorem sh_p2 (P:Pg C) {v ts w us} (h:TVal v ts) (k:TVal w us) (q:∀ x e,e ≠ .R→Sp 121 .F e x (ts++.op o_cm :: .nm z_size :: .op o_ar :: us)→Q (.str x) M):CallOk C (d + 6) (.fn 117) [.list (vAp2 v w)] M Q:=by
 obtain ⟨e,hr,he⟩:=run_p2 h k
 have ht:(ts++.op o_cm :: .nm z_size :: .op o_ar :: us).all Tk.tame=true:=tame_app h.tame (tame_cons rfl (tame_cons rfl (tame_cons rfl k.tame)))
 have hl:Ln 11 (ts++.op o_cm :: .nm z_size :: .op o_ar :: us):=h.len.app k.len.cons.cons.cons
 refine cl P rfl rfl (w_two (d:=d + 1) (k:=2) P (w_val P h) (h.len.le rfl) h.ok h.ne (w_val P k) (k.len.le rfl) ?_)
 exact jrep_tame (Q:=fun v M=>retK Q (.ret v) [] M) ht (hl.le rfl) (q _ e he ⟨⟨_,flat_spd _,toks_spd _,hr⟩,join_len ht hl,join_ok (all_app h.ok (all_cons rfl (all_cons rfl (all_cons rfl k.ok))))⟩)
noncomputable abbrev lst:PV:=.dict [z_show,z_assocs] [.fn 116,.fn 117]
theorem Shown.up {k n:Nat} {s:Sx} {v ts} (h:Shown C k n s v ts) (j:Nat):Shown C (j + k) n s v ts:=fun d M Q q=>by
 rw [← Nat.add_assoc]; exact h _ _ _ q
theorem Sp.le {n m s e x ts} (h:Sp n s e x ts) (k:Nat.ble n m=true):Sp m s e x ts:=⟨h.ex,h.len.le k,h.ok⟩
theorem Sp.lit {n:Nat} {s e:Sx} (is:List Im) {x ts} (h1:flat is=x) (h2:toks is=ts) (h3:Mine.run s is=some e) (h4:Nat.ble x.length n=true) (h5:okD 0 (.str x)=true):Sp n s e x ts:=⟨⟨is,h1,h2,h3⟩,Ln.k h4,h5⟩
theorem Sp.app' {n m s e g x y ts us vs} (h:Sp n s e x ts) (k:Sp m e g y us) (ev:ts++us=vs):Sp (n + m) s g (x++y) vs:=ev▸h.app k
theorem l_range {e:Sx} (he:e ≠ .R):Sp 7 e .F [32,114,97,110,103,101,32] [.wd z_range]:=by
 cases e <;> first | exact Sp.lit [.gap 32,.tk (.wd z_range),.gap 32] rfl rfl rfl rfl rfl | exact absurd rfl he
theorem l_lp {e:Sx} (he:e ≠ .R):Sp 1 e .F [40] [.op o_lp]:=by
 cases e <;> first | exact Sp.lit [.tk (.op o_lp)] rfl rfl rfl rfl rfl | exact absurd rfl he
theorem l_rp {e:Sx} (he:e ≠ .R):Sp 1 e .P [41] [.op o_rp]:=by
 cases e <;> first | exact Sp.lit [.tk (.op o_rp)] rfl rfl rfl rfl rfl | exact absurd rfl he
noncomputable def Rng (C:Cx) (k n:Nat) (s:Sx) (v:List PV) (ts:List Tk):Prop:=∀ (d:Nat) (M:Mem) (Q:PV→Mem→Prop),(∀ x e,e ≠ .R→Sp n s e x ts→Q (.str x) M)→CallOk C (d + k) (.fn 2) [lst,.tup v] M Q
theorem Rng.up {k n:Nat} {s:Sx} {v ts} (h:Rng C k n s v ts) (j:Nat):Rng C (j + k) n s v ts:=fun d M Q q=>by
 rw [← Nat.add_assoc]; exact h _ _ _ q
theorem rg_ext (P:Pg C) {v ts} (h:TExt v ts):Rng C 6 66 .F v ts:=fun d M Q q=>by
 cases h with
 | t0=>exact cl P rfl rfl (sh_ext P .t0 _ _ _ fun x e he hx=>q x e he hx)
 | t1=>exact cl P rfl rfl (sh_ext P .t1 _ _ _ fun x e he hx=>q x e he hx)
 | rg k v ts hk h=>exact cl P rfl rfl (sh_ext P (.rg k v ts hk h) _ _ _ fun x e he hx=>q x e he hx)
theorem rg_val (P:Pg C) {v ts} (h:TVal v ts):Rng C 5 44 .F v ts:=fun d M Q q=>by
 have g:=sh_val P h
 cases h <;> exact cl P rfl rfl (g _ _ _ fun x e he hx=>q x e he hx)
theorem rg_sub (P:Pg C) {v ts} {s:Sx} (h:TSub v ts) (hs:s = .F∨s = .P):Rng C 7 160 s v ts:=fun d M Q q=>by
 cases h with
 | no m ts h=>exact cl P rfl rfl ((sh_mark P h hs).up 3 _ _ _ fun x e he hx=>q x e he (hx.le rfl))
 | rg m ts e us h k =>
  refine cl P rfl rfl ((sh_mark P h hs).up 3 _ _ _ fun x e he hx=>and2 (Ln.lk hx.len (Ln.k (n:=7) rfl) rfl) ((sh_ext P k).up 1 _ _ _ fun y g hg hy=>?_))
  have hxy:=hx.app (l_range he)
  exact and2 (Ln.lk hxy.len hy.len rfl) (q _ _ hg ((hxy.app' hy (List.append_assoc ..)).le rfl))
 | a1 m ts v us h k =>
  refine cl P rfl rfl ((sh_mark P h hs).up 3 _ _ _ fun x e he hx=>and2 (Ln.lk hx.len (Ln.k (n:=1) rfl) rfl) (sh_p1 P k fun y g hg hy=>?_))
  have hxy:=hx.app (l_lp he)
  have h2:=hxy.app' hy (List.append_assoc ..)
  exact and2 (Ln.lk hxy.len hy.len rfl) (and2 (Ln.lk h2.len (Ln.k (n:=1) rfl) rfl) (q _ .P nofun ((h2.app (l_rp hg)).le rfl)))
 | a2 m ts v us w xs h k l =>
  refine cl P rfl rfl ((sh_mark P h hs).up 3 _ _ _ fun x e he hx=>and2 (Ln.lk hx.len (Ln.k (n:=1) rfl) rfl) (sh_p2 P k l fun y g hg hy=>?_))
  have hxy:=hx.app (l_lp he)
  have h2:=hxy.app' (vs:=ts++.op o_lp :: us++.op o_cm :: .nm z_size :: .op o_ar :: xs) hy (by simp only [List.append_assoc,List.cons_append,List.nil_append])
  exact and2 (Ln.lk hxy.len hy.len rfl) (and2 (Ln.lk h2.len (Ln.k (n:=1) rfl) rfl) (q _ .P nofun ((h2.app (l_rp hg)).le rfl)))
theorem rg_dis (P:Pg C) {v ts} (h:TDis v ts):Rng C 7 160 .F v ts:=fun d M Q q=>by
 cases h with
 | ext _ _ h=>exact (rg_ext P h).up 1 _ _ _ fun x e he hx=>q x e he (hx.le rfl)
 | no m ts h=>exact rg_sub P (.no _ _ h) (.inl rfl) _ _ _ q
 | rg m ts e us h k=>exact rg_sub P (.rg _ _ _ _ h k) (.inl rfl) _ _ _ q
end
noncomputable def Kpt (M M':Mem):Prop:=∀ a o,M a=some o→M' a=some o
theorem Kpt.refl (M:Mem):Kpt M M:=fun _ _ h=>h
theorem Kpt.trans {M M' M'':Mem} (h:Kpt M M') (k:Kpt M' M''):Kpt M M'':=fun a o e=>k a o (h a o e)
theorem Kpt.new {M M':Mem} {b:Nat} {o:MO} (h:M b=none) (k:Kpt M M'):Kpt M (M'.upd b o):=fun a x e=>by
 have:a ≠ b:=fun w=>by rw [w,h] at e; cases e
 rw [upd_ne this]; exact k a x e
section
variable {C:Cx} {M:Mem} {Q:PV→Mem→Prop} {d:Nat}
theorem sn_names (P:Pg C) {n ns} (h:TNames n ns) (q:∀ x,Sp 10 .F .N x ns→Q (.str x) M):CallOk C (d + 1) (.fn 4) [.list n] M Q:=by
 cases h with
 | n1=>exact cl P rfl rfl (and2 trivial (and2 (by decide) (q _ (Sp.lit [.tk (.nm z_a)] rfl rfl rfl rfl rfl))))
 | n2=>exact cl P rfl rfl (and2 trivial (and2 (by decide) (q _ (Sp.lit [.tk (.nm z_a),.tk (.op o_cm),.gap 32,.tk (.nm z_b_2)] rfl rfl rfl rfl rfl))))
 | n3=>exact cl P rfl rfl (and2 trivial (and2 (by decide) (q _ (Sp.lit [.tk (.nm z_a),.tk (.op o_cm),.gap 32,.tk (.nm z_b_2),.tk (.op o_cm),.gap 32,.tk (.nm z_c)] rfl rfl rfl rfl rfl))))
theorem l_as {e:Sx} (he:e ≠ .R):Sp 4 e .F [32,58,61,32] [.op o_as]:=by
 cases e <;> first | exact Sp.lit [.gap 32,.tk (.op o_as),.gap 32] rfl rfl rfl rfl rfl | exact absurd rfl he
theorem l_sc {e:Sx} (he:e ≠ .R):Sp 2 e .F [59,32] [.op o_sc]:=by
 cases e <;> first | exact Sp.lit [.tk (.op o_sc),.gap 32] rfl rfl rfl rfl rfl | exact absurd rfl he
theorem l_ar {e:Sx} (he:e ≠ .R):Sp 4 e .F [32,61,62,32] [.op o_ar]:=by
 cases e <;> first | exact Sp.lit [.gap 32,.tk (.op o_ar),.gap 32] rfl rfl rfl rfl rfl | exact absurd rfl he
theorem l_bar {e:Sx} (he:e ≠ .R):Sp 3 e .F [32,124,32] [.op o_bar]:=by
 cases e <;> first | exact Sp.lit [.gap 32,.tk (.op o_bar),.gap 32] rfl rfl rfl rfl rfl | exact absurd rfl he
theorem l_cm {e:Sx} (he:e ≠ .R):Sp 2 e .F [44,32] [.op o_cm]:=by
 cases e <;> first | exact Sp.lit [.tk (.op o_cm),.gap 32] rfl rfl rfl rfl rfl | exact absurd rfl he
theorem l_co:Sp 3 .N .F [32,58,32] [.op o_co]:=Sp.lit [.gap 32,.tk (.op o_co),.gap 32] rfl rfl rfl rfl rfl
theorem Sp.nil {s:Sx}:Sp 0 s s [] []:=Sp.lit [] rfl rfl rfl rfl rfl
theorem sn_dfl (P:Pg C) {f fs} (h:TDfl f fs) (q:∀ x,(∀ s,s ≠ Sx.R→∃ e,e ≠ Sx.R∧Sp 48 s e x fs)→Q (.str x) M):CallOk C (d + 5) (.fn 5) [lst,f] M Q:=by
 cases h with
 | no=>exact cl P rfl rfl (IteP.mk (q _ fun s hs=>⟨s,hs,Sp.nil.le rfl⟩))
 | so v ts h =>
  refine cl P rfl rfl (IteP.mk (sh_val P h _ _ _ fun x e he hx=>?_))
  exact and2 (Ln.lk (Ln.k (n:=4) rfl) hx.len rfl) (q _ fun s hs=>⟨e,he,(l_as hs).app hx⟩)
theorem rg_mark (P:Pg C) {v ts} {s:Sx} (h:TMark v ts) (hs:s = .F∨s = .P):Rng C 4 33 s v ts:=fun d M Q q=>by
 have g:=sh_mark P h hs
 cases h <;> exact cl P rfl rfl (g _ _ _ fun x e he hx=>q x e he hx)
theorem sn_kind (P:Pg C) {v ts} (h:TSub v ts) (q:∀ x e,e ≠ .R→Sp 160 .F e x ts→Q (.str x) M):CallOk C (d + 8) (.fn 7) [lst,.tup v] M Q:=by
 have g:=rg_sub P h (.inl rfl)
 cases h <;> exact cl P rfl rfl (g _ _ _ fun x e he hx=>q x e he hx)
theorem TAl.non {ns s:List Tk}:ns++.op o_co :: []++s=(ns++[.op o_co])++s:=rfl
noncomputable abbrev b_shc:Ss:=sbody (stm 1 f_show_components.body)
theorem s_comp1 (P:Pg C) {c ts} (h:TComp c ts) {x:List Nat} {l:List PV} {v:PV} {o5 o6 o4 o7 o8 o9:Option PV} (hx:Ln 1000 x) {K:Out→Lo→Mem→Prop}
  (q:∀ y ts' o4 o5 o6,TComp c ts'→y ≠ []→Sp 230 .F .F y ts'→K .next [some lst,some (.list l),some v,some (.str (x++y)),o4,o5,o6,o7,o8,o9] M) :
  opt (bindS (.inr [4,5,6]) (.tup c) [some lst,some (.list l),some v,some (.str x),o4,o5,o6,o7,o8,o9]) fun env=>wpSs C theG (d + 8) b_shc env M K:=by
 cases h with
 | mk n ns al s ss f fs h1 h2 h3 h4 =>
  refine sn_names P h1 fun y hy=>and2 (Ln.lk hy.len (Ln.k (n:=3) rfl) rfl) ?_
  have a1:=hy.app l_co
  refine sn_kind P h3 fun z e he hz=>and2 (Ln.lk a1.len hz.len rfl) ?_
  have a2:=a1.app hz
  refine sn_dfl P h4 fun w hw=>?_
  obtain ⟨g,hg,hw⟩:=hw e he
  have a3:=a2.app hw
  refine and2 (Ln.lk a2.len hw.len rfl) (and2 (Ln.lk a3.len (Ln.k (n:=2) rfl) rfl) ?_)
  have a4:=a3.app (l_sc hg)
  exact and2 (Ln.lk hx a4.len rfl) (q _ _ _ _ _ (.mk n ns [] s ss f fs h1 .no h3 h4) (List.append_ne_nil_of_right_ne_nil _ (List.cons_ne_nil _ _)) (a4.le rfl))
theorem s_comps (P:Pg C) {l ts} (h:TComps l ts) {v:PV} {K:Out→Lo→Mem→Prop} (q:∀ y ts' o4 o5 o6,TComps l ts'→(l ≠ []→y ≠ [])→(l=[]→y=[])→Sp 460 .F .F y ts'→K .next [some lst,some (.list l),some v,some (.str y),o4,o5,o6,none,none,none] M) :
  IteP (forP (fun x env M K=>opt (bindS (.inr [4,5,6]) x env) fun env=>wpSs C theG (d + 8) b_shc env M K) l [some lst,some (.list l),some v,some (.str []),none,none,none,none,none,none] M K):=by
 refine IteP.mk ?_
 cases h with
 | nil=>exact q [] [] _ _ _ .nil (fun h=>absurd rfl h) (fun _=>rfl) (Sp.nil.le rfl)
 | one c ts h=>exact s_comp1 P h (Ln.k (n:=1000) rfl) fun y ts' o4 o5 o6 h' hn hy=>q _ _ _ _ _ (.one _ _ h') (fun _=>hn) (fun e=>nomatch e) (hy.le rfl)
 | two c ts c' ts' h k =>
  refine s_comp1 P h (Ln.k (n:=1000) rfl) fun y us o4 o5 o6 h' hn hy=>?_
  refine s_comp1 P k (hy.len.le rfl) fun z us' o4 o5 o6 k' _ hz=>?_
  exact q _ _ _ _ _ (.two _ _ _ _ h' k') (fun _=>List.append_ne_nil_of_left_ne_nil hn _) (fun e=>nomatch e) (hy.app hz)
end
theorem oth_f {v ts} {M:Mem} (h:TVal v ts):cmpv .eq (.tup v) (.tup [.str z_others]) M=some false:=by cases h <;> rfl
section
variable {C:Cx} {M:Mem} {Q:PV→Mem→Prop} {d:Nat}
theorem join_ref {b:Nat} {s:List Nat} {ps:List PV} {l:List (List Nat)} (hM:M b=some (.list ps)) (h:strsOf ps=some l) (hl:(l.map List.length).sum + l.length * s.length ≤ 16777216) (q:Q (.str (joinL s l)) M) :
  methP .join (.str s) [.mref b] M Q:=by
 show opt ((mol (M b)).bind strsOf) _
 rw [hM]
 show opt (strsOf ps) _
 rw [h]
 exact ⟨hl,q⟩
theorem sn_cho (P:Pg C) {c cs} (h:TCho c cs) (q:∀ x e M',e ≠ .R→Kpt M M'→Sp 120 .F e x cs→Q (.str x) M'):CallOk C (d + 7) (.fn 3) [lst,.list c] M Q:=by
 cases h with
 | one v ts h =>
  refine cl P rfl rfl fun b hb=>and2 (lk rfl) (IteP.mk (and2 (RdL.at upd_same trivial) ?_))
  refine ite_c false (fun K k=>show opt (cmpv .eq (.tup v) (.tup [.str z_others]) _) fun b=>K b _ from c_op (oth_f h) k) ?_
  refine (rg_val P h).up 1 _ _ _ fun x e he hx=>RdL.at upd_same (and2 (lk rfl) (and2 trivial ?_))
  have hl:x.length ≤ 44:=hx.len
  refine join_ref (l:=[x]) upd_same rfl (Nat.le_trans (Nat.add_le_add_right (Nat.add_le_add_right hl 0) _) (Nat.le_of_ble_eq_true rfl)) ?_
  exact q x e _ he ((Kpt.refl M).new hb |>.new hb) (hx.le rfl)
 | two v ts h =>
  refine cl P rfl rfl fun b hb=>and2 (lk rfl) (IteP.mk (and2 (RdL.at upd_same trivial) ?_))
  refine ite_c false (fun K k=>show opt (cmpv .eq (.tup v) (.tup [.str z_others]) _) fun b=>K b _ from c_op (oth_f h) k) ?_
  refine (rg_val P h).up 1 _ _ _ fun x e he hx=>RdL.at upd_same (and2 (lk rfl) (and2 (RdL.at upd_same trivial) (IteP.mk ?_)))
  refine cl P rfl rfl (sh_range P (k:=3) (v:=vInt 8) (by decide) (.int 8 (by decide)) _ _ _ fun y g hg hy=>?_)
  refine RdL.at upd_same (and2 (lk rfl) (and2 trivial ?_))
  have hl:x.length ≤ 44:=hx.len
  have hm:y.length ≤ 66:=hy.len
  refine join_ref (l:=[x,y]) upd_same rfl (Nat.le_trans (Nat.add_le_add_right (Nat.add_le_add hl (Nat.add_le_add_right hm 0)) _) (Nat.le_of_ble_eq_true rfl)) ?_
  have:=(hx.app (l_bar he)).app' hy (List.append_assoc ..)
  exact q _ g _ hg (((Kpt.refl M).new hb |>.new hb).new hb) (this.le rfl)
 | oth =>
  refine cl P rfl rfl fun b hb=>and2 (lk rfl) (IteP.mk (and2 (RdL.at upd_same trivial) (IteP.mk ?_)))
  refine RdL.at upd_same (and2 (lk rfl) (and2 trivial ?_))
  refine join_ref (l:=[z_others]) upd_same rfl (by decide) ?_
  exact q _ .A _ nofun ((Kpt.refl M).new hb |>.new hb) (Sp.lit [.tk (.wd z_others)] rfl rfl rfl rfl rfl)
noncomputable def lenT:Nat→Nat
 | 0=>500
 | n + 1=>500 + 3 * (lenT n + 200)
theorem lenT_ge:∀ n,500 ≤ lenT n
 | 0=>Nat.le_refl _
 | n + 1=>Nat.le_add_right 500 _
noncomputable def DShc (C:Cx) (k n:Nat):Prop:=∀ (d:Nat) (l:List PV) (v:PV) (ts:List Tk) (M:Mem) (Q:PV→Mem→Prop),TBody n l v ts→(∀ x ts' M',Kpt M M'→TBody n l v ts'→Sp (lenT n) .F .F x ts'→Q (.str x) M')→CallOk C (d + k) (.fn 10) [lst,.list l,v] M Q
noncomputable abbrev b_shv:Ss:=sbody (stm 1 (sbody (stm 2 f_show_components.body)))
theorem s_arm (P:Pg C) {k n:Nat} (ih:DShc C (k + 7) n) (hn:lenT n ≤ 3000) {l:List PV} {v:PV} {K:Out→Lo→Mem→Prop} {M₀:Mem}:∀ {as ts} {x:List Nat} {m:Nat} {us:List Tk} {o4 o5 o6 o7 o8 o9:Option PV} {M:Mem},TArms n as ts→Kpt M₀ M→Sp m .F .F x us→m + as.length * (lenT n + 200) ≤ 100000 →
  (∀ y ts' o7 o8 o9 M',TArms n as ts'→Kpt M₀ M'→Sp (m + as.length * (lenT n + 200)) .F .F y (us++ts')→K .next [some lst,some (.list l),some v,some (.str y),o4,o5,o6,o7,o8,o9] M') →
  forP (fun x env M K=>opt (bindS (.inr [7,8,9]) x env) fun env=>wpSs C theG (d + (k + 7)) b_shv env M K) as [some lst,some (.list l),some v,some (.str x),o4,o5,o6,o7,o8,o9] M K
 | [],_,x,m,us,o4,o5,o6,o7,o8,o9,M,_,kp,hx,hm,q=>by
  have:=q x [] o7 o8 o9 M (.nil n) kp
  rw [List.append_nil,List.length_nil,Nat.zero_mul,Nat.add_zero] at this
  exact this hx
 | _ :: _,_,x,m,us,o4,o5,o6,o7,o8,o9,M,.cons _ c cs i vi bs as ts h1 h2 h3,kp,hx,hm,q=>by
  have hx':Ln 100000 x:=Nat.le_trans hx.len (Nat.le_trans (Nat.le_add_right _ _) hm)
  refine sn_cho (d:=d + k) P h1 fun y e M1 he k1 hy=>and2 (Ln.lk (Ln.k (n:=5) rfl) hy.len rfl) ?_
  have a1:Sp 5 .F .F [119,104,101,110,32] [.wd z_when]:=Sp.lit [.tk (.wd z_when),.gap 32] rfl rfl rfl rfl rfl
  have a2:=a1.app hy
  refine and2 (Ln.lk a2.len (Ln.k (n:=4) rfl) rfl) ?_
  have a3:=a2.app (l_ar he)
  refine ih _ _ _ _ _ _ h2 fun z bs' M2 k2 h2' hz=>?_
  have hz':Sp 3000 .F .F z bs':=⟨hz.ex,Nat.le_trans hz.len hn,hz.ok⟩
  refine and2 (Ln.lk a3.len hz'.len rfl) ?_
  have a4:=a3.app hz
  refine and2 (Ln.lk hx' (a3.app hz').len rfl) ?_
  have a5:Sp (m + (lenT n + 200)) .F .F _ _:=⟨(hx.app a4).ex,Nat.le_trans (hx.app a4).len (by omega),(hx.app a4).ok⟩
  have hm':m + (lenT n + 200) + as.length * (lenT n + 200)=m + (as.length + 1) * (lenT n + 200):=by rw [Nat.succ_mul]; omega
  refine s_arm P ih hn h3 ((kp.trans k1).trans k2) a5 (by rw [hm']; exact hm) fun w ts' p7 p8 p9 M3 h3' k3 hw=>?_
  rw [hm'] at hw
  have e:us++([Tk.wd z_when]++cs++[Tk.op o_ar]++bs')++ts'=us++(Tk.wd z_when :: cs++Tk.op o_ar :: bs'++ts'):=by simp only [List.append_assoc,List.cons_append,List.nil_append]
  rw [e] at hw
  exact q _ _ p7 p8 p9 _ (.cons n c cs i vi bs' as ts' h1 h2' h3') k3 hw
theorem txt_f {x:List Nat} {M:Mem} (h:okD 0 (.str x)=true) (hn:x ≠ []):cmpv .eq (.str x) (.str []) M=some false:=by
 show (if okD 0 (.str x) && true then some (x == []) else none)=_
 rw [h]
 cases x with
 | nil=>exact absurd rfl hn
 | cons c r=>rfl
theorem s_comp (P:Pg C) {j n:Nat} (ih:∀ m,n=m + 1→DShc C (j + 2 + 7) m∧lenT m ≤ 3000):DShc C (j + 3 + 7) n:=by
 intro d l v ts M Q h q
 refine cl (d:=d + j + 9) P rfl rfl ?_
 cases h with
 | nil n =>
  refine and2 (lk rfl) (s_comps (d:=d + j + 1) P .nil fun y ts' o4 o5 o6 h' _ hy _=>?_)
  cases hy rfl
  refine IteP.mk (q _ _ M (Kpt.refl M) (.nil n) ?_)
  have:Sp 6 .F .F [110,117,108,108,59,32] [.wd z_null,.op o_sc]:=Sp.lit [.tk (.wd z_null),.tk (.op o_sc),.gap 32] rfl rfl rfl rfl rfl
  exact ⟨this.ex,Nat.le_trans this.len (Nat.le_trans (by decide) (lenT_ge n)),this.ok⟩
 | some n c l ts h =>
  refine and2 (by cases h <;> exact lk rfl) (s_comps (d:=d + j + 1) P h fun y ts' o4 o5 o6 h' hn _ hy=>?_)
  refine ite_c false (fun K k=>show opt (cmpv .eq (.str y) (.str []) M) fun b=>K b M from c_op (txt_f hy.ok (hn (List.cons_ne_nil _ _))) k) ?_
  exact q y ts' M (Kpt.refl M) (.some n c l _ h') ⟨hy.ex,Nat.le_trans hy.len (Nat.le_trans (by decide) (lenT_ge n)),hy.ok⟩
 | var n l ts a as us h k hl =>
  obtain ⟨ih,hb⟩:=ih n rfl
  refine and2 (by cases h <;> exact lk rfl) (s_comps (d:=d + j + 1) P h fun y ts' o4 o5 o6 h' hn _ hy=>?_)
  have a1:Sp 13 .F .F [99,97,115,101,32,107,105,110,100,32,105,115,32] [.wd z_case,.nm z_kind,.wd z_is]:=Sp.lit [.tk (.wd z_case),.gap 32,.tk (.nm z_kind),.gap 32,.tk (.wd z_is),.gap 32] rfl rfl rfl rfl rfl
  refine and2 (lk rfl) (and2 (lk rfl) (and2 (Ln.lk hy.len a1.len rfl) ?_))
  refine and2 (Nat.le_trans hl (by decide)) (IteP.mk ?_)
  refine s_arm (d:=d) (k:=j + 2) P ih hb k (Kpt.refl M) (hy.app a1) ?_ fun z us' o7 o8 o9 M' k' kp hz=>?_
  ·exact Nat.le_trans (Nat.add_le_add_left (Nat.mul_le_mul hl (Nat.add_le_add_right hb 200)) _) (by decide)
  ·have hz':Ln 100000 z:=Nat.le_trans hz.len (Nat.le_trans (Nat.add_le_add_left (Nat.mul_le_mul hl (Nat.add_le_add_right hb 200)) _) (by decide))
   have a2:Sp 10 .F .F [101,110,100,32,99,97,115,101,59,32] [.wd z_end,.wd z_case,.op o_sc]:=Sp.lit [.tk (.wd z_end),.gap 32,.tk (.wd z_case),.tk (.op o_sc),.gap 32] rfl rfl rfl rfl rfl
   refine and2 (Ln.lk hz' a2.len rfl) ?_
   have a3:=hz.app a2
   refine q _ _ M' kp (.var n l ts' a as us' h' k' hl) ⟨?_,Nat.le_trans a3.len ?_,a3.ok⟩
   ·have:=a3.ex
    rw [List.append_assoc ts'] at this
    exact this
   ·have e:lenT (n + 1)=490 + 3 * (lenT n + 200) + 10:=by show 500 + _=_; omega
    rw [e]
    exact Nat.add_le_add_right (Nat.add_le_add (by decide) (Nat.mul_le_mul_right _ hl)) 10
theorem s_comp0 (P:Pg C):DShc C 10 0:=s_comp (j:=0) P fun m e=>nomatch e
theorem s_comp1' (P:Pg C):DShc C 11 1:=s_comp (j:=1) P fun m e=>by
 cases e
 exact ⟨s_comp0 P,by decide⟩
theorem s_components (P:Pg C):DShc C 12 2:=s_comp (j:=2) P fun m e=>by
 cases e
 exact ⟨s_comp1' P,by decide⟩
end
noncomputable def ft (b:Bool) (s:List Nat):List Nat:=match b with
 | true=>s++[32]
 | false=>[]
section
variable {C:Cx} {M:Mem} {Q:PV→Mem→Prop} {d:Nat}
theorem sn_wturn {ws:List PV} {f:List PV} {k:Nat} {b:Bool} {w x:List Nat} {K:Out→Lo→Mem→Prop} (hk:Nat.ble k 1000=true) (hf:(idx (k:Int) f.length).bind (f[·]?)=some (.bool b)) (hw:(idx (k:Int) ws.length).bind (ws[·]?)=some (.str w))
  (lx:Ln 100 x) (lw:Ln 100 w) (q:K .next [some (.tup f),some (.tup ws),some (.str (x++ft b w)),some (.int k)] M) :
  wpSs C theG d (sbody (stm 1 f_show_words.body)) [some (.tup f),some (.tup ws),some (.str x),some (.int k)] M K:=by
 have hs:small (k:Int):=sm (Nat.ble_eq.mpr (Nat.le_trans (Nat.ble_eq.mp hk) (by decide)))
 refine ss_ifc (ss:=.nil) (M':=M) b (fun K h=>?_) ?_
 ·show small (k:Int)∧opt ((idx (k:Int) f.length).bind (f[·]?)) fun v=>opt (truth v M) fun c=>K c M
  rw [hf]
  exact ⟨hs,h⟩
 ·cases b
  ·have e:x++ft false w=x:=List.append_nil x
   rw [e] at q
   exact q
  ·show small (k:Int)∧opt ((idx (k:Int) ws.length).bind (ws[·]?)) _
   rw [hw]
   exact ⟨hs,Ln.lk lw (Ln.k (n:=1) rfl) rfl,Ln.lk lx (lw.app (Ln.k (a:=[32]) (n:=1) rfl)) rfl,q⟩
theorem sn_words3 (P:Pg C) {a t l:Bool} (q:Sp 30 .F .F (ft a z_abstract++ft t z_tagged++ft l z_limited) (fl a z_abstract++fl t z_tagged++fl l z_limited)→Q (.str (ft a z_abstract++ft t z_tagged++ft l z_limited)) M) :
  CallOk C (d + 1) (.fn 9) [.tup [.bool a,.bool t,.bool l],.tup [.str z_abstract,.str z_tagged,.str z_limited]] M Q:=by
 have hs:Sp 30 .F .F (ft a z_abstract++ft t z_tagged++ft l z_limited) (fl a z_abstract++fl t z_tagged++fl l z_limited):=by
  have h1:Sp 9 .F .F (ft a z_abstract) (fl a z_abstract):=by cases a; exact Sp.nil.le rfl; exact Sp.lit [.tk (.wd z_abstract),.gap 32] rfl rfl rfl rfl rfl
  have h2:Sp 7 .F .F (ft t z_tagged) (fl t z_tagged):=by cases t; exact Sp.nil.le rfl; exact Sp.lit [.tk (.wd z_tagged),.gap 32] rfl rfl rfl rfl rfl
  have h3:Sp 8 .F .F (ft l z_limited) (fl l z_limited):=by cases l; exact Sp.nil.le rfl; exact Sp.lit [.tk (.wd z_limited),.gap 32] rfl rfl rfl rfl rfl
  exact ((h1.app h2).app h3).le rfl
 have q:=q hs
 have l1:Ln 100 (ft a z_abstract):=by cases a <;> exact Ln.k rfl
 have l2:Ln 100 (ft a z_abstract++ft t z_tagged):=by cases a <;> cases t <;> exact Ln.k rfl
 refine cl P rfl rfl (and2 rfl (and2 (lk rfl) (and2 (rg_ok rfl) (IteP.mk ?_))))
 refine sn_wturn (k:=0) (x:=[]) (w:=z_abstract) (b:=a) (f:=[_,_,_]) (ws:=[_,_,_]) rfl rfl rfl (Ln.k rfl) (Ln.k rfl) ?_
 refine sn_wturn (k:=1) (x:=ft a z_abstract) (w:=z_tagged) (b:=t) (f:=[_,_,_]) (ws:=[_,_,_]) rfl rfl rfl l1 (Ln.k rfl) ?_
 refine sn_wturn (k:=2) (x:=ft a z_abstract++ft t z_tagged) (w:=z_limited) (b:=l) (f:=[_,_,_]) (ws:=[_,_,_]) rfl rfl rfl l2 (Ln.k rfl) ?_
 exact q
theorem sn_words1 (P:Pg C) {a:Bool} (q:Sp 9 .F .F (ft a z_abstract) (fl a z_abstract)→Q (.str (ft a z_abstract)) M):CallOk C (d + 1) (.fn 9) [.tup [.bool a],.tup [.str z_abstract]] M Q:=by
 have h1:Sp 9 .F .F (ft a z_abstract) (fl a z_abstract):=by cases a; exact Sp.nil.le rfl; exact Sp.lit [.tk (.wd z_abstract),.gap 32] rfl rfl rfl rfl rfl
 refine cl P rfl rfl (and2 rfl (and2 (lk rfl) (and2 (rg_ok rfl) (IteP.mk ?_))))
 refine sn_wturn (k:=0) (x:=[]) (w:=z_abstract) (b:=a) (f:=[_]) (ws:=[_]) rfl rfl rfl (Ln.k rfl) (Ln.k rfl) ?_
 exact q h1
theorem eqn_f {c:PV} {l:List PV} {M:Mem} (h:okD 60 (.list (c :: l))=true):cmpv .eq (.list (c :: l)) (.list []) M=some false:=by
 show (if okD 60 (.list (c :: l)) && true then some false else none)=_
 rw [h]; rfl
theorem sn_recN (P:Pg C) {t l a:Bool} (q:∀ x,Sp 10000 .F .A x (fl a z_abstract++fl t z_tagged++fl l z_limited++[.wd z_null,.wd z_record])→Q (.str x) M):CallOk C (d + 13) (.fn 11) [lst,.tup (vRec [] .none t l a)] M Q:=by
 have c3:Sp 11 .F .A [110,117,108,108,32,114,101,99,111,114,100] [.wd z_null,.wd z_record]:=Sp.lit [.tk (.wd z_null),.gap 32,.tk (.wd z_record)] rfl rfl rfl rfl rfl
 refine cl P rfl rfl (sn_words3 P fun hs=>?_)
 have e:=hs.app c3
 exact and2 (Ln.lk hs.len (Ln.k (n:=11) rfl) rfl) (q _ (e.le rfl))
theorem sn_recB (P:Pg C) {t l a:Bool} {c v ts} (h:TBody 2 c v ts) (hc:(c=[]→v ≠ .none)∧(v = .none∨∃ w,v = .tup w)) (q:∀ x ts' M',Kpt M M'→TBody 2 c v ts'→Sp 10000 .F .A x (fl a z_abstract++fl t z_tagged++fl l z_limited++(.wd z_record :: ts'++[.wd z_end,.wd z_record]))→Q (.str x) M') :
  CallOk C (d + 13) (.fn 11) [lst,.tup (vRec c v t l a)] M Q:=by
 have c1:Sp 7 .F .F [114,101,99,111,114,100,32] [.wd z_record]:=Sp.lit [.tk (.wd z_record),.gap 32] rfl rfl rfl rfl rfl
 have c2:Sp 10 .F .A [101,110,100,32,114,101,99,111,114,100] [.wd z_end,.wd z_record]:=Sp.lit [.tk (.wd z_end),.gap 32,.tk (.wd z_record)] rfl rfl rfl rfl rfl
 refine cl P rfl rfl (sn_words3 P fun hs=>?_)
 have a1:=hs.app c1
 refine ss_ifc (M':=M) (t:=.and (.cons (.cmp .eq (.subk (.loc 1) 1) (.lst .nil)) (.cons (.cmp .is (.subk (.loc 1) 2) (.cst .none)) .nil))) (env:=[some lst,some (.tup (vRec c v t l a)),some (.str (ft a z_abstract++ft t z_tagged++ft l z_limited))]) false (fun K k=>?_) ?_
 ·have ho:=h.okL (k:=49)
  obtain ⟨h1,h2⟩:=hc
  cases c with
  | nil =>
   rcases h2 with rfl | ⟨w,rfl⟩
   ·exact absurd rfl (h1 rfl)
   ·exact k
  | cons x c =>
   show opt (cmpv .eq (.list (x :: c)) (.list []) M) fun b=>match b with
    | true=>wpTs C theG (d + 12) (.cons (.cmp .is (.subk (.loc 1) 2) (.cst .none)) .nil) _ M K
    | false=>K false M
   rw [eqn_f ho]
   exact k
 ·refine and2 (Ln.lk hs.len (Ln.k (n:=7) rfl) rfl) ?_
  refine s_components P _ _ _ _ _ _ h fun x ts' M' kp h' hx=>?_
  have hx':Sp 9000 .F .F x ts':=⟨hx.ex,Nat.le_trans hx.len (by decide),hx.ok⟩
  have a2:=a1.app hx'
  have a3:=a2.app' (vs:=fl a z_abstract++fl t z_tagged++fl l z_limited++(.wd z_record :: ts'++[.wd z_end,.wd z_record])) c2 (by simp only [List.append_assoc,List.cons_append,List.nil_append])
  refine and2 (Ln.lk a1.len hx'.len rfl) (and2 (Ln.lk a2.len (Ln.k (n:=10) rfl) rfl) ?_)
  exact q _ ts' M' kp h' (a3.le rfl)
theorem sn_rec (P:Pg C) {t l a r ts} (h:TRec t l a r ts) (q:∀ x ts' M',Kpt M M'→TRec t l a r ts'→Sp 10000 .F .A x (fl a z_abstract++fl t z_tagged++fl l z_limited++ts')→Q (.str x) M'):CallOk C (d + 13) (.fn 11) [lst,.tup r] M Q:=by
 cases h with
 | null=>exact sn_recN P fun x hx=>q x _ M (Kpt.refl M) .null hx
 | body c v ts h =>
  have go:((c=[]→v ≠ .none)∧(v = .none∨∃ w,v = .tup w))→CallOk C (d + 13) (.fn 11) [lst,.tup (vRec c v t l a)] M Q:=fun hc=>sn_recB P h hc fun x ts' M' kp h' hx=>q x _ M' kp (.body _ _ _ h') hx
  cases h with
  | nil=>exact sn_recN P fun x hx=>q x _ M (Kpt.refl M) .null hx
  | some n c l ts h=>exact go (And.intro (fun e=>nomatch e) (Or.inl rfl))
  | var n l ts a as us h k hl=>exact go (And.intro (fun _ e=>nomatch e) (Or.inr ⟨_,rfl⟩))
end
section
variable {C:Cx} {M:Mem} {Q:PV→Mem→Prop} {d:Nat}
theorem b_sort (P:Pg C) {v ts} (h:TVal v ts) (q:Q (.str []) M):CallOk C (d + 1) (.fn 0) [.tup v] M Q:=by
 cases h <;> exact cl P rfl rfl q
theorem b_bind (P:Pg C) {v ts} (h:TVal v ts) (q:Q (.int 6) M):CallOk C (d + 2) (.fn 1) [.tup v] M Q:=by
 refine cl P rfl rfl (b_sort P h ?_)
 cases h <;> exact q
theorem b_simple (P:Pg C) {v ts} (h:TVal v ts) (q:∀ x e,e ≠ .R→Sp 44 .F e x ts→Q (.str x) M):CallOk C (d + 5) (.fn 13) [lst,.tup v] M Q:=by
 refine cl P rfl rfl (sh_val P h _ _ _ fun x e he hx=>IteP.mk ?_)
 exact b_bind (d:=d + 2) P h (q x e he hx)
theorem l_range1:Sp 6 .F .F [114,97,110,103,101,32] [.wd z_range]:=Sp.lit [.tk (.wd z_range),.gap 32] rfl rfl rfl rfl rfl
theorem l_mod:Sp 4 .F .F [109,111,100,32] [.wd z_mod]:=Sp.lit [.tk (.wd z_mod),.gap 32] rfl rfl rfl rfl rfl
theorem l_delta:Sp 6 .F .F [100,101,108,116,97,32] [.wd z_delta]:=Sp.lit [.tk (.wd z_delta),.gap 32] rfl rfl rfl rfl rfl
theorem l_new:Sp 4 .F .F [110,101,119,32] [.wd z_new]:=Sp.lit [.tk (.wd z_new),.gap 32] rfl rfl rfl rfl rfl
theorem l_with {e:Sx} (he:e ≠ .R):Sp 6 e .F [32,119,105,116,104,32] [.wd z_with]:=by
 cases e <;> first | exact Sp.lit [.gap 32,.tk (.wd z_with),.gap 32] rfl rfl rfl rfl rfl | exact absurd rfl he
theorem l_wp {e:Sx} (he:e ≠ .R):Sp 13 e .A [32,119,105,116,104,32,112,114,105,118,97,116,101] [.wd z_with,.wd z_private]:=by
 cases e <;> first | exact Sp.lit [.gap 32,.tk (.wd z_with),.gap 32,.tk (.wd z_private)] rfl rfl rfl rfl rfl | exact absurd rfl he
theorem l_bx {e:Sx} (he:e ≠ .R):Sp 9 e .F [32,114,97,110,103,101,32,60,62] [.wd z_range,.op o_bx]:=by
 cases e <;> first | exact Sp.lit [.gap 32,.tk (.wd z_range),.gap 32,.tk (.op o_bx)] rfl rfl rfl rfl rfl | exact absurd rfl he
theorem l_of {e:Sx} (he:e ≠ .R):Sp 5 e .F [41,32,111,102,32] [.op o_rp,.wd z_of]:=by
 cases e <;> first | exact Sp.lit [.tk (.op o_rp),.gap 32,.tk (.wd z_of),.gap 32] rfl rfl rfl rfl rfl | exact absurd rfl he
theorem l_arr:Sp 7 .F .F [97,114,114,97,121,32,40] [.wd z_array,.op o_lp]:=Sp.lit [.tk (.wd z_array),.gap 32,.tk (.op o_lp)] rfl rfl rfl rfl rfl
theorem sn_idx (P:Pg C) {n:Nat} {b:Bool} {l:List PV} {s:List PV} {ts} {K:Out→Lo→Mem→Prop} {a:Nat} (ha:M a=some (.list []))
  (h:(TDisL l ts∧b=true)∨(TMarkL l ts∧b=false))
  (q:∀ ps xs o3 o4 M',Kpt (M.del a) M'→M' a=some (.list ps)→strsOf ps=some xs→(xs.map List.length).sum + xs.length * 2 ≤ 1000→(∃ e,e ≠ Sx.R∧Sp 400 .F e (joinL [44,32] xs) ts)→K .next [some lst,some (.tup [.str z_array,.list l,.bool b,.tup s]),some (.mref a),o3,o4] M') :
  IteP (forP (fun x env M K=>opt (bindS (.inl 3) x env) fun env=>wpSs C theG (d + 7) (sbody (stm 1 f_show_array.body)) env M K) l [some lst,some (.tup [.str z_array,.list l,.bool b,.tup s]),some (.mref a),none,none] M K):=by
 have kd:∀ M':Mem,Kpt M M'→Kpt (M.del a) M':=fun M' h c o e=>by
  by_cases hc:c=a
  ·rw [hc,del_same] at e; cases e
  ·rw [del_ne hc] at e; exact h c o e
 have ku:∀ (M':Mem) o,Kpt (M.del a) M'→Kpt (M.del a) (M'.upd a o):=fun M' o h=>Kpt.new del_same h
 have k0:=kd M (Kpt.refl M)
 refine IteP.mk ?_
 rcases h with ⟨h,rfl⟩ | ⟨h,rfl⟩
 ·cases h with
  | one v ts h =>
   refine rg_dis P h _ _ _ fun x e he hx=>and2 (RdL.at ha trivial) (IteP.mk (RdL.at ha (and2 (lk rfl) ?_)))
   have hl:x.length ≤ 160:=hx.len
   exact q [.str x] [x] _ _ _ (ku _ _ k0) upd_same rfl (Nat.le_trans (Nat.add_le_add_right (Nat.add_le_add_right hl 0) _) (Nat.le_of_ble_eq_true rfl)) ⟨e,he,hx.le rfl⟩
  | two v ts w us h k =>
   refine rg_dis P h _ _ _ fun x e he hx=>and2 (RdL.at ha trivial) (IteP.mk (RdL.at ha (and2 (lk rfl) ?_)))
   refine rg_dis P k _ _ _ fun y g hg hy=>and2 (RdL.at upd_same trivial) (IteP.mk (RdL.at upd_same (and2 (lk rfl) ?_)))
   have hl:x.length ≤ 160:=hx.len
   have hm:y.length ≤ 160:=hy.len
   exact q [.str x,.str y] [x,y] _ _ _ (ku _ _ (ku _ _ k0)) upd_same rfl (Nat.le_trans (Nat.add_le_add_right (Nat.add_le_add hl (Nat.add_le_add_right hm 0)) _) (Nat.le_of_ble_eq_true rfl)) ⟨g,hg,((hx.app (l_cm he)).app' hy (List.append_assoc ..)).le rfl⟩
 ·cases h with
  | one v ts h =>
   refine (rg_mark P h (.inl rfl)).up 3 _ _ _ fun x e he hx=>and2 (RdL.at ha trivial) (IteP.mk (and2 (Ln.lk hx.len (Ln.k (n:=9) rfl) rfl) (RdL.at ha (and2 (lk rfl) ?_))))
   have hx:=hx.app (l_bx he)
   have hl:(x++_).length ≤ 42:=hx.len
   exact q [.str _] [_] _ _ _ (ku _ _ k0) upd_same rfl (Nat.le_trans (Nat.add_le_add_right (Nat.add_le_add_right hl 0) _) (Nat.le_of_ble_eq_true rfl)) ⟨.F,nofun,hx.le rfl⟩
  | two v ts w us h k =>
   refine (rg_mark P h (.inl rfl)).up 3 _ _ _ fun x e he hx=>and2 (RdL.at ha trivial) (IteP.mk (and2 (Ln.lk hx.len (Ln.k (n:=9) rfl) rfl) (RdL.at ha (and2 (lk rfl) ?_))))
   refine (rg_mark P k (.inl rfl)).up 3 _ _ _ fun y g hg hy=>and2 (RdL.at upd_same trivial) (IteP.mk (and2 (Ln.lk hy.len (Ln.k (n:=9) rfl) rfl) (RdL.at upd_same (and2 (lk rfl) ?_))))
   have hx:=hx.app (l_bx he)
   have hy:=hy.app (l_bx hg)
   have hl:(x++_).length ≤ 42:=hx.len
   have hm:(y++_).length ≤ 42:=hy.len
   have z:=(hx.app (l_cm (e:=.F) nofun)).app' (vs:=ts++.wd z_range :: .op o_bx :: .op o_cm :: us++[.wd z_range,.op o_bx]) hy (by simp only [List.append_assoc,List.cons_append,List.nil_append])
   exact q [.str _,.str _] [_,_] _ _ _ (ku _ _ (ku _ _ k0)) upd_same rfl (Nat.le_trans (Nat.add_le_add_right (Nat.add_le_add hl (Nat.add_le_add_right hm 0)) _) (Nat.le_of_ble_eq_true rfl)) ⟨.F,nofun,z.le rfl⟩
theorem sn_nmref (P:Pg C) {b:Nat} {ps:List PV} {xs:List (List Nat)} (hM:M b=some (.list ps)) (e1:strsOf ps=some xs) (e2:(xs.map List.length).sum + xs.length * 2 ≤ 1000) (q:Q (.str (joinL [44,32] xs)) M):CallOk C (d + 1) (.fn 4) [.mref b] M Q:=by
 refine cl P rfl rfl (and2 trivial ?_)
 show opt ((mol (M b)).bind strsOf) fun l=>(l.map List.length).sum + l.length * 2 ≤ 16777216∧Q (.str (joinL [44,32] l)) M
 rw [hM]
 show opt (strsOf ps) fun l=>(l.map List.length).sum + l.length * 2 ≤ 16777216∧Q (.str (joinL [44,32] l)) M
 rw [e1]
 exact ⟨Nat.le_trans e2 (by decide),q⟩
theorem sn_nmlst (P:Pg C) {ps:List PV} {xs:List (List Nat)} (e1:strsOf ps=some xs) (e2:(xs.map List.length).sum + xs.length * 2 ≤ 1000) (q:Q (.str (joinL [44,32] xs)) M):CallOk C (d + 1) (.fn 4) [.list ps] M Q:=by
 refine cl P rfl rfl (and2 trivial ?_)
 show opt (strsOf ps) fun l=>(l.map List.length).sum + l.length * 2 ≤ 16777216∧Q (.str (joinL [44,32] l)) M
 rw [e1]
 exact ⟨Nat.le_trans e2 (by decide),q⟩
theorem sn_array (P:Pg C) {b:Bool} {l ts s us} (h:(TDisL l ts∧b=true)∨(TMarkL l ts∧b=false)) (k:TSub s us)
  (q:∀ x e M',e ≠ .R→Kpt M M'→Sp 1000 .F e x (.wd z_array :: .op o_lp :: ts++.op o_rp :: .wd z_of :: []++us)→Q (.str x) M'):CallOk C (d + 8) (.fn 6) [lst,.tup [.str z_array,.list l,.bool b,.tup s]] M Q:=by
 refine cl P rfl rfl fun a ha=>?_
 have hl:lenOk l.length:=by rcases h with ⟨h,_⟩ | ⟨h,_⟩; exact h.nlen; exact h.nlen
 refine and2 hl (sn_idx (n:=0) P upd_same h fun ps xs o3 o4 M' kp hM e1 e2 e3=>?_)
 refine sn_nmref P hM e1 e2 ?_
 obtain ⟨e,he,hx⟩:=e3
 have a1:=l_arr.app hx
 refine and2 (Ln.lk (Ln.k (n:=7) rfl) hx.len rfl) (and2 (Ln.lk a1.len (Ln.k (n:=5) rfl) rfl) ?_)
 have a2:=a1.app (l_of he)
 refine rg_sub P k (.inl rfl) _ _ _ fun y g hg hy=>and2 (Ln.lk a2.len hy.len rfl) ?_
 refine q _ g M' hg (fun c o e=>?_) ((a2.app hy).le rfl)
 have hc:c ≠ a:=fun w=>by rw [w,ha] at e; cases e
 exact kp c o (by rw [del_ne hc,upd_ne hc]; exact e)
theorem sn_derN (P:Pg C) {a:Bool} {s ss} (h:TSub s ss) (q:∀ x e,e ≠ .R→Sp 200 .F e x (fl a z_abstract++.wd z_new :: ss)→Q (.str x) M):CallOk C (d + 14) (.fn 12) [lst,.tup [.str z_derived,.tup s,.none,.bool a]] M Q:=by
 refine cl P rfl rfl (sn_words1 P fun hs=>and2 (Ln.lk hs.len (Ln.k (n:=4) rfl) rfl) ?_)
 have a1:=hs.app l_new
 refine (rg_sub P h (.inl rfl)).up 6 _ _ _ fun y g hg hy=>and2 (Ln.lk a1.len hy.len rfl) ?_
 exact q _ g hg ((a1.app' hy (List.append_assoc ..)).le rfl)
theorem sn_derR (P:Pg C) {a:Bool} {s ss r rs} (h:TSub s ss) (k:TRec false false false r rs) (q:∀ x rs' M',Kpt M M'→TRec false false false r rs'→Sp 20000 .F .A x (fl a z_abstract++.wd z_new :: ss++.wd z_with :: rs')→Q (.str x) M') :
  CallOk C (d + 14) (.fn 12) [lst,.tup [.str z_derived,.tup s,.tup r,.bool a]] M Q:=by
 refine cl P rfl rfl (sn_words1 P fun hs=>and2 (Ln.lk hs.len (Ln.k (n:=4) rfl) rfl) ?_)
 have a1:=hs.app l_new
 refine (rg_sub P h (.inl rfl)).up 6 _ _ _ fun y g hg hy=>and2 (Ln.lk a1.len hy.len rfl) ?_
 have a2:=a1.app hy
 refine and2 (Ln.lk a2.len (Ln.k (n:=6) rfl) rfl) (sn_rec P k fun z rs' M' kp k' hz=>?_)
 have a3:=a2.app (l_with hg)
 have a4:=a3.app' (vs:=fl a z_abstract++.wd z_new :: ss++.wd z_with :: rs') hz (by simp only [fl,List.append_assoc,List.cons_append,List.nil_append])
 exact and2 (Ln.lk a3.len hz.len rfl) (q _ rs' M' kp k' (a4.le rfl))
theorem sh_nm (P:Pg C) (s:List Nat) (h:(Tk.nm s).tame=true) (ho:(Tk.nm s).ok=true):Shown C 2 11 .F (vName s) [.nm s] :=
 shown P (w_name P s) (tame_cons h rfl) (Ln.k rfl) rfl nofun (Nat.le_succ_of_le (tame_of h).2) (all_cons ho rfl)
theorem sh_ch (P:Pg C) (k:Nat) (hk:k < 127) (h:32 < k):Shown C 2 11 .F (vChr k) [.chr k] :=
 shown P (w_chr P (Nat.lt_trans hk (by decide))) (tame_cons (tame_chr ⟨k,Nat.lt_trans hk (by decide)⟩ h) rfl) (Ln.k rfl) rfl nofun (Ln.k (n:=11) rfl) (all_cons (ok_chr hk h) rfl)
theorem sn_lits (P:Pg C) {c cs} {Q:List PV→Mem→Prop} (h:TLits c cs) (q:∀ ps l,strsOf ps=some l→(l.map List.length).sum + l.length * 2 ≤ 1000→(∃ e,e ≠ Sx.R∧Sp 60 .F e (joinL [44,32] l) cs)→Q ps M) :
  IteP (compP (.inl 0) (fun env M Q=>wpTs C theG (d + 2) .nil env M Q) (fun env M Q=>wpE C theG (d + 2) (.call (.sub (.loc 1) (.cst (.str z_show))) (.cons (.loc 0) .nil)) env M Q) [none,some lst] c [] M fun vs M=>Q vs M):=by
 refine IteP.mk ?_
 cases h with
 | l1 =>
  refine sh_nm P z_red rfl rfl _ _ _ fun x e he hx=>sh_ch P 65 (by decide) (by decide) _ _ _ fun y f hf hy=>sh_nm P z_green rfl rfl _ _ _ fun z g hg hz=>sh_ch P 39 (by decide) (by decide) _ _ _ fun w i hi hw=>?_
  have hl:x.length ≤ 11:=hx.len
  have hm:y.length ≤ 11:=hy.len
  have hn:z.length ≤ 11:=hz.len
  have ho:w.length ≤ 11:=hw.len
  refine q [.str x,.str y,.str z,.str w] [x,y,z,w] rfl (Nat.le_trans (Nat.add_le_add_right (Nat.add_le_add hl (Nat.add_le_add hm (Nat.add_le_add hn (Nat.add_le_add_right ho 0)))) _) (Nat.le_of_ble_eq_true rfl)) ⟨i,hi,?_⟩
  exact ((hx.app (l_cm he)).app ((hy.app (l_cm hf)).app ((hz.app (l_cm hg)).app hw))).le rfl
 | l2 =>
  refine sh_ch P 65 (by decide) (by decide) _ _ _ fun y f hf hy=>sh_nm P z_green rfl rfl _ _ _ fun z g hg hz=>sh_ch P 39 (by decide) (by decide) _ _ _ fun w i hi hw=>?_
  have hm:y.length ≤ 11:=hy.len
  have hn:z.length ≤ 11:=hz.len
  have ho:w.length ≤ 11:=hw.len
  refine q [.str y,.str z,.str w] [y,z,w] rfl (Nat.le_trans (Nat.add_le_add_right (Nat.add_le_add hm (Nat.add_le_add hn (Nat.add_le_add_right ho 0))) _) (Nat.le_of_ble_eq_true rfl)) ⟨i,hi,?_⟩
  exact ((hy.app (l_cm hf)).app ((hz.app (l_cm hg)).app hw)).le rfl
 | l3 =>
  refine sh_nm P z_green rfl rfl _ _ _ fun z g hg hz=>sh_ch P 39 (by decide) (by decide) _ _ _ fun w i hi hw=>?_
  have hn:z.length ≤ 11:=hz.len
  have ho:w.length ≤ 11:=hw.len
  refine q [.str z,.str w] [z,w] rfl (Nat.le_trans (Nat.add_le_add_right (Nat.add_le_add hn (Nat.add_le_add_right ho 0)) _) (Nat.le_of_ble_eq_true rfl)) ⟨i,hi,?_⟩
  exact ((hz.app (l_cm hg)).app hw).le rfl
end
section
variable {C:Cx} {M:Mem} {Q:PV→Mem→Prop} {d:Nat}
noncomputable def jarg:E→E
 | .bin _ a _=>jarg a
 | .meth _ _ (.cons e _)=>e
 | e=>e
noncomputable def binR:E→E
 | .bin _ _ b=>b
 | e=>e
noncomputable def binL:E→E
 | .bin _ a _=>a
 | e=>e
noncomputable abbrev x_row:E:=elt (jarg (binR (binL (rhs (stm 2 f_show_discs.body)))))
theorem sn_rowE (P:Pg C) {n ns m ms f fs} (h1:TNames n ns) (h2:TMark m ms) (h3:TDfl f fs) (q:∀ x e,e ≠ .R→Sp 230 .F e x (ns++.op o_co :: ms++fs)→Q (.str x) M):wpE C theG (d + 8) x_row [some (.list n),some (.tup (vSub m .none)),some f,some lst] M Q:=by
 refine sn_names P h1 fun y hy=>and2 (Ln.lk hy.len (Ln.k (n:=3) rfl) rfl) ?_
 have a1:=hy.app l_co
 refine sn_kind P (.no _ _ h2) fun z e he hz=>and2 (Ln.lk a1.len hz.len rfl) ?_
 have a2:=a1.app hz
 refine sn_dfl P h3 fun w hw=>?_
 obtain ⟨g,hg,hw⟩:=hw e he
 have a3:=a2.app' (vs:=ns++.op o_co :: ms++fs) hw (by simp only [List.append_assoc,List.cons_append,List.nil_append])
 exact and2 (Ln.lk a2.len hw.len rfl) (q _ g hg (a3.le rfl))
theorem l_lp2:Sp 2 .F .F [32,40] [.op o_lp]:=Sp.lit [.gap 32,.tk (.op o_lp)] rfl rfl rfl rfl rfl
theorem sn_discs (P:Pg C) {v ts} (h:TDiscs v ts) (q:∀ x e,e ≠ .R→Sp 1000 .F e x ts→Q (.str x) M):CallOk C (d + 9) (.fn 8) [lst,v] M Q:=by
 have hd:=h.okD
 cases h with
 | no=>exact cl P rfl rfl (q [] .F nofun (Sp.nil.le rfl))
 | box=>exact cl P rfl rfl (q _ .P nofun (Sp.lit [.gap 32,.tk (.op o_lp),.tk (.op o_bx),.tk (.op o_rp)] rfl rfl rfl rfl rfl))
 | one v ts h =>
  refine cl P rfl rfl ?_
  refine ss_ifc (t:=.cmp .eq (.loc 1) (.cst (.str z_box))) (env:=[some lst,some (.list [.tup v])]) (M':=M) false (fun K k=>show opt (cmpv .eq (.list [.tup v]) (.str z_box) M) fun b=>K b M from c_op (box_f hd) k) ?_
  cases h with
  | row n ns m ms f fs h1 h2 h3 =>
   refine and2 trivial (and2 (lk rfl) (IteP.mk (cp_cons rfl (sn_rowE P h1 h2 h3 fun x e he hx=>?_))))
   have hl:x.length ≤ 230:=hx.len
   refine and2 (Nat.le_trans (Nat.add_le_add_right (Nat.add_le_add_right hl 0) _) (Nat.le_of_ble_eq_true rfl)) (and2 (Ln.lk (Ln.k (n:=2) rfl) hx.len rfl) ?_)
   have a1:=l_lp2.app hx
   exact and2 (Ln.lk a1.len (Ln.k (n:=1) rfl) rfl) (q _ .P nofun ((a1.app (l_rp he)).le rfl))
 | two v ts w us h k =>
  refine cl P rfl rfl ?_
  refine ss_ifc (t:=.cmp .eq (.loc 1) (.cst (.str z_box))) (env:=[some lst,some (.list [.tup v,.tup w])]) (M':=M) false (fun K k=>show opt (cmpv .eq (.list [.tup v,.tup w]) (.str z_box) M) fun b=>K b M from c_op (box_f hd) k) ?_
  cases h with
  | row n ns m ms f fs h1 h2 h3 =>
   cases k with
   | row n' ns' m' ms' f' fs' k1 k2 k3 =>
    refine and2 trivial (and2 (lk rfl) (IteP.mk (cp_cons rfl (sn_rowE P h1 h2 h3 fun x e he hx=>cp_cons rfl (sn_rowE P k1 k2 k3 fun y g hg hy=>?_)))))
    have hl:x.length ≤ 230:=hx.len
    have hm:y.length ≤ 230:=hy.len
    have a0:=(hx.app (l_sc he)).app hy
    refine and2 (Nat.le_trans (Nat.add_le_add_right (Nat.add_le_add hl (Nat.add_le_add_right hm 0)) _) (Nat.le_of_ble_eq_true rfl)) (and2 (Ln.lk (Ln.k (n:=2) rfl) a0.len rfl) ?_)
    have a1:=l_lp2.app a0
    refine and2 (Ln.lk a1.len (Ln.k (n:=1) rfl) rfl) (q _ .P nofun ?_)
    have a2:=a1.app' (vs:=.op o_lp :: (ns++.op o_co :: ms++fs)++.op o_sc :: (ns'++.op o_co :: ms'++fs')++[.op o_rp]) (l_rp hg) (by simp only [List.append_assoc,List.cons_append,List.nil_append])
    exact a2.le rfl
theorem sn_def (P:Pg C) {v ts} (h:TDef v ts) (q:∀ x e ts' M',e ≠ .R→Kpt M M'→TDef v ts'→Sp 30000 .F e x ts'→Q (.str x) M'):CallOk C (d + 15) (.fn 15) [lst,.tup v] M Q:=by
 cases h with
 | enum l ts h =>
  refine cl P rfl rfl (and2 h.nlen (sn_lits P h fun ps xs e1 e2 e3=>sn_nmlst P e1 e2 ?_))
  obtain ⟨e,he,hx⟩:=e3
  have a0:Sp 1 .F .F [40] [.op o_lp]:=l_lp nofun
  have a1:=a0.app hx
  exact and2 (Ln.lk (Ln.k (n:=1) rfl) hx.len rfl) (and2 (Ln.lk a1.len (Ln.k (n:=1) rfl) rfl) (q _ .P _ M nofun (Kpt.refl M) (.enum l ts h) ((a1.app (l_rp he)).le rfl)))
 | int e ts h =>
  refine cl P rfl rfl (cl P rfl rfl ((sh_ext P h).up 8 _ _ _ fun x g hg hx=>and2 (Ln.lk (Ln.k (n:=6) rfl) hx.len rfl) ?_))
  exact q _ g _ M hg (Kpt.refl M) (.int e ts h) ((l_range1.app hx).le rfl)
 | mod v ts h =>
  refine cl P rfl rfl (cl P rfl rfl ((sh_val P h).up 9 _ _ _ fun x g hg hx=>and2 (Ln.lk (Ln.k (n:=4) rfl) hx.len rfl) ?_))
  exact q _ g _ M hg (Kpt.refl M) (.mod v ts h) ((l_mod.app hx).le rfl)
 | fix0 v ts h =>
  refine cl P rfl rfl (cl P rfl rfl (b_simple (d:=d + 8) P h fun x g hg hx=>and2 (Ln.lk (Ln.k (n:=6) rfl) hx.len rfl) ?_))
  exact q _ g _ M hg (Kpt.refl M) (.fix0 v ts h) ((l_delta.app hx).le rfl)
 | fix1 v ts e us h k =>
  refine cl P rfl rfl (cl P rfl rfl (b_simple (d:=d + 8) P h fun x g hg hx=>and2 (Ln.lk (Ln.k (n:=6) rfl) hx.len rfl) ?_))
  refine (sh_ext P k).up 8 _ _ _ fun y i hi hy=>and2 (Ln.lk (Ln.k (n:=7) rfl) hy.len rfl) ?_
  have a1:=l_delta.app hx
  have a2:=(l_range hg).app hy
  exact and2 (Ln.lk a1.len a2.len rfl) (q _ i _ M hi (Kpt.refl M) (.fix1 v ts e us h k) ((a1.app a2).le rfl))
 | arrB l ts al s us h hal k=>exact cl P rfl rfl (sn_array (d:=d + 6) P (.inl ⟨h,rfl⟩) k fun x e M' he kp hx=>q _ e _ M' he kp (.arrB _ _ [] _ _ h .no k) (hx.le rfl))
 | arrU l ts al s us h hal k=>exact cl P rfl rfl (sn_array (d:=d + 6) P (.inr ⟨h,rfl⟩) k fun x e M' he kp hx=>q _ e _ M' he kp (.arrU _ _ [] _ _ h .no k) (hx.le rfl))
 | rcd t l a v ts h hat =>
  have h0:=h
  cases h <;> exact cl P rfl rfl (sn_rec (d:=d + 1) P h0 fun x ts' M' kp h' hx=>q x .A _ M' nofun kp (.rcd _ _ _ _ _ h' hat) (hx.le rfl))
 | acc s ts m ms h hm =>
  have a0:Sp 7 .F .F [97,99,99,101,115,115,32] [.wd z_access]:=Sp.lit [.tk (.wd z_access),.gap 32] rfl rfl rfl rfl rfl
  cases hm with
  | m0 =>
   refine cl P rfl rfl (IteP.mk (and2 (lk rfl) ((rg_sub P h (.inl rfl)).up 7 _ _ _ fun y g hg hy=>and2 (Ln.lk a0.len hy.len rfl) ?_)))
   exact q _ g _ M hg (Kpt.refl M) (.acc _ _ _ _ h .m0) ((a0.app hy).le rfl)
  | m1 =>
   have a1:Sp 11 .F .P [97,99,99,101,115,115,32,97,108,108,32] [.wd z_access,.wd z_all]:=Sp.lit [.tk (.wd z_access),.gap 32,.tk (.wd z_all),.gap 32] rfl rfl rfl rfl rfl
   refine cl P rfl rfl (IteP.mk (and2 (lk rfl) (and2 (lk rfl) ((rg_sub P h (.inr rfl)).up 7 _ _ _ fun y g hg hy=>and2 (Ln.lk a1.len hy.len rfl) ?_))))
   exact q _ g _ M hg (Kpt.refl M) (.acc _ _ _ _ h .m1) ((a1.app hy).le rfl)
  | m2 =>
   have a1:Sp 16 .F .F [97,99,99,101,115,115,32,99,111,110,115,116,97,110,116,32] [.wd z_access,.wd z_constant]:=Sp.lit [.tk (.wd z_access),.gap 32,.tk (.wd z_constant),.gap 32] rfl rfl rfl rfl rfl
   refine cl P rfl rfl (IteP.mk (and2 (lk rfl) (and2 (lk rfl) ((rg_sub P h (.inl rfl)).up 7 _ _ _ fun y g hg hy=>and2 (Ln.lk a1.len hy.len rfl) ?_))))
   exact q _ g _ M hg (Kpt.refl M) (.acc _ _ _ _ h .m2) ((a1.app hy).le rfl)
 | der0 a s ts h=>exact cl P rfl rfl (sn_derN P h fun x e he hx=>q _ e _ M he (Kpt.refl M) (.der0 _ _ _ h) (hx.le rfl))
 | der1 a s ts r us h k=>exact cl P rfl rfl (sn_derR P h k fun x rs' M' kp k' hx=>q _ .A _ M' nofun kp (.der1 _ _ _ _ _ h k') (hx.le rfl))
 | ext a s ts h =>
  refine cl P rfl rfl (sn_words1 P fun hs=>and2 (Ln.lk hs.len (Ln.k (n:=4) rfl) rfl) ?_)
  have a1:=hs.app l_new
  refine (rg_sub P h (.inl rfl)).up 7 _ _ _ fun y g hg hy=>and2 (Ln.lk a1.len hy.len rfl) ?_
  have a2:=a1.app' (vs:=fl a z_abstract++.wd z_new :: ts) hy (List.append_assoc ..)
  exact and2 (Ln.lk a2.len (Ln.k (n:=13) rfl) rfl) (q _ .A _ M nofun (Kpt.refl M) (.ext _ _ _ h) ((a2.app (l_wp hg)).le rfl))
 | priv t l a hat =>
  refine cl P rfl rfl (sn_words3 P fun hs=>?_)
  have a1:Sp 7 .F .A [112,114,105,118,97,116,101] [.wd z_private]:=Sp.lit [.tk (.wd z_private)] rfl rfl rfl rfl rfl
  exact and2 (Ln.lk hs.len (Ln.k (n:=7) rfl) rfl) (q _ .A _ M nofun (Kpt.refl M) (.priv _ _ _ hat) ((hs.app a1).le rfl))
end
section
variable {C:Cx} {G:Nat→PV} {d:Nat} {env:Lo} {M:Mem} {K:PV→Mem→Prop}
theorem e_glo {g:Nat} (q:K (G g) M):wpE C G d (.glo g) env M K:=q
theorem e_cst {v:PV} (q:K v M):wpE C G d (.cst v) env M K:=q
theorem e_loc {i:Nat} {v:PV} (h:env[i]? = some (some v)) (q:K v M):wpE C G d (.loc i) env M K:=by
 show look env i fun v=>K v M
 unfold look; rw [h]; exact q
end
section
variable {C:Cx} {G:Nat→PV} {d:Nat} {env:Lo} {M:Mem} {Q:PV→Mem→Prop} {a b:E} {es:Es}
theorem wa2 (h:∀ K:PV→Mem→Prop,K (.bool true) M→wpE C G d a env M K) (q:wpE C G d b env M Q):wpE C G d (.bnd (.cons a (.cons b .nil))) env M Q:=h _ q
theorem wo1 (h:∀ K:PV→Mem→Prop,K (.bool true) M→wpE C G d a env M K) (q:Q (.bool true) M):wpE C G d (.bor (.cons a (.cons b es))) env M Q:=h _ q
theorem ss_ret {ss:Ss} {Q:Out→Lo→Mem→Prop} (h:wpE C G d a env M fun v M=>frzP v M fun v M=>Q (.ret v) env M):wpSs C G d (.cons (.ret a) ss) env M Q:=h
end
theorem opt_at {α:Type} {o:Option α} {a:α} {K:α→Prop} (h:o=some a) (q:K a):opt o K:=by subst h; exact q
structure At (T:List Nat) (k:Nat) (r:List Nat):Prop where
 drop:T.drop k=r
 len:T.length ≤ 1000000
 ok:(T.all fun c=>Nat.blt c 1114112)=true
theorem At.next {T k c r} (h:At T k (c :: r)):At T (k + 1) r:=⟨by rw [← List.drop_drop,h.drop]; rfl,h.len,h.ok⟩
theorem At.app {T k s r} (h:At T k (s++r)):At T (k + s.length) r:=⟨by rw [← List.drop_drop,h.drop,List.drop_left],h.len,h.ok⟩
theorem At.lt {T k c r} (h:At T k (c :: r)):k < T.length:=by
 have:=h.drop
 apply Nat.lt_of_not_le
 intro hl
 rw [List.drop_eq_nil_of_le hl] at this; cases this
theorem At.ge {T k} (h:At T k []):T.length ≤ k:=by
 have:=congrArg List.length h.drop
 rw [List.length_drop] at this
 exact Nat.le_of_sub_eq_zero this
theorem At.lk {T k r} (h:At T k r):lenOk T.length:=Nat.le_trans h.len (by decide)
theorem At.sm {T k c r} (h:At T k (c :: r)):small (k:Int):=Mine.sm (Nat.ble_eq.mpr (Nat.le_trans (Nat.le_of_lt h.lt) h.len))
theorem At.idx {T k c r} (h:At T k (c :: r)):(Mine.idx (k:Int) T.length).bind (T[·]?)=some c:=by
 have e:Mine.idx (k:Int) T.length=some k:=(idx_nat k T.length).trans (if_pos h.lt)
 rw [e]
 show T[k]? = some c
 rw [← List.head?_drop,h.drop]; rfl
theorem At.ltt {T k c r M} (h:At T k (c :: r)):cmpv .lt (.int (k:Int)) (.int (T.length:Int)) M=some true:=congrArg some (decide_eq_true (Int.ofNat_lt.mpr h.lt))
theorem At.ltf {T k M} (h:At T k []):cmpv .lt (.int (k:Int)) (.int (T.length:Int)) M=some false:=congrArg some (decide_eq_false (fun w=>Nat.not_lt.mpr h.ge (Int.ofNat_lt.mp w)))
theorem At.cut {T k r} (h:At T k r) (n:Nat):Mine.cut T (some (k:Int)) (some ((k + n:Nat):Int))=r.take n:=by
 show (T.take (k + n)).drop k=_
 rw [List.drop_take,h.drop,Nat.add_sub_cancel_left]
theorem plain_ok {c:Nat} (h:plainC c=true):okD 60 (.str [c])=true:=by
 have h1:c < 200:=Nat.ble_eq.mp ((Bool.and_eq_true _ _).mp h).1
 have:Nat.blt c 1114112=true:=Nat.ble_eq.mpr (Nat.le_trans h1 (by decide))
 show ([c].all fun c=>Nat.blt c 1114112)=true
 simp only [List.all_cons,List.all_nil,this]; rfl
theorem plain_up {c:Nat} (h:plainC c=true):strLe [65] [c]=false∨(strLe [65] [c]=true∧strLe [c] [90]=false):=by
 have h1:=((Bool.and_eq_true _ _).mp h).2
 rw [Bool.not_eq_true',Bool.and_eq_false_iff] at h1
 have e:∀ a b:Nat,strLe [a] [b]=decide (a ≤ b):=fun a b=>by
  show (if a < b then true else if b < a then false else true)=_
  by_cases h:a < b
  ·rw [if_pos h,decide_eq_true (Nat.le_of_lt h)]
  ·rw [if_neg h]
   by_cases h2:b < a
   ·rw [if_pos h2,decide_eq_false (Nat.not_le.mpr h2)]
   ·rw [if_neg h2,decide_eq_true (Nat.not_lt.mp h2)]
 rw [e,e]
 by_cases h65:65 ≤ c
 ·refine .inr ⟨decide_eq_true h65,decide_eq_false fun h90=>?_⟩
  rcases h1 with h | h
  ·rw [Nat.ble_eq.mpr h65] at h; cases h
  ·rw [Nat.ble_eq.mpr h90] at h; cases h
 ·exact .inl (decide_eq_false h65)
theorem ne_e {c:Nat} {M:Mem} (h:plainC c=true):cmpv .ne (.str [c]) (.str []) M=some true:=by
 show (if okD 60 (.str [c]) && true then some true else none)=_
 rw [plain_ok h]; rfl
theorem eq_ch {c k:Nat} {M:Mem} (h:plainC c=true) (hk:okD 60 (.str [k])=true):cmpv .eq (.str [c]) (.str [k]) M=some (c == k):=by
 show (if okD 60 (.str [c]) && okD 60 (.str [k]) then some ([c] == [k]) else none)=_
 rw [plain_ok h,hk]
 show some (c == k && true)=_
 rw [Bool.and_true]
section
variable {C:Cx} {M:Mem} {Q:PV→Mem→Prop} {d:Nat}
theorem l_small (P:Pg C) {c:Nat} (h:plainC c=true) (q:Q (.str [c]) M):CallOk C (d + 1) (.fn 18) [.str [c]] M Q:=by
 refine cl P rfl rfl ?_
 refine ss_ifc (t:=.cmp2 .le .le (.cst (.str [65])) (.loc 0) (.cst (.str [90]))) (env:=[some (.str [c])]) (M':=M) false (fun K k=>?_) q
 show opt (some (strLe [65] [c])) fun v=>match v with
  | true=>opt (some (strLe [c] [90])) fun v=>K v M
  | false=>K false M
 rcases plain_up h with e | ⟨e,e2⟩
 ·rw [e]; exact k
 ·rw [e,e2]; exact k
theorem l_small0 (P:Pg C) (q:Q (.str []) M):CallOk C (d + 1) (.fn 18) [.str []] M Q:=cl P rfl rfl q
theorem l_letter (P:Pg C) {c:Nat} (h:plainC c=true) (q:Q (.bool (isLet c)) M):CallOk C (d + 2) (.fn 19) [.str [c]] M Q:=by
 have g:CallOk C (d + 1) (.fn 18) [.str [c]] M fun v M=>opt (cmpv .isin v v_SMALL_LETTERS M) fun b=>retK Q (.ret (.bool b)) [] M:=l_small P h q
 refine cl P rfl rfl ?_
 show opt (cmpv .ne (.str [c]) (.str []) M) fun v=>_
 rw [ne_e h]
 exact g
theorem l_letter0 (P:Pg C) (q:Q (.bool false) M):CallOk C (d + 2) (.fn 19) [.str []] M Q:=cl P rfl rfl q
theorem l_part (P:Pg C) {c:Nat} (h:plainC c=true) (q:Q (.bool (isPart c)) M):CallOk C (d + 3) (.fn 20) [.str [c]] M Q:=by
 refine cl P rfl rfl (l_letter P h ?_)
 revert q
 unfold isPart
 cases isLet c <;> intro q
 ·show opt (cmpv .ne (.str [c]) (.str []) M) fun v=>_
  rw [ne_e h]
  exact q
 ·exact q
theorem l_part0 (P:Pg C) (q:Q (.bool false) M):CallOk C (d + 3) (.fn 20) [.str []] M Q:=cl P rfl rfl (l_letter0 P q)
theorem l_graph (P:Pg C) {c:Nat} (h:Nat.blt 32 c=true) (k:Nat.blt c 127=true) (q:Q (.bool true) M):CallOk C (d + 1) (.fn 21) [.str [c]] M Q:=by
 have h1:32 < c:=Nat.ble_eq.mp h
 have h2:c < 127:=Nat.ble_eq.mp k
 have hc:Nat.blt c 1114112=true:=Nat.ble_eq.mpr (Nat.le_trans h2 (by decide))
 have e:cmpv .ne (.str [c]) (.str []) M=some true:=by
  show (if ([c].all fun c=>Nat.blt c 1114112) && true then some true else none)=_
  simp only [List.all_cons,List.all_nil,hc]; rfl
 have e1:cmpv .le (.int 32) (.int (c:Int)) M=some true:=congrArg some (decide_eq_true (Int.ofNat_le.mpr (Nat.le_of_lt h1)))
 have e2:cmpv .le (.int (c:Int)) (.int 126) M=some true:=congrArg some (decide_eq_true (Int.ofNat_le.mpr (Nat.le_of_lt_succ h2)))
 refine cl P rfl rfl (ss_ret (wa2 (M:=M) (fun K k=>?_) (wo1 (M:=M) (fun K k=>?_) q)))
 ·show opt (cmpv .ne (.str [c]) (.str []) M) fun b=>K (.bool b) M
  rw [e]; exact k
 ·show opt (cmpv .le (.int 32) (.int (c:Int)) M) fun v=>match v with
   | true=>opt (cmpv .le (.int (c:Int)) (.int 126) M) fun v=>K (.bool v) M
   | false=>K (.bool false) M
  rw [e1]
  show opt (cmpv .le (.int (c:Int)) (.int 126) M) fun v=>K (.bool v) M
  rw [e2]; exact k
noncomputable abbrev t_nt:T:=match stm 2 f_name_token.body with | .whl t _=>t | _=>.val (.loc 0)
noncomputable abbrev b_nt:Ss:=sbody (stm 2 f_name_token.body)
theorem nt_test (P:Pg C) {T:List Nat} {k:Nat} {c:Nat} {r w:List Nat} {o1 o2:Option PV} (h:At T k (c :: r)) (hc:plainC c=true) (K:Bool→Mem→Prop) (q:K (isPart c || (c == 95)) M):wpT C theG (d + 3) t_nt [some (.str T),o1,o2,some (.int k),some (.str w)] M K:=by
 refine and2 h.lk (opt_b true h.ltt ?_)
 refine and2 h.sm (opt_at h.idx (l_part P hc ?_))
 revert q
 cases isPart c <;> intro q
 ·refine and2 h.sm (opt_at h.idx (e_cst (opt_b (c == 95) (eq_ch hc rfl) ?_)))
  revert q
  show K (c == 95) M→_
  cases c == 95 <;> exact fun q=>q
 ·exact q
theorem nt_end {T:List Nat} {k:Nat} {w:List Nat} {o1 o2:Option PV} (h:At T k []) (K:Bool→Mem→Prop) (q:K false M):wpT C theG (d + 3) t_nt [some (.str T),o1,o2,some (.int k),some (.str w)] M K :=
 and2 h.lk (opt_b false h.ltf q)
theorem nn {k:Nat}:0 ≤ (some (k:Int)).getD 0:=Int.natCast_nonneg k
theorem cut_at {T:List Nat} {k n:Nat} {r:List Nat} (h:At T k r):cut T (some (k:Int)) (some ((k:Int) + (n:Int)))=r.take n:=h.cut n
theorem cut12 {T:List Nat} {k:Nat} {r:List Nat} (h:At T (k + 1) r):cut T (some ((k:Int) + 1)) (some ((k:Int) + 2))=r.take 1:=h.cut 1
theorem not_t {b:Bool} (h:(!b)=true):b=false:=by cases b; rfl; cases h
theorem part_ne {c:Nat} (h:isPart c=true):(c == 95)=false:=by
 rw [beq_eq_false_iff_ne]
 intro e
 rw [e] at h; cases h
theorem nt_turn (P:Pg C) {T:List Nat} {k:Nat} {c:Nat} {r w:List Nat} {o1 o2:Option PV} {K:Out→Lo→Mem→Prop} (h:At T k (c :: r)) (hc:plainC c=true) (hw:Ln 1000000 w) (hn:isPart c=true∨(c=95∧∃ e r',r=e :: r'∧plainC e=true∧isPart e=true))
  (q:K .next [some (.str T),o1,o2,some (.int ((k + 1:Nat):Int)),some (.str (w++[c]))] M):wpSs C theG (d + 3) b_nt [some (.str T),o1,o2,some (.int k),some (.str w)] M K:=by
 refine ss_ifc (M':=M) false (fun K k=>?_) ?_
 ·refine and2 h.sm (opt_at h.idx (e_cst (opt_b (c == 95) (eq_ch hc rfl) ?_)))
  rcases hn with hn | ⟨rfl,e,r',rfl,h1,h2⟩
  ·rw [part_ne hn]; exact k
  ·refine and2 ⟨nn,nn⟩ (and2 h.lk ?_)
   rw [cut12 h.next]
   refine l_part P (c:=e) h1 ?_
   rw [h2]
   exact k
 ·refine and2 h.sm (opt_at h.idx (l_small P hc ?_))
  exact and2 (Ln.lk hw (Ln.k (n:=1) rfl) rfl) q
theorem nt_loop (P:Pg C) {T r:List Nat} {o1 o2:Option PV} {K:Out→Lo→Mem→Prop}:∀ {s w:List Nat} {k:Nat},At T k (s++r)→nameB s=true→bndB r=true→Ln (1000000 - s.length) w→(hs:s.length ≤ 1000000) →
  K .next [some (.str T),o1,o2,some (.int ((k + s.length:Nat):Int)),some (.str (w++s))] M →
  unrP (fun env M K=>wpT C theG (d + 3) t_nt env M K) (fun env M K=>wpSs C theG (d + 3) b_nt env M K) (s.length + 1) [some (.str T),o1,o2,some (.int k),some (.str w)] M K
 | [],w,k,h,_,hb,_,_,q=>by
  rw [List.append_nil] at q
  cases r with
  | nil=>exact nt_end h _ q
  | cons c r =>
   have hb':=(Bool.and_eq_true _ _).mp hb
   refine nt_test P h hb'.1 _ ?_
   have hb2:=not_t hb'.2
   rw [Bool.or_eq_false_iff] at hb2
   rw [hb2.1]
   exact q
 | c :: s,w,k,h,hn,hb,hw,hs,q=>by
  have hn':=(Bool.and_eq_true _ _).mp hn
  obtain ⟨h1,h2⟩:=hn'
  have h3:(isPart c || (c == 95))=true∧nameB s=true∧(isPart c=true∨(c=95∧∃ e r',s++r=e :: r'∧plainC e=true∧isPart e=true)):=by
   rcases (Bool.or_eq_true _ _).mp h2 with g | g
   ·have g:=(Bool.and_eq_true _ _).mp g
    exact ⟨by rw [g.1]; rfl,g.2,.inl g.1⟩
   ·have g:=(Bool.and_eq_true _ _).mp g
    have e95:c=95:=beq_iff_eq.mp g.1
    cases s with
    | nil=>exact Bool.noConfusion g.2
    | cons e s =>
     have g2:=(Bool.and_eq_true _ _).mp g.2
     have g3:=(Bool.and_eq_true _ _).mp g2.2
     exact ⟨by rw [g.1,Bool.or_true],g3.2,.inr ⟨e95,e,s++r,rfl,g2.1,g3.1⟩⟩
  refine nt_test P (r:=s++r) h h1 _ ?_
  rw [h3.1]
  have hw':Ln 1000000 w:=Nat.le_trans hw (Nat.sub_le _ _)
  refine nt_turn P (r:=s++r) h h1 hw' h3.2.2 ?_
  refine nt_loop P (s:=s) (w:=w++[c]) (k:=k + 1) h.next h3.2.1 hb ?_ (Nat.le_of_succ_le hs) ?_
  ·show (w++[c]).length ≤ _
   have hw2:w.length ≤ 1000000 - (s.length + 1):=hw
   have hs2:s.length + 1 ≤ 1000000:=hs
   rw [List.length_append]
   show w.length + 1 ≤ _
   omega
  ·have e1:k + (c :: s).length=k + 1 + s.length:=by rw [List.length_cons]; omega
   rw [e1] at q
   rw [List.append_assoc]
   exact q
end
theorem At.okt {T k r n} (h:At T k r):okD 60 (.str (r.take n))=true:=by
 show ((r.take n).all fun c=>Nat.blt c 1114112)=true
 rw [← h.drop,List.all_eq_true]
 intro c hc
 exact List.all_eq_true.mp h.ok c (List.mem_of_mem_drop (List.mem_of_mem_take hc))
theorem res_is {s:List Nat} {M:Mem}:cmpv .isin (.str s) v_RESERVED M=some (isRes s):=by
 have e:cmpv .isin (.str s) v_RESERVED M=inStr resL s:=by
  rcases s with _ | ⟨a,_ | ⟨b,r⟩⟩ <;> rfl
 rw [e]
 rfl
noncomputable def Tk.pv (ln:Int):Tk→PV
 | .nm s=>.tup [.str z_name,.str s,.int ln]
 | .wd s=>.tup [.str z_word,.str s,.int ln]
 | .op s=>.tup [.str z_op,.str s,.int ln]
 | .int n=>.tup [.str z_int,.int n,.int ln]
 | .chr c=>.tup [.str z_char,.int c,.int ln]
section
variable {C:Cx} {M:Mem} {Q:PV→Mem→Prop} {d:Nat}
theorem l_name (P:Pg C) {T s r:List Nat} {k:Nat} {ln:Int} {b:Bool} {t:Tk} (h:At T k (s++r)) (hs:nameB s=true) (hb:bndB r=true) (hl:s.length ≤ 20) (hr:isRes s=b) (ht:t=match b with | true=>.wd s | false=>.nm s)
  (q:Q (.tup [t.pv ln,.int ((k + s.length:Nat):Int)]) M):CallOk C (d + 4) (.fn 22) [.str T,.int k,.int ln] M Q:=by
 subst ht
 refine cl P rfl rfl (Exists.intro (s.length + 1) ?_)
 refine nt_loop P (s:=s) (w:=[]) (r:=r) (k:=k) h hs hb (Nat.zero_le _) (Nat.le_trans hl (by decide)) ?_
 refine ss_ifc (t:=.val (.call (.glo 33) (.cons (.loc 4) .nil))) (M':=M) b (fun K kk=>?_) ?_
 ·refine cl P rfl rfl ?_
  show opt (cmpv .isin (.str s) v_RESERVED M) fun v=>K v M
  exact opt_b b (res_is.trans (congrArg some hr)) kk
 ·cases b
  ·exact q
  ·exact q
end
section
variable {C:Cx} {G:Nat→PV} {d:Nat} {env:Lo} {M:Mem} {Q:Bool→Mem→Prop} {t:T} {ts:Ts}
theorem ta_t (h:∀ K:Bool→Mem→Prop,K true M→wpT C G d t env M K) (q:wpTs C G d ts env M Q):wpTs C G d (.cons t ts) env M Q:=h _ q
theorem ta_f (h:∀ K:Bool→Mem→Prop,K false M→wpT C G d t env M K) (q:Q false M):wpTs C G d (.cons t ts) env M Q:=h _ q
theorem to_t (h:∀ K:Bool→Mem→Prop,K true M→wpT C G d t env M K) (q:Q true M):wpTo C G d (.cons t ts) env M Q:=h _ q
theorem to_f (h:∀ K:Bool→Mem→Prop,K false M→wpT C G d t env M K) (q:wpTo C G d ts env M Q):wpTo C G d (.cons t ts) env M Q:=h _ q
theorem ss_if0 {t:T} {a ss:Ss} {M':Mem} {Q:Out→Lo→Mem→Prop} (h:∀ K:Bool→Mem→Prop,K false M'→wpT C G d t env M K) (q:wpSs C G d ss env M' Q):wpSs C G d (.cons (.ifs t a .nil) ss) env M Q:=h _ q
theorem t_or (q:wpTo C G d ts env M Q):wpT C G d (.or ts) env M Q:=q
theorem t_and (q:wpTs C G d ts env M Q):wpT C G d (.and ts) env M Q:=q
theorem t_cmp {o:Cop} {a b:E} {x y:PV} {v:Bool} (ha:∀ K:PV→Mem→Prop,K x M→wpE C G d a env M K) (hb:∀ K:PV→Mem→Prop,K y M→wpE C G d b env M K) (h:cmpv o x y M=some v) (q:Q v M):wpT C G d (.cmp o a b) env M Q :=
 ha _ (hb _ (by show opt (cmpv o x y M) fun v=>Q v M; rw [h]; exact q))
end
noncomputable def fig (c:Nat):Int:=match ([48,49,50,51,52,53,54,55,56,57,97,98,99,100,101,102]:List Nat).findIdx? (· == c) with
 | some i=>(i:Int)
 | none=>-1
theorem fig_dig:∀ f:Fin 10,fig (48 + f.val)=(f.val:Int):=by decide +kernel
theorem fig_no {c:Nat} (h:isPart c=false):fig c = -1:=by
 have:([48,49,50,51,52,53,54,55,56,57,97,98,99,100,101,102]:List Nat).findIdx? (· == c)=none:=by
  rw [List.findIdx?_eq_none_iff]
  intro x hx
  rw [beq_eq_false_iff_ne]
  rintro rfl
  have:∀ x ∈ ([48,49,50,51,52,53,54,55,56,57,97,98,99,100,101,102]:List Nat),isPart x=true:=by decide
  rw [this x hx] at h; cases h
 unfold fig
 rw [this]
theorem plain_dig:∀ f:Fin 10,plainC (48 + f.val)=true:=by decide +kernel
theorem dig_ne:∀ f:Fin 10,((48 + f.val) == 95)=false:=by decide +kernel
theorem lt_f {a b:Int} {M:Mem} (h:b ≤ a):cmpv .lt (.int a) (.int b) M=some false:=congrArg some (decide_eq_false (Int.not_lt.mpr h))
theorem ge_f {a b:Int} {M:Mem} (h:a < b):cmpv .ge (.int a) (.int b) M=some false:=congrArg some (decide_eq_false (Int.not_le.mpr h))
section
variable {C:Cx} {M:Mem} {Q:PV→Mem→Prop} {d:Nat}
noncomputable abbrev t_rn:T:=match stm 3 f_read_numeral.body with | .whl t _=>t | _=>.val (.loc 0)
noncomputable abbrev b_rn:Ss:=sbody (stm 3 f_read_numeral.body)
theorem e_fig (P:Pg C) {T:List Nat} {k c:Nat} {r:List Nat} {x:Int} {o1 o2 o3 o4 o5 o7:Option PV} (h:At T k (c :: r)) (hc:plainC c=true) (hf:fig c=x) (q:Q (.int x) M) :
  wpE C theG (d + 1) (rhs (stm 0 b_rn)) [some (.str T),o1,o2,o3,o4,o5,some (.int k),o7] M Q:=by
 refine and2 trivial (and2 h.sm (opt_at h.idx (l_small P hc ?_)))
 show Q (.int (fig c)) M
 rw [hf]; exact q
theorem e_us (P:Pg C) {T:List Nat} {k c:Nat} {r:List Nat} {o1 o2 o3 o4 o5 o7:Option PV} (h:At T k (c :: r)) (hc:plainC c=true) (hn:(c == 95)=false) (K:Bool→Mem→Prop) (q:K false M) :
  wpT C theG (d + 1) (match stm 1 b_rn with | .ifs t _ _=>t | _=>.val (.loc 0)) [some (.str T),o1,o2,o3,o4,o5,some (.int k),o7] M K :=
 and2 h.sm (opt_at h.idx (e_cst (opt_b false ((eq_ch hc rfl).trans (by rw [hn])) q)))
theorem rn_dig (P:Pg C) {T:List Nat} {k f m v:Nat} {r:List Nat} {o1 o3 o7:Option PV} {K:Out→Lo→Mem→Prop} (hf:f < 10) (hv:v < 1000) (hm:m < 10) (h:At T k ((48 + f) :: r))
  (q:K .next [some (.str T),o1,some (.int 10),o3,some (.int ((v:Int) * 10 + (f:Int))),some (.int ((m + 1:Nat):Int)),some (.int ((k + 1:Nat):Int)),some (.int (f:Int))] M) :
  wpSs C theG (d + 1) b_rn [some (.str T),o1,some (.int 10),o3,some (.int (v:Int)),some (.int (m:Int)),some (.int (k:Int)),o7] M K:=by
 have hc:=plain_dig ⟨f,hf⟩
 have f0:(0:Int) ≤ (f:Int):=Int.natCast_nonneg f
 have f10:(f:Int) < 10:=Int.ofNat_lt.mpr hf
 refine ss_asg (e_fig P h hc (fig_dig ⟨f,hf⟩) ?_)
 refine ss_if0 (e_us P h hc (dig_ne ⟨f,hf⟩)) ?_
 refine ss_if0 (M':=M) (fun K k=>?_) ?_
 ·refine t_or (to_f (fun K k=>?_) (to_f (fun K k=>?_) ?_))
  ·exact t_cmp (fun K k=>k) (fun K k=>k) (lt_f f0) k
  ·refine t_and (ta_t (fun K k=>k) (ta_f (fun K k=>?_) ?_))
   ·exact t_cmp (fun K k=>k) (fun K k=>k) (ge_f f10) k
   ·exact k
  ·exact k
 ·refine ss_if0 (M':=M) (fun K k=>?_) ?_
  ·exact t_cmp (fun K k=>k) (fun K k=>k) (ge_f f10) k
  refine ss_if0 (M':=M) (fun K k=>?_) ?_
  ·exact t_cmp (fun K k=>k) (fun K k=>k) (eq_f (Int.ne_of_lt (Int.ofNat_lt.mpr (Nat.lt_trans hm (by decide))))) k
  exact and2 ⟨sm (Nat.ble_eq.mpr (Nat.le_trans (Nat.le_of_lt hv) (by decide))),by decide⟩ q
theorem rn_end (P:Pg C) {T:List Nat} {k c:Nat} {r:List Nat} {o1 o2 o3 o4 o5 o7:Option PV} {K:Out→Lo→Mem→Prop} (hc:plainC c=true) (hp:isPart c=false) (hn:(c == 95)=false) (h:At T k (c :: r))
  (q:K .brk [some (.str T),o1,o2,o3,o4,o5,some (.int (k:Int)),some (.int (-1))] M) :
  wpSs C theG (d + 1) b_rn [some (.str T),o1,o2,o3,o4,o5,some (.int (k:Int)),o7] M K:=by
 refine ss_asg (e_fig P h hc (fig_no hp) ?_)
 refine ss_if0 (e_us P h hc hn) ?_
 exact q
theorem rn_t {T:List Nat} {k c:Nat} {r:List Nat} {o1 o2 o3 o4 o5 o7:Option PV} (h:At T k (c :: r)) (K:Bool→Mem→Prop) (q:K true M):wpT C theG d t_rn [some (.str T),o1,o2,o3,o4,o5,some (.int k),o7] M K :=
 and2 h.lk (opt_b true h.ltt q)
theorem rn_f {T:List Nat} {k:Nat} {o1 o2 o3 o4 o5 o7:Option PV} (h:At T k []) (K:Bool→Mem→Prop) (q:K false M):wpT C theG d t_rn [some (.str T),o1,o2,o3,o4,o5,some (.int k),o7] M K :=
 and2 h.lk (opt_b false h.ltf q)
theorem bnd_cons {c:Nat} {r:List Nat} (h:bndB (c :: r)=true):plainC c=true∧isPart c=false∧(c == 95)=false∧Nat.beq c 35=false∧Nat.beq c 46=false:=by
 obtain ⟨h1,h2⟩:=(Bool.and_eq_true _ _).mp h
 have h2:=not_t h2
 rw [Bool.or_eq_false_iff,Bool.or_eq_false_iff,Bool.or_eq_false_iff] at h2
 exact ⟨h1,h2.1.1,h2.1.2,h2.2.1,h2.2.2⟩
theorem rn_rest (P:Pg C) {T:List Nat} {k:Nat} {r:List Nat} {o1 o2 o3 o4 o5 o7:Option PV} {K:Out→Lo→Mem→Prop} {n:Nat} (hb:bndB r=true) (h:At T k r) (q:∀ o7,K .next [some (.str T),o1,o2,o3,o4,o5,some (.int (k:Int)),o7] M) :
  unrP (fun env M K=>wpT C theG (d + 1) t_rn env M K) (fun env M K=>wpSs C theG (d + 1) b_rn env M K) (n + 1) [some (.str T),o1,o2,o3,o4,o5,some (.int (k:Int)),o7] M K:=by
 cases r with
 | nil=>exact rn_f h _ (q o7)
 | cons c r =>
  obtain ⟨h1,h2,h3,_,_⟩:=bnd_cons hb
  exact rn_t h _ (rn_end P h1 h2 h3 h (q _))
end
theorem gt_f {a b:Int} {M:Mem} (h:a ≤ b):cmpv .gt (.int a) (.int b) M=some false:=congrArg some (decide_eq_false (Int.not_lt.mpr h))
theorem cut01 {T:List Nat} {k:Nat} {r:List Nat} (h:At T k r):cut T (some (k:Int)) (some ((k:Int) + 1))=r.take 1:=h.cut 1
theorem cut02 {T:List Nat} {k:Nat} {r:List Nat} (h:At T k r):cut T (some (k:Int)) (some ((k:Int) + 2))=r.take 2:=h.cut 2
theorem cut23 {T:List Nat} {k:Nat} {r:List Nat} (h:At T (k + 2) r):cut T (some ((k:Int) + 2)) (some ((k:Int) + 3))=r.take 1:=h.cut 1
section
variable {C:Cx} {M:Mem} {Q:PV→Mem→Prop} {d:Nat}
theorem l_read (P:Pg C) {T r:List Nat} {k n:Nat} {ln:Int} (hn:n < 100) (hb:bndB r=true) (h:At T k (dec (n:Int)++r)) (q:∀ m:Nat,m=(dec (n:Int)).length→0 < m→Q (.tup [.int (n:Int),.int (m:Int),.int ((k + m:Nat):Int)]) M) :
  CallOk C (d + 2) (.fn 23) [.str T,.int k,.int 10,.int ln] M Q:=by
 by_cases h1:n < 10
 ·have e:=dig1 ⟨n,h1⟩
  have e:dec (n:Int)=[48 + n]:=e
  rw [e] at h
  refine cl P rfl rfl (Exists.intro 3 ?_)
  refine rn_t (r:=r) h _ (rn_dig (v:=0) (m:=0) P h1 (by decide) (by decide) h ?_)
  refine rn_rest P hb h.next fun o7=>?_
  have:=q 1 (by rw [e]; rfl) (by decide)
  have e0:(0:Int) * 10 + (n:Int)=(n:Int):=by rw [Int.zero_mul,Int.zero_add]
  show Q (.tup [.int ((0:Int) * 10 + (n:Int)),_,_]) M
  rw [e0]
  exact this
 ·obtain ⟨j,rfl⟩:∃ j,n=j + 10:=⟨n - 10,by omega⟩
  have e:dec ((j + 10:Nat):Int)=[48 + (j + 10) / 10,48 + (j + 10) % 10]:=dig2 ⟨j,by omega⟩
  rw [e] at h
  have a1:(j + 10) / 10 < 10:=by omega
  have a2:(j + 10) % 10 < 10:=Nat.mod_lt _ (by decide)
  refine cl P rfl rfl (Exists.intro 4 ?_)
  refine rn_t (r:=(48 + (j + 10) % 10) :: r) h _ (rn_dig (v:=0) (m:=0) P a1 (by decide) (by decide) h ?_)
  have e0:(0:Int) * 10 + (((j + 10) / 10:Nat):Int)=(((j + 10) / 10:Nat):Int):=by rw [Int.zero_mul,Int.zero_add]
  show unrP _ _ _ [_,_,_,_,some (.int ((0:Int) * 10 + (((j + 10) / 10:Nat):Int))),_,_,_] M _
  rw [e0]
  refine rn_t (r:=r) h.next _ (rn_dig (v:=(j + 10) / 10) (m:=1) P a2 (Nat.lt_trans a1 (by decide)) (by decide) h.next ?_)
  refine rn_rest P hb h.next.next fun o7=>?_
  have:=q 2 (by rw [e]; rfl) (by decide)
  have e2:(((j + 10) / 10:Nat):Int) * 10 + (((j + 10) % 10:Nat):Int)=((j + 10:Nat):Int):=by omega
  show Q (.tup [.int ((((j + 10) / 10:Nat):Int) * 10 + (((j + 10) % 10:Nat):Int)),_,_]) M
  rw [e2]
  exact this
theorem l_pow (P:Pg C) {T r:List Nat} {k:Nat} {ln:Int} (hb:bndB r=true) (h:At T k r) (q:Q (.tup [.int 0,.int k]) M):CallOk C (d + 2) (.fn 24) [.str T,.int k,.int ln] M Q:=by
 refine cl P rfl rfl (ss_ifc (b:=.nil) (M':=M) true (fun K kk=>?_) q)
 refine and2 ⟨nn,nn⟩ (and2 h.lk ?_)
 rw [cut01 h]
 cases r with
 | nil=>exact l_small0 P kk
 | cons c r =>
  obtain ⟨h1,h2,h3,_,_⟩:=bnd_cons hb
  refine l_small P h1 ?_
  have e:(c == 101)=false:=by
   rw [beq_eq_false_iff_ne]
   rintro rfl
   cases h2
  have e2:cmpv .ne (.str [c]) (.str [101]) M=some true:=by
   show (if okD 60 (.str [c]) && true then some (!((c == 101) && true)) else none)=_
   rw [plain_ok h1,e]; rfl
  refine e_cst (opt_b true e2 kk)
end
theorem sl_ne {r:List Nat} {x:Nat} {M:Mem} (hx:okD 60 (.str [x])=true) (hb:∀ c r',r=c :: r'→plainC c=true∧Nat.beq c x=false):cmpv .eq (.str (r.take 1)) (.str [x]) M=some false:=by
 cases r with
 | nil =>
  show (if true && okD 60 (.str [x]) then some false else none)=_
  rw [hx]; rfl
 | cons c r =>
  obtain ⟨h1,h2⟩:=hb c r rfl
  have e:(c == x)=false:=by
   rw [beq_eq_false_iff_ne]
   rintro rfl
   rw [Nat.beq_refl] at h2; cases h2
  exact (eq_ch h1 hx).trans (by rw [e])
theorem sl_any {r:List Nat} {x n:Nat} {T:List Nat} {k:Nat} {M:Mem} (hx:okD 60 (.str [x])=true) (h:At T k r):cmpv .eq (.str (r.take n)) (.str [x]) M=some (r.take n == [x]):=by
 show (if okD 60 (.str (r.take n)) && okD 60 (.str [x]) then some (r.take n == [x]) else none)=_
 rw [h.okt,hx]; rfl
theorem At.tail {T k r} (h:At T k r):At T (k + 1) (r.drop 1):=⟨by rw [← List.drop_drop,h.drop],h.len,h.ok⟩
theorem nn1 {k:Nat}:0 ≤ (some ((k:Int) + 1)).getD 0:=Int.natCast_nonneg (k + 1)
theorem nn2 {k:Nat}:0 ≤ (some ((k:Int) + 2)).getD 0:=Int.natCast_nonneg (k + 2)
theorem nn3 {k:Nat}:0 ≤ (some ((k:Int) + 3)).getD 0:=Int.natCast_nonneg (k + 3)
noncomputable def skipS:Nat→Ss→Ss
 | 0,s=>s
 | _,.nil=>.nil
 | n + 1,.cons _ r=>skipS n r
section
variable {C:Cx} {M:Mem} {Q:PV→Mem→Prop} {d:Nat}
set_option maxHeartbeats 2000000 in
theorem l_num (P:Pg C) {T r:List Nat} {k n:Nat} {ln:Int} (hn:n < 100) (hb:bndB r=true) (h:At T k (dec (n:Int)++r)) (q:Q (.tup [(Tk.int n).pv ln,.int ((k + (dec (n:Int)).length:Nat):Int)]) M):CallOk C (d + 4) (.fn 25) [.str T,.int k,.int ln] M Q:=by
 have h2:=h.app
 have b1:∀ c r',r=c :: r'→plainC c=true∧Nat.beq c 35=false:=fun c r' e=>by subst e; exact ⟨(bnd_cons hb).1,(bnd_cons hb).2.2.2.1⟩
 have b2:∀ c r',r=c :: r'→plainC c=true∧Nat.beq c 46=false:=fun c r' e=>by subst e; exact ⟨(bnd_cons hb).1,(bnd_cons hb).2.2.2.2⟩
 have b3:∀ c r',r=c :: r'→plainC c=true∧Nat.beq c 95=false:=fun c r' e=>by
  subst e
  refine ⟨(bnd_cons hb).1,?_⟩
  have:=beq_eq_false_iff_ne.mp (bnd_cons hb).2.2.1
  cases hh:Nat.beq c 95
  ·rfl
  ·exact absurd (Nat.eq_of_beq_eq_true hh) this
 refine cl P rfl rfl (l_read (d:=d + 1) P hn hb h fun m hm h0=>?_)
 rw [← hm] at h2 q
 clear hm
 refine and2 ⟨nn,nn1⟩ (and2 h2.lk ?_)
 rw [cut01 h2]
 refine e_cst (opt_b false (sl_ne rfl b1) ?_)
 refine and2 ⟨nn,nn1⟩ (and2 h2.lk ?_)
 rw [cut01 h2]
 refine e_cst (opt_b false (sl_ne rfl b2) ?_)
 refine l_pow (d:=d + 1) P hb h2 ?_
 show wpSs C theG (d + 3) (skipS 9 f_number_token.body) [some (.str T),some (.int k),some (.int ln),some (.int 10),some (.int (n:Int)),some (.int (m:Int)),some (.int ((k + m:Nat):Int)),some (.bool false),some (.int 0),some (.bool false),none,some (.int 0),some (.int ((k + m:Nat):Int))] M (retK Q)
 refine ss_if0 (M':=M) (fun K kk=>?_) (ss_if0 (M':=M) (fun K kk=>?_) ?_)
 ·refine and2 ⟨nn1,nn2⟩ (and2 h2.lk ?_)
  rw [cut12 h2.tail]
  refine e_cst (opt_b _ (sl_any rfl h2.tail) ?_)
  cases (r.drop 1).take 1 == [45]
  ·exact kk
  ·refine ta_f (fun K k=>?_) kk
   exact t_cmp (fun K k=>k) (fun K k=>k) (gt_f (Int.le_refl _)) k
 ·refine and2 ⟨nn,nn1⟩ (and2 h2.lk ?_)
  rw [cut01 h2]
  have last:wpTo C theG (d + 3) (.cons (.cmp .eq (.slc (.loc 0) (.so (.loc 12)) (.so (.bin .add (.loc 12) (.cst (.int 1))))) (.cst (.str [95]))) .nil) [some (.str T),some (.int k),some (.int ln),some (.int 10),some (.int (n:Int)),some (.int (m:Int)),some (.int ((k + m:Nat):Int)),some (.bool false),some (.int 0),some (.bool false),none,some (.int 0),some (.int ((k + m:Nat):Int))] M K:=by
   refine and2 ⟨nn,nn1⟩ (and2 h2.lk ?_)
   rw [cut01 h2]
   exact e_cst (opt_b false (sl_ne rfl b3) kk)
  cases r with
  | nil=>exact l_part0 (d:=d) P last
  | cons c r =>
   refine l_part (d:=d) P (bnd_cons hb).1 ?_
   rw [(bnd_cons hb).2.1]
   exact last
 ·refine and2 ⟨rfl,by decide⟩ (and2 ⟨sm (Nat.ble_eq.mpr (Nat.le_trans (Nat.le_of_lt hn) (by decide))),by decide⟩ ?_)
  show Q (.tup [.tup [_,.int ((n:Int) * 1),_],_]) M
  rw [Int.mul_one]
  exact q
end
noncomputable def pre:Tk→Bool
 | .nm _=>true
 | .wd s=>isAll s
 | .op s=>s == [41]
 | _=>false
inductive Lst (acc:List PV):Bool→Prop
 | nil:acc=[]→Lst acc false
 | some (n t ln):acc.length=n + 1→acc[n]? = some (Tk.pv ln t)→t.ok=true→Lst acc (pre t)
theorem str_eq {s x:List Nat} {M:Mem} (h:okD 60 (.str s)=true) (hx:okD 60 (.str x)=true):cmpv .eq (.str s) (.str x) M=some (s == x):=by
 show (if okD 60 (.str s) && okD 60 (.str x) then some (s == x) else none)=_
 rw [h,hx]; rfl
section
variable {C:Cx} {M:Mem} {Q:PV→Mem→Prop} {d:Nat}
theorem l_pref (P:Pg C) {b:Nat} {acc:List PV} {p:Bool} (hM:M b=some (.list acc)) (hl:acc.length ≤ 1000000) (h:Lst acc p) (q:Q (.bool p) M):CallOk C (d + 1) (.fn 27) [.mref b] M Q:=by
 cases h with
 | nil e =>
  subst e
  exact cl P rfl rfl (RdL.at hM (and2 (lk rfl) q))
 | some n t ln h1 h2 h3 =>
  have hn:n ≤ 1000000:=by omega
  have hlk:lenOk acc.length:=Nat.le_trans hl (by decide)
  refine cl P rfl rfl (RdL.at hM (and2 hlk ?_))
  rw [h1]
  refine RdL.at hM (and2 hlk ?_)
  rw [h1]
  refine RdL.at hM ?_
  rw [h1,show ((n + 1:Nat):Int) - 1=(n:Int) from by omega]
  have e1:(idx (n:Int) (n + 1)).bind (acc[·]?)=Option.some (Tk.pv ln t):=by
   rw [show idx (n:Int) (n + 1)=Option.some n from (idx_nat n (n + 1)).trans (if_pos (Nat.lt_succ_self n))]
   exact h2
  refine and2 (sm (Nat.ble_eq.mpr hn)) (opt_at e1 ?_)
  cases t with
  | nm s=>exact q
  | int k=>exact q
  | chr c=>exact q
  | wd s =>
   have ho:okD 60 (.str s)=true:=ok_chars h3
   show opt (cmpv .eq (.str s) (.str z_all) M) fun v=>Q (.bool v) M
   rw [str_eq ho rfl]
   exact q
  | op s =>
   have ho:okD 60 (.str s)=true:=ok_chars h3
   show opt (cmpv .eq (.str s) (.str [41]) M) fun v=>opt (truth (.bool v) M) fun b=>match b with
    | true=>Q (.bool v) M
    | false=>Q (.bool false) M
   rw [str_eq ho rfl]
   revert q
   show Q (.bool (s == [41])) M→_
   cases s == [41] <;> exact fun q=>q
theorem l_tick (P:Pg C) {T r:List Nat} {k b:Nat} {acc:List PV} {ln:Int} (h:At T k (39 :: r)) (hM:M b=some (.list acc)) (hl:acc.length ≤ 1000000) (hp:Lst acc true) (q:Q (.tup [(Tk.op [39]).pv ln,.int ((k + 1:Nat):Int)]) M) :
  CallOk C (d + 2) (.fn 28) [.str T,.int k,.int ln,.mref b] M Q :=
 cl P rfl rfl (l_pref P hM hl hp q)
theorem l_char (P:Pg C) {T r:List Nat} {k b c:Nat} {acc:List PV} {ln:Int} (h:At T k (39 :: c :: 39 :: r)) (h1:Nat.blt 32 c=true) (h2:Nat.blt c 127=true) (hM:M b=some (.list acc)) (hl:acc.length ≤ 1000000) (hp:Lst acc false) (q:Q (.tup [(Tk.chr c).pv ln,.int ((k + 3:Nat):Int)]) M) :
  CallOk C (d + 2) (.fn 28) [.str T,.int k,.int ln,.mref b] M Q:=by
 refine cl P rfl rfl (l_pref P hM hl hp ?_)
 refine and2 ⟨nn1,nn2⟩ (and2 h.lk ?_)
 rw [cut12 h.next]
 refine l_graph P h1 h2 ?_
 refine and2 ⟨nn2,nn3⟩ (and2 h.lk ?_)
 rw [cut23 h.next.next]
 refine and2 h.next.sm (opt_at h.next.idx ?_)
 exact q
theorem l_delim1 (P:Pg C) {T r:List Nat} {k c:Nat} {ln:Int} (h:At T k (c :: r)) (h1:cmpv .isin (.str ((c :: r).take 2)) v_COMPOUNDS M=some false) (h2:cmpv .isin (.str [c]) v_SINGLES M=some true) (q:Q (.tup [(Tk.op [c]).pv ln,.int ((k + 1:Nat):Int)]) M) :
  CallOk C (d + 1) (.fn 29) [.str T,.int k,.int ln] M Q:=by
 refine cl P rfl rfl (and2 ⟨nn,nn2⟩ (and2 h.lk ?_))
 rw [cut02 h]
 refine e_glo (opt_b false h1 ?_)
 refine and2 h.sm (opt_at h.idx (e_glo (opt_b true h2 ?_)))
 exact and2 h.sm (opt_at h.idx q)
theorem l_delim2 (P:Pg C) {T r:List Nat} {k c e:Nat} {ln:Int} (h:At T k (c :: e :: r)) (h1:cmpv .isin (.str [c,e]) v_COMPOUNDS M=some true) (q:Q (.tup [(Tk.op [c,e]).pv ln,.int ((k + 2:Nat):Int)]) M) :
  CallOk C (d + 1) (.fn 29) [.str T,.int k,.int ln] M Q:=by
 refine cl P rfl rfl (and2 ⟨nn,nn2⟩ (and2 h.lk ?_))
 rw [cut02 h]
 refine e_glo (opt_b true h1 ?_)
 refine and2 ⟨nn,nn2⟩ (and2 h.lk ?_)
 rw [cut02 h]
 exact q
end
noncomputable def preS:Sx→Bool
 | .P=>true
 | .N=>true
 | _=>false
noncomputable def flw (s:Sx) (r:List Nat):Bool:=match s with
 | .N=>bndB r
 | .A=>bndB r
 | .R=>match r with
  | []=>true
  | c :: _=>gapOk c
 | _=>true
theorem dig_let:∀ f:Fin 10,isLet (48 + f.val)=false:=by decide +kernel
theorem dig_fig:∀ f:Fin 10,([48,49,50,51,52,53,54,55,56,57]:List Nat).contains (48 + f.val)=true:=by decide +kernel
theorem dec_head {n:Nat} (h:n < 100):∃ f ds,f < 10∧dec (n:Int)=(48 + f) :: ds:=by
 by_cases h1:n < 10
 ·exact ⟨n,[],h1,dig1 ⟨n,h1⟩⟩
 ·obtain ⟨j,rfl⟩:∃ j,n=j + 10:=⟨n - 10,by omega⟩
  exact ⟨(j + 10) / 10,[48 + (j + 10) % 10],by omega,dig2 ⟨j,by omega⟩⟩
section
variable {C:Cx} {M:Mem} {Q:PV→Mem→Prop} {d:Nat}
theorem l_oneN (P:Pg C) {T s r:List Nat} {k b:Nat} {ln:Int} {t:Tk} {rv:Bool} (h:At T k (s++r)) (hs:nameB s=true) (hh:headLet s=true) (hb:bndB r=true) (hl:s.length ≤ 20) (hr:isRes s=rv) (ht:t=match rv with | true=>.wd s | false=>.nm s)
  (q:Q (.tup [t.pv ln,.int ((k + s.length:Nat):Int)]) M):CallOk C (d + 5) (.fn 30) [.str T,.int k,.int ln,.mref b] M Q:=by
 cases s with
 | nil=>cases hh
 | cons c s =>
  have hc:plainC c=true:=((Bool.and_eq_true _ _).mp hs).1
  have h0:At T k (c :: (s++r)):=h
  refine cl P rfl rfl (and2 h0.sm (opt_at h0.idx (l_letter (d:=d + 2) P hc ?_)))
  rw [show isLet c=true from hh]
  exact l_name P h hs hb hl hr ht q
theorem l_oneI (P:Pg C) {T r:List Nat} {k b n:Nat} {ln:Int} (hn:n < 100) (hb:bndB r=true) (h:At T k (dec (n:Int)++r)) (q:Q (.tup [(Tk.int n).pv ln,.int ((k + (dec (n:Int)).length:Nat):Int)]) M) :
  CallOk C (d + 5) (.fn 30) [.str T,.int k,.int ln,.mref b] M Q:=by
 obtain ⟨f,ds,hf,e⟩:=dec_head hn
 have h0:At T k ((48 + f) :: (ds++r)):=by rw [e] at h; exact h
 refine cl P rfl rfl (and2 h0.sm (opt_at h0.idx (l_letter (d:=d + 2) P (plain_dig ⟨f,hf⟩) ?_)))
 rw [dig_let ⟨f,hf⟩]
 have e2:cmpv .isin (.str [48 + f]) v_FIGURES M=some true:=congrArg some (dig_fig ⟨f,hf⟩)
 show wpSs C theG (d + 4) (skipS 2 f_one_token.body) [some (.str T),some (.int k),some (.int ln),some (.mref b),some (.str [48 + f])] M (retK Q)
 refine ss_ifc (b:=.nil) (M':=M) true (fun K kk=>?_) ?_
 ·show opt (cmpv .isin (.str [48 + f]) v_FIGURES M) fun v=>K v M
  rw [e2]; exact kk
 ·exact l_num P hn hb h q
theorem l_oneC (P:Pg C) {T r:List Nat} {k b c:Nat} {acc:List PV} {ln:Int} (h:At T k (39 :: c :: 39 :: r)) (h1:Nat.blt 32 c=true) (h2:Nat.blt c 127=true) (hM:M b=some (.list acc)) (hl:acc.length ≤ 1000000) (hp:Lst acc false) (q:Q (.tup [(Tk.chr c).pv ln,.int ((k + 3:Nat):Int)]) M) :
  CallOk C (d + 5) (.fn 30) [.str T,.int k,.int ln,.mref b] M Q :=
 cl P rfl rfl (and2 h.sm (opt_at h.idx (l_letter (d:=d + 2) P rfl (l_char (d:=d + 2) P h h1 h2 hM hl hp q))))
theorem l_oneT (P:Pg C) {T r:List Nat} {k b:Nat} {acc:List PV} {ln:Int} (h:At T k (39 :: r)) (hM:M b=some (.list acc)) (hl:acc.length ≤ 1000000) (hp:Lst acc true) (q:Q (.tup [(Tk.op [39]).pv ln,.int ((k + 1:Nat):Int)]) M) :
  CallOk C (d + 5) (.fn 30) [.str T,.int k,.int ln,.mref b] M Q :=
 cl P rfl rfl (and2 h.sm (opt_at h.idx (l_letter (d:=d + 2) P rfl (l_tick (d:=d + 2) P h hM hl hp q))))
theorem l_one1 (P:Pg C) {T r:List Nat} {k b c:Nat} {ln:Int} (h:At T k (c :: r)) (hc:plainC c=true) (hn:isLet c=false) (hf:([48,49,50,51,52,53,54,55,56,57]:List Nat).contains c=false) (h3:(c == 34)=false) (h4:(c == 39)=false)
  (h1:cmpv .isin (.str ((c :: r).take 2)) v_COMPOUNDS M=some false) (h2:cmpv .isin (.str [c]) v_SINGLES M=some true) (q:Q (.tup [(Tk.op [c]).pv ln,.int ((k + 1:Nat):Int)]) M) :
  CallOk C (d + 5) (.fn 30) [.str T,.int k,.int ln,.mref b] M Q:=by
 refine cl P rfl rfl (and2 h.sm (opt_at h.idx (l_letter (d:=d + 2) P hc ?_)))
 rw [hn]
 show wpSs C theG (d + 4) (skipS 2 f_one_token.body) [some (.str T),some (.int k),some (.int ln),some (.mref b),some (.str [c])] M (retK Q)
 refine ss_if0 (M':=M) (fun K kk=>?_) (ss_if0 (M':=M) (fun K kk=>?_) (ss_if0 (M':=M) (fun K kk=>?_) (l_delim1 (d:=d + 3) P h h1 h2 q)))
 ·show opt (some (([48,49,50,51,52,53,54,55,56,57]:List Nat).contains c)) fun v=>K v M
  rw [hf]; exact kk
 ·exact t_cmp (fun K k=>k) (fun K k=>k) ((eq_ch hc rfl).trans (by rw [h3])) kk
 ·exact t_cmp (fun K k=>k) (fun K k=>k) ((eq_ch hc rfl).trans (by rw [h4])) kk
theorem l_one2 (P:Pg C) {T r:List Nat} {k b c e:Nat} {ln:Int} (h:At T k (c :: e :: r)) (hc:plainC c=true) (hn:isLet c=false) (hf:([48,49,50,51,52,53,54,55,56,57]:List Nat).contains c=false) (h3:(c == 34)=false) (h4:(c == 39)=false)
  (h1:cmpv .isin (.str [c,e]) v_COMPOUNDS M=some true) (q:Q (.tup [(Tk.op [c,e]).pv ln,.int ((k + 2:Nat):Int)]) M) :
  CallOk C (d + 5) (.fn 30) [.str T,.int k,.int ln,.mref b] M Q:=by
 refine cl P rfl rfl (and2 h.sm (opt_at h.idx (l_letter (d:=d + 2) P hc ?_)))
 rw [hn]
 show wpSs C theG (d + 4) (skipS 2 f_one_token.body) [some (.str T),some (.int k),some (.int ln),some (.mref b),some (.str [c])] M (retK Q)
 refine ss_if0 (M':=M) (fun K kk=>?_) (ss_if0 (M':=M) (fun K kk=>?_) (ss_if0 (M':=M) (fun K kk=>?_) (l_delim2 (d:=d + 3) P h h1 q)))
 ·show opt (some (([48,49,50,51,52,53,54,55,56,57]:List Nat).contains c)) fun v=>K v M
  rw [hf]; exact kk
 ·exact t_cmp (fun K k=>k) (fun K k=>k) ((eq_ch hc rfl).trans (by rw [h3])) kk
 ·exact t_cmp (fun K k=>k) (fun K k=>k) ((eq_ch hc rfl).trans (by rw [h4])) kk
theorem l_one (P:Pg C) {T r:List Nat} {k b:Nat} {acc:List PV} {ln:Int} {t:Tk} {s s':Sx} (hd:dl s t=some s') (ho:t.ok=true) (hM:M b=some (.list acc)) (hl:acc.length ≤ 1000000) (hp:Lst acc (preS s)) (h:At T k (t.text++r)) (hb:flw s' r=true)
  (q:Q (.tup [t.pv ln,.int ((k + t.text.length:Nat):Int)]) M):CallOk C (d + 5) (.fn 30) [.str T,.int k,.int ln,.mref b] M Q:=by
 cases t with
 | nm x =>
  obtain ⟨a1,a2⟩:=(Bool.and_eq_true _ _).mp ho
  obtain ⟨a2,a3⟩:=(Bool.and_eq_true _ _).mp a2
  obtain ⟨a3,a4⟩:=(Bool.and_eq_true _ _).mp a3
  have hb':bndB r=true:=by cases s <;> cases hd <;> exact hb
  exact l_oneN P h a1 a2 hb' (Nat.le_of_ble_eq_true a4) (not_t a3) rfl q
 | wd x =>
  obtain ⟨a1,a2⟩:=(Bool.and_eq_true _ _).mp ho
  obtain ⟨a2,a3⟩:=(Bool.and_eq_true _ _).mp a2
  obtain ⟨a3,a4⟩:=(Bool.and_eq_true _ _).mp a3
  have hw:∀ s',s'=wdTo x→flw s' r=true→bndB r=true:=fun s' e h=>by
   subst e
   unfold wdTo at h
   cases hx:isAll x <;> rw [hx] at h <;> exact h
  have hb':bndB r=true:=by cases s <;> cases hd <;> exact hw _ rfl hb
  exact l_oneN P h a1 a2 hb' (Nat.le_of_ble_eq_true a4) a3 rfl q
 | int n =>
  have hb':bndB r=true:=by cases s <;> cases hd <;> exact hb
  exact l_oneI P (Nat.ble_eq.mp ho) hb' h q
 | chr c =>
  obtain ⟨a1,a2⟩:=(Bool.and_eq_true _ _).mp ho
  have hs:preS s=false:=by cases s <;> cases hd <;> rfl
  rw [hs] at hp
  exact l_oneC P h a1 a2 hM hl hp q
 | op x =>
  have gR:∀ {c:Nat},flw .R r=true→plainC c=true→isLet c=false→([48,49,50,51,52,53,54,55,56,57]:List Nat).contains c=false→(c == 34)=false→(c == 39)=false→cmpv .isin (.str [c]) v_COMPOUNDS M=some false→cmpv .isin (.str [c,32]) v_COMPOUNDS M=some false→cmpv .isin (.str [c,10]) v_COMPOUNDS M=some false →
    cmpv .isin (.str [c]) v_SINGLES M=some true→At T k (c :: r)→Q (.tup [(Tk.op [c]).pv ln,.int ((k + 1:Nat):Int)]) M→CallOk C (d + 5) (.fn 30) [.str T,.int k,.int ln,.mref b] M Q:=fun {c} hb hc hn hf h3 h4 c0 c1 c2 c3 h q=>by
   have:cmpv .isin (.str ((c :: r).take 2)) v_COMPOUNDS M=some false:=by
    cases r with
    | nil=>exact c0
    | cons x r =>
     rcases (Bool.or_eq_true _ _).mp (show (Nat.beq x 32 || Nat.beq x 10)=true from hb) with e | e
     ·rw [Nat.eq_of_beq_eq_true e]; exact c1
     ·rw [Nat.eq_of_beq_eq_true e]; exact c2
   exact l_one1 P h hc hn hf h3 h4 this c3 q
  refine opB_elim (P:=fun x=>dl s (.op x)=some s'→At T k (x++r)→Q (.tup [(Tk.op x).pv ln,.int ((k + x.length:Nat):Int)]) M→CallOk C (d + 5) (.fn 30) [.str T,.int k,.int ln,.mref b] M Q) ho ?_ ?_ ?_ ?_ ?_ ?_ ?_ ?_ ?_ ?_ ?_ ?_ hd h q
  ·exact fun hd h q=>l_one1 P h rfl rfl rfl rfl rfl (by cases r <;> rfl) rfl q
  ·exact fun hd h q=>l_one1 P h rfl rfl rfl rfl rfl (by cases r <;> rfl) rfl q
  ·exact fun hd h q=>l_one1 P h rfl rfl rfl rfl rfl (by cases r <;> rfl) rfl q
  ·exact fun hd h q=>l_one1 P h rfl rfl rfl rfl rfl (by cases r <;> rfl) rfl q
  ·exact fun hd h q=>l_one1 P h rfl rfl rfl rfl rfl (by cases r <;> rfl) rfl q
  ·intro hd h q
   have hb':flw .R r=true:=by cases s <;> cases hd <;> exact hb
   exact gR hb' rfl rfl rfl rfl rfl rfl rfl rfl rfl h q
  ·intro hd h q
   have hb':flw .R r=true:=by cases s <;> cases hd <;> exact hb
   exact gR hb' rfl rfl rfl rfl rfl rfl rfl rfl rfl h q
  ·intro hd h q
   have hs:preS s=true:=by cases s <;> cases hd <;> rfl
   rw [hs] at hp
   exact l_oneT P h hM hl hp q
  ·exact fun hd h q=>l_one2 P h rfl rfl rfl rfl rfl rfl q
  ·exact fun hd h q=>l_one2 P h rfl rfl rfl rfl rfl rfl q
  ·exact fun hd h q=>l_one2 P h rfl rfl rfl rfl rfl rfl q
  ·exact fun hd h q=>l_one2 P h rfl rfl rfl rfl rfl rfl q
end
noncomputable def endL:List Nat:=[10,13,12,11]
noncomputable def gapL:List Nat:=[32,9,13,10,12,11]
theorem not_end:∀ c:Fin 127,31 < c.val→endL.contains c.val=false:=by decide +kernel
section
variable {C:Cx} {M:Mem} {Q:PV→Mem→Prop} {d:Nat}
noncomputable abbrev t_rb:T:=match stm 1 f_remark_behind.body with | .whl t _=>t | _=>.val (.loc 0)
noncomputable abbrev b_rb:Ss:=sbody (stm 1 f_remark_behind.body)
theorem rb_loop {T r:List Nat} {o1:Option PV} {K:Out→Lo→Mem→Prop}:∀ {s:List Nat} {k:Nat},At T k (s++10 :: r)→(s.all fun c=>Nat.blt 31 c && Nat.blt c 127)=true →
  K .next [some (.str T),o1,some (.int ((k + s.length:Nat):Int))] M →
  unrP (fun env M K=>wpT C theG d t_rb env M K) (fun env M K=>wpSs C theG d b_rb env M K) (s.length + 1) [some (.str T),o1,some (.int k)] M K
 | [],k,h,_,q=>and2 h.lk (opt_b true h.ltt (and2 h.sm (opt_at h.idx q)))
 | c :: s,k,h,hs,q=>by
  obtain ⟨h1,h2⟩:=(Bool.and_eq_true _ _).mp hs
  obtain ⟨h3,h4⟩:=(Bool.and_eq_true _ _).mp h1
  have e:cmpv .notin (.str [c]) v_LINE_ENDS M=some true:=by
   show some (!endL.contains c)=_
   rw [not_end ⟨c,Nat.ble_eq.mp h4⟩ (Nat.ble_eq.mp h3)]; rfl
  have h0:At T k (c :: (s++10 :: r)):=h
  refine and2 h0.lk (opt_b true h0.ltt (and2 h0.sm (opt_at h0.idx (e_glo (opt_b true e ?_)))))
  refine rb_loop (s:=s) (k:=k + 1) h0.next h2 ?_
  have e1:k + (c :: s).length=k + 1 + s.length:=by rw [List.length_cons]; omega
  rw [e1] at q
  exact q
theorem l_remark (P:Pg C) {T r s:List Nat} {k:Nat} (h:At T k (s++10 :: r)) (hs:(s.all fun c=>Nat.blt 31 c && Nat.blt c 127)=true) (q:Q (.int ((k + s.length:Nat):Int)) M):CallOk C (d + 1) (.fn 31) [.str T,.int k] M Q :=
 cl P rfl rfl (Exists.intro (s.length + 1) (rb_loop h hs q))
end
inductive TL:List Tk→List PV→Prop
 | nil:TL [] []
 | cons (t ts ln l):TL ts l→TL (t :: ts) (t.pv ln :: l)
noncomputable def cost:List Im→Nat
 | []=>0
 | .rem _ :: is=>cost is + 1 + 1
 | .gap _ :: is=>cost is + 1
 | .tk _ :: is=>cost is + 1
theorem dl_pre {s s':Sx} {t:Tk} (ho:t.ok=true) (h:dl s t=some s'):pre t=preS s':=by
 cases t with
 | nm x=>cases s <;> cases h <;> rfl
 | wd x =>
  have g:preS (wdTo x)=isAll x:=by unfold wdTo; cases isAll x <;> rfl
  cases s <;> cases h <;> exact g.symm
 | int n=>cases s <;> cases h <;> rfl
 | chr c=>cases s <;> cases h <;> rfl
 | op x =>
  refine opB_elim (P:=fun x=>dl s (.op x)=some s'→pre (.op x)=preS s') ho ?_ ?_ ?_ ?_ ?_ ?_ ?_ ?_ ?_ ?_ ?_ ?_ h <;> (intro h; cases s <;> cases h <;> rfl)
theorem flw_run:∀ {s e:Sx} {is:List Im},(toks is).all Tk.ok=true→run s is=some e→flw s (flat is)=true
 | s,e,[],_,_=>by cases s <;> rfl
 | s,e,.gap c :: is,_,h=>by
  replace h:(match gapOk c with | true=>run (gp s) is | false=>none)=some e:=h
  cases hc:gapOk c with
  | false=>rw [hc] at h; cases h
  | true =>
   have hc2:=hc
   rcases (Bool.or_eq_true _ _).mp (show (Nat.beq c 32 || Nat.beq c 10)=true from hc) with g | g
   ·rw [Nat.eq_of_beq_eq_true g]; cases s <;> rfl
   ·rw [Nat.eq_of_beq_eq_true g]; cases s <;> rfl
 | s,e,.rem x :: is,_,h=>by
  replace h:(match remOk x with | true=>(match (generalizing:=false) s with | .F=>run .F is | .P=>run .P is | _=>none) | false=>none)=some e:=h
  cases hd:remOk x with
  | false=>rw [hd] at h; cases h
  | true=>rw [hd] at h; cases s <;> first | rfl | cases h
 | s,e,.tk t :: is,ho,h=>by
  have ho':t.ok=true:=((Bool.and_eq_true _ _).mp ho).1
  replace h:(match dl s t with | some s=>run s is | none=>none)=some e:=h
  cases hd:dl s t with
  | none=>rw [hd] at h; cases h
  | some s' =>
   clear h
   cases t with
   | op x =>
    show flw s (x++flat is)=true
    refine opB_elim (P:=fun x=>dl s (.op x)=some s'→flw s (x++flat is)=true) ho' ?_ ?_ ?_ ?_ ?_ ?_ ?_ ?_ ?_ ?_ ?_ ?_ hd <;> (intro h; cases s <;> first | rfl | cases h)
   | _=>cases s <;> first | rfl | cases hd
theorem tk_head {t:Tk} (h:t.ok=true):∃ c s,t.text=c :: s∧gapL.contains c=false∧(c == 45)=false:=by
 have let_:∀ {c},isLet c=true→gapL.contains c=false∧(c == 45)=false:=fun {c} h=>by
  have hm:c ∈ ([97,98,99,100,101,102,103,104,105,106,107,108,109,110,111,112,113,114,115,116,117,118,119,120,121,122]:List Nat):=List.contains_iff_mem.mp h
  have:∀ c ∈ ([97,98,99,100,101,102,103,104,105,106,107,108,109,110,111,112,113,114,115,116,117,118,119,120,121,122]:List Nat),gapL.contains c=false∧(c == 45)=false:=by decide +kernel
  exact this c hm
 cases t with
 | nm x =>
  have h:=((Bool.and_eq_true _ _).mp ((Bool.and_eq_true _ _).mp h).2).1
  cases x with
  | nil=>cases h
  | cons c s=>exact ⟨c,s,rfl,let_ h⟩
 | wd x =>
  have h:=((Bool.and_eq_true _ _).mp ((Bool.and_eq_true _ _).mp h).2).1
  cases x with
  | nil=>cases h
  | cons c s=>exact ⟨c,s,rfl,let_ h⟩
 | int n =>
  obtain ⟨f,ds,hf,e⟩:=dec_head (Nat.ble_eq.mp h)
  have:∀ f:Fin 10,gapL.contains (48 + f.val)=false∧((48 + f.val) == 45)=false:=by decide +kernel
  exact ⟨48 + f,ds,e,this ⟨f,hf⟩⟩
 | chr c=>exact ⟨39,[c,39],rfl,rfl,rfl⟩
 | op x=>exact opB_elim (P:=fun x=>∃ c s,x=c :: s∧gapL.contains c=false∧(c == 45)=false) h ⟨_,_,rfl,rfl,rfl⟩ ⟨_,_,rfl,rfl,rfl⟩ ⟨_,_,rfl,rfl,rfl⟩ ⟨_,_,rfl,rfl,rfl⟩ ⟨_,_,rfl,rfl,rfl⟩ ⟨_,_,rfl,rfl,rfl⟩ ⟨_,_,rfl,rfl,rfl⟩ ⟨_,_,rfl,rfl,rfl⟩ ⟨_,_,rfl,rfl,rfl⟩ ⟨_,_,rfl,rfl,rfl⟩ ⟨_,_,rfl,rfl,rfl⟩ ⟨_,_,rfl,rfl,rfl⟩
theorem TL.app {a b l m} (h:TL a l) (k:TL b m):TL (a++b) (l++m):=by
 induction h with
 | nil=>exact k
 | cons t ts ln l _ ih=>exact .cons _ _ _ _ ih
theorem in_gap {c:Nat} {M:Mem}:cmpv .isin (.str [c]) v_GAPS M=some (gapL.contains c):=rfl
section
variable {C:Cx} {M:Mem} {Q:PV→Mem→Prop} {d:Nat}
noncomputable abbrev t_to:T:=match stm 3 f_tokens_of.body with | .whl t _=>t | _=>.val (.loc 0)
noncomputable abbrev b_to:Ss:=sbody (stm 3 f_tokens_of.body)
noncomputable abbrev i_to (n:Nat):Ss:=match stm 0 b_to with | .ifs _ a b=>(match n with | 0=>a | _=>b) | _=>.nil
theorem to_gap {T r:List Nat} {k b c:Nat} {ln:Int} {o:Option PV} {K:Out→Lo→Mem→Prop} (h:At T k (c :: r)) (hc:gapOk c=true)
  (q:∀ ln,K .next [some (.str T),some (.mref b),some (.int ((k + 1:Nat):Int)),some (.int ln),o] M):wpSs C theG (d + 5) b_to [some (.str T),some (.mref b),some (.int k),some (.int ln),o] M K:=by
 have hg:gapL.contains c=true:=by
  rcases (Bool.or_eq_true _ _).mp (show (Nat.beq c 32 || Nat.beq c 10)=true from hc) with g | g
  ·rw [Nat.eq_of_beq_eq_true g]; rfl
  ·rw [Nat.eq_of_beq_eq_true g]; rfl
 refine and2 h.sm (opt_at h.idx (e_glo (opt_b true (in_gap.trans (by rw [hg])) ?_)))
 refine and2 h.sm (opt_at h.idx ?_)
 rcases (Bool.or_eq_true _ _).mp (show (Nat.beq c 32 || Nat.beq c 10)=true from hc) with g | g
 ·rw [Nat.eq_of_beq_eq_true g]; exact q _
 ·rw [Nat.eq_of_beq_eq_true g]; exact q _
theorem to_else {T r:List Nat} {k b c:Nat} {ln:Int} {o:Option PV} {K:Out→Lo→Mem→Prop} (h:At T k (c :: r)) (hc:gapL.contains c=false) (v:Bool) (hv:cmpv .eq (.str ((c :: r).take 2)) (.str [45,45]) M=some v)
  (q:wpS C theG (d + 5) (.ifs (.val (.cst (.bool v))) (match stm 0 (i_to 1) with | .ifs _ a _=>a | _=>.nil) (match stm 0 (i_to 1) with | .ifs _ _ a=>a | _=>.nil)) [some (.str T),some (.mref b),some (.int k),some (.int ln),o] M (seqK (fun env M Q=>wpSs C theG (d + 5) .nil env M Q) (seqK (fun env M Q=>wpSs C theG (d + 5) .nil env M Q) K))) :
  wpSs C theG (d + 5) b_to [some (.str T),some (.mref b),some (.int k),some (.int ln),o] M K:=by
 refine and2 h.sm (opt_at h.idx (e_glo (opt_b false (in_gap.trans (by rw [hc])) ?_)))
 refine and2 ⟨nn,nn2⟩ (and2 h.lk ?_)
 rw [cut02 h]
 exact e_cst (opt_b v hv q)
theorem to_loop (P:Pg C) {T:List Nat} {b:Nat} {K:Out→Lo→Mem→Prop}:∀ {is:List Im} {k:Nat} {acc:List PV} {s e:Sx} {ln:Int} {o:Option PV} {M:Mem},At T k (flat is)→(toks is).all Tk.ok=true→run s is=some e→Lst acc (preS s)→M b=some (.list acc)→acc.length ≤ k→k ≤ 1000000 →
  (∀ l k ln o M',TL (toks is) l→M' b=some (.list (acc++l))→(∀ c,c ≠ b→M' c=M c)→K .next [some (.str T),some (.mref b),k,ln,o] M') →
  unrP (fun env M K=>wpT C theG (d + 5) t_to env M K) (fun env M K=>wpSs C theG (d + 5) b_to env M K) (cost is + 1) [some (.str T),some (.mref b),some (.int k),some (.int ln),o] M K
 | [],k,acc,s,e,ln,o,M,h,ho,hr,hl,hM,ha,hk,q=>by
  refine and2 h.lk (opt_b false h.ltf ?_)
  exact q [] _ _ _ M .nil (by rw [List.append_nil]; exact hM) fun _ _=>rfl
 | .gap c :: is,k,acc,s,e,ln,o,M,h,ho,hr,hl,hM,ha,hk,q=>by
  have h0:At T k (c :: flat is):=h
  replace hr:(match gapOk c with | true=>run (gp s) is | false=>none)=some e:=hr
  cases hc:gapOk c with
  | false=>rw [hc] at hr; cases hr
  | true =>
   rw [hc] at hr
   refine and2 h0.lk (opt_b true h0.ltt (to_gap h0 hc fun ln=>?_))
   have hl':Lst acc (preS (gp s)):=by cases s <;> exact hl
   exact to_loop P (is:=is) h0.next ho hr hl' hM (Nat.le_succ_of_le ha) (Nat.le_trans h0.lt h0.len) q
 | .rem x :: is,k,acc,s,e,ln,o,M,h,ho,hr,hl,hM,ha,hk,q=>by
  replace hr:(match remOk x with | true=>(match (generalizing:=false) s with | .F=>run .F is | .P=>run .P is | _=>none) | false=>none)=some e:=hr
  cases hd:remOk x with
  | false=>rw [hd] at hr; cases hr
  | true =>
   rw [hd] at hr
   have hr':run (gp s) is=some e∧Lst acc (preS (gp s)):=by cases s <;> first | exact ⟨hr,hl⟩ | cases hr
   obtain ⟨h1,h2⟩:=(Bool.and_eq_true _ _).mp hd
   obtain ⟨y,rfl⟩:∃ y,x=45 :: 45 :: y:=by
    rcases x with _ | ⟨a,_ | ⟨a2,y⟩⟩
    ·cases h1
    ·cases h1':(45 == a) <;> (replace h1:((45 == a) && false)=true:=h1) <;> rw [Bool.and_false] at h1 <;> cases h1
    ·replace h1:((45 == a) && ((45 == a2) && true))=true:=h1
     obtain ⟨e1,e2⟩:=(Bool.and_eq_true _ _).mp h1
     obtain ⟨e2,_⟩:=(Bool.and_eq_true _ _).mp e2
     rw [← eq_of_beq e1,← eq_of_beq e2]
     exact ⟨y,rfl⟩
   have h0:At T k ((45 :: 45 :: y)++10 :: flat is):=by
    have e:flat (.rem (45 :: 45 :: y) :: is)=(45 :: 45 :: y)++10 :: flat is:=List.append_assoc _ [10] _
    rw [e] at h; exact h
   have h3:At T k (45 :: (45 :: y++10 :: flat is)):=h0
   refine and2 h3.lk (opt_b true h3.ltt (to_else h3 rfl true rfl ?_))
   refine l_remark (d:=d + 4) P h0 h2 ?_
   have h4:=h0.app
   refine and2 h4.lk (opt_b true h4.ltt (to_gap h4 rfl fun ln=>?_))
   refine to_loop P (is:=is) h4.next ho hr'.1 hr'.2 hM ?_ (Nat.le_trans h4.lt h4.len) q
   exact Nat.le_trans ha (Nat.le_trans (Nat.le_add_right _ _) (Nat.le_succ _))
 | .tk t :: is,k,acc,s,e,ln,o,M,h,ho,hr,hl,hM,ha,hk,q=>by
  obtain ⟨ho1,ho2⟩:=(Bool.and_eq_true _ _).mp ho
  replace hr:(match dl s t with | some s=>run s is | none=>none)=some e:=hr
  cases hd:dl s t with
  | none=>rw [hd] at hr; cases hr
  | some s' =>
   rw [hd] at hr
   obtain ⟨c,x,ht,hg,hm⟩:=tk_head ho1
   have h0:At T k (t.text++flat is):=h
   have h1:At T k (c :: (x++flat is)):=by rw [ht] at h0; exact h0
   have hv:cmpv .eq (.str ((c :: (x++flat is)).take 2)) (.str [45,45]) M=some false:=by
    have ok:=h1.okt (n:=2)
    show (if okD 60 (.str ((c :: (x++flat is)).take 2)) && true then some ((c :: (x++flat is).take 1) == [45,45]) else none)=_
    rw [ok]
    show some ((c == 45) && _)=_
    rw [hm]; rfl
   have hal:acc.length ≤ 1000000:=Nat.le_trans ha hk
   refine and2 h1.lk (opt_b true h1.ltt (to_else h1 hg false hv ?_))
   refine l_one P hd ho1 hM hal hl h0 (flw_run ho2 hr) ?_
   refine and2 (RdL.at hM trivial) ?_
   have h5:=h0.app
   have htp:0 < t.text.length:=by rw [ht]; exact Nat.succ_pos _
   have go:unrP (fun env M K=>wpT C theG (d + 5) t_to env M K) (fun env M K=>wpSs C theG (d + 5) b_to env M K) (cost is + 1) [some (.str T),some (.mref b),some (.int ((k + t.text.length:Nat):Int)),some (.int ln),some (t.pv ln)] (M.upd b (.list (acc++[t.pv ln]))) K:=by
    refine to_loop P (is:=is) h5 ho2 hr ?_ upd_same ?_ ?_ fun l k' ln' o' M' hl' hM' hk'=>?_
    ·rw [← dl_pre ho1 hd]
     exact .some acc.length t ln (by rw [List.length_append]; rfl) (by rw [List.getElem?_append_right (Nat.le_refl _),Nat.sub_self]; rfl) ho1
    ·rw [List.length_append]
     exact Nat.add_le_add ha htp
    ·have:=h5.len
     have h6:=congrArg List.length h0.drop
     rw [List.length_drop,List.length_append] at h6
     omega
    ·refine q (t.pv ln :: l) _ _ _ M' (.cons _ _ _ _ hl') ?_ fun c hc=>(hk' c hc).trans (upd_ne hc)
     rw [hM',List.append_assoc]; rfl
   cases t <;> exact RdL.at hM (and2 (Nat.le_trans hal (by decide)) go)
theorem l_tokens (P:Pg C) {is:List Im} {e:Sx} (hn:(flat is).length ≤ 1000000) (hc:okD 0 (.str (flat is))=true) (ho:(toks is).all Tk.ok=true) (hr:run .F is=some e) (q:∀ l M',TL (toks is) l→Kpt M M'→(∀ c,M c=none→M' c=none)→Q (.list l) M') :
  CallOk C (d + 6) (.fn 32) [.str (flat is)] M Q:=by
 refine cl P rfl rfl fun b hb=>Exists.intro (cost is + 1) ?_
 refine to_loop (k:=0) (acc:=[]) (b:=b) P ⟨rfl,hn,hc⟩ ho hr (.nil rfl) upd_same (Nat.zero_le _) (Nat.zero_le _) fun l k ln o M' hl hM hk=>?_
 refine RdL.at hM (q l _ hl (fun a x ha=>?_) fun a ha=>?_)
 ·have hab:a ≠ b:=fun w=>by rw [w,hb] at ha; cases ha
  rw [del_ne hab,hk a hab,upd_ne hab]; exact ha
 ·by_cases hab:a=b
  ·rw [hab]; exact del_same
  ·rw [del_ne hab,hk a hab,upd_ne hab]; exact ha
end
theorem TL.len {ts l} (h:TL ts l):l.length=ts.length:=by
 induction h with
 | nil=>rfl
 | cons t ts ln l _ ih=>exact congrArg (· + 1) ih
theorem TL.at {ts l} (h:TL ts l):∀ (j:Nat) t,ts[j]? = some t→∃ ln,l[j]? = some (t.pv ln):=by
 induction h with
 | nil=>intro j t e; cases j <;> cases e
 | cons u ts ln l _ ih =>
  intro j t e
  cases j with
  | zero=>cases e; exact ⟨ln,rfl⟩
  | succ j=>exact ih j t e
theorem pv_ok {t:Tk} {n:Nat} {ln:Int} (h:t.ok=true):okD (n + 1) (t.pv ln)=true:=by
 have g:=ok_chars h
 have s:∀ x:List Nat,(x.all fun c=>Nat.blt c 1114112)=true→okD n (.str x)=true:=fun x h=>by cases n <;> exact h
 have i:∀ k:Int,okD n (.int k)=true:=fun k=>by cases n <;> rfl
 have e:okDs n []=true:=by cases n <;> rfl
 cases t with
 | nm x=>exact okc (s _ rfl) (okc (s _ g) (okc (i _) e))
 | wd x=>exact okc (s _ rfl) (okc (s _ g) (okc (i _) e))
 | op x=>exact okc (s _ rfl) (okc (s _ g) (okc (i _) e))
 | int x=>exact okc (s _ rfl) (okc (i _) (okc (i _) e))
 | chr x=>exact okc (s _ rfl) (okc (i _) (okc (i _) e))
theorem TL.okDs {ts l n} (h:TL ts l) (ho:ts.all Tk.ok=true):Mine.okDs (n + 1) l=true:=by
 induction h with
 | nil=>rfl
 | cons t ts ln l _ ih =>
  obtain ⟨h1,h2⟩:=(Bool.and_eq_true _ _).mp ho
  exact okc (pv_ok h1) (ih h2)
noncomputable abbrev rdO (T:List PV) (k n dp:Nat):List PV:=[.list T,.int k,.int n,.int dp,.none,.none,.none,.none,.none,.none,.none,.none,.none,.none,.none]
structure Rs (r:Nat) (M₀:Mem) (n dp:Nat) (ts:List Tk) (M:Mem):Prop where
 here:∃ T all k,M r=some (.obj (rdO T k n dp))∧TL all T∧all.all Tk.ok=true∧ts=all.drop k∧k ≤ all.length∧all.length ≤ 1000000
 rest:∀ c,c ≠ r→M c=M₀ c
theorem Rs.self {r M₀ n dp ts M} (h:Rs r M₀ n dp ts M):Rs r M n dp ts M:=⟨h.here,fun _ _=>rfl⟩
section
variable {C:Cx} {M M₀:Mem} {Q:PV→Mem→Prop} {d r n dp:Nat} {ts:List Tk}
theorem Rs.next {t:Tk} (h:Rs r M₀ n dp (t :: ts) M):∃ T k,M r=some (.obj (rdO T k n dp))∧Rs r M₀ n dp ts (M.upd r (.obj (rdO T (k + 1) n dp))):=by
 obtain ⟨T,all,k,h1,h2,h3,h4,h5,h6⟩:=h.here
 have hlt:k < all.length:=by
  apply Nat.lt_of_not_le
  intro w
  rw [List.drop_eq_nil_of_le w] at h4; cases h4
 refine ⟨T,k,h1,⟨T,all,k + 1,upd_same,h2,h3,?_,hlt,h6⟩,fun c hc=>(upd_ne hc).trans (h.rest c hc)⟩
 rw [← List.drop_drop,← h4]; rfl
theorem p_ahead (P:Pg C) (h:Rs r M₀ n dp ts M) {j:Nat} (hj:j ≤ 1000) (q1:∀ t ln,ts[j]? = some t→t.ok=true→Q (t.pv ln) M) (q2:∀ ln,ts[j]? = none→Q (.tup [.str [],.str [],.int ln]) M):CallOk C (d + 1) (.fn 34) [.mref r,.int (j:Nat)] M Q:=by
 obtain ⟨T,all,k,h1,h2,h3,h4,h5,h6⟩:=h.here
 have hT:=h2.len
 have hlk:lenOk T.length:=by rw [hT]; exact Nat.le_trans h6 (by decide)
 have e:ts[j]? = all[k + j]?:=by rw [h4,List.getElem?_drop]
 refine cl P rfl rfl (RdO.at h1 (and2 rfl (RdO.at h1 (and2 rfl (and2 hlk ?_)))))
 by_cases hl:k + j < all.length
 ·refine opt_b true (congrArg some (decide_eq_true (Int.ofNat_lt.mpr (by rw [hT]; exact hl)))) ?_
  obtain ⟨t,ht⟩:∃ t,all[k + j]? = some t:=⟨_,List.getElem?_eq_getElem hl⟩
  obtain ⟨ln,hln⟩:=h2.at _ _ ht
  refine RdO.at h1 (and2 rfl (and2 (sm (n:=k + j) (Nat.ble_eq.mpr (Nat.le_trans (Nat.le_of_lt hl) h6))) ?_))
  have e1:(idx ((k + j:Nat):Int) T.length).bind (T[·]?)=some (t.pv ln):=by
   rw [show idx ((k + j:Nat):Int) T.length=some (k + j) from (idx_nat _ _).trans (if_pos (by rw [hT]; exact hl))]
   exact hln
  refine opt_at e1 ?_
  have ho:=List.all_eq_true.mp h3 t (List.mem_of_getElem? ht)
  have:=q1 t ln (e.trans ht) ho
  cases t <;> exact this
 ·refine opt_b false (congrArg some (decide_eq_false fun w=>hl (by rw [← hT]; exact Int.ofNat_lt.mp w))) ?_
  have hnone:ts[j]? = none:=by rw [e,List.getElem?_eq_none (Nat.le_of_not_lt hl)]
  cases T with
  | nil=>exact RdO.at h1 (and2 rfl (q2 1 hnone))
  | cons x T =>
   refine RdO.at h1 (and2 rfl (opt_b false (eqn_f (h2.okDs (n:=58) h3)) ?_))
   have hlen:0 < all.length:=by rw [← hT]; exact Nat.succ_pos _
   obtain ⟨t,ht⟩:∃ t,all[all.length - 1]? = some t:=⟨_,List.getElem?_eq_getElem (Nat.sub_lt hlen (by decide))⟩
   obtain ⟨ln,hln⟩:=h2.at _ _ ht
   have e1:(idx (-1) (x :: T).length).bind ((x :: T)[·]?)=some (t.pv ln):=by
    show (some ((x :: T).length - 1)).bind ((x :: T)[·]?)=_
    rw [hT]; exact hln
   refine RdO.at h1 (and2 rfl (and2 (by decide) (opt_at e1 ?_)))
   have:=q2 ln hnone
   cases t <;> exact this
noncomputable def sgn (ts:List Tk) (j:Nat) (s:List Nat):Bool:=match ts[j]? with
 | some (.op x)=>x == s
 | _=>false
noncomputable def wdn (ts:List Tk) (j:Nat) (s:List Nat):Bool:=match ts[j]? with
 | some (.wd x)=>x == s
 | _=>false
theorem two_eq {a b x:List Nat} {M:Mem} {v:PV} (hv:okD 59 v=true) (ha:okD 59 (.str a)=true) (hb:okD 59 (.str b)=true) (hx:okD 59 (.str x)=true):cmpv .eq (.tup [.str a,v]) (.tup [.str b,.str x]) M=some ((a == b) && (pveq v (.str x) && true)):=by
 have e1:okD 60 (.tup [.str a,v])=true:=okc ha (okc hv rfl)
 have e2:okD 60 (.tup [.str b,.str x])=true:=okc hb (okc hx rfl)
 show (if okD 60 (.tup [.str a,v]) && okD 60 (.tup [.str b,.str x]) then some ((a == b) && (pveq v (.str x) && true)) else none)=_
 rw [e1,e2]; rfl
theorem lt23:(2:Int) < ((3:Nat):Int):=by decide
theorem p_sign3 (P:Pg C) (h:Rs r M₀ n dp ts M) {j:Nat} (hj:j ≤ 1000) {s:List Nat} (hs:okD 59 (.str s)=true) {b:Bool} (hb:sgn ts j s=b) (q:Q (.bool b) M):wpF C theG (d + 1) f_is_sign [.mref r,.str s,.int (j:Nat)] M Q:=by
 subst hb
 unfold sgn at q
 refine p_ahead P h hj (fun t ln ht ho=>?_) fun ln hn=>?_
 ·rw [ht] at q
  have g:=ok_chars ho
  cases t with
  | nm x =>
   refine and2 ⟨by decide,by decide⟩ (and2 lt23 (and2 (lk rfl) ?_))
   refine opt_b false (two_eq (a:=z_name) (b:=z_op) (v:=.str x) g rfl rfl hs) q
  | wd x =>
   refine and2 ⟨by decide,by decide⟩ (and2 lt23 (and2 (lk rfl) ?_))
   refine opt_b false (two_eq (a:=z_word) (b:=z_op) (v:=.str x) g rfl rfl hs) q
  | op x =>
   refine and2 ⟨by decide,by decide⟩ (and2 lt23 (and2 (lk rfl) ?_))
   refine opt_b (x == s) ((two_eq (a:=z_op) (b:=z_op) (v:=.str x) g rfl rfl hs).trans (congrArg some (Bool.and_true _))) q
  | int x =>
   refine and2 ⟨by decide,by decide⟩ (and2 lt23 (and2 (lk rfl) ?_))
   refine opt_b false (two_eq (a:=z_int) (b:=z_op) (v:=.int x) rfl rfl rfl hs) q
  | chr x =>
   refine and2 ⟨by decide,by decide⟩ (and2 lt23 (and2 (lk rfl) ?_))
   refine opt_b false (two_eq (a:=z_char) (b:=z_op) (v:=.int x) rfl rfl rfl hs) q
 ·rw [hn] at q
  refine and2 ⟨by decide,by decide⟩ (and2 lt23 (and2 (lk rfl) ?_))
  refine opt_b false (two_eq (a:=[]) (b:=z_op) (v:=.str []) rfl rfl rfl hs) q
theorem p_word3 (P:Pg C) (h:Rs r M₀ n dp ts M) {j:Nat} (hj:j ≤ 1000) {s:List Nat} (hs:okD 59 (.str s)=true) {b:Bool} (hb:wdn ts j s=b) (q:Q (.bool b) M):wpF C theG (d + 1) f_is_word [.mref r,.str s,.int (j:Nat)] M Q:=by
 subst hb
 unfold wdn at q
 refine p_ahead P h hj (fun t ln ht ho=>?_) fun ln hn=>?_
 ·rw [ht] at q
  have g:=ok_chars ho
  cases t with
  | nm x =>
   refine and2 ⟨by decide,by decide⟩ (and2 lt23 (and2 (lk rfl) ?_))
   refine opt_b false (two_eq (a:=z_name) (b:=z_word) (v:=.str x) g rfl rfl hs) q
  | op x =>
   refine and2 ⟨by decide,by decide⟩ (and2 lt23 (and2 (lk rfl) ?_))
   refine opt_b false (two_eq (a:=z_op) (b:=z_word) (v:=.str x) g rfl rfl hs) q
  | wd x =>
   refine and2 ⟨by decide,by decide⟩ (and2 lt23 (and2 (lk rfl) ?_))
   refine opt_b (x == s) ((two_eq (a:=z_word) (b:=z_word) (v:=.str x) g rfl rfl hs).trans (congrArg some (Bool.and_true _))) q
  | int x =>
   refine and2 ⟨by decide,by decide⟩ (and2 lt23 (and2 (lk rfl) ?_))
   refine opt_b false (two_eq (a:=z_int) (b:=z_word) (v:=.int x) rfl rfl rfl hs) q
  | chr x =>
   refine and2 ⟨by decide,by decide⟩ (and2 lt23 (and2 (lk rfl) ?_))
   refine opt_b false (two_eq (a:=z_char) (b:=z_word) (v:=.int x) rfl rfl rfl hs) q
 ·rw [hn] at q
  refine and2 ⟨by decide,by decide⟩ (and2 lt23 (and2 (lk rfl) ?_))
  refine opt_b false (two_eq (a:=[]) (b:=z_word) (v:=.str []) rfl rfl rfl hs) q
theorem p_sign (P:Pg C) (h:Rs r M₀ n dp ts M) {s:List Nat} (hs:okD 59 (.str s)=true) {b:Bool} (hb:sgn ts 0 s=b) (q:Q (.bool b) M):CallOk C (d + 2) (.fn 38) [.mref r,.str s] M Q :=
 callD P.g P.lim (P.sg _ (.inl rfl)) rfl (p_sign3 (j:=0) P h (by decide) hs hb q)
theorem p_word (P:Pg C) (h:Rs r M₀ n dp ts M) {s:List Nat} (hs:okD 59 (.str s)=true) {b:Bool} (hb:wdn ts 0 s=b) (q:Q (.bool b) M):CallOk C (d + 2) (.fn 39) [.mref r,.str s] M Q :=
 callD P.g P.lim (P.wd _ (.inl rfl)) rfl (p_word3 (j:=0) P h (by decide) hs hb q)
theorem p_signJ (P:Pg C) (h:Rs r M₀ n dp ts M) {j:Nat} (hj:j ≤ 1000) {s:List Nat} (hs:okD 59 (.str s)=true) {b:Bool} (hb:sgn ts j s=b) (q:Q (.bool b) M):CallOk C (d + 2) (.fn 38) [.mref r,.str s,.int (j:Nat)] M Q :=
 callD P.g P.lim (P.sg [] (.inr rfl)) rfl (p_sign3 P h hj hs hb q)
theorem p_wordJ (P:Pg C) (h:Rs r M₀ n dp ts M) {j:Nat} (hj:j ≤ 1000) {s:List Nat} (hs:okD 59 (.str s)=true) {b:Bool} (hb:wdn ts j s=b) (q:Q (.bool b) M):CallOk C (d + 2) (.fn 39) [.mref r,.str s,.int (j:Nat)] M Q :=
 callD P.g P.lim (P.wd [] (.inr rfl)) rfl (p_word3 P h hj hs hb q)
theorem ok_head {t:Tk} {ts:List Tk} (h:Rs r M₀ n dp (t :: ts) M):t.ok=true:=by
 obtain ⟨T,all,k,h1,h2,h3,h4,h5,h6⟩:=h.here
 have:t ∈ all:=List.mem_of_mem_drop (h4▸List.mem_cons_self)
 exact List.all_eq_true.mp h3 t this
theorem ok_op {x:List Nat} (h:(Tk.op x).ok=true):okD 59 (.str x)=true:=ok_chars h
theorem ok_wd {x:List Nat} (h:(Tk.wd x).ok=true):okD 59 (.str x)=true:=ok_chars h
theorem beq_self {x:List Nat}:(x == x)=true:=beq_iff_eq.mpr rfl
theorem p_takeF (P:Pg C) (h:Rs r M₀ n dp ts M) {s:List Nat} (hs:okD 59 (.str s)=true) (hb:sgn ts 0 s=false) (q:Q (.bool false) M):CallOk C (d + 3) (.fn 40) [.mref r,.str s] M Q :=
 cl P rfl rfl (p_sign P h hs hb q)
theorem p_takeT (P:Pg C) {s:List Nat} (h:Rs r M₀ n dp (.op s :: ts) M) (q:∀ M',Rs r M₀ n dp ts M'→Q (.bool true) M'):CallOk C (d + 3) (.fn 40) [.mref r,.str s] M Q:=by
 obtain ⟨T,k,h1,h2⟩:=h.next
 exact cl P rfl rfl (p_sign P h (ok_op (ok_head h)) (b:=true) beq_self (RdO.at h1 (and2 rfl (RdO.at h1 (and2 (Nat.le_of_ble_eq_true rfl) (q _ h2))))))
theorem p_takeWF (P:Pg C) (h:Rs r M₀ n dp ts M) {s:List Nat} (hs:okD 59 (.str s)=true) (hb:wdn ts 0 s=false) (q:Q (.bool false) M):CallOk C (d + 3) (.fn 41) [.mref r,.str s] M Q :=
 cl P rfl rfl (p_word P h hs hb q)
theorem p_takeWT (P:Pg C) {s:List Nat} (h:Rs r M₀ n dp (.wd s :: ts) M) (q:∀ M',Rs r M₀ n dp ts M'→Q (.bool true) M'):CallOk C (d + 3) (.fn 41) [.mref r,.str s] M Q:=by
 obtain ⟨T,k,h1,h2⟩:=h.next
 exact cl P rfl rfl (p_word P h (ok_wd (ok_head h)) (b:=true) beq_self (RdO.at h1 (and2 rfl (RdO.at h1 (and2 (Nat.le_of_ble_eq_true rfl) (q _ h2))))))
theorem p_need (P:Pg C) {s:List Nat} (h:Rs r M₀ n dp (.op s :: ts) M) (q:∀ M',Rs r M₀ n dp ts M'→Q .none M'):CallOk C (d + 4) (.fn 42) [.mref r,.str s] M Q :=
 cl P rfl rfl (p_takeT P h fun M' h'=>q M' h')
theorem p_needW (P:Pg C) {s:List Nat} (h:Rs r M₀ n dp (.wd s :: ts) M) (q:∀ M',Rs r M₀ n dp ts M'→Q .none M'):CallOk C (d + 4) (.fn 43) [.mref r,.str s] M Q :=
 cl P rfl rfl (p_takeWT P h fun M' h'=>q M' h')
theorem p_peek (P:Pg C) (h:Rs r M₀ n dp ts M) (q1:∀ t ln,ts[0]? = some t→t.ok=true→Q (t.pv ln) M) (q2:∀ ln,ts[0]? = none→Q (.tup [.str [],.str [],.int ln]) M):CallOk C (d + 2) (.fn 35) [.mref r] M Q:=by
 refine cl P rfl rfl (p_ahead (j:=0) P h (by decide) (fun t ln ht ho=>?_) q2)
 have:=q1 t ln ht ho
 cases t <;> exact this
theorem p_peek1 (P:Pg C) {t:Tk} (h:Rs r M₀ n dp (t :: ts) M) (q:∀ ln,Q (t.pv ln) M):CallOk C (d + 2) (.fn 35) [.mref r] M Q :=
 p_peek P h (fun u ln hu _=>by cases hu; exact q ln) fun ln hn=>by cases hn
theorem p_take (P:Pg C) {t:Tk} (h:Rs r M₀ n dp (t :: ts) M) (q:∀ ln M',Rs r M₀ n dp ts M'→Q (t.pv ln) M'):CallOk C (d + 2) (.fn 36) [.mref r] M Q:=by
 obtain ⟨T,k,h1,h2⟩:=h.next
 refine cl P rfl rfl (p_ahead (j:=0) P h (by decide) (fun u ln hu _=>?_) fun ln hn=>by cases hn)
 cases hu
 have:=fun ln=>q ln _ h2
 refine RdO.at h1 (and2 rfl (RdO.at h1 (and2 (Nat.le_of_ble_eq_true rfl) ?_)))
 cases t <;> exact this ln
theorem p_name (P:Pg C) {s:List Nat} (h:Rs r M₀ n dp (.nm s :: ts) M) (q:∀ M',Rs r M₀ n dp ts M'→Q (.str s) M'):CallOk C (d + 3) (.fn 44) [.mref r] M Q :=
 cl P rfl rfl (p_peek1 P h fun ln=>p_take P h fun ln M' h'=>q M' h')
end
noncomputable def Sm (M M':Mem):Prop:=∀ c,M' c=M c
theorem Sm.refl (M:Mem):Sm M M:=fun _=>rfl
theorem Sm.trans {M M' M'':Mem} (h:Sm M M') (k:Sm M' M''):Sm M M'':=fun c=>(k c).trans (h c)
theorem Rs.sm {r M₀ n dp ts M M'} (h:Rs r M₀ n dp ts M) (k:Sm M M'):Rs r M₀ n dp ts M':=by
 obtain ⟨T,all,j,h1,h2⟩:=h.here
 exact ⟨⟨T,all,j,(k r).trans h1,h2⟩,fun c hc=>(k c).trans (h.rest c hc)⟩
section
variable {C:Cx} {M M₀:Mem} {Q:PV→Mem→Prop} {d r n dp:Nat} {ts:List Tk}
theorem p_open (P:Pg C) (h:Rs r M₀ n dp ts M) (hn:n < 24) (q:∀ M',Rs r M₀ (n + 1) dp ts M'→Q .none M'):CallOk C (d + 1) (.fn 47) [.mref r] M Q:=by
 obtain ⟨T,all,k,h1,h2⟩:=h.here
 refine cl P rfl rfl (RdO.at h1 (and2 rfl (RdO.at h1 (and2 (Nat.le_of_ble_eq_true rfl) ?_))))
 refine RdO.at upd_same (and2 rfl (e_glo (opt_b false (gt_f (a:=((n + 1:Nat):Int)) (b:=24) (Int.ofNat_le.mpr hn)) ?_)))
 exact q _ ⟨⟨T,all,k,upd_same,h2⟩,fun c hc=>(upd_ne hc).trans (h.rest c hc)⟩
theorem p_close (P:Pg C) (h:Rs r M₀ (n + 1) dp ts M) (q:∀ M',Rs r M₀ n dp ts M'→Q .none M'):CallOk C (d + 1) (.fn 48) [.mref r] M Q:=by
 obtain ⟨T,all,k,h1,h2⟩:=h.here
 refine cl P rfl rfl (RdO.at h1 (and2 rfl (RdO.at h1 (and2 (Nat.le_of_ble_eq_true rfl) ?_))))
 refine q _ ⟨⟨T,all,k,?_,h2⟩,fun c hc=>(upd_ne hc).trans (h.rest c hc)⟩
 refine upd_same.trans ?_
 show some (MO.obj [.list T,.int k,.int (((n + 1:Nat):Int) - 1),.int dp,.none,.none,.none,.none,.none,.none,.none,.none,.none,.none,.none])=_
 rw [show ((n + 1:Nat):Int) - 1=(n:Int) from by omega]
end
inductive HO:PV→List (List PV)→Prop
 | pos (b):HO (.tup [.none,.tup b]) [b]
 | named (a b):HO (.tup [.list [.tup a],.tup b]) [a,b]
 | plain (s k):HO (.tup [.str s,.int k]) [[.str s,.int k]]
inductive HOs:List PV→List (List PV)→Prop
 | nil:HOs [] []
 | cons (x a l b):HO x a→HOs l b→HOs (x :: l) (a++b)
inductive HP:PV→List (List PV)→Prop
 | tup (p):HP (.tup p) [p]
 | str (s):HP (.str s) []
 | int (k):HP (.int k) []
 | list (l a):l.length < 100→HOs l a→HP (.list l) a
inductive HPs:List PV→List (List PV)→Prop
 | nil:HPs [] []
 | cons (x a l b):HP x a→HPs l b→HPs (x :: l) (a++b)
section
variable {C:Cx} {M M₀:Mem} {Q:PV→Mem→Prop} {d:Nat}
noncomputable abbrev b_tp:Ss:=sbody (stm 1 f_tree_parts.body)
noncomputable abbrev b_tq:Ss:=sbody (match stm 0 b_tp with | .ifs _ _ b=>(match stm 0 b with | .ifs _ a _=>stm 0 a | _=>.raise) | _=>.raise)
theorem tq_loop {b:Nat} {t o2:Option PV} {K:Out→Lo→Mem→Prop}:∀ {ones:List PV} {a acc:List (List PV)} {M:Mem} {o3:Option PV},HOs ones a→M b=some (.list (acc.map .tup))→acc.length + 2 * ones.length ≤ 10000 →
  (∀ M' o3,M' b=some (.list ((acc++a).map .tup))→(∀ c,c ≠ b→M' c=M c)→K .next [t,some (.mref b),o2,o3] M') →
  forP (fun x env M K=>opt (bindS (.inl 3) x env) fun env=>wpSs C theG d b_tq env M K) ones [t,some (.mref b),o2,o3] M K
 | [],_,acc,M,o3,.nil,hM,hl,q=>q M o3 (by rw [List.append_nil]; exact hM) (fun _ _=>rfl)
 | _ :: _,_,acc,M,o3,.cons x a l a2 h1 h2,hM,hl,q=>by
  have hl2:acc.length + (2 * l.length + 2) ≤ 10000:=hl
  have hal:acc.length + 2 ≤ 10000:=Nat.le_trans (Nat.add_le_add_left (Nat.le_add_left _ _) _) hl2
  have hlen:(acc.map PV.tup).length + 2 ≤ 10000:=by rw [List.length_map]; exact hal
  have go:∀ (M':Mem) (z:List (List PV)) o3,z.length ≤ 2→a=z→M' b=some (.list ((acc++z).map .tup))→(∀ c,c ≠ b→M' c=M c) →
    forP (fun x env M K=>opt (bindS (.inl 3) x env) fun env=>wpSs C theG d b_tq env M K) l [t,some (.mref b),o2,o3] M' K:=fun M' z o3 hz e hM' hk=>by
   subst e
   refine tq_loop (acc:=acc++a) h2 hM' ?_ fun M'' o3 e1 e2=>?_
   ·rw [List.length_append]
    exact Nat.le_trans (Nat.add_le_add_right (Nat.add_le_add_left hz _) _) (by rw [Nat.add_assoc,Nat.add_comm 2]; exact hl2)
   ·rw [List.append_assoc] at e1
    exact q M'' o3 e1 fun c hc=>(e2 c hc).trans (hk c hc)
  cases h1 with
  | pos y =>
   refine and2 (lk rfl) (and2 (RdL.at hM trivial) (and2 (lk rfl) (RdL.at hM (and2 (Nat.le_trans (Nat.le_succ _) (Nat.le_trans hlen (by decide))) ?_))))
   exact go _ [y] _ (Nat.le_of_ble_eq_true rfl) rfl (upd_same.trans (by rw [List.map_append]; rfl)) fun c hc=>upd_ne hc
  | named x y =>
   refine and2 (lk rfl) (and2 (RdL.at hM trivial) (and2 (lk rfl) (RdL.at hM (and2 (Nat.le_trans hlen (by decide)) ?_))))
   exact go _ [x,y] _ (Nat.le_of_ble_eq_true rfl) rfl (upd_same.trans (by rw [List.map_append]; rfl)) fun c hc=>upd_ne hc
  | plain s k =>
   refine and2 (lk rfl) (and2 (RdL.at hM trivial) (RdL.at hM (and2 (Nat.le_trans (Nat.le_of_add_right_le hlen) (by decide)) ?_)))
   exact go _ [[.str s,.int k]] _ (Nat.le_of_ble_eq_true rfl) rfl (upd_same.trans (by rw [List.map_append]; rfl)) fun c hc=>upd_ne hc
theorem HOs.len {ones a} (h:HOs ones a):a.length ≤ 2 * ones.length:=by
 induction h with
 | nil=>exact Nat.le_refl _
 | cons x a l b h _ ih =>
  rw [List.length_append,List.length_cons,Nat.mul_succ,Nat.add_comm]
  exact Nat.add_le_add ih (by cases h <;> exact Nat.le_of_ble_eq_true rfl)
theorem tp_loop {b:Nat} {t:Option PV} {K:Out→Lo→Mem→Prop}:∀ {ps:List PV} {a acc:List (List PV)} {M:Mem} {o2 o3:Option PV},HPs ps a→M b=some (.list (acc.map .tup))→acc.length + 200 * ps.length ≤ 9000 →
  (∀ M' o2 o3,M' b=some (.list ((acc++a).map .tup))→(∀ c,c ≠ b→M' c=M c)→K .next [t,some (.mref b),o2,o3] M') →
  forP (fun x env M K=>opt (bindS (.inl 2) x env) fun env=>wpSs C theG d b_tp env M K) ps [t,some (.mref b),o2,o3] M K
 | [],_,acc,M,o2,o3,.nil,hM,hl,q=>q M o2 o3 (by rw [List.append_nil]; exact hM) (fun _ _=>rfl)
 | _ :: _,_,acc,M,o2,o3,.cons x a l a2 h1 h2,hM,hl,q=>by
  have hl2:acc.length + (200 * l.length + 200) ≤ 9000:=hl
  have hal:acc.length + 200 ≤ 9000:=Nat.le_trans (Nat.add_le_add_left (Nat.le_add_left _ _) _) hl2
  have hlen:(acc.map PV.tup).length + 200 ≤ 9000:=by rw [List.length_map]; exact hal
  have go:∀ (M':Mem) (z:List (List PV)) o2 o3,z.length ≤ 200→a=z→M' b=some (.list ((acc++z).map .tup))→(∀ c,c ≠ b→M' c=M c) →
    forP (fun x env M K=>opt (bindS (.inl 2) x env) fun env=>wpSs C theG d b_tp env M K) l [t,some (.mref b),o2,o3] M' K:=fun M' z o2 o3 hz e hM' hk=>by
   subst e
   refine tp_loop (acc:=acc++a) h2 hM' ?_ fun M'' o2 o3 e1 e2=>?_
   ·rw [List.length_append]
    exact Nat.le_trans (Nat.add_le_add_right (Nat.add_le_add_left hz _) _) (by rw [Nat.add_assoc,Nat.add_comm 200]; exact hl2)
   ·rw [List.append_assoc] at e1
    exact q M'' o2 o3 e1 fun c hc=>(e2 c hc).trans (hk c hc)
  cases h1 with
  | tup p =>
   refine and2 (RdL.at hM trivial) (RdL.at hM (and2 (Nat.le_trans (Nat.le_of_add_right_le hlen) (by decide)) ?_))
   exact go _ [p] _ _ (Nat.le_of_ble_eq_true rfl) rfl (upd_same.trans (by rw [List.map_append]; rfl)) fun c hc=>upd_ne hc
  | str s=>exact go _ [] _ _ (Nat.le_of_ble_eq_true rfl) rfl (by rw [List.append_nil]; exact hM) fun _ _=>rfl
  | int k=>exact go _ [] _ _ (Nat.le_of_ble_eq_true rfl) rfl (by rw [List.append_nil]; exact hM) fun _ _=>rfl
  | list ones a hl3 h3 =>
   refine and2 (Nat.le_trans (Nat.le_of_lt hl3) (by decide)) (IteP.mk (tq_loop h3 hM ?_ fun M' o3 e1 e2=>?_))
   ·have:2 * ones.length ≤ 200:=Nat.mul_le_mul_left 2 (Nat.le_of_lt hl3)
    exact Nat.le_trans (Nat.add_le_add_left this _) (Nat.le_trans hal (by decide))
   ·exact go M' a _ o3 (Nat.le_trans h3.len (Nat.mul_le_mul_left 2 (Nat.le_of_lt hl3))) rfl e1 e2
theorem p_parts (P:Pg C) {x:PV} {l:List PV} {a:List (List PV)} (h:HPs l a) (hl:l.length < 40) (q:∀ M',Sm M M'→Q (.list (a.map .tup)) M'):CallOk C (d + 1) (.fn 45) [.tup (x :: l)] M Q:=by
 have hl1:(1:Int) ≤ ((l.length + 1:Nat):Int):=Int.ofNat_le.mpr (Nat.succ_pos _)
 have hlk:lenOk (l.length + 1):=Nat.le_trans hl (by decide)
 refine cl P rfl rfl fun b hb=>and2 (by decide) (and2 ⟨by decide,hl1⟩ (and2 hlk (and2 (Nat.le_of_succ_le hlk) (IteP.mk ?_))))
 refine tp_loop (acc:=[]) h upd_same ?_ fun M' o2 o3 e1 e2=>?_
 ·exact Nat.le_trans (Nat.le_of_eq (Nat.zero_add _)) (Nat.le_trans (Nat.mul_le_mul_left 200 (Nat.le_of_lt hl)) (by decide))
 ·refine RdL.at e1 (q _ fun c=>?_)
  by_cases hc:c=b
  ·rw [hc,del_same,hb]
  ·rw [del_ne hc,e2 c hc,upd_ne hc]
end
inductive HV:List PV→List (List PV)→Prop
 | mk (x l a):HPs l a→l.length < 40→a.length ≤ 100→HV (x :: l) a
inductive HL:List (List PV)→List (List PV)→Prop
 | nil:HL [] []
 | cons (v a l b):HV v a→HL l b→HL (v :: l) (a++b)
inductive HH:Nat→List (List PV)→Prop
 | done (n l):HL l []→l.length ≤ 100→HH (n + 1) l
 | step (n l m):HL l m→l.length ≤ 100→m ≠ []→okD 60 (.list (m.map .tup))=true→HH n m→HH (n + 1) l
section
variable {C:Cx} {M M₀:Mem} {Q:PV→Mem→Prop} {d:Nat}
theorem ci_loop {C:Cx} {G:Nat→PV} {d:Nat} {x:PV} {M:Mem} {Q:List PV→Mem→Prop}:∀ {l:List (List PV)} {acc:List PV},acc.length + l.length ≤ 10000000→Q (acc++l.map .tup) M→compI (fun env M Q=>wpE C G d (.loc 1) env M Q) x (l.map .tup) acc M Q
 | [],acc,_,q=>by rw [List.map_nil,List.append_nil] at q; exact q
 | y :: l,acc,hl,q=>by
  refine and2 (Nat.le_trans (Nat.le_add_right _ _) hl) ?_
  refine ci_loop (l:=l) (acc:=acc++[.tup y]) ?_ ?_
  ·rw [List.length_append]; show acc.length + 1 + l.length ≤ _; rw [List.length_cons] at hl; omega
  ·rw [List.append_assoc]; exact q
theorem cl_loop (P:Pg C) {M:Mem} {Q:List PV→Mem→Prop}:∀ {l m:List (List PV)} {acc:List PV} {M':Mem},HL l m→Sm M M'→acc.length + 100 * l.length ≤ 20000→(∀ M',Sm M M'→Q (acc++m.map .tup) M') →
  compP2 (fun env M Q=>wpIt C theG (d + 1) (.val (.call (.glo 63) (.cons (.loc 0) .nil))) env M Q) (fun env M Q=>wpE C theG (d + 1) (.loc 1) env M Q) (l.map .tup) acc M' Q
 | [],_,acc,M',.nil,hM,_,q=>by
  have:=q M' hM
  rw [List.map_nil,List.append_nil] at this
  exact this
 | _ :: _,_,acc,M',.cons v a l b h1 h2,hM,hl,q=>by
  cases h1 with
  | mk x vs a h3 h4 h5 =>
   refine p_parts P (x:=x) h3 h4 fun M'' hs=>and2 ?_ ?_
   ·rw [List.length_map]; exact Nat.le_trans h5 (by decide)
   have hl2:acc.length + (100 * l.length + 100) ≤ 20000:=hl
   refine ci_loop ?_ ?_
   ·omega
   ·refine cl_loop P (acc:=acc++a.map .tup) h2 (hM.trans hs) ?_ fun M3 h=>?_
    ·rw [List.length_append,List.length_map]; omega
    ·have:=q M3 h
     rw [List.map_append,← List.append_assoc] at this
     exact this
noncomputable abbrev b_ch:Ss:=sbody (stm 1 f_check_height.body)
theorem ch_loop (P:Pg C) {M:Mem} {K:Out→Lo→Mem→Prop} {o0 o1:Option PV} (q:∀ env M',Sm M M'→K (.ret .none) env M'):∀ {n:Nat} {l:List (List PV)} {xs:List PV} {M':Mem} {o3:Option PV},HH n l→n ≤ xs.length→Sm M M' →
  forP (fun x env M K=>opt (bindS (.inl 3) x env) fun env=>wpSs C theG (d + 1) b_ch env M K) xs [o0,o1,some (.list (l.map .tup)),o3] M' K
 | _,l,[],M',o3,.done n _ _ _,hn,_=>absurd hn (Nat.not_succ_le_zero _)
 | _,l,[],M',o3,.step n _ _ _ _ _ _ _,hn,_=>absurd hn (Nat.not_succ_le_zero _)
 | _,l,x :: xs,M',o3,.done n _ h hl,hn,hM=>by
  refine and2 (by rw [List.length_map]; exact Nat.le_trans hl (by decide)) ?_
  refine cl_loop P (acc:=[]) h hM (Nat.le_trans (Nat.le_of_eq (Nat.zero_add _)) (Nat.le_trans (Nat.mul_le_mul_left 100 hl) (by decide))) fun M'' hs=>?_
  exact q _ M'' hs
 | _,l,x :: xs,M',o3,.step n _ m h hl hm ho hh,hn,hM=>by
  refine and2 (by rw [List.length_map]; exact Nat.le_trans hl (by decide)) ?_
  refine cl_loop P (acc:=[]) h hM (Nat.le_trans (Nat.le_of_eq (Nat.zero_add _)) (Nat.le_trans (Nat.mul_le_mul_left 100 hl) (by decide))) fun M'' hs=>?_
  cases m with
  | nil=>exact absurd rfl hm
  | cons y m =>
   refine ss_if0 (ss:=.nil) (M':=M'') (fun K kk=>?_) ?_
   ·show opt (cmpv .eq (.list ((y :: m).map PV.tup)) (.list []) M'') fun b=>K b M''
    exact c_op (eqn_f ho) kk
   ·exact ch_loop P q hh (Nat.le_of_succ_le_succ hn) hs
theorem p_height (P:Pg C) {r:Nat} {v:List PV} (h:HH 60 [v]) (q:∀ M',Sm M M'→Q .none M'):CallOk C (d + 2) (.fn 46) [.mref r,.tup v] M Q:=by
 refine cl P rfl rfl (and2 rfl (and2 (by decide) (IteP.mk ?_)))
 refine ch_loop P (l:=[v]) (n:=60) (fun env M' hs=>q M' hs) h ?_ (Sm.refl M)
 exact Nat.le_of_eq ((List.length_map ..).trans (List.length_range ..)).symm
theorem p_bound (P:Pg C) {r n dp:Nat} {ts:List Tk} {v:List PV} (h:Rs r M₀ n dp ts M) (hh:n=0→HH 60 [v]) (q:∀ M',Rs r M₀ n dp ts M'→Q (.tup v) M'):CallOk C (d + 3) (.fn 49) [.mref r,.tup v] M Q:=by
 obtain ⟨T,all,k,h1,h2⟩:=h.here
 cases n with
 | zero=>exact cl P rfl rfl (RdO.at h1 (and2 rfl (p_height P (hh rfl) fun M' hs=>q M' (h.sm hs))))
 | succ n=>exact cl P rfl rfl (RdO.at h1 (and2 rfl (q M h)))
end
theorem HL.app {l a m b} (h:HL l a) (k:HL m b):HL (l++m) (a++b):=by
 induction h with
 | nil=>exact k
 | cons v a l b h _ ih=>rw [List.append_assoc]; exact .cons _ _ _ _ h ih
inductive HW (w:Nat):Nat→List (List PV)→Prop
 | nil (n):HW w n []
 | step (n l m):HL l m→l.length ≤ w→okDs 50 (m.map .tup)=true→HW w n m→HW w (n + 1) l
theorem HW.le {w n l u} (h:HW w n l) (hu:w ≤ u):HW u n l:=by
 induction h with
 | nil n=>exact .nil n
 | step n l m h1 h2 h3 _ ih=>exact .step n l m h1 (Nat.le_trans h2 hu) h3 ih
theorem okDs_app {n:Nat} {a b:List PV} (h:okDs n a=true) (k:okDs n b=true):okDs n (a++b)=true:=by
 induction a with
 | nil=>exact k
 | cons x a ih =>
  have e:okDs n (x :: a)=(okD n x && okDs n a):=by cases n <;> rfl
  rw [e] at h
  obtain ⟨h1,h2⟩:=(Bool.and_eq_true _ _).mp h
  exact okc h1 (ih h2)
theorem HW.app {w n l u m} (h:HW w n l) (k:HW u n m):HW (w + u) n (l++m):=by
 induction h generalizing m with
 | nil n=>exact k.le (Nat.le_add_left _ _)
 | step n l a h1 h2 h3 h4 ih =>
  cases k with
  | nil=>rw [List.append_nil]; exact .step _ _ _ h1 (Nat.le_trans h2 (Nat.le_add_right _ _)) h3 (h4.le (Nat.le_add_right _ _))
  | step _ _ b k1 k2 k3 k4=>exact .step _ _ _ (h1.app k1) (by rw [List.length_append]; exact Nat.add_le_add h2 k2) (by rw [List.map_append]; exact okDs_app h3 k3) (ih k4)
theorem HW.hh {w n l} (h:HW w n l) (hw:w ≤ 100) (hl:l ≠ []):HH n l:=by
 induction h with
 | nil=>exact absurd rfl hl
 | step n l m h1 h2 h3 h4 ih =>
  cases m with
  | nil=>exact .done n l h1 (Nat.le_trans h2 hw)
  | cons x m=>exact .step n l _ h1 (Nat.le_trans h2 hw) (List.cons_ne_nil _ _) (okD_mono (n:=51) (by decide) h3) (ih (List.cons_ne_nil _ _))
theorem HH.up {n l} (h:HH n l):∀ {m},n ≤ m→HH m l:=by
 induction h with
 | done n l h1 h2=>intro m hm; cases m with
  | zero=>cases hm
  | succ m=>exact .done m l h1 h2
 | step n l a h1 h2 h3 h4 _ ih=>intro m hm; cases m with
  | zero=>cases hm
  | succ m=>exact .step m l a h1 h2 h3 h4 (ih (Nat.le_of_succ_le_succ hm))
noncomputable abbrev Ht (w n:Nat) (v:List PV):Prop:=HW w n [v]
theorem Ht.node {w n x l a} (h:HPs l a) (hl:l.length < 40) (ha:a.length ≤ 100) (ho:okDs 50 (a.map .tup)=true) (k:HW w n a):Ht (w + 1) (n + 1) (x :: l):=by
 refine .step _ _ (a++[]) (.cons _ _ _ _ (.mk x l a h hl ha) .nil) (Nat.succ_le_succ (Nat.zero_le _)) ?_ ?_
 ·rw [List.append_nil]; exact ho
 ·rw [List.append_nil]; exact k.le (Nat.le_succ _)
theorem Ht.leaf {n x l} (h:HPs l []) (hl:l.length < 40):Ht 1 (n + 1) (x :: l):=Ht.node (w:=0) h hl (Nat.zero_le _) rfl (.nil n)
theorem ht_name {n s}:Ht 1 (n + 1) (vName s):=Ht.leaf (.cons _ _ _ _ (.str s) .nil) (Nat.le_of_ble_eq_true rfl)
theorem ht_int {n k}:Ht 1 (n + 1) (vInt k):=Ht.leaf (.cons _ _ _ _ (.int k) .nil) (Nat.le_of_ble_eq_true rfl)
theorem ht_chr {n k}:Ht 1 (n + 1) (vChr k):=Ht.leaf (.cons _ _ _ _ (.int k) .nil) (Nat.le_of_ble_eq_true rfl)
theorem ht_val {v ts} (h:TVal v ts) {n:Nat}:Ht 3 (n + 2) v:=by
 cases h with
 | int k h=>exact ht_int.le (by decide)
 | chr k h=>exact ht_chr.le (by decide)
 | app =>
  refine Ht.node (w:=2) (a:=[vName z_f,vName z_n]) (.cons _ _ _ _ (.tup _) (.cons _ _ _ _ (.list _ _ (by decide) (.cons _ _ _ _ (.pos _) .nil)) .nil)) (by decide) (by decide) rfl ?_
  exact (ht_name (s:=z_f)).app ht_name
 | nm1=>exact ht_name.le (by decide)
 | nm2=>exact ht_name.le (by decide)
 | nm3=>exact ht_name.le (by decide)
theorem ht_range {v ts} (h:TVal v ts) {n k:Nat}:Ht 5 (n + 3) (vRange (vInt k) v) :=
 Ht.node (w:=4) (a:=[vInt k,v]) (.cons _ _ _ _ (.tup _) (.cons _ _ _ _ (.tup _) .nil)) (Nat.le_of_ble_eq_true rfl) (Nat.le_of_ble_eq_true rfl) (okc rfl (okc (h.okD (n:=46)) rfl)) ((ht_int (k:=k)).app (ht_val h))
theorem ht_ext {v ts} (h:TExt v ts) {n:Nat}:Ht 5 (n + 3) v:=by
 cases h with
 | t0=>exact (Ht.node (w:=1) (a:=[vName z_v]) (.cons _ _ _ _ (.tup _) (.cons _ _ _ _ (.str _) (.cons _ _ _ _ (.list _ _ (by decide) .nil) .nil))) (by decide) (by decide) rfl ht_name).le (by decide)
 | t1=>exact (Ht.node (w:=2) (a:=[vName z_v,vInt 2]) (.cons _ _ _ _ (.tup _) (.cons _ _ _ _ (.str _) (.cons _ _ _ _ (.list _ _ (by decide) (.cons _ _ _ _ (.plain _ _) .nil)) .nil))) (by decide) (by decide) rfl ((ht_name (s:=z_v)).app ht_int)).le (by decide)
 | rg k v ts hk h=>exact ht_range h
theorem ht_mark {v ts} (h:TMark v ts) {n:Nat}:Ht 2 (n + 2) v:=by
 cases h with
 | m1=>exact ht_name.le (by decide)
 | m2=>exact Ht.node (w:=1) (a:=[vName z_calendar]) (.cons _ _ _ _ (.tup _) (.cons _ _ _ _ (.str _) .nil)) (by decide) (by decide) rfl ht_name
 | m3=>exact ht_name.le (by decide)
theorem ht_ap1 {m ts v us} (h:TMark m ts) (k:TVal v us) {n:Nat}:Ht 8 (n + 4) (vApply m (vAp1 v)) :=
 Ht.node (w:=7) (a:=[m,vRange (vInt 1) v]) (.cons _ _ _ _ (.tup _) (.cons _ _ _ _ (.list _ _ (Nat.le_of_ble_eq_true rfl) (.cons _ _ _ _ (.pos _) .nil)) .nil)) (Nat.le_of_ble_eq_true rfl) (Nat.le_of_ble_eq_true rfl)
  (okc (h.okD (n:=46)) (okc (okc (n:=49) rfl (okc rfl (okc (k.okD (n:=45)) rfl))) rfl)) ((ht_mark h).app (ht_range (k:=1) k))
theorem ht_ap2 {m ts v us w xs} (h:TMark m ts) (k:TVal v us) (l:TVal w xs) {n:Nat}:Ht 10 (n + 4) (vApply m (vAp2 v w)) :=
 Ht.node (w:=9) (a:=[m,v,vName z_size,w]) (.cons _ _ _ _ (.tup _) (.cons _ _ _ _ (.list _ _ (Nat.le_of_ble_eq_true rfl) (.cons _ _ _ _ (.pos _) (.cons _ _ _ _ (.named _ _) .nil))) .nil)) (Nat.le_of_ble_eq_true rfl) (Nat.le_of_ble_eq_true rfl)
  (okc (h.okD (n:=46)) (okc (k.okD (n:=46)) (okc rfl (okc (l.okD (n:=46)) rfl)))) ((ht_mark h).app ((ht_val k).app ((ht_name (s:=z_size)).app (ht_val l))))
theorem ht_subr {m ts e us} (h:TMark m ts) (k:TExt e us) {n:Nat}:Ht 9 (n + 5) (vSub m (vRg e)):=by
 refine Ht.node (w:=8) (a:=[m,[.str z_range,.tup e]]) (.cons _ _ _ _ (.tup _) (.cons _ _ _ _ (.tup _) .nil)) (Nat.le_of_ble_eq_true rfl) (Nat.le_of_ble_eq_true rfl) (okc (h.okD (n:=46)) (okc (okc (n:=49) rfl (okc (k.okD (n:=44)) rfl)) rfl)) ?_
 refine (ht_mark h).app (u:=6) (m:=[[.str z_range,.tup e]]) ?_
 exact Ht.node (w:=5) (a:=[e]) (.cons _ _ _ _ (.tup _) .nil) (Nat.le_of_ble_eq_true rfl) (Nat.le_of_ble_eq_true rfl) (okc (k.okD (n:=45)) rfl) (ht_ext k)
theorem Ht.hh {w n v} (h:Ht w n v) (hw:w ≤ 100) (hn:n ≤ 60):HH 60 [v]:=(HW.hh h hw (List.cons_ne_nil _ _)).up hn
noncomputable def contO:List (List Nat):=[[40],[46],[39],[42,42],[42],[47],[43],[45],[38],[61],[47,61],[60],[60,61],[62],[62,61]]
noncomputable def contW:List (List Nat):=[[109,111,100],[114,101,109],[105,110],[110,111,116],[97,110,100],[111,114],[120,111,114]]
noncomputable def stop (ts:List Tk):Bool:=match ts with
 | .op s :: _=>!contO.contains s
 | .wd s :: _=>!contW.contains s
 | _=>true
noncomputable def hdV (ts:List Tk):Bool:=match ts with
 | .nm _ :: _=>true
 | .int _ :: _=>true
 | .chr _ :: _=>true
 | _=>false
theorem stop_s {ts:List Tk} {s:List Nat} (h:stop ts=true) (hs:contO.contains s=true):sgn ts 0 s=false:=by
 cases ts with
 | nil=>rfl
 | cons t ts =>
  cases t with
  | op x =>
   show (x == s)=false
   cases e:x == s
   ·rfl
   ·rw [← eq_of_beq e] at hs
    replace h:(!contO.contains x)=true:=h
    rw [hs] at h; cases h
  | _=>rfl
theorem stop_w {ts:List Tk} {s:List Nat} (h:stop ts=true) (hs:contW.contains s=true):wdn ts 0 s=false:=by
 cases ts with
 | nil=>rfl
 | cons t ts =>
  cases t with
  | wd x =>
   show (x == s)=false
   cases e:x == s
   ·rfl
   ·rw [← eq_of_beq e] at hs
    replace h:(!contW.contains x)=true:=h
    rw [hs] at h; cases h
  | _=>rfl
theorem hd_s {ts us:List Tk} {s:List Nat} (h:hdV ts=true):sgn (ts++us) 0 s=false:=by
 cases ts with
 | nil=>cases h
 | cons t ts=>cases t <;> first | rfl | cases h
theorem hd_w {ts us:List Tk} {s:List Nat} (h:hdV ts=true):wdn (ts++us) 0 s=false:=by
 cases ts with
 | nil=>cases h
 | cons t ts=>cases t <;> first | rfl | cases h
noncomputable def PF (C:Cx) (f k n:Nat) (v:PV) (ts:List Tk) (ok:List Tk→Bool):Prop:=∀ (d r dp:Nat) (M₀ M:Mem) (rest:List Tk) (Q:PV→Mem→Prop),ok rest=true→Rs r M₀ n dp (ts++rest) M→(∀ M',Rs r M₀ n dp rest M'→Q v M')→CallOk C (d + k) (.fn f) [.mref r] M Q
section
variable {C:Cx} {M M₀:Mem} {Q:PV→Mem→Prop} {d r n dp k:Nat} {ts rest:List Tk} {v:List PV}
theorem pf_factor (P:Pg C) (hh:hdV ts=true) (h:PF C 60 (k + 3) n (.tup v) ts stop):PF C 59 (k + 4) n (.tup v) ts stop:=fun d r dp M₀ M rest Q hs hr q=>by
 refine cl P rfl rfl (p_word (d:=d + k + 1) P hr rfl (hd_w hh) (p_word (d:=d + k + 1) P hr rfl (hd_w hh) ?_))
 exact h _ _ _ _ _ _ _ hs hr fun M' hr=>p_takeF (d:=d + k) P hr rfl (stop_s hs rfl) (q M' hr)
theorem pf_term (P:Pg C) (h:PF C 59 (k + 4) n (.tup v) ts stop):PF C 58 (k + 5) n (.tup v) ts stop:=fun d r dp M₀ M rest Q hs hr q=>by
 refine cl P rfl rfl (h _ _ _ _ _ _ _ hs hr fun M' hr=>Exists.intro 1 ?_)
 refine p_sign (d:=d + k + 2) P hr rfl (stop_s hs rfl) (p_sign (d:=d + k + 2) P hr rfl (stop_s hs rfl) (p_word (d:=d + k + 2) P hr rfl (stop_w hs rfl) (p_word (d:=d + k + 2) P hr rfl (stop_w hs rfl) ?_)))
 exact q M' hr
theorem pf_simple (P:Pg C) (hh:hdV ts=true) (h:PF C 58 (k + 5) n (.tup v) ts stop):PF C 57 (k + 6) n (.tup v) ts stop:=fun d r dp M₀ M rest Q hs hr q=>by
 refine cl P rfl rfl (p_sign (d:=d + k + 3) P hr rfl (hd_s hh) (p_sign (d:=d + k + 3) P hr rfl (hd_s hh) ?_))
 refine h _ _ _ _ _ _ _ hs hr fun M' hr=>Exists.intro 1 ?_
 refine p_sign (d:=d + k + 3) P hr rfl (stop_s hs rfl) (p_sign (d:=d + k + 3) P hr rfl (stop_s hs rfl) (p_sign (d:=d + k + 3) P hr rfl (stop_s hs rfl) ?_))
 exact q M' hr
theorem pf_lift (P:Pg C) (hh:hdV ts=true) (h:PF C 60 (k + 3) n (.tup v) ts stop):PF C 57 (k + 6) n (.tup v) ts stop :=
 pf_simple P hh (pf_term P (pf_factor P hh h))
theorem rel_no {x:List Nat} {M:Mem} (h:contO.contains x=false):cmpv .isin (.str x) v_RELATIONS M=some false:=by
 have e:cmpv .isin (.str x) v_RELATIONS M=inStr [.str [61],.str [47,61],.str [60],.str [60,61],.str [62],.str [62,61]] x:=by
  rcases x with _ | ⟨a,_ | ⟨b,r⟩⟩ <;> rfl
 have g:∀ y,contO.contains y=true→decide (y=x)=false:=fun y hy=>decide_eq_false fun e=>by rw [e,h] at hy; cases hy
 rw [e]
 show some (decide ([61]=x) || (decide ([47,61]=x) || (decide ([60]=x) || (decide ([60,61]=x) || (decide ([62]=x) || (decide ([62,61]=x) || false))))))=_
 rw [g _ rfl,g _ rfl,g _ rfl,g _ rfl,g _ rfl,g _ rfl]; rfl
theorem p_relsign (P:Pg C) (hr:Rs r M₀ n dp ts M) (hs:stop ts=true) (q:Q (.str []) M):CallOk C (d + 3) (.fn 54) [.mref r] M Q:=by
 refine cl P rfl rfl (p_peek P hr (fun t ln ht ho=>?_) fun ln _=>q)
 cases t with
 | op x =>
  have hx:contO.contains x=false:=by
   cases ts with
   | nil=>cases ht
   | cons u us=>cases ht; exact not_t hs
  refine ss_if0 (t:=.and (.cons (.cmp .eq (.subk (.loc 1) 0) (.cst (.str z_op))) (.cons (.cmp .isin (.subk (.loc 1) 1) (.glo 71)) .nil))) (env:=[some (.mref r),some (.tup [.str z_op,.str x,.int ln])]) (M':=M) (fun K kk=>?_) q
  show opt (cmpv .isin (.str x) v_RELATIONS M) fun b=>match b with
   | true=>K true M
   | false=>K false M
  rw [rel_no hx]; exact kk
 | _=>exact q
theorem p_relno (P:Pg C) (hr:Rs r M₀ n dp ts M) (hs:stop ts=true) (q:Q (.tup v) M):CallOk C (d + 4) (.fn 55) [.mref r,.tup v] M Q :=
 cl P rfl rfl (p_relsign P hr hs (p_word (d:=d + 1) P hr rfl (stop_w hs rfl) (p_word (d:=d + 1) P hr rfl (stop_w hs rfl) q)))
theorem p_logword (P:Pg C) (hr:Rs r M₀ n dp ts M) (hs:stop ts=true) (q:Q (.tup [.str [],.int 0]) M):CallOk C (d + 3) (.fn 52) [.mref r] M Q :=
 cl P rfl rfl (p_word P hr rfl (stop_w hs rfl) (p_word P hr rfl (stop_w hs rfl) (p_word P hr rfl (stop_w hs rfl) q)))
theorem p_logno (P:Pg C) (hr:Rs r M₀ n dp ts M) (hs:stop ts=true) (q:Q (.tup v) M):CallOk C (d + 4) (.fn 53) [.mref r,.tup v] M Q :=
 cl P rfl rfl (p_logword P hr hs (Exists.intro 1 (p_logword P hr hs q)))
theorem pf_expr (P:Pg C) (hv:n=0→HH 60 [v]) (h:PF C 57 (k + 6) n (.tup v) ts stop):PF C 50 (k + 7) n (.tup v) ts stop:=fun d r dp M₀ M rest Q hs hr q=>by
 refine cl P rfl rfl (h _ _ _ _ _ _ _ hs hr fun M' hr=>?_)
 refine p_relno (d:=d + k + 2) P hr hs (p_logno (d:=d + k + 2) P hr hs (p_bound (d:=d + k + 3) P hr hv q))
theorem pf_psimple (P:Pg C) (hv:n=0→HH 60 [v]) (h:PF C 57 (k + 6) n (.tup v) ts stop):PF C 51 (k + 7) n (.tup v) ts stop:=fun d r dp M₀ M rest Q hs hr q=>by
 refine cl P rfl rfl (h _ _ _ _ _ _ _ hs hr fun M' hr=>?_)
 exact p_bound (d:=d + k + 3) P hr hv q
theorem pf_pname (P:Pg C) {ok:List Tk→Bool} (hv:n=0→HH 60 [v]) (h:PF C 62 (k + 3) n (.tup v) ts ok):PF C 61 (k + 4) n (.tup v) ts ok:=fun d r dp M₀ M rest Q hs hr q=>by
 refine cl P rfl rfl (h _ _ _ _ _ _ _ hs hr fun M' hr=>?_)
 exact p_bound (d:=d + k) P hr hv q
end
section
variable {C:Cx} {M M₀:Mem} {Q:PV→Mem→Prop} {d r n dp k:Nat} {ts rest:List Tk} {v:List PV}
theorem pp_int (P:Pg C) {j:Nat}:PF C 60 3 n (.tup (vInt j)) [.int j] stop:=fun d r dp M₀ M rest Q hs hr q=>by
 obtain ⟨T,k,h1,h2⟩:=hr.next
 exact cl P rfl rfl (p_peek1 P hr fun ln=>RdO.at h1 (and2 rfl (RdO.at h1 (and2 (Nat.le_of_ble_eq_true rfl) (q _ h2)))))
theorem pp_chr (P:Pg C) {j:Nat}:PF C 60 3 n (.tup (vChr j)) [.chr j] stop:=fun d r dp M₀ M rest Q hs hr q=>by
 obtain ⟨T,k,h1,h2⟩:=hr.next
 exact cl P rfl rfl (p_peek1 P hr fun ln=>RdO.at h1 (and2 rfl (RdO.at h1 (and2 (Nat.le_of_ble_eq_true rfl) (q _ h2)))))
theorem pp_name (P:Pg C) {s:List Nat} (h:PF C 62 (k + 3) n (.tup v) (.nm s :: ts) stop):PF C 60 (k + 4) n (.tup v) (.nm s :: ts) stop:=fun d r dp M₀ M rest Q hs hr q=>by
 refine cl P rfl rfl (p_peek1 (d:=d + k + 1) P hr fun ln=>?_)
 refine p_takeWF (d:=d + k) P hr rfl rfl (p_takeWF (d:=d + k) P hr rfl rfl ?_)
 exact h _ _ _ _ _ _ _ hs hr q
noncomputable abbrev t_nl:T:=match stm 1 f_name_tree.body with | .whl t _=>t | _=>.val (.loc 0)
noncomputable abbrev b_nl:Ss:=sbody (stm 1 f_name_tree.body)
theorem nl_stop (P:Pg C) {m:Nat} {K:Out→Lo→Mem→Prop} (hr:Rs r M₀ n dp ts M) (hs:stop ts=true) (q:K (.ret (.tup v)) [some (.mref r),some (.tup v)] M) :
  unrP (fun env M K=>wpT C theG (d + 3) t_nl env M K) (fun env M K=>wpSs C theG (d + 3) b_nl env M K) (m + 1) [some (.mref r),some (.tup v)] M K :=
 p_takeF P hr rfl (stop_s hs rfl) (p_sign (d:=d + 1) P hr rfl (stop_s hs rfl) (p_sign (d:=d + 1) P hr rfl (stop_s hs rfl) (p_takeF P hr rfl (stop_s hs rfl) q)))
theorem pn_name (P:Pg C) {s:List Nat}:PF C 62 4 n (.tup (vName s)) [.nm s] stop:=fun d r dp M₀ M rest Q hs hr q=>by
 refine cl P rfl rfl (p_peek1 (d:=d + 1) P hr fun ln=>p_name P hr fun M' hr=>Exists.intro 1 ?_)
 exact nl_stop P hr hs (q M' hr)
theorem nl_apply (P:Pg C) {m:Nat} {l:List PV} {K:Out→Lo→Mem→Prop} (h:PF C 71 (k + 3) n (.list l) (.op o_lp :: ts) (fun _=>true)) (hr:Rs r M₀ n dp (.op o_lp :: ts++rest) M)
  (q:∀ M',Rs r M₀ n dp rest M'→unrP (fun env M K=>wpT C theG (d + (k + 3)) t_nl env M K) (fun env M K=>wpSs C theG (d + (k + 3)) b_nl env M K) m [some (.mref r),some (.tup (vApply v l))] M' K) :
  unrP (fun env M K=>wpT C theG (d + (k + 3)) t_nl env M K) (fun env M K=>wpSs C theG (d + (k + 3)) b_nl env M K) (m + 1) [some (.mref r),some (.tup v)] M K:=by
 refine p_takeF (d:=d + k) P hr rfl rfl (p_sign (d:=d + k + 1) P hr rfl rfl ?_)
 exact h _ _ _ _ _ _ _ rfl hr q
theorem pn_apply (P:Pg C) {s:List Nat} {l:List PV} (h:PF C 71 (k + 3) n (.list l) (.op o_lp :: ts) (fun _=>true)):PF C 62 (k + 4) n (.tup (vApply (vName s) l)) (.nm s :: .op o_lp :: ts) stop:=fun d r dp M₀ M rest Q hs hr q=>by
 refine cl P rfl rfl (p_peek1 (d:=d + k + 1) P hr fun ln=>p_name (d:=d + k) P hr fun M' hr=>Exists.intro 2 ?_)
 exact nl_apply P h hr fun M' hr=>nl_stop (d:=d + k) P hr hs (q M' hr)
theorem nl_sel (P:Pg C) {m:Nat} {s:List Nat} {K:Out→Lo→Mem→Prop} (hr:Rs r M₀ n dp (.op o_dot :: .nm s :: rest) M)
  (q:∀ M',Rs r M₀ n dp rest M'→unrP (fun env M K=>wpT C theG (d + 4) t_nl env M K) (fun env M K=>wpSs C theG (d + 4) b_nl env M K) m [some (.mref r),some (.tup (vSel v s))] M' K) :
  unrP (fun env M K=>wpT C theG (d + 4) t_nl env M K) (fun env M K=>wpSs C theG (d + 4) b_nl env M K) (m + 1) [some (.mref r),some (.tup v)] M K:=by
 refine p_takeT (d:=d + 1) P hr fun M' hr=>?_
 refine cl P rfl rfl (p_takeWF P hr rfl rfl (p_peek1 (d:=d + 1) P hr fun ln=>p_name P hr fun M' hr=>?_))
 exact q M' hr
theorem pn_mark (P:Pg C) {m:List PV} {ms:List Tk} (h:TMark m ms):PF C 62 5 n (.tup m) ms stop:=fun d r dp M₀ M rest Q hs hr q=>by
 cases h with
 | m1=>exact pn_name P (d + 1) _ _ _ _ _ _ hs hr q
 | m2 =>
  refine cl P rfl rfl (p_peek1 (d:=d + 2) P hr fun ln=>p_name (d:=d + 1) P hr fun M' hr=>Exists.intro 2 ?_)
  exact nl_sel P hr fun M' hr=>nl_stop (d:=d + 1) P hr hs (q M' hr)
 | m3=>exact pn_name P (d + 1) _ _ _ _ _ _ hs hr q
theorem pn_mapp (P:Pg C) {m:List PV} {ms:List Tk} {l:List PV} (h:TMark m ms) (g:PF C 71 (k + 4) n (.list l) (.op o_lp :: ts) (fun _=>true)):PF C 62 (k + 5) n (.tup (vApply m l)) (ms++.op o_lp :: ts) stop:=fun d r dp M₀ M rest Q hs hr q=>by
 cases h with
 | m1=>exact pn_apply P g _ _ _ _ _ _ _ hs hr q
 | m2 =>
  refine cl P rfl rfl (p_peek1 (d:=d + k + 2) P hr fun ln=>p_name (d:=d + k + 1) P hr fun M' hr=>Exists.intro 3 ?_)
  refine nl_sel (d:=d + k) P hr fun M' hr=>?_
  exact nl_apply (k:=k + 1) P g hr fun M' hr=>nl_stop (d:=d + k + 1) P hr hs (q M' hr)
 | m3=>exact pn_apply P g _ _ _ _ _ _ _ hs hr q
end
noncomputable def stopC (ts:List Tk):Bool:=stop ts && (!sgn ts 0 o_dd && !wdn ts 0 z_range)
noncomputable def stopP (ts:List Tk):Bool:=stopC ts && (!sgn ts 0 o_bar && !sgn ts 0 o_ar)
theorem stopC_1 {ts} (h:stopC ts=true):stop ts=true∧sgn ts 0 o_dd=false∧wdn ts 0 z_range=false:=by
 obtain ⟨h1,h2⟩:=(Bool.and_eq_true _ _).mp h
 obtain ⟨h2,h3⟩:=(Bool.and_eq_true _ _).mp h2
 exact ⟨h1,not_t h2,not_t h3⟩
theorem stopP_1 {ts} (h:stopP ts=true):stopC ts=true∧sgn ts 0 o_bar=false∧sgn ts 0 o_ar=false:=by
 obtain ⟨h1,h2⟩:=(Bool.and_eq_true _ _).mp h
 obtain ⟨h2,h3⟩:=(Bool.and_eq_true _ _).mp h2
 exact ⟨h1,not_t h2,not_t h3⟩
theorem PF.up {C f k n v ts ok} (h:PF C f k n v ts ok) (j:Nat):PF C f (j + k) n v ts ok:=fun d r dp M₀ M rest Q hs hr q=>by
 rw [← Nat.add_assoc]; exact h _ _ _ _ _ _ _ hs hr q
theorem PF.weak {C f k n v ts} {ok ok':List Tk→Bool} (h:PF C f k n v ts ok) (w:∀ r,ok' r=true→ok r=true):PF C f k n v ts ok':=fun d r dp M₀ M rest Q hs hr q=>h d r dp M₀ M rest Q (w _ hs) hr q
inductive NoRg:List PV→Prop
 | int (k):NoRg (vInt k)
 | chr (k):NoRg (vChr k)
 | name (s):NoRg (vName s)
 | apply (m l):NoRg (vApply m l)
 | sel (m s):NoRg (vSel m s)
 | tick (l):NoRg (vTick l)
section
variable {C:Cx} {M M₀:Mem} {Q:PV→Mem→Prop} {d r n dp k:Nat} {ts us rest:List Tk} {v w:List PV}
theorem p_extno (P:Pg C) (hv:NoRg v) (hr:Rs r M₀ n dp ts M) (h1:sgn ts 0 o_dd=false) (h2:wdn ts 0 z_range=false) (q:Q (.tup v) M):CallOk C (d + 4) (.fn 66) [.mref r,.tup v] M Q:=by
 cases hv
 ·exact cl P rfl rfl (p_takeF P hr rfl h1 q)
 ·exact cl P rfl rfl (p_takeF P hr rfl h1 q)
 ·exact cl P rfl rfl (p_takeF P hr rfl h1 (p_takeWF P hr rfl h2 q))
 ·exact cl P rfl rfl (p_takeF P hr rfl h1 (p_takeWF P hr rfl h2 q))
 ·exact cl P rfl rfl (p_takeF P hr rfl h1 (p_takeWF P hr rfl h2 q))
 ·exact cl P rfl rfl (p_takeF P hr rfl h1 (p_takeWF P hr rfl h2 q))
theorem p_extrg (P:Pg C) (h:PF C 57 (k + 3) n (.tup w) us stop) (hr:Rs r M₀ n dp (.op o_dd :: us++rest) M) (hs:stop rest=true) (q:∀ M',Rs r M₀ n dp rest M'→Q (.tup (vRange v w)) M'):CallOk C (d + (k + 3) + 1) (.fn 66) [.mref r,.tup v] M Q:=by
 refine cl P rfl rfl (p_takeT (d:=d + k) P hr fun M' hr=>?_)
 exact h _ _ _ _ _ _ _ hs hr q
theorem NoRg.tag {M:Mem} (h:NoRg v):∃ s l,v = .str s :: l∧cmpv .ne (.str s) (.str z_range) M=some true∧cmpv .ne (.str s) (.str z_sub) M=some true:=by
 cases h <;> exact ⟨_,_,rfl,rfl,rfl⟩
theorem pc_val (P:Pg C) (hh:hdV ts=true) (hv:NoRg v) (hb:n=0→HH 60 [v]) (h:PF C 57 (k + 6) n (.tup v) ts stop):PF C 68 (k + 7) n (.tup v) ts stopC:=fun d r dp M₀ M rest Q hs hr q=>by
 obtain ⟨h1,h2,h3⟩:=stopC_1 hs
 refine cl P rfl rfl (p_takeWF (d:=d + k + 3) P hr rfl (hd_w hh) (h _ _ _ _ _ _ _ h1 hr fun M' hr=>?_))
 refine p_extno (d:=d + k + 2) P hv hr h2 h3 ?_
 obtain ⟨s,l,rfl,e1,e2⟩:=hv.tag (M:=M')
 have go:CallOk C (d + k + 6) (.fn 55) [.mref r,.tup (.str s :: l)] M' fun t M''=>CallOk C (d + k + 6) (.fn 53) [.mref r,t] M'' fun t M''=>CallOk C (d + k + 6) (.fn 49) [.mref r,t] M'' fun t M''=>frzP t M'' fun t M''=>Q t M'' :=
  p_relno (d:=d + k + 2) P hr h1 (p_logno (d:=d + k + 2) P hr h1 (p_bound (d:=d + k + 3) P hr hb q))
 cases hv <;> exact p_relno (d:=d + k + 2) P hr h1 (p_logno (d:=d + k + 2) P hr h1 (p_bound (d:=d + k + 3) P hr hb q))
theorem pc_rg (P:Pg C) (hh:hdV ts=true) (hb:n=0→HH 60 [vRange v w]) (h:PF C 57 (k + 6) n (.tup v) ts stop) (g:PF C 57 (k + 5) n (.tup w) us stop):PF C 68 (k + 7) n (.tup (vRange v w)) (ts++.op o_dd :: us) stopC:=fun d r dp M₀ M rest Q hs hr q=>by
 obtain ⟨h1,h2,h3⟩:=stopC_1 hs
 rw [List.append_assoc] at hr
 refine cl P rfl rfl (p_takeWF (d:=d + k + 3) P hr rfl (hd_w hh) (h _ _ _ _ _ _ _ rfl hr fun M' hr=>?_))
 refine p_extrg (d:=d) (k:=k + 2) P g hr h1 fun M' hr=>?_
 exact p_bound (d:=d + k + 3) P hr hb q
noncomputable def NoOth (v:List PV):Prop:=∀ M:Mem,cmpv .eq (.tup v) (.tup [.str z_others]) M=some false
structure RF (r b:Nat) (M₀:Mem) (n dp:Nat) (ts:List Tk) (l:List PV) (M:Mem):Prop where
 rs:Rs r M n dp ts M
 arr:M b=some (.list l)
 rest:∀ c,c ≠ r→c ≠ b→M c=M₀ c
theorem Rs.ne {b:Nat} (h:Rs r M₀ n dp ts M) (e:M b=none):b ≠ r:=fun w=>by
 obtain ⟨T,all,j,h1,_⟩:=h.here
 rw [← w,e] at h1; cases h1
theorem RF.new {b:Nat} {l:List PV} (h:Rs r M₀ n dp ts M) (e:M b=none):RF r b M₀ n dp ts l (M.upd b (.list l)):=by
 have hb:=h.ne e
 obtain ⟨T,all,j,h1,h2⟩:=h.here
 exact ⟨⟨⟨T,all,j,(upd_ne hb.symm).trans h1,h2⟩,fun _ _=>rfl⟩,upd_same,fun c c1 c2=>(upd_ne c2).trans (h.rest c c1)⟩
theorem RF.step {b n' dp':Nat} {l:List PV} {ts':List Tk} {M':Mem} (h:RF r b M₀ n dp ts l M) (hb:b ≠ r) (k:Rs r M n' dp' ts' M'):RF r b M₀ n' dp' ts' l M' :=
 ⟨k.self,(k.rest b hb).trans h.arr,fun c c1 c2=>(k.rest c c1).trans (h.rest c c1 c2)⟩
theorem RF.push {b:Nat} {l l':List PV} (h:RF r b M₀ n dp ts l M) (hb:b ≠ r):RF r b M₀ n dp ts l' (M.upd b (.list l')):=by
 obtain ⟨T,all,j,h1,h2⟩:=h.rs.here
 exact ⟨⟨⟨T,all,j,(upd_ne hb.symm).trans h1,h2⟩,fun _ _=>rfl⟩,upd_same,fun c c1 c2=>(upd_ne c2).trans (h.rest c c1 c2)⟩
theorem RF.done {b:Nat} {l:List PV} (h:RF r b M₀ n dp ts l M) (hb:b ≠ r) (e:M₀ b=none):Rs r M₀ n dp ts (M.del b):=by
 obtain ⟨T,all,j,h1,h2⟩:=h.rs.here
 refine ⟨⟨T,all,j,(del_ne hb.symm).trans h1,h2⟩,fun c c1=>?_⟩
 by_cases c2:c=b
 ·rw [c2,del_same,e]
 ·rw [del_ne c2,h.rest c c1 c2]
theorem Rs.none {b:Nat} (h:Rs r M₀ n dp ts M) (e:M b=none):M₀ b=none:=(h.rest b (h.ne e)).symm.trans e
theorem pa_pos (P:Pg C) (hv:NoOth v) (h:PF C 68 (k + 2) n (.tup v) ts stopC):PF C 69 (k + 3) n (vPos v) ts stopP:=fun d r dp M₀ M rest Q hs hr q=>by
 obtain ⟨h1,h2,h3⟩:=stopP_1 hs
 refine cl P rfl rfl (h _ _ _ _ _ _ _ h1 hr fun M' hr=>?_)
 refine p_sign (d:=d + k) P hr rfl h2 (p_sign (d:=d + k) P hr rfl h3 ?_)
 show opt (cmpv .eq (.tup v) (.tup [.str z_others]) M') fun b=>match b with
  | true=>False
  | false=>Q (.tup [.none,.tup v]) M'
 rw [hv M']
 exact q M' hr
theorem pa_named (P:Pg C) {s:List Nat} (h:PF C 68 (k + 4) n (.tup (vName s)) [.nm s] stopC) (g:PF C 50 (k + 4) n (.tup w) us stop):PF C 69 (k + 5) n (vNamed s w) (.nm s :: .op o_ar :: us) stop:=fun d r dp M₀ M rest Q hs hr q=>by
 refine cl P rfl rfl (h _ _ _ _ _ (.op o_ar :: us++rest) _ rfl hr fun M' hr=>?_)
 refine p_sign (d:=d + k + 2) P hr rfl rfl (p_sign (d:=d + k + 2) P hr rfl rfl ?_)
 intro b hb
 have hne:=hr.ne hb
 have h1:=RF.new (l:=[.tup (vName s)]) hr hb
 refine Exists.intro 1 (p_takeF (d:=d + k + 1) P h1.rs rfl rfl (p_need (d:=d + k) P h1.rs fun M2 h2=>?_))
 have h2:=h1.step hne h2
 refine g _ _ _ _ _ _ _ hs h2.rs fun M3 h3=>?_
 have h3:=h2.step hne h3
 exact RdL.at h3.arr (q _ (h3.done hne (hr.none hb)))
theorem ph_one (P:Pg C) {x:List PV} (hn:n < 20) (h:PF C 69 (k + 3) (n + 1) (.tup x) ts stopP):PF C 71 (k + 5) n (.list [.tup x]) (.op o_lp :: ts++[.op o_rp]) (fun _=>true):=fun d r dp M₀ M rest Q hs hr q=>by
 rw [List.append_assoc] at hr
 refine cl P rfl rfl (p_need (d:=d + k) P hr fun M' hr=>p_open (d:=d + k + 3) P hr (Nat.lt_trans hn (by decide)) fun M' hr=>?_)
 refine cl P rfl rfl (h _ _ _ _ _ _ _ rfl hr fun M' hr=>?_)
 intro b hb
 have hne:=hr.ne hb
 have h1:=RF.new (l:=[.tup x]) hr hb
 refine Exists.intro 1 (p_takeF (d:=d + k) P h1.rs rfl rfl ?_)
 have hr2:=h1.done hne (hr.none hb)
 exact RdL.at h1.arr (p_need (d:=d + k) P hr2 fun M' hr=>p_close (d:=d + k + 3) P hr fun M' hr=>q M' hr)
theorem ph_two (P:Pg C) {x:List PV} {y:PV} {z:List PV} (hn:n < 20) (h:PF C 69 (k + 3) (n + 1) (.tup x) ts stopP) (g:PF C 69 (k + 3) (n + 1) (.tup [.list [y],.tup z]) us stop):PF C 71 (k + 5) n (.list [.tup x,.tup [.list [y],.tup z]]) (.op o_lp :: ts++.op o_cm :: us++[.op o_rp]) (fun _=>true):=fun d r dp M₀ M rest Q hs hr q=>by
 rw [List.append_assoc,List.append_assoc] at hr
 refine cl P rfl rfl (p_need (d:=d + k) P hr fun M' hr=>p_open (d:=d + k + 3) P hr (Nat.lt_trans hn (by decide)) fun M' hr=>?_)
 refine cl P rfl rfl (h _ _ _ _ _ _ _ rfl hr fun M' hr=>?_)
 intro b hb
 have hne:=hr.ne hb
 have h1:=RF.new (l:=[.tup x]) hr hb
 refine Exists.intro 2 (p_takeT (d:=d + k) P h1.rs fun M2 h2=>?_)
 have h2:=h1.step hne h2
 refine g _ _ _ _ _ _ _ rfl h2.rs fun M3 h3=>?_
 have h3:=h2.step hne h3
 refine and2 (RdL.at h3.arr trivial) (RdL.at h3.arr (and2 (lk rfl) ?_))
 have h4:=h3.push (l':=[.tup x,.tup [.list [y],.tup z]]) hne
 refine p_takeF (d:=d + k) P h4.rs rfl rfl ?_
 have hr2:=h4.done hne (hr.none hb)
 exact RdL.at h4.arr (p_need (d:=d + k) P hr2 fun M' hr=>p_close (d:=d + k + 3) P hr fun M' hr=>q M' hr)
end
section
variable {C:Cx} {M M₀:Mem} {Q:PV→Mem→Prop} {d r n dp k:Nat} {ts us rest:List Tk} {v w:List PV}
theorem ps_int (P:Pg C) {j:Nat}:PF C 57 6 n (.tup (vInt j)) [.int j] stop:=pf_lift (k:=0) P rfl (pp_int P)
theorem ps_chr (P:Pg C) {j:Nat}:PF C 57 6 n (.tup (vChr j)) [.chr j] stop:=pf_lift (k:=0) P rfl (pp_chr P)
theorem ps_nm (P:Pg C) {s:List Nat} (h:PF C 62 (k + 3) n (.tup v) (.nm s :: ts) stop):PF C 57 (k + 7) n (.tup v) (.nm s :: ts) stop:=pf_lift (k:=k + 1) P rfl (pp_name P h)
theorem ps_name (P:Pg C) {s:List Nat}:PF C 57 8 n (.tup (vName s)) [.nm s] stop:=ps_nm (k:=1) P (pn_name P)
theorem NoOth.name (s:List Nat) (h:okD 58 (.str s)=true):NoOth (vName s):=fun M=>by
 show (if okD 60 (.tup (vName s)) && true then some false else none)=_
 rw [show okD 60 (.tup (vName s))=true from okc (n:=59) rfl (okc h rfl)]; rfl
theorem pc_name (P:Pg C) {s:List Nat}:PF C 68 9 (n + 1) (.tup (vName s)) [.nm s] stopC:=pc_val (k:=2) P rfl (.name s) (fun e=>nomatch e) (ps_name P)
theorem ps_app (P:Pg C) (hn:n < 20):PF C 57 17 n (.tup (vApply (vName z_f) [vPos (vName z_n)])) [.nm z_f,.op o_lp,.nm z_n,.op o_rp] stop :=
 ps_nm (k:=10) P (pn_apply (k:=9) P (ph_one (k:=7) (ts:=[.nm z_n]) P hn (pa_pos (k:=7) P (NoOth.name z_n rfl) (pc_name P))))
theorem ps_val (P:Pg C) (h:TVal v ts) (hn:n < 20):PF C 57 17 n (.tup v) ts stop:=by
 cases h with
 | int k h=>exact (ps_int P).up 11
 | chr k h=>exact (ps_chr P).up 11
 | app=>exact ps_app P hn
 | nm1=>exact (ps_name P).up 9
 | nm2=>exact (ps_name P).up 9
 | nm3=>exact (ps_name P).up 9
theorem TVal.hd (h:TVal v ts):hdV ts=true:=by cases h <;> rfl
theorem TVal.norg (h:TVal v ts):NoRg v:=by
 cases h with
 | int k h=>exact .int k
 | chr k h=>exact .chr _
 | app=>exact .apply _ _
 | nm1=>exact .name _
 | nm2=>exact .name _
 | nm3=>exact .name _
theorem TVal.hh (h:TVal v ts):HH 60 [v]:=Ht.hh (n:=2) (ht_val h (n:=0)) (by decide) (by decide)
theorem TVal.nooth (h:TVal v ts):NoOth v:=fun M=>oth_f h
theorem pe_val (P:Pg C) (h:TVal v ts) (hn:n < 20):PF C 50 18 n (.tup v) ts stop:=pf_expr (k:=11) P (fun _=>h.hh) (ps_val P h hn)
theorem psi_val (P:Pg C) (h:TVal v ts) (hn:n < 20):PF C 51 18 n (.tup v) ts stop:=pf_psimple (k:=11) P (fun _=>h.hh) (ps_val P h hn)
theorem pch_val (P:Pg C) (h:TVal v ts) (hn:n < 20):PF C 68 18 n (.tup v) ts stopC:=pc_val (k:=11) P h.hd h.norg (fun _=>h.hh) (ps_val P h hn)
theorem pch_rg (P:Pg C) {j:Nat} (h:TVal v ts) (hn:n < 20):PF C 68 19 n (.tup (vRange (vInt j) v)) (.int j :: .op o_dd :: ts) stopC :=
 pc_rg (k:=12) (ts:=[.int j]) P rfl (fun _=>Ht.hh (n:=3) (ht_range h (n:=0)) (by decide) (by decide)) ((ps_int P).up 12) (ps_val P h hn)
theorem NoOth.rg {j:Nat} (h:TVal v ts):NoOth (vRange (vInt j) v):=fun M=>by
 have:okD 60 (.tup (vRange (vInt j) v))=true:=okc (n:=59) rfl (okc rfl (okc (h.okD (n:=55)) rfl))
 show (if okD 60 (.tup (vRange (vInt j) v)) && true then some false else none)=_
 rw [this]; rfl
theorem ph_p1 (P:Pg C) (h:TVal v ts) (hn:n < 18):PF C 71 22 n (.list (vAp1 v)) (.op o_lp :: .int 1 :: .op o_dd :: ts++[.op o_rp]) (fun _=>true) :=
 ph_one (k:=17) (ts:=.int 1 :: .op o_dd :: ts) P (Nat.lt_trans hn (by decide)) (pa_pos (k:=17) P (NoOth.rg h) (pch_rg P h (Nat.lt_of_lt_of_le (Nat.succ_lt_succ hn) (by decide))))
theorem ph_p2 (P:Pg C) (h:TVal v ts) (k:TVal w us) (hn:n < 18):PF C 71 22 n (.list (vAp2 v w)) (.op o_lp :: ts++.op o_cm :: .nm z_size :: .op o_ar :: us++[.op o_rp]) (fun _=>true):=by
 have hn':n + 1 < 20:=Nat.lt_of_lt_of_le (Nat.succ_lt_succ hn) (by decide)
 exact ph_two (k:=17) (us:=.nm z_size :: .op o_ar :: us) (y:=.tup (vName z_size)) P (Nat.lt_trans hn (by decide)) ((pa_pos (k:=16) P h.nooth (pch_val P h hn')).up 1) ((pa_named (k:=14) P ((pc_name P).up 9) (pe_val P k hn')).up 1)
theorem p_att0 (P:Pg C) (hr:Rs r M₀ n dp (.wd z_range :: rest) M) (hs:stop rest=true) (q:∀ M',Rs r M₀ n dp rest M'→Q (.tup [.str z_tick,.tup v,.str z_range,.list []]) M'):CallOk C (d + 4) (.fn 64) [.mref r,.tup v] M Q:=by
 obtain ⟨T,j,h1,h2⟩:=hr.next
 refine cl P rfl rfl (p_peek1 (d:=d + 1) P hr fun ln=>RdO.at h1 (and2 rfl (RdO.at h1 (and2 (Nat.le_of_ble_eq_true rfl) ?_))))
 intro b hb
 have hne:=h2.ne hb
 have h3:=RF.new (l:=[]) h2 hb
 refine p_takeF P h3.rs rfl (stop_s hs rfl) ?_
 exact RdL.at h3.arr (q _ (h3.done hne (h2.none hb)))
theorem p_att1 (P:Pg C) (hn:n < 18) (hr:Rs r M₀ n dp (.wd z_range :: .op o_lp :: .int 2 :: .op o_rp :: rest) M) (q:∀ M',Rs r M₀ n dp rest M'→Q (.tup [.str z_tick,.tup v,.str z_range,.list [.tup (vInt 2)]]) M'):CallOk C (d + 19) (.fn 64) [.mref r,.tup v] M Q:=by
 obtain ⟨T,j,h1,h2⟩:=hr.next
 refine cl P rfl rfl (p_peek1 (d:=d + 16) P hr fun ln=>RdO.at h1 (and2 rfl (RdO.at h1 (and2 (Nat.le_of_ble_eq_true rfl) ?_))))
 intro b hb
 have hne:=h2.ne hb
 have h3:=RF.new (l:=[]) h2 hb
 refine p_takeT (d:=d + 15) P h3.rs fun M3 k3=>?_
 have h3:=h3.step hne k3
 refine p_open (d:=d + 17) P h3.rs (Nat.lt_trans hn (by decide)) fun M4 k4=>?_
 have h4:=h3.step hne k4
 refine and2 (RdL.at h4.arr trivial) ?_
 refine pe_val P (.int 2 (by decide)) (Nat.lt_of_lt_of_le (Nat.succ_lt_succ hn) (by decide)) _ _ _ _ _ _ _ rfl h4.rs fun M5 k5=>?_
 have h5:=h4.step hne k5
 refine RdL.at h5.arr (and2 (lk rfl) ?_)
 have h6:=h5.push (l':=[.tup (vInt 2)]) hne
 refine Exists.intro 1 (p_takeF (d:=d + 15) P h6.rs rfl rfl ?_)
 refine p_need (d:=d + 14) P h6.rs fun M7 k7=>?_
 have h7:=h6.step hne k7
 refine p_close (d:=d + 17) P h7.rs fun M8 k8=>?_
 have h8:=h7.step hne k8
 exact RdL.at h8.arr (q _ (h8.done hne (h2.none hb)))
theorem nl_tick (P:Pg C) {m:Nat} {K:Out→Lo→Mem→Prop} (hr:Rs r M₀ n dp (.op o_tk :: .wd z_range :: rest) M) (q:∀ M',Rs r M₀ n dp (.wd z_range :: rest) M'→CallOk C (d + 3) (.fn 64) [.mref r,.tup v] M' fun x M''=>unrP (fun env M K=>wpT C theG (d + 3) t_nl env M K) (fun env M K=>wpSs C theG (d + 3) b_nl env M K) m [some (.mref r),some x] M'' K) :
  unrP (fun env M K=>wpT C theG (d + 3) t_nl env M K) (fun env M K=>wpSs C theG (d + 3) b_nl env M K) (m + 1) [some (.mref r),some (.tup v)] M K:=by
 refine p_takeF P hr rfl rfl (p_sign (d:=d + 1) P hr rfl rfl (p_sign (d:=d + 1) P hr rfl rfl (p_signJ (d:=d + 1) (j:=1) P hr (by decide) rfl rfl ?_)))
 exact p_takeT P hr fun M' hr=>q M' hr
theorem pn_tick0 (P:Pg C):PF C 62 6 n (.tup (vTick [])) [.nm z_v,.op o_tk,.wd z_range] stop:=fun d r dp M₀ M rest Q hs hr q=>by
 refine cl P rfl rfl (p_peek1 (d:=d + 3) P hr fun ln=>p_name (d:=d + 2) P hr fun M' hr=>Exists.intro 2 ?_)
 refine nl_tick (d:=d + 2) P hr fun M' hr=>p_att0 (d:=d + 1) P hr hs fun M' hr=>?_
 exact nl_stop (d:=d + 2) P hr hs (q M' hr)
theorem pn_tick1 (P:Pg C) (hn:n < 18):PF C 62 20 n (.tup (vTick [.tup (vInt 2)])) [.nm z_v,.op o_tk,.wd z_range,.op o_lp,.int 2,.op o_rp] stop:=fun d r dp M₀ M rest Q hs hr q=>by
 refine cl P rfl rfl (p_peek1 (d:=d + 17) P hr fun ln=>p_name (d:=d + 16) P hr fun M' hr=>Exists.intro 2 ?_)
 refine nl_tick (d:=d + 16) P hr fun M' hr=>p_att1 (d:=d) P hn hr fun M' hr=>?_
 exact nl_stop (d:=d + 16) P hr hs (q M' hr)
end
noncomputable def stopR (ts:List Tk):Bool:=stop ts && !sgn ts 0 o_dd
theorem stopR_1 {ts} (h:stopR ts=true):stop ts=true∧sgn ts 0 o_dd=false:=by
 obtain ⟨h1,h2⟩:=(Bool.and_eq_true _ _).mp h
 exact ⟨h1,not_t h2⟩
theorem stopC_R {ts} (h:stopC ts=true):stopR ts=true:=by
 obtain ⟨h1,h2,_⟩:=stopC_1 h
 unfold stopR
 rw [h1,h2]; rfl
section
variable {C:Cx} {M M₀:Mem} {Q:PV→Mem→Prop} {d r n dp k:Nat} {ts us rest:List Tk} {v w:List PV}
theorem TExt.hh (h:TExt v ts):HH 60 [v]:=Ht.hh (n:=3) (ht_ext h (n:=0)) (by decide) (by decide)
theorem ps_tick0 (P:Pg C):PF C 57 10 n (.tup (vTick [])) [.nm z_v,.op o_tk,.wd z_range] stop:=ps_nm (k:=3) P (pn_tick0 P)
theorem ps_tick1 (P:Pg C) (hn:n < 18):PF C 57 24 n (.tup (vTick [.tup (vInt 2)])) [.nm z_v,.op o_tk,.wd z_range,.op o_lp,.int 2,.op o_rp] stop:=ps_nm (k:=17) P (pn_tick1 P hn)
theorem pr_tick (P:Pg C) {l:List PV} (hb:HH 60 [vTick l]) (h:PF C 57 (k + 3) n (.tup (vTick l)) ts stop):PF C 67 (k + 4) n (.tup (vTick l)) ts stopR:=fun d r dp M₀ M rest Q hs hr q=>by
 obtain ⟨h1,h2⟩:=stopR_1 hs
 refine cl P rfl rfl (h _ _ _ _ _ _ _ h1 hr fun M' hr=>p_takeF (d:=d + k) P hr rfl h2 ?_)
 exact p_bound (d:=d + k) P hr (fun _=>hb) q
theorem p_range (P:Pg C) (h:TExt v ts) (hn:n < 18):PF C 67 25 n (.tup v) ts stopR:=by
 have hb:=h.hh
 cases h with
 | t0=>exact (pr_tick (k:=7) P hb (ps_tick0 P)).up 14
 | t1=>exact pr_tick (k:=21) P hb (ps_tick1 P hn)
 | rg j v ts hj h =>
  intro d r dp M₀ M rest Q hs hr q
  obtain ⟨h1,h2⟩:=stopR_1 hs
  refine cl P rfl rfl ((ps_int (j:=j) P).up 18 _ _ _ _ _ (.op o_dd :: ts++rest) _ rfl hr fun M' hr=>p_takeT (d:=d + 21) P hr fun M' hr=>?_)
  refine (ps_val P h (Nat.lt_trans hn (by decide))).up 7 _ _ _ _ _ _ _ h1 hr fun M' hr=>?_
  exact p_bound (d:=d + 21) P hr (fun _=>hb) q
theorem pd_tick (P:Pg C) {l:List PV} (hb:HH 60 [vTick l]) (h:PF C 57 (k + 4) n (.tup (vTick l)) ts stop):PF C 65 (k + 5) n (.tup (vTick l)) ts stopC:=fun d r dp M₀ M rest Q hs hr q=>by
 obtain ⟨h1,h2,h3⟩:=stopC_1 hs
 refine cl P rfl rfl (h _ _ _ _ _ _ _ h1 hr fun M' hr=>p_extno (d:=d + k) P (.tick l) hr h2 h3 ?_)
 exact p_bound (d:=d + k + 1) P hr (fun _=>hb) q
theorem TMark.norg (h:TMark v ts):NoRg v:=by
 cases h with
 | m1=>exact .name _
 | m2=>exact .sel _ _
 | m3=>exact .name _
theorem TMark.hh (h:TMark v ts):HH 60 [v]:=Ht.hh (n:=2) (ht_mark h (n:=0)) (by decide) (by decide)
theorem ps_mark (P:Pg C) (h:TMark v ts):PF C 57 9 n (.tup v) ts stop:=by
 have g:=pn_mark (n:=n) P h
 cases h with
 | m1=>exact ps_nm (k:=2) P g
 | m2=>exact ps_nm (k:=2) P g
 | m3=>exact ps_nm (k:=2) P g
theorem pd_mark (P:Pg C) (h:TMark v ts):PF C 65 10 n (.tup v) ts stopC:=fun d r dp M₀ M rest Q hs hr q=>by
 obtain ⟨h1,h2,h3⟩:=stopC_1 hs
 refine cl P rfl rfl (ps_mark P h _ _ _ _ _ _ _ h1 hr fun M' hr=>p_extno (d:=d + 5) P h.norg hr h2 h3 ?_)
 exact p_bound (d:=d + 6) P hr (fun _=>h.hh) q
theorem p_extsub (P:Pg C) {e:List PV} (h:TMark v ts) (g:TExt e us) (hn:n < 18) (hs:stopR rest=true) (hr:Rs r M₀ n dp (.wd z_range :: us++rest) M) (q:∀ M',Rs r M₀ n dp rest M'→Q (.tup (vSub v (vRg e))) M'):CallOk C (d + 26) (.fn 66) [.mref r,.tup v] M Q:=by
 cases h
 all_goals
  refine cl P rfl rfl (p_takeF (d:=d + 22) P hr rfl rfl ?_)
  refine p_takeWT (d:=d + 22) P hr fun M' hr=>?_
  exact p_range P g hn _ _ _ _ _ _ _ hs hr fun M' hr=>q M' hr
theorem pd_mrg (P:Pg C) {e:List PV} (h:TMark v ts) (g:TExt e us) (hn:n < 18):PF C 65 27 n (.tup (vSub v (vRg e))) (ts++.wd z_range :: us) stopC:=fun d r dp M₀ M rest Q hs hr q=>by
 rw [List.append_assoc] at hr
 refine cl P rfl rfl ((ps_mark P h).up 17 _ _ _ _ _ (.wd z_range :: us++rest) _ rfl hr fun M' hr=>?_)
 refine p_extsub P h g hn (stopC_R hs) hr fun M' hr=>?_
 exact p_bound (d:=d + 23) P hr (fun _=>Ht.hh (n:=5) (ht_subr h g (n:=0)) (by decide) (by decide)) q
theorem p_ismark (P:Pg C) (h:TMark v ts) (q:Q (.bool true) M):CallOk C (d + 1) (.fn 75) [.tup v] M Q:=by
 cases h <;> exact cl P rfl rfl (and2 (by decide) q)
theorem p_discrete (P:Pg C) (h:TDis v ts) (hn:n < 18):PF C 78 29 n (.tup v) ts stopC:=fun d r dp M₀ M rest Q hs hr q=>by
 cases h with
 | ext e ts h =>
  cases h with
  | t0=>exact cl P rfl rfl ((pd_tick (k:=6) P TExt.t0.hh (ps_tick0 P)).up 17 _ _ _ _ _ _ _ hs hr fun M' hr=>q M' hr)
  | t1=>exact cl P rfl rfl ((pd_tick (k:=20) P TExt.t1.hh (ps_tick1 P hn)).up 3 _ _ _ _ _ _ _ hs hr fun M' hr=>q M' hr)
  | rg j v ts hj h =>
   obtain ⟨h1,h2,h3⟩:=stopC_1 hs
   refine cl P rfl rfl (cl P rfl rfl ((ps_int (j:=j) P).up 21 _ _ _ _ _ (.op o_dd :: ts++rest) _ rfl hr fun M' hr=>?_))
   refine p_extrg (d:=d) (k:=23) P ((ps_val P h (Nat.lt_trans hn (by decide))).up 9) hr h1 fun M' hr=>?_
   exact p_bound (d:=d + 24) P hr (fun _=>(TExt.rg j v ts hj h).hh) fun M' hr=>q M' hr
 | no m ts h =>
  refine cl P rfl rfl ((pd_mark P h).up 18 _ _ _ _ _ _ _ hs hr fun M' hr'=>?_)
  have h0:=h
  cases h
  all_goals
   refine IteP.mk (p_ismark (d:=d + 27) P h0 ?_)
   exact IteP.mk (q M' hr')
 | rg m ts e us h g =>
  refine cl P rfl rfl ((pd_mrg P h g hn).up 1 _ _ _ _ _ _ _ hs hr fun M' hr=>?_)
  refine IteP.mk (p_ismark (d:=d + 27) P h ?_)
  exact IteP.mk (q M' hr)
end
section
variable {C:Cx} {M M₀:Mem} {Q:PV→Mem→Prop} {d r n dp k:Nat} {ts us rest:List Tk} {v w:List PV}
theorem pp_mark (P:Pg C) (h:TMark v ts):PF C 61 6 n (.tup v) ts stop:=pf_pname (k:=2) P (fun _=>h.hh) (pn_mark P h)
theorem p_mark (P:Pg C) (h:TMark v ts):PF C 76 7 n (.tup v) ts stop:=fun d r dp M₀ M rest Q hs hr q =>
 cl P rfl rfl (pp_mark P h _ _ _ _ _ _ _ hs hr fun M' hr'=>p_ismark (d:=d + 5) P h (q M' hr'))
theorem NoAp.tag {M:Mem} (h:TMark v ts):∃ s l,v = .str s :: l∧cmpv .eq (.str s) (.str z_apply) M=some false:=by cases h <;> exact ⟨_,_,rfl,rfl⟩
theorem p_sub (P:Pg C) (h:TSub v ts) (hn:n < 18):PF C 77 29 n (.tup v) ts stopC:=fun d r dp M₀ M rest Q hs hr q=>by
 obtain ⟨h1,h2,h3⟩:=stopC_1 hs
 cases h with
 | no m ts h =>
  refine cl P rfl rfl ((pp_mark P h).up 22 _ _ _ _ _ _ _ h1 hr fun M' hr'=>?_)
  have h0:=h
  cases h
  all_goals
   refine p_ismark (d:=d + 27) P h0 ?_
   refine p_takeWF (d:=d + 25) P hr' rfl h3 ?_
   exact q M' hr'
 | rg m ts e us h g =>
  rw [List.append_assoc] at hr
  refine cl P rfl rfl ((pp_mark P h).up 22 _ _ _ _ _ (.wd z_range :: us++rest) _ rfl hr fun M' hr'=>?_)
  have h0:=h
  cases h
  all_goals
   refine p_ismark (d:=d + 27) P h0 ?_
   refine p_takeWT (d:=d + 25) P hr' fun M' hr'=>?_
   exact (p_range P g hn).up 3 _ _ _ _ _ _ _ (stopC_R hs) hr' fun M' hr'=>q M' hr'
 | a1 m ts v us h g =>
  have e:PF C 61 24 n (.tup (vApply m (vAp1 v))) (ts++(.op o_lp :: .int 1 :: .op o_dd :: us++[.op o_rp])) stop:=pf_pname (k:=20) P (fun _=>Ht.hh (n:=4) (ht_ap1 h g (n:=0)) (by decide) (by decide)) (pn_mapp (k:=18) P h (ph_p1 P g hn))
  refine cl P rfl rfl (e.up 4 _ _ _ _ _ rest _ h1 (by simpa only [List.append_assoc,List.cons_append] using hr) fun M' hr'=>?_)
  refine p_ismark (d:=d + 27) P h ?_
  exact q M' hr'
 | a2 m ts v us w xs h g l =>
  have e:PF C 61 24 n (.tup (vApply m (vAp2 v w))) (ts++(.op o_lp :: us++.op o_cm :: .nm z_size :: .op o_ar :: xs++[.op o_rp])) stop:=pf_pname (k:=20) P (fun _=>Ht.hh (n:=4) (ht_ap2 h g l (n:=0)) (by decide) (by decide)) (pn_mapp (k:=18) P h (ph_p2 P g l hn))
  refine cl P rfl rfl (e.up 4 _ _ _ _ _ rest _ h1 (by simpa only [List.append_assoc,List.cons_append] using hr) fun M' hr'=>?_)
  refine p_ismark (d:=d + 27) P h ?_
  exact q M' hr'
theorem p_names (P:Pg C) (h:TNames v ts):PF C 80 4 n (.list v) ts (fun r=>!sgn r 0 o_cm):=fun d r dp M₀ M rest Q hs hr q=>by
 have h1:=not_t hs
 cases h with
 | n1 =>
  refine cl P rfl rfl (p_name P hr fun M' hr=>?_)
  intro b hb
  have hne:=hr.ne hb
  have g:=RF.new (l:=[.str z_a]) hr hb
  refine Exists.intro 1 (p_takeF P g.rs rfl h1 ?_)
  exact RdL.at g.arr (q _ (g.done hne (hr.none hb)))
 | n2 =>
  refine cl P rfl rfl (p_name P hr fun M' hr=>?_)
  intro b hb
  have hne:=hr.ne hb
  have g:=RF.new (l:=[.str z_a]) hr hb
  refine Exists.intro 2 (p_takeT P g.rs fun M2 g2=>?_)
  have g:=g.step hne g2
  refine and2 (RdL.at g.arr trivial) (p_name P g.rs fun M2 g2=>?_)
  have g:=g.step hne g2
  refine RdL.at g.arr (and2 (lk rfl) ?_)
  have g:=g.push (l':=[.str z_a,.str z_b_2]) hne
  refine p_takeF P g.rs rfl h1 ?_
  exact RdL.at g.arr (q _ (g.done hne (hr.none hb)))
 | n3 =>
  refine cl P rfl rfl (p_name P hr fun M' hr=>?_)
  intro b hb
  have hne:=hr.ne hb
  have g:=RF.new (l:=[.str z_a]) hr hb
  refine Exists.intro 3 (p_takeT P g.rs fun M2 g2=>?_)
  have g:=g.step hne g2
  refine and2 (RdL.at g.arr trivial) (p_name P g.rs fun M2 g2=>?_)
  have g:=g.step hne g2
  refine RdL.at g.arr (and2 (lk rfl) ?_)
  have g:=g.push (l':=[.str z_a,.str z_b_2]) hne
  refine p_takeT P g.rs fun M2 g2=>?_
  have g:=g.step hne g2
  refine and2 (RdL.at g.arr trivial) (p_name P g.rs fun M2 g2=>?_)
  have g:=g.step hne g2
  refine RdL.at g.arr (and2 (lk rfl) ?_)
  have g:=g.push (l':=[.str z_a,.str z_b_2,.str z_c]) hne
  refine p_takeF P g.rs rfl h1 ?_
  exact RdL.at g.arr (q _ (g.done hne (hr.none hb)))
theorem p_dfl (P:Pg C) {f:PV} {fs:List Tk} (h:TDfl f fs) (hn:n < 18):PF C 81 19 n f fs (fun r=>stop r && !sgn r 0 o_as):=fun d r dp M₀ M rest Q hs hr q=>by
 obtain ⟨h1,h2⟩:=(Bool.and_eq_true _ _).mp hs
 cases h with
 | no=>exact cl P rfl rfl (p_takeF (d:=d + 15) P hr rfl (not_t h2) (q M hr))
 | so v ts h=>exact cl P rfl rfl (p_takeT (d:=d + 15) P hr fun M' hr=>pe_val P h (Nat.lt_trans hn (by decide)) _ _ _ _ _ _ _ h1 hr fun M' hr=>q M' hr)
end
noncomputable def stopB (ts:List Tk):Bool:=stopC ts && !sgn ts 0 o_bar
theorem TVal.pvo {v ts} (h:TVal v ts):pveq (.tup v) (.tup [.str z_others])=false:=by cases h <;> rfl
theorem in_oth {b:Nat} {l:List PV} {M:Mem} {x:Bool} (hM:M b=some (.list l)) (h:inAny l (.tup [.str z_others])=some x):cmpv .isin (.tup [.str z_others]) (.mref b) M=some x:=by
 show (mol (M b)).bind (fun l=>inAny l (.tup [.str z_others]))=_
 rw [hM]; exact h
section
variable {C:Cx} {M M₀:Mem} {Q:PV→Mem→Prop} {d r n dp k:Nat} {ts us rest:List Tk} {v w:List PV}
theorem p_cho (P:Pg C) {c:List PV} {cs:List Tk} (h:TCho c cs) (hn:n < 18):PF C 79 20 n (.list c) cs stopB:=fun d r dp M₀ M rest Q hs hr q=>by
 obtain ⟨h1,h2⟩:=(Bool.and_eq_true _ _).mp hs
 have h2:=not_t h2
 have hn':n < 20:=Nat.lt_trans hn (by decide)
 cases h with
 | one v ts h =>
  refine cl P rfl rfl ((pch_val P h hn').up 1 _ _ _ _ _ _ _ h1 hr fun M' hr=>?_)
  intro b hb
  have hne:=hr.ne hb
  have g:=RF.new (l:=[.tup v]) hr hb
  refine Exists.intro 1 (p_takeF (d:=d + 16) P g.rs rfl h2 ?_)
  have e:inAny [.tup v] (.tup [.str z_others])=some false:=by
   show (if okDs 50 [.tup v] && true then some (pveq (.tup v) (.tup [.str z_others]) || false) else none)=_
   rw [show okDs 50 [.tup v]=true from okc (h.okD (n:=46)) rfl,h.pvo]; rfl
  refine ss_if0 (t:=.and (.cons (.cmp .isin (.tup (.cons (.cst (.str z_others)) .nil)) (.loc 1)) (.cons (.cmp .gt (.call (.glo 0) (.cons (.loc 1) .nil)) (.cst (.int 1))) .nil))) (env:=[some (.mref r),some (.mref b)]) (M':=M'.upd b (.list [.tup v])) (fun K kk=>?_) ?_
  ·exact t_and (ta_f (fun K kk=>t_cmp (fun K k=>k) (fun K k=>k) (in_oth g.arr e) kk) kk)
  ·exact RdL.at g.arr (q _ (g.done hne (hr.none hb)))
 | two v ts h =>
  rw [List.append_assoc] at hr
  refine cl P rfl rfl ((pch_val P h hn').up 1 _ _ _ _ _ (.op o_bar :: .int 3 :: .op o_dd :: .int 8 :: rest) _ rfl hr fun M' hr=>?_)
  intro b hb
  have hne:=hr.ne hb
  have g:=RF.new (l:=[.tup v]) hr hb
  refine Exists.intro 2 (p_takeT (d:=d + 16) P g.rs fun M2 g2=>?_)
  have g:=g.step hne g2
  refine and2 (RdL.at g.arr trivial) (pch_rg P (j:=3) (v:=vInt 8) (.int 8 (by decide)) hn' _ _ _ _ _ _ _ h1 g.rs fun M3 g3=>?_)
  have g:=g.step hne g3
  refine RdL.at g.arr (and2 (lk rfl) ?_)
  have g:=g.push (l':=[.tup v,.tup (vRange (vInt 3) (vInt 8))]) hne
  refine p_takeF (d:=d + 16) P g.rs rfl h2 ?_
  have e:inAny [.tup v,.tup (vRange (vInt 3) (vInt 8))] (.tup [.str z_others])=some false:=by
   show (if okDs 50 [.tup v,.tup (vRange (vInt 3) (vInt 8))] && true then some (pveq (.tup v) (.tup [.str z_others]) || false) else none)=_
   rw [show okDs 50 [.tup v,.tup (vRange (vInt 3) (vInt 8))]=true from okc (h.okD (n:=46)) rfl,h.pvo]; rfl
  refine ss_if0 (t:=.and (.cons (.cmp .isin (.tup (.cons (.cst (.str z_others)) .nil)) (.loc 1)) (.cons (.cmp .gt (.call (.glo 0) (.cons (.loc 1) .nil)) (.cst (.int 1))) .nil))) (env:=[some (.mref r),some (.mref b)]) (M':=M3.upd b (.list [.tup v,.tup (vRange (vInt 3) (vInt 8))])) (fun K kk=>?_) ?_
  ·exact t_and (ta_f (fun K kk=>t_cmp (fun K k=>k) (fun K k=>k) (in_oth g.arr e) kk) kk)
  ·exact RdL.at g.arr (q _ (g.done hne (hr.none hb)))
 | oth =>
  refine cl P rfl rfl (cl P rfl rfl (p_takeWT (d:=d + 15) P hr fun M' hr=>?_))
  intro b hb
  have hne:=hr.ne hb
  have g:=RF.new (l:=[.tup [.str z_others]]) hr hb
  refine Exists.intro 1 (p_takeF (d:=d + 16) P g.rs rfl h2 ?_)
  refine ss_if0 (t:=.and (.cons (.cmp .isin (.tup (.cons (.cst (.str z_others)) .nil)) (.loc 1)) (.cons (.cmp .gt (.call (.glo 0) (.cons (.loc 1) .nil)) (.cst (.int 1))) .nil))) (env:=[some (.mref r),some (.mref b)]) (M':=M'.upd b (.list [.tup [.str z_others]])) (fun K kk=>?_) ?_
  ·refine t_and (ta_t (fun K kk=>t_cmp (fun K k=>k) (fun K k=>k) (in_oth g.arr rfl) kk) (ta_f (fun K kk=>RdL.at g.arr (and2 (lk rfl) kk)) kk))
  ·exact RdL.at g.arr (q _ (g.done hne (hr.none hb)))
theorem p_litN (P:Pg C) {s:List Nat}:PF C 82 4 n (.tup (vName s)) [.nm s] (fun _=>true):=fun d r dp M₀ M rest Q hs hr q =>
 cl P rfl rfl (p_peek1 (d:=d + 1) P hr fun ln=>p_name P hr fun M' hr=>q M' hr)
theorem p_litC (P:Pg C) {c:Nat}:PF C 82 4 n (.tup (vChr c)) [.chr c] (fun _=>true):=fun d r dp M₀ M rest Q hs hr q =>
 cl P rfl rfl (p_peek1 (d:=d + 1) P hr fun ln=>p_take (d:=d + 1) P hr fun ln M' hr=>q M' hr)
end
section
variable {C:Cx} {M M₀:Mem} {Q:PV→Mem→Prop} {d r n dp k:Nat} {ts us rest:List Tk} {v w:List PV}
noncomputable abbrev t_en:T:=match stm 2 f_parse_enumeration.body with | .whl t _=>t | _=>.val (.loc 0)
noncomputable abbrev b_en:Ss:=sbody (stm 2 f_parse_enumeration.body)
theorem en_step (P:Pg C) {b m:Nat} {x l:List PV} {t:Tk} {K:Out→Lo→Mem→Prop} (hx:PF C 82 4 n (.tup x) [t] (fun _=>true)) (g:RF r b M₀ n dp (.op o_cm :: t :: rest) l M) (hne:b ≠ r) (hl:Nat.ble l.length 100=true)
  (q:∀ M',RF r b M₀ n dp rest (l++[.tup x]) M'→unrP (fun env M K=>wpT C theG (d + 4) t_en env M K) (fun env M K=>wpSs C theG (d + 4) b_en env M K) m [some (.mref r),some (.mref b)] M' K) :
  unrP (fun env M K=>wpT C theG (d + 4) t_en env M K) (fun env M K=>wpSs C theG (d + 4) b_en env M K) (m + 1) [some (.mref r),some (.mref b)] M K:=by
 refine p_takeT (d:=d + 1) P g.rs fun M2 g2=>?_
 have g:=g.step hne g2
 refine and2 (RdL.at g.arr trivial) (hx _ _ _ _ _ rest _ rfl g.rs fun M3 g3=>?_)
 have g:=g.step hne g3
 refine RdL.at g.arr (and2 (Nat.le_trans (Nat.le_of_ble_eq_true hl) (by decide)) ?_)
 exact q _ (g.push hne)
theorem en_fin (P:Pg C) {b m:Nat} {l:List PV} (g:RF r b M₀ n dp (.op o_rp :: rest) l M) (hne:b ≠ r) (hb:M₀ b=none) (q:∀ M',Rs r M₀ n dp rest M'→Q (.tup [.str z_enum,.list l]) M') :
  unrP (fun env M K=>wpT C theG (d + 4) t_en env M K) (fun env M K=>wpSs C theG (d + 4) b_en env M K) (m + 1) [some (.mref r),some (.mref b)] M (seqK (fun env M Q=>wpSs C theG (d + 4) (skipS 3 f_parse_enumeration.body) env M Q) (retK Q)):=by
 refine p_takeF (d:=d + 1) P g.rs rfl rfl (p_need P g.rs fun M2 g2=>?_)
 have g:=g.step hne g2
 exact RdL.at g.arr (q _ (g.done hne hb))
theorem p_enum (P:Pg C) (h:TLits v ts):PF C 83 5 n (.tup [.str z_enum,.list v]) (.op o_lp :: ts++[.op o_rp]) (fun _=>true):=fun d r dp M₀ M rest Q hs hr q=>by
 rw [List.append_assoc] at hr
 cases h with
 | l1 =>
  refine cl P rfl rfl (p_need P hr fun M' hr=>p_litN P (d) _ _ _ _ (.op o_cm :: .chr 65 :: .op o_cm :: .nm z_green :: .op o_cm :: .chr 39 :: .op o_rp :: rest) _ rfl hr fun M' hr=>?_)
  intro b hb
  have hne:=hr.ne hb
  have g:=RF.new (l:=[.tup (vName z_red)]) hr hb
  exact Exists.intro 4 (en_step P (p_litC P) g hne rfl fun M2 g=>en_step P (p_litN P) g hne rfl fun M2 g=>en_step P (p_litC P) g hne rfl fun M2 g=>en_fin P g hne (hr.none hb) q)
 | l2 =>
  refine cl P rfl rfl (p_need P hr fun M' hr=>p_litC P (d) _ _ _ _ (.op o_cm :: .nm z_green :: .op o_cm :: .chr 39 :: .op o_rp :: rest) _ rfl hr fun M' hr=>?_)
  intro b hb
  have hne:=hr.ne hb
  have g:=RF.new (l:=[.tup (vChr 65)]) hr hb
  exact Exists.intro 3 (en_step P (p_litN P) g hne rfl fun M2 g=>en_step P (p_litC P) g hne rfl fun M2 g=>en_fin P g hne (hr.none hb) q)
 | l3 =>
  refine cl P rfl rfl (p_need P hr fun M' hr=>p_litN P (d) _ _ _ _ (.op o_cm :: .chr 39 :: .op o_rp :: rest) _ rfl hr fun M' hr=>?_)
  intro b hb
  have hne:=hr.ne hb
  have g:=RF.new (l:=[.tup (vName z_green)]) hr hb
  exact Exists.intro 2 (en_step P (p_litC P) g hne rfl fun M2 g=>en_fin P g hne (hr.none hb) q)
theorem bx_end (P:Pg C) {j:Nat} {a b:Bool} (hr:Rs r M₀ n dp ts M) (hj:j ≤ 900) (h1:wdn ts (j + 1) z_range=a) (h2:a=true→sgn ts (j + 2) o_bx=b) (q:Q (.bool (a && b)) M):wpSs C theG (d + 2) (skipS 3 f_is_box_ahead.body) [some (.mref r),some (.int (j:Nat))] M (retK Q):=by
 refine p_wordJ (j:=j + 1) P hr (Nat.le_trans (Nat.succ_le_succ hj) (by decide)) rfl h1 ?_
 cases a
 ·exact q
 ·exact p_signJ (j:=j + 2) P hr (Nat.le_trans (Nat.add_le_add_right hj 2) (by decide)) rfl (h2 rfl) q
noncomputable abbrev t_b1:T:=match stm 1 f_is_box_ahead.body with | .whl t _=>t | _=>.val (.loc 0)
noncomputable abbrev t_b2:T:=match stm 2 f_is_box_ahead.body with | .whl t _=>t | _=>.val (.loc 0)
theorem b1_no (P:Pg C) {j:Nat} {K:Bool→Mem→Prop} (hr:Rs r M₀ n dp ts M) (hj:j ≤ 900) (h:(∀ s,ts[j]? ≠ some (.nm s))∨sgn ts (j + 1) o_dot=false) (q:K false M):wpT C theG (d + 2) t_b1 [some (.mref r),some (.int (j:Nat))] M K:=by
 refine p_ahead (d:=d + 1) P hr (Nat.le_trans hj (by decide)) (fun t ln ht ho=>?_) fun ln hn=>q
 cases t with
 | nm s =>
  rcases h with h | h
  ·exact absurd ht (h s)
  ·exact p_signJ (j:=j + 1) P hr (Nat.le_trans (Nat.succ_le_succ hj) (by decide)) rfl h q
 | _=>exact q
theorem b1_yes (P:Pg C) {j:Nat} {s:List Nat} {K:Bool→Mem→Prop} (hr:Rs r M₀ n dp ts M) (hj:j ≤ 900) (h:ts[j]? = some (.nm s)) (h2:sgn ts (j + 1) o_dot=true) (q:K true M):wpT C theG (d + 2) t_b1 [some (.mref r),some (.int (j:Nat))] M K:=by
 refine p_ahead (d:=d + 1) P hr (Nat.le_trans hj (by decide)) (fun t ln ht ho=>?_) fun ln hn=>by rw [h] at hn; cases hn
 rw [h] at ht; cases ht
 exact p_signJ (j:=j + 1) P hr (Nat.le_trans (Nat.succ_le_succ hj) (by decide)) rfl h2 q
theorem b2_no (P:Pg C) {j:Nat} {K:Bool→Mem→Prop} (hr:Rs r M₀ n dp ts M) (hj:j ≤ 900) (h:sgn ts (j + 1) o_tk=false∨ts[j + 2]? = some (.wd z_range)) (q:K false M):wpT C theG (d + 2) t_b2 [some (.mref r),some (.int (j:Nat))] M K:=by
 cases hb:sgn ts (j + 1) o_tk
 ·exact p_signJ (j:=j + 1) P hr (Nat.le_trans (Nat.succ_le_succ hj) (by decide)) rfl hb q
 ·refine p_signJ (j:=j + 1) P hr (Nat.le_trans (Nat.succ_le_succ hj) (by decide)) rfl hb ?_
  rcases h with h | h
  ·rw [h] at hb; cases hb
  refine p_ahead (j:=j + 2) (d:=d + 1) P hr (Nat.le_trans (Nat.add_le_add_right hj 2) (by decide)) (fun t ln ht ho=>?_) fun ln hn=>by rw [h] at hn; cases hn
  rw [h] at ht; cases ht
  exact and2 ⟨by decide,by decide⟩ (and2 lt23 (and2 (lk rfl) q))
end
section
variable {C:Cx} {M M₀:Mem} {Q:PV→Mem→Prop} {d r n dp k:Nat} {ts us rest:List Tk} {v w:List PV}
theorem p_box0 (P:Pg C) {a b:Bool} (hr:Rs r M₀ n dp ts M) (c1:(∀ s,ts[0]? ≠ some (.nm s))∨sgn ts 1 o_dot=false) (c2:sgn ts 1 o_tk=false∨ts[2]? = some (.wd z_range)) (h1:wdn ts 1 z_range=a) (h2:a=true→sgn ts 2 o_bx=b) (q:Q (.bool (a && b)) M):CallOk C (d + 3) (.fn 84) [.mref r] M Q :=
 cl P rfl rfl (Exists.intro 1 (b1_no (j:=0) P hr (by decide) c1 (Exists.intro 1 (b2_no (j:=0) P hr (by decide) c2 (bx_end (j:=0) P hr (by decide) h1 h2 q)))))
theorem p_box2 (P:Pg C) {a b:Bool} {s x:List Nat} (hr:Rs r M₀ n dp (.nm s :: .op o_dot :: .nm x :: ts) M) (c1:sgn ts 0 o_dot=false) (c2:sgn ts 0 o_tk=false) (h1:wdn ts 0 z_range=a) (h2:a=true→sgn ts 1 o_bx=b) (q:Q (.bool (a && b)) M):CallOk C (d + 3) (.fn 84) [.mref r] M Q :=
 cl P rfl rfl (Exists.intro 2 (b1_yes (j:=0) P hr (by decide) rfl rfl (b1_no (j:=2) P hr (by decide) (.inr c1) (Exists.intro 1 (b2_no (j:=2) P hr (by decide) (.inl c2) (bx_end (j:=2) P hr (by decide) h1 h2 q))))))
theorem TExt.nobx {e:List PV} (h:TExt e us):sgn (us++rest) 0 o_bx=false:=by cases h <;> rfl
theorem p_nobox (P:Pg C) (h:TDis v ts) (hs:stopC rest=true) (hr:Rs r M₀ n dp (ts++rest) M) (q:Q (.bool false) M):CallOk C (d + 3) (.fn 84) [.mref r] M Q:=by
 obtain ⟨h1,h2,h3⟩:=stopC_1 hs
 cases h with
 | ext e ts h =>
  cases h with
  | t0=>exact p_box0 (a:=false) (b:=false) P hr (.inr rfl) (.inr rfl) rfl (fun e=>nomatch e) q
  | t1=>exact p_box0 (a:=false) (b:=false) P hr (.inr rfl) (.inr rfl) rfl (fun e=>nomatch e) q
  | rg j v ts hj h=>exact p_box0 (a:=false) (b:=false) P hr (.inl fun s e=>nomatch e) (.inl rfl) rfl (fun e=>nomatch e) q
 | no m ts h =>
  cases h with
  | m1=>exact p_box0 (a:=false) (b:=false) P hr (.inr (stop_s h1 rfl)) (.inl (stop_s h1 rfl)) h3 (fun e=>nomatch e) q
  | m2=>exact p_box2 (a:=false) (b:=false) P hr (stop_s h1 rfl) (stop_s h1 rfl) h3 (fun e=>nomatch e) q
  | m3=>exact p_box0 (a:=false) (b:=false) P hr (.inr (stop_s h1 rfl)) (.inl (stop_s h1 rfl)) h3 (fun e=>nomatch e) q
 | rg m ts e us h g =>
  rw [List.append_assoc] at hr
  cases h with
  | m1=>exact p_box0 (a:=true) (b:=false) P hr (.inr rfl) (.inl rfl) rfl (fun _=>g.nobx) q
  | m2=>exact p_box2 (a:=true) (b:=false) P hr rfl rfl rfl (fun _=>g.nobx) q
  | m3=>exact p_box0 (a:=true) (b:=false) P hr (.inr rfl) (.inl rfl) rfl (fun _=>g.nobx) q
theorem p_box (P:Pg C) (h:TMark v ts) (hr:Rs r M₀ n dp (ts++.wd z_range :: .op o_bx :: rest) M) (q:Q (.bool true) M):CallOk C (d + 3) (.fn 84) [.mref r] M Q:=by
 cases h with
 | m1=>exact p_box0 (a:=true) (b:=true) P hr (.inr rfl) (.inl rfl) rfl (fun _=>rfl) q
 | m2=>exact p_box2 (a:=true) (b:=true) P hr rfl rfl rfl (fun _=>rfl) q
 | m3=>exact p_box0 (a:=true) (b:=true) P hr (.inr rfl) (.inl rfl) rfl (fun _=>rfl) q
theorem p_idxB (P:Pg C) (h:TDis v ts) (hn:n < 18):PF C 85 30 n (.tup [.tup v,.bool true]) ts stopC:=fun d r dp M₀ M rest Q hs hr q =>
 cl P rfl rfl (p_nobox (d:=d + 26) P h hs hr (p_discrete P h hn _ _ _ _ _ _ _ hs hr fun M' hr'=>q M' hr'))
theorem p_idxU (P:Pg C) (h:TMark v ts):PF C 85 30 n (.tup [.tup v,.bool false]) (ts++[.wd z_range,.op o_bx]) (fun _=>true):=fun d r dp M₀ M rest Q hs hr q=>by
 rw [List.append_assoc] at hr
 refine cl P rfl rfl (p_box (d:=d + 26) P h hr ?_)
 refine (p_mark P h).up 22 _ _ _ _ _ (.wd z_range :: .op o_bx :: rest) _ rfl hr fun M' hr=>?_
 exact p_needW (d:=d + 25) P hr fun M' hr=>p_need (d:=d + 25) P hr fun M' hr=>q M' hr
noncomputable abbrev t_ar:T:=match stm 3 f_parse_array.body with | .whl t _=>t | _=>.val (.loc 0)
noncomputable abbrev b_ar:Ss:=sbody (stm 3 f_parse_array.body)
theorem TMark.hd (h:TMark v ts):∃ s t,ts = .nm s :: t:=by cases h <;> exact ⟨_,_,rfl⟩
theorem TSub.hd (h:TSub v ts):∃ s t,ts = .nm s :: t:=by
 cases h with
 | no m ts h=>exact h.hd
 | rg m ts e us h g=>obtain ⟨s,t,rfl⟩:=h.hd; exact ⟨s,_,rfl⟩
 | a1 m ts v us h g=>obtain ⟨s,t,rfl⟩:=h.hd; exact ⟨s,_,rfl⟩
 | a2 m ts v us w xs h g l=>obtain ⟨s,t,rfl⟩:=h.hd; exact ⟨s,_,rfl⟩
theorem ar_fin (P:Pg C) {b m:Nat} {l s:List PV} {ss al:List Tk} {u:Bool} {o1 o4:Option PV} (hs:TSub s ss) (hal:TAl al) (hn:n < 18) (hc:stopC rest=true) (g:RF r b M₀ n dp (.op o_rp :: .wd z_of :: al++ss++rest) l M) (hne:b ≠ r) (hb:M₀ b=none) (q:∀ M',Rs r M₀ n dp rest M'→Q (.tup [.str z_array,.list l,.bool u,.tup s]) M') :
  unrP (fun env M K=>wpT C theG (d + 30) t_ar env M K) (fun env M K=>wpSs C theG (d + 30) b_ar env M K) (m + 1) [some (.mref r),o1,some (.bool u),some (.mref b),o4] M (seqK (fun env M Q=>wpSs C theG (d + 30) (skipS 4 f_parse_array.body) env M Q) (retK Q)):=by
 refine p_takeF (d:=d + 27) P g.rs rfl rfl (p_need (d:=d + 26) P g.rs fun M2 g2=>?_)
 have g:=g.step hne g2
 refine p_needW (d:=d + 26) P g.rs fun M2 g2=>?_
 have g:=g.step hne g2
 obtain ⟨x,t,e⟩:=hs.hd
 have hss:wdn (ss++rest) 0 z_aliased=false:=by rw [e]; rfl
 cases hal with
 | no =>
  refine p_takeWF (d:=d + 27) P g.rs rfl hss ?_
  refine (p_sub P hs hn).up 1 _ _ _ _ _ _ _ hc g.rs fun M3 g3=>?_
  have g:=g.step hne g3
  exact RdL.at g.arr (q _ (g.done hne hb))
 | so =>
  refine p_takeWT (d:=d + 27) P g.rs fun M2 g2=>?_
  have g:=g.step hne g2
  refine (p_sub P hs hn).up 1 _ _ _ _ _ _ _ hc g.rs fun M3 g3=>?_
  have g:=g.step hne g3
  exact RdL.at g.arr (q _ (g.done hne hb))
theorem ar_step (P:Pg C) {b m:Nat} {x l:List PV} {t:List Tk} {u:Bool} {o1 o4:Option PV} {K:Out→Lo→Mem→Prop} {ok:List Tk→Bool} (hx:PF C 85 30 n (.tup [.tup x,.bool u]) t ok) (ho:ok rest=true) (g:RF r b M₀ n dp (.op o_cm :: t++rest) l M) (hne:b ≠ r) (hl:Nat.ble l.length 100=true)
  (q:∀ M' o1 o4,RF r b M₀ n dp rest (l++[.tup x]) M'→unrP (fun env M K=>wpT C theG (d + 30) t_ar env M K) (fun env M K=>wpSs C theG (d + 30) b_ar env M K) m [some (.mref r),o1,some (.bool u),some (.mref b),o4] M' K) :
  unrP (fun env M K=>wpT C theG (d + 30) t_ar env M K) (fun env M K=>wpSs C theG (d + 30) b_ar env M K) (m + 1) [some (.mref r),o1,some (.bool u),some (.mref b),o4] M K:=by
 refine p_takeT (d:=d + 27) P g.rs fun M2 g2=>?_
 have g:=g.step hne g2
 refine hx _ _ _ _ _ _ _ ho g.rs fun M3 g3=>?_
 have g:=g.step hne g3
 have fin:RdL M3 b fun l'=>lenOk l'.length∧unrP (fun env M K=>wpT C theG (d + 30) t_ar env M K) (fun env M K=>wpSs C theG (d + 30) b_ar env M K) m [some (.mref r),some (.tup x),some (.bool u),some (.mref b),some (.bool u)] (M3.upd b (.list (l'++[.tup x]))) K :=
  RdL.at g.arr (and2 (Nat.le_trans (Nat.le_of_ble_eq_true hl) (by decide)) (q _ _ _ (g.push hne)))
 cases u
 ·exact and2 (RdL.at g.arr trivial) fin
 ·exact and2 (RdL.at g.arr trivial) fin
theorem p_arr1 (P:Pg C) {x s:List PV} {t ss al:List Tk} {u:Bool} {ok:List Tk→Bool} (hx:PF C 85 30 n (.tup [.tup x,.bool u]) t ok) (ho:∀ us,ok (.op o_rp :: us)=true) (hs:TSub s ss) (hal:TAl al) (hn:n < 18):PF C 86 31 n (.tup [.str z_array,.list [.tup x],.bool u,.tup s]) (.op o_lp :: t++.op o_rp :: .wd z_of :: al++ss) stopC:=fun d r dp M₀ M rest Q hc hr q=>by
 have hr:Rs r M₀ n dp (.op o_lp :: (t++(.op o_rp :: .wd z_of :: al++ss++rest))) M:=by simpa only [List.append_assoc,List.cons_append] using hr
 refine cl P rfl rfl (p_need (d:=d + 26) P hr fun M' hr=>hx _ _ _ _ _ _ _ (ho _) hr fun M' hr=>?_)
 intro b hb
 have hne:=hr.ne hb
 have g:=RF.new (l:=[.tup x]) hr hb
 exact Exists.intro 1 (ar_fin P hs hal hn hc g hne (hr.none hb) q)
theorem p_arr2 (P:Pg C) {x y s:List PV} {t t' ss al:List Tk} {u:Bool} {ok:List Tk→Bool} (hx:PF C 85 30 n (.tup [.tup x,.bool u]) t ok) (hy:PF C 85 30 n (.tup [.tup y,.bool u]) t' ok) (ho:∀ us,ok (.op o_rp :: us)=true) (ho':∀ us,ok (.op o_cm :: us)=true) (hs:TSub s ss) (hal:TAl al) (hn:n < 18):PF C 86 31 n (.tup [.str z_array,.list [.tup x,.tup y],.bool u,.tup s]) (.op o_lp :: (t++.op o_cm :: t')++.op o_rp :: .wd z_of :: al++ss) stopC:=fun d r dp M₀ M rest Q hc hr q=>by
 have hr:Rs r M₀ n dp (.op o_lp :: (t++(.op o_cm :: t'++(.op o_rp :: .wd z_of :: al++ss++rest)))) M:=by simpa only [List.append_assoc,List.cons_append] using hr
 refine cl P rfl rfl (p_need (d:=d + 26) P hr fun M' hr=>hx _ _ _ _ _ _ _ (ho' _) hr fun M' hr=>?_)
 intro b hb
 have hne:=hr.ne hb
 have g:=RF.new (l:=[.tup x]) hr hb
 exact Exists.intro 2 (ar_step P hy (ho _) g hne rfl fun M2 o1 o4 g=>ar_fin P hs hal hn hc g hne (hr.none hb) q)
theorem p_arrB (P:Pg C) {s:List PV} {ss al:List Tk} (h:TDisL v ts) (hs:TSub s ss) (hal:TAl al) (hn:n < 18):PF C 86 31 n (.tup [.str z_array,.list v,.bool true,.tup s]) (.op o_lp :: ts++.op o_rp :: .wd z_of :: al++ss) stopC:=by
 cases h with
 | one v ts h=>exact p_arr1 P (p_idxB P h hn) (fun _=>rfl) hs hal hn
 | two v ts w us h k=>exact p_arr2 P (p_idxB P h hn) (p_idxB P k hn) (fun _=>rfl) (fun _=>rfl) hs hal hn
theorem p_arrU (P:Pg C) {s:List PV} {ss al:List Tk} (h:TMarkL v ts) (hs:TSub s ss) (hal:TAl al) (hn:n < 18):PF C 86 31 n (.tup [.str z_array,.list v,.bool false,.tup s]) (.op o_lp :: ts++.op o_rp :: .wd z_of :: al++ss) stopC:=by
 cases h with
 | one v ts h=>exact p_arr1 P (p_idxU P h) (fun _=>rfl) hs hal hn
 | two v ts w us h k =>
  have:=p_arr2 P (p_idxU (n:=n) P h) (p_idxU P k) (fun _=>rfl) (fun _=>rfl) hs hal hn
  rw [show ts++.wd z_range :: .op o_bx :: .op o_cm :: us++[.wd z_range,.op o_bx]=(ts++[.wd z_range,.op o_bx])++.op o_cm :: (us++[.wd z_range,.op o_bx]) by simp only [List.append_assoc,List.cons_append,List.nil_append]]
  exact this
end
noncomputable def endW (ts:List Tk):Bool:=wdn ts 0 z_end || wdn ts 0 z_when
theorem TNames.hd {v ts} (h:TNames v ts):∃ s t,ts = .nm s :: t:=by cases h <;> exact ⟨_,_,rfl⟩
theorem TBody.vc {m l v ts} (h:TBody m l v ts):v = .none∨∃ w,v = .tup w:=by
 cases h with
 | nil=>exact .inl rfl
 | some=>exact .inl rfl
 | var=>exact .inr ⟨_,rfl⟩
theorem TArms.hd {m as ts us} (h:TArms m as ts):endW (ts++.wd z_end :: us)=true:=by cases h <;> rfl
theorem eq_ref {b:Nat} {l:List PV} {M:Mem} {x:Bool} (hM:M b=some (.list l)) (h:cmpv .eq (.list l) (.list []) M=some x):cmpv .eq (.mref b) (.list []) M=some x:=by
 have e:deref (.mref b) M = .list l:=by
  unfold deref
  rw [show derefO (.mref b) M=some l from congrArg mol hM]
 show (if okD 60 (deref (.mref b) M) && true then some (pveq (deref (.mref b) M) (.list [])) else none)=_
 rw [e]; exact h
section
variable {C:Cx} {M M₀:Mem} {Q:PV→Mem→Prop} {d r n dp k:Nat} {ts us rest:List Tk} {v w:List PV}
theorem p_comp (P:Pg C) (h:TComp v ts) (hn:n < 18):PF C 87 30 n (.tup v) ts (fun _=>true):=fun d r dp M₀ M rest Q hs hr q=>by
 cases h with
 | mk nn ns al s ss f fs h1 h2 h3 h4 =>
  have hr:Rs r M₀ n dp (ns++(.op o_co :: (al++(ss++(fs++(.op o_sc :: rest)))))) M:=by simpa only [List.append_assoc,List.cons_append,List.nil_append] using hr
  have hst:stopC (fs++(.op o_sc :: rest))=true:=by cases h4 <;> rfl
  refine cl P rfl rfl ((p_names P h1).up 25 _ _ _ _ _ _ _ rfl hr fun M' hr=>p_need (d:=d + 25) P hr fun M' hr=>?_)
  obtain ⟨x,t,e⟩:=h3.hd
  have hss:wdn (ss++(fs++(.op o_sc :: rest))) 0 z_aliased=false:=by rw [e]; rfl
  cases h2 with
  | no =>
   refine p_takeWF (d:=d + 26) P hr rfl hss ?_
   refine p_sub P h3 hn _ _ _ _ _ _ _ hst hr fun M' hr=>(p_dfl P h4 hn).up 10 _ _ _ _ _ _ _ rfl hr fun M' hr=>p_need (d:=d + 25) P hr fun M' hr'=>?_
   cases h4 <;> exact q M' hr'
  | so =>
   refine p_takeWT (d:=d + 26) P hr fun M' hr=>?_
   refine p_sub P h3 hn _ _ _ _ _ _ _ hst hr fun M' hr=>(p_dfl P h4 hn).up 10 _ _ _ _ _ _ _ rfl hr fun M' hr=>p_need (d:=d + 25) P hr fun M' hr'=>?_
   cases h4 <;> exact q M' hr'
noncomputable abbrev t_co:T:=match stm 2 f_parse_components.body with | .whl t _=>t | _=>.val (.loc 0)
noncomputable abbrev b_co:Ss:=sbody (stm 2 f_parse_components.body)
theorem TComp.nw (h:TComp v ts) (s:List Nat):wdn (ts++rest) 0 s=false:=by
 cases h with
 | mk nn ns al s ss f fs h1 h2 h3 h4=>obtain ⟨x,t,rfl⟩:=h1.hd; rfl
theorem co_step (P:Pg C) {b m:Nat} {l:List PV} {K:Out→Lo→Mem→Prop} (h:TComp v ts) (hn:n < 18) (g:RF r b M₀ n dp (ts++rest) l M) (hne:b ≠ r) (hl:Nat.ble l.length 100=true)
  (q:∀ M',RF r b M₀ n dp rest (l++[.tup v]) M'→unrP (fun env M K=>wpT C theG (d + 30) t_co env M K) (fun env M K=>wpSs C theG (d + 30) b_co env M K) m [some (.mref r),some (.mref b)] M' K) :
  unrP (fun env M K=>wpT C theG (d + 30) t_co env M K) (fun env M K=>wpSs C theG (d + 30) b_co env M K) (m + 1) [some (.mref r),some (.mref b)] M K:=by
 refine p_word (d:=d + 28) P g.rs rfl (h.nw _) (p_word (d:=d + 28) P g.rs rfl (h.nw _) (p_word (d:=d + 28) P g.rs rfl (h.nw _) ?_))
 refine and2 (RdL.at g.arr trivial) (p_comp P h hn _ _ _ _ _ _ _ rfl g.rs fun M3 g3=>?_)
 have g:=g.step hne g3
 exact RdL.at g.arr (and2 (Nat.le_trans (Nat.le_of_ble_eq_true hl) (by decide)) (q _ (g.push hne)))
theorem co_all (P:Pg C) {b:Nat} {l:List PV} {K:Out→Lo→Mem→Prop} (h:TComps l ts) (hn:n < 18) (g:RF r b M₀ n dp (ts++rest) [] M) (hne:b ≠ r)
  (q:∀ M' m,RF r b M₀ n dp rest l M'→unrP (fun env M K=>wpT C theG (d + 30) t_co env M K) (fun env M K=>wpSs C theG (d + 30) b_co env M K) (m + 1) [some (.mref r),some (.mref b)] M' K) :
  unrP (fun env M K=>wpT C theG (d + 30) t_co env M K) (fun env M K=>wpSs C theG (d + 30) b_co env M K) 3 [some (.mref r),some (.mref b)] M K:=by
 cases h with
 | nil=>exact q M 2 g
 | one c ts h=>exact co_step P h hn g hne rfl fun M' g=>q M' 1 g
 | two c ts c' ts' h k =>
  rw [List.append_assoc] at g
  exact co_step P h hn g hne rfl fun M' g=>co_step P k hn g hne rfl fun M' g=>q M' 0 g
theorem co_end (P:Pg C) {b m:Nat} {c:PV} {l:List PV} (he:endW rest=true) (ho:okD 60 (.list (c :: l))=true) (g:RF r b M₀ n dp rest (c :: l) M) (hne:b ≠ r) (hb:M₀ b=none) (q:∀ M',Rs r M₀ n dp rest M'→Q (.tup [.list (c :: l),.none]) M') :
  unrP (fun env M K=>wpT C theG (d + 30) t_co env M K) (fun env M K=>wpSs C theG (d + 30) b_co env M K) (m + 1) [some (.mref r),some (.mref b)] M (seqK (fun env M Q=>wpSs C theG (d + 30) (skipS 3 f_parse_components.body) env M Q) (retK Q)):=by
 have hc:wdn rest 0 z_case=false:=by
  cases rest with
  | nil=>rfl
  | cons t ts =>
   cases t with
   | wd x =>
    replace he:((x == z_end) || (x == z_when))=true:=he
    rcases (Bool.or_eq_true _ _).mp he with e | e <;> rw [eq_of_beq e] <;> rfl
   | _=>rfl
 refine p_word (d:=d + 28) P g.rs rfl hc ?_
 cases h1:wdn rest 0 z_end
 ·have h2:wdn rest 0 z_when=true:=by unfold endW at he; rw [h1] at he; exact he
  refine p_word (d:=d + 28) P g.rs rfl h1 (p_word (d:=d + 28) P g.rs rfl h2 ?_)
  refine ss_if0 (t:=.cmp .eq (.loc 1) (.lst .nil)) (env:=[some (.mref r),some (.mref b)]) (M':=M) (fun K kk=>?_) (RdL.at g.arr (q _ (g.done hne hb)))
  exact t_cmp (fun K k=>k) (fun K k=>k) (eq_ref g.arr (eqn_f ho)) kk
 ·refine p_word (d:=d + 28) P g.rs rfl h1 ?_
  refine ss_if0 (t:=.cmp .eq (.loc 1) (.lst .nil)) (env:=[some (.mref r),some (.mref b)]) (M':=M) (fun K kk=>?_) (RdL.at g.arr (q _ (g.done hne hb)))
  exact t_cmp (fun K k=>k) (fun K k=>k) (eq_ref g.arr (eqn_f ho)) kk
end
noncomputable def PB (C:Cx) (k m n:Nat):Prop:=∀ (d r dp:Nat) (M₀ M:Mem) (rest:List Tk) (Q:PV→Mem→Prop) (l:List PV) (v:PV) (ts:List Tk),TBody m l v ts→dp + m ≤ 30→endW rest=true→Rs r M₀ n dp (ts++rest) M→(∀ M',Rs r M₀ n dp rest M'→Q (.tup [.list l,v]) M')→CallOk C (d + k) (.fn 88) [.mref r] M Q
section
variable {C:Cx} {M M₀:Mem} {Q:PV→Mem→Prop} {d r n dp k j m:Nat} {ts us rest:List Tk} {v w:List PV}
noncomputable abbrev t_va:T:=match stm 6 f_parse_variant.body with | .whl t _=>t | _=>.val (.loc 0)
noncomputable abbrev b_va:Ss:=sbody (stm 6 f_parse_variant.body)
theorem va_loop (P:Pg C) (ih:PB C (j + 31) m n) (hn:n < 18) (hd:dp + m ≤ 30) {b:Nat} (hne:b ≠ r) {nm:Option PV} {K:Out→Lo→Mem→Prop}:∀ {as:List PV} {ts:List Tk} {l:List PV} {M:Mem} {o3 o4 o5:Option PV},TArms m as ts→RF r b M₀ n dp (ts++.wd z_end :: us) l M→l.length + as.length ≤ 100 →
  (∀ M' o3 o4 o5,RF r b M₀ n dp (.wd z_end :: us) (l++as) M'→K .next [some (.mref r),nm,some (.mref b),o3,o4,o5] M') →
  unrP (fun env M K=>wpT C theG (d + (j + 31)) t_va env M K) (fun env M K=>wpSs C theG (d + (j + 31)) b_va env M K) (as.length + 1) [some (.mref r),nm,some (.mref b),o3,o4,o5] M K
 | [],_,l,M,o3,o4,o5,.nil _,g,hl,q=>by
  refine p_takeWF (d:=d + j + 28) P g.rs rfl rfl ?_
  rw [List.append_nil] at q
  exact q M o3 o4 o5 g
 | _ :: _,_,l,M,o3,o4,o5,.cons _ c cs i vi bs as ts h1 h2 h3,g,hl,q=>by
  have g:RF r b M₀ n dp (.wd z_when :: (cs++(.op o_ar :: (bs++(ts++.wd z_end :: us))))) l M:=by simpa only [List.append_assoc,List.cons_append] using g
  refine p_takeWT (d:=d + j + 28) P g.rs fun M2 g2=>?_
  have g:=g.step hne g2
  refine (p_cho P h1 hn).up (j + 11) _ _ _ _ _ _ _ rfl g.rs fun M2 g2=>?_
  have g:=g.step hne g2
  refine p_need (d:=d + j + 27) P g.rs fun M2 g2=>?_
  have g:=g.step hne g2
  refine ih _ _ _ _ _ _ _ _ _ _ h2 hd h3.hd g.rs fun M2 g2=>?_
  have g:=g.step hne g2
  rw [List.length_cons] at hl
  have fin:RdL M2 b fun l'=>lenOk l'.length∧unrP (fun env M K=>wpT C theG (d + (j + 31)) t_va env M K) (fun env M K=>wpSs C theG (d + (j + 31)) b_va env M K) (as.length + 1) [some (.mref r),nm,some (.mref b),some (.list c),some (.list i),some vi] (M2.upd b (.list (l'++[.tup [.list c,.list i,vi]]))) K:=by
   refine RdL.at g.arr (and2 (Nat.le_trans (Nat.le_trans (Nat.le_add_right _ _) hl) (by decide)) ?_)
   refine va_loop P ih hn hd hne h3 (g.push hne) ?_ fun M' o3 o4 o5 g=>?_
   ·rw [List.length_append]; show l.length + 1 + as.length ≤ 100; omega
   ·rw [List.append_assoc] at g
    exact q M' o3 o4 o5 g
  rcases h2.vc with rfl | ⟨w,rfl⟩
  ·exact and2 (RdL.at g.arr trivial) fin
  ·exact and2 (RdL.at g.arr trivial) fin
theorem Rs.deep (h:Rs r M₀ n dp ts M):∃ T k,M r=some (.obj (rdO T k n dp))∧∀ dp',Rs r M₀ n dp' ts (M.upd r (.obj (rdO T k n dp'))):=by
 obtain ⟨T,all,k,h1,h2⟩:=h.here
 exact ⟨T,k,h1,fun dp'=>⟨⟨T,all,k,upd_same,h2⟩,fun c hc=>(upd_ne hc).trans (h.rest c hc)⟩⟩
theorem p_variant (P:Pg C) (ih:PB C (j + 31) m n) (hn:n < 18) (hm:m ≤ 10) (hd:dp + 1 + m ≤ 30) {a:PV} {as:List PV} (h:TArms m (a :: as) us) (hl:as.length < 3) (hr:Rs r M₀ n dp (.wd z_case :: .nm z_kind :: .wd z_is :: us++.wd z_end :: .wd z_case :: .op o_sc :: rest) M)
  (q:∀ M',Rs r M₀ n dp rest M'→Q (.tup [.str z_kind,.list (a :: as)]) M'):CallOk C (d + (j + 32)) (.fn 89) [.mref r] M Q:=by
 obtain ⟨T,k,h1,h2⟩:=hr.deep
 have hr:=h2 (dp + 1)
 refine cl P rfl rfl (RdO.at h1 (and2 rfl (RdO.at h1 (and2 (Nat.le_of_ble_eq_true rfl) ?_))))
 have hgt:cmpv .gt (.int ((dp + 1:Nat):Int)) (.int 40) (M.upd r (.obj (rdO T k n (dp + 1))))=some false:=gt_f (Int.ofNat_le.mpr (Nat.le_trans (Nat.le_trans (Nat.le_add_right _ _) hd) (by decide)))
 refine RdO.at (l:=rdO T k n (dp + 1)) upd_same (and2 rfl (e_glo (opt_b false hgt ?_)))
 refine p_needW (d:=d + j + 27) P hr fun M2 hr=>?_
 refine p_name (d:=d + j + 28) P hr fun M2 hr=>?_
 refine p_needW (d:=d + j + 27) P hr fun M2 hr=>?_
 intro b hb
 have hne:=hr.ne hb
 have g:=RF.new (l:=[]) hr hb
 have hl2:([]:List PV).length + (a :: as).length ≤ 100:=by show 0 + (as.length + 1) ≤ 100; omega
 refine Exists.intro ((a :: as).length + 1) (va_loop P ih hn hd hne h g hl2 fun M3 o3 o4 o5 g=>?_)
 have ho:okD 60 (.list (a :: as))=true:=okD_mono (n:=0 + 11 + 3 * m + 2) (by omega) h.okD
 refine ss_if0 (M':=M3) (fun K kk=>?_) ?_
 ·exact t_cmp (fun K k=>k) (fun K k=>k) (eq_ref g.arr (eqn_f ho)) kk
 refine p_needW (d:=d + j + 27) P g.rs fun M4 g4=>?_
 have g:=g.step hne g4
 refine p_needW (d:=d + j + 27) P g.rs fun M4 g4=>?_
 have g:=g.step hne g4
 refine p_need (d:=d + j + 27) P g.rs fun M4 g4=>?_
 have g:=g.step hne g4
 obtain ⟨T,k,k1,k2⟩:=g.rs.deep
 refine RdO.at k1 (and2 rfl (RdO.at k1 (and2 (Nat.le_of_ble_eq_true rfl) ?_)))
 have g':=g.step hne (k2 dp)
 have e:(M4.upd r (.obj (rdO T k n dp)))=M4.upd r (.obj [.list T,.int k,.int n,.int (((dp + 1:Nat):Int) - 1),.none,.none,.none,.none,.none,.none,.none,.none,.none,.none,.none]):=by
  rw [show ((dp + 1:Nat):Int) - 1=(dp:Int) from by omega]
 rw [e] at g'
 exact RdL.at g'.arr (q _ (g'.done hne (hr.none hb)))
theorem TComps.nw (h:TComps v ts) (s:List Nat) (hr:wdn rest 0 s=false):wdn (ts++rest) 0 s=false:=by
 cases h with
 | nil=>exact hr
 | one c ts h=>exact h.nw s
 | two c ts c' ts' h k=>rw [List.append_assoc]; exact h.nw s
theorem pb_step (P:Pg C) (hn:n < 18) (hm:m ≤ 10) (ih:∀ m',m=m' + 1→PB C (j + 31) m' n):PB C (j + 33) m n:=by
 intro d r dp M₀ M rest Q l v ts h hd he hr q
 refine cl (d:=d + (j + 32)) P rfl rfl ?_
 intro b hb
 have hne:=hr.ne hb
 have hb0:=hr.none hb
 cases h with
 | nil =>
  have g:=RF.new (l:=[]) hr hb
  refine p_takeWT (d:=d + j + 29) P g.rs fun M2 g2=>?_
  have g:=g.step hne g2
  refine p_need (d:=d + j + 28) P g.rs fun M2 g2=>?_
  have g:=g.step hne g2
  exact RdL.at g.arr (q _ (g.done hne hb0))
 | some m c l ts h =>
  have g:=RF.new (l:=[]) hr hb
  have hnn:wdn (ts++rest) 0 z_null=false:=by
   cases h with
   | one c ts h=>exact h.nw _
   | two c ts c' ts' h k=>rw [List.append_assoc]; exact h.nw _
  refine p_takeWF (d:=d + j + 29) P g.rs rfl hnn ?_
  refine Exists.intro 3 (co_all (d:=d + j + 2) P h hn g hne fun M2 m g=>?_)
  exact co_end (d:=d + j + 2) P he (h.okD (n:=49)) g hne hb0 q
 | var m l ts a as us h k hl =>
  have hr:Rs r M₀ n dp (ts++(.wd z_case :: .nm z_kind :: .wd z_is :: us++.wd z_end :: .wd z_case :: .op o_sc :: rest)) M:=by simpa only [List.append_assoc,List.cons_append,List.nil_append] using hr
  have g:=RF.new (l:=[]) hr hb
  refine p_takeWF (d:=d + j + 29) P g.rs rfl (h.nw _ rfl) ?_
  refine Exists.intro 3 (co_all (d:=d + j + 2) P h hn g hne fun M2 m' g=>?_)
  refine p_word (d:=d + j + 30) P g.rs rfl rfl ?_
  refine p_variant P (ih m rfl) hn (Nat.le_of_succ_le hm) (by rw [Nat.add_assoc,Nat.add_comm 1 m]; exact hd) k hl g.rs fun M3 g3=>?_
  have g:=g.step hne g3
  exact RdL.at g.arr (q _ (g.done hne hb0))
theorem p_body0 (P:Pg C) (hn:n < 18):PB C 33 0 n:=pb_step (j:=0) P hn (by decide) fun m' e=>nomatch e
theorem p_body1 (P:Pg C) (hn:n < 18):PB C 35 1 n:=pb_step (j:=2) P hn (by decide) fun m' e=>by cases e; exact p_body0 P hn
theorem p_body (P:Pg C) (hn:n < 18):PB C 37 2 n:=pb_step (j:=4) P hn (by decide) fun m' e=>by cases e; exact p_body1 P hn
end
theorem fl_w {us:List Tk} {x s:List Nat} {b:Bool} (h:wdn us 0 s=false) (e:(x == s)=false):wdn (fl b x++us) 0 s=false:=by
 cases b
 ·exact h
 ·exact e
theorem fl_s {us:List Tk} {x s:List Nat} {b:Bool} (h:sgn us 0 s=false):sgn (fl b x++us) 0 s=false:=by
 cases b
 ·exact h
 ·rfl
section
variable {C:Cx} {M M₀:Mem} {Q:PV→Mem→Prop} {d r n dp k:Nat} {ts us rest:List Tk} {v w:List PV} {t l a:Bool}
theorem p_flag (P:Pg C) {b:Bool} {s:List Nat} (hs:okD 59 (.str s)=true) (hr:Rs r M₀ n dp (fl b s++ts) M) (hw:wdn ts 0 s=false) (q:∀ M',Rs r M₀ n dp ts M'→Q (.bool b) M'):CallOk C (d + 3) (.fn 41) [.mref r,.str s] M Q:=by
 cases b
 ·exact p_takeWF P hr hs hw (q M hr)
 ·exact p_takeWT P hr q
theorem p_rec (P:Pg C) (h:TRec t l a v ts) (hn:n < 18) (hd:dp ≤ 20) (hr:Rs r M₀ n dp (ts++rest) M) (q:∀ M',Rs r M₀ n dp rest M'→Q (.tup v) M'):CallOk C (d + 38) (.fn 90) [.mref r,.bool t,.bool l,.bool a] M Q:=by
 cases h with
 | null=>exact cl (d:=d + 37) P rfl rfl (p_takeWT (d:=d + 34) P hr fun M' hr=>p_needW (d:=d + 33) P hr fun M' hr=>q M' hr)
 | body c x ts h =>
  have hr:Rs r M₀ n dp (.wd z_record :: (ts++(.wd z_end :: .wd z_record :: rest))) M:=by simpa only [List.append_assoc,List.cons_append,List.nil_append] using hr
  refine cl (d:=d + 37) P rfl rfl (p_takeWF (d:=d + 34) P hr rfl rfl (p_needW (d:=d + 33) P hr fun M' hr=>?_))
  refine p_body P hn _ _ _ _ _ _ _ _ _ _ h (Nat.le_trans (Nat.add_le_add_right hd 2) (by decide:20 + 2 ≤ 30)) rfl hr fun M' hr=>p_needW (d:=d + 33) P hr fun M' hr=>p_needW (d:=d + 33) P hr fun M' hr=>?_
  rcases h.vc with rfl | ⟨w,rfl⟩ <;> exact q M' hr
theorem p_access (P:Pg C) {ms:List Tk} {m:List Nat} (h:TSub v ts) (hm:TMode m ms) (hn:n < 18):PF C 91 30 n (.tup [.str z_access,.tup v,.str m]) (ms++ts) stopC:=fun d r dp M₀ M rest Q hs hr q=>by
 obtain ⟨x,t,e⟩:=h.hd
 have h1:∀ s,wdn (ts++rest) 0 s=false:=fun s=>by rw [e]; rfl
 rw [List.append_assoc] at hr
 cases hm with
 | m0=>exact cl P rfl rfl (p_takeWF (d:=d + 26) P hr rfl (h1 _) (p_takeWF (d:=d + 26) P hr rfl (h1 _) (p_sub P h hn _ _ _ _ _ _ _ hs hr fun M' hr=>q M' hr)))
 | m1=>exact cl P rfl rfl (p_takeWT (d:=d + 26) P hr fun M' hr=>p_sub P h hn _ _ _ _ _ _ _ hs hr fun M' hr=>q M' hr)
 | m2=>exact cl P rfl rfl (p_takeWF (d:=d + 26) P hr rfl rfl (p_takeWT (d:=d + 26) P hr fun M' hr=>p_sub P h hn _ _ _ _ _ _ _ hs hr fun M' hr=>q M' hr))
theorem p_fix0 (P:Pg C) (h:TVal v ts) (hn:n < 18):PF C 94 30 n (.tup [.str z_fixed,.tup v,.none]) ts (fun r=>stop r && !wdn r 0 z_range):=fun d r dp M₀ M rest Q hs hr q=>by
 obtain ⟨h1,h2⟩:=(Bool.and_eq_true _ _).mp hs
 exact cl P rfl rfl ((psi_val P h (Nat.lt_trans hn (by decide))).up 11 _ _ _ _ _ _ _ h1 hr fun M' hr=>p_takeWF (d:=d + 26) P hr rfl (not_t h2) (q M' hr))
theorem p_fix1 (P:Pg C) (h:TVal v ts) (h':TExt w us) (hn:n < 18):PF C 94 30 n (.tup [.str z_fixed,.tup v,.tup w]) (ts++.wd z_range :: us) stopR:=fun d r dp M₀ M rest Q hs hr q=>by
 rw [List.append_assoc] at hr
 exact cl P rfl rfl ((psi_val P h (Nat.lt_trans hn (by decide))).up 11 _ _ _ _ _ (.wd z_range :: us++rest) _ rfl hr fun M' hr=>p_takeWT (d:=d + 26) P hr fun M' hr=>(p_range P h' hn).up 4 _ _ _ _ _ _ _ hs hr fun M' hr=>q M' hr)
theorem p_der (P:Pg C) (h:TSub v ts) (hn:n < 18) (hs:stopC us=true) (hr:Rs r M₀ n dp (ts++us) M) (q:∀ M',Rs r M₀ n dp us M'→wpSs C theG (d + 38) (skipS 1 f_parse_derived.body) [some (.mref r),some (.bool a),some (.tup v)] M' (retK Q)):CallOk C (d + 39) (.fn 92) [.mref r,.bool a] M Q :=
 cl (d:=d + 38) P rfl rfl ((p_sub P h hn).up 9 _ _ _ _ _ _ _ hs hr fun M' hr=>q M' hr)
theorem p_cps (P:Pg C) (ha:(a && !t)=false) (h1:wdn us 0 z_abstract=false) (h2:wdn us 0 z_new=false) (h3:wdn us 0 z_tagged=false) (h4:wdn us 0 z_limited=false) (hr:Rs r M₀ n dp (fl a z_abstract++(fl t z_tagged++(fl l z_limited++us))) M)
  (q:∀ M',Rs r M₀ n dp us M'→wpSs C theG (d + 39) (skipS 5 f_parse_composed.body) [some (.mref r),some (.bool a),some (.bool t),some (.bool l)] M' (retK Q)):CallOk C (d + 40) (.fn 93) [.mref r] M Q:=by
 refine cl (d:=d + 39) P rfl rfl (p_flag (d:=d + 36) P rfl hr (fl_w (fl_w h1 rfl) rfl) fun M' hr=>?_)
 refine p_takeWF (d:=d + 36) P hr rfl (fl_w (fl_w h2 rfl) rfl) (p_flag (d:=d + 36) P rfl hr (fl_w h3 rfl) fun M' hr=>?_)
 cases a
 ·exact p_flag (d:=d + 36) P rfl (by assumption) h4 fun M' hr=>q M' hr
 ·cases t
  ·exact nomatch ha
  ·exact p_flag (d:=d + 36) P rfl (by assumption) h4 fun M' hr=>q M' hr
theorem p_cpN (P:Pg C) (hr:Rs r M₀ n dp (fl a z_abstract++.wd z_new :: us) M) (q:∀ M',Rs r M₀ n dp us M'→CallOk C (d + 39) (.fn 92) [.mref r,.bool a] M' fun v M=>frzP v M Q):CallOk C (d + 40) (.fn 93) [.mref r] M Q :=
 cl (d:=d + 39) P rfl rfl (p_flag (d:=d + 36) P rfl hr rfl fun M' hr=>p_takeWT (d:=d + 36) P hr fun M' hr=>q M' hr)
theorem p_toC (P:Pg C) (h0:sgn ts 0 o_lp=false) (h1:wdn ts 0 z_range=false) (h2:wdn ts 0 z_mod=false) (h3:wdn ts 0 z_delta=false) (h4:wdn ts 0 z_array=false) (h5:wdn ts 0 z_access=false) (hr:Rs r M₀ n dp ts M) (q:CallOk C (d + 40) (.fn 93) [.mref r] M fun v M=>frzP v M Q):CallOk C (d + 41) (.fn 95) [.mref r] M Q :=
 cl (d:=d + 40) P rfl rfl (p_sign (d:=d + 38) P hr rfl h0 (p_takeWF (d:=d + 37) P hr rfl h1 (p_takeWF (d:=d + 37) P hr rfl h2 (p_takeWF (d:=d + 37) P hr rfl h3 (p_takeWF (d:=d + 37) P hr rfl h4 (p_takeWF (d:=d + 37) P hr rfl h5 q))))))
theorem TRec.hd (h:TRec t l a v ts):∃ us,ts = .wd z_null :: us∨ts = .wd z_record :: us:=by
 cases h with
 | null=>exact ⟨_,.inl rfl⟩
 | body=>exact ⟨_,.inr rfl⟩
theorem TRec.nw (h:TRec t l a v ts) {s:List Nat} (h1:(z_null == s)=false) (h2:(z_record == s)=false):wdn (ts++rest) 0 s=false:=by
 obtain ⟨us,rfl | rfl⟩:=h.hd
 ·exact h1
 ·exact h2
theorem TRec.s (h:TRec t l a v ts) {s:List Nat}:sgn (ts++rest) 0 s=false:=by
 obtain ⟨us,rfl | rfl⟩:=h.hd <;> rfl
theorem p_def (P:Pg C) (h:TDef v ts) (hn:n < 18) (hd:dp ≤ 20) (hr:Rs r M₀ n dp ts M) (q:∀ M',Rs r M₀ n dp [] M'→Q (.tup v) M'):CallOk C (d + 41) (.fn 95) [.mref r] M Q:=by
 rw [← List.append_nil ts] at hr
 cases h with
 | enum l ts h=>exact cl (d:=d + 40) P rfl rfl (p_sign (d:=d + 38) P hr rfl rfl ((p_enum P h).up 35 _ _ _ _ _ _ _ rfl hr fun M' hr=>q M' hr))
 | int e ts h=>exact cl (d:=d + 40) P rfl rfl (p_sign (d:=d + 38) P hr rfl rfl (p_takeWT (d:=d + 37) P hr fun M' hr=>(p_range P h hn).up 15 _ _ _ _ _ _ _ rfl hr fun M' hr=>q M' hr))
 | mod v ts h=>exact cl (d:=d + 40) P rfl rfl (p_sign (d:=d + 38) P hr rfl rfl (p_takeWF (d:=d + 37) P hr rfl rfl (p_takeWT (d:=d + 37) P hr fun M' hr=>(pe_val P h (Nat.lt_trans hn (by decide))).up 22 _ _ _ _ _ _ _ rfl hr fun M' hr=>q M' hr)))
 | fix0 v ts h=>exact cl (d:=d + 40) P rfl rfl (p_sign (d:=d + 38) P hr rfl rfl (p_takeWF (d:=d + 37) P hr rfl rfl (p_takeWF (d:=d + 37) P hr rfl rfl (p_takeWT (d:=d + 37) P hr fun M' hr=>(p_fix0 P h hn).up 10 _ _ _ _ _ _ _ rfl hr fun M' hr=>q M' hr))))
 | fix1 v ts e us h k=>exact cl (d:=d + 40) P rfl rfl (p_sign (d:=d + 38) P hr rfl rfl (p_takeWF (d:=d + 37) P hr rfl rfl (p_takeWF (d:=d + 37) P hr rfl rfl (p_takeWT (d:=d + 37) P hr fun M' hr=>(p_fix1 P h k hn).up 10 _ _ _ _ _ _ _ rfl hr fun M' hr=>q M' hr))))
 | arrB l ts al s us h k m=>exact cl (d:=d + 40) P rfl rfl (p_sign (d:=d + 38) P hr rfl rfl (p_takeWF (d:=d + 37) P hr rfl rfl (p_takeWF (d:=d + 37) P hr rfl rfl (p_takeWF (d:=d + 37) P hr rfl rfl (p_takeWT (d:=d + 37) P hr fun M' hr=>(p_arrB P h m k hn).up 9 _ _ _ _ _ _ _ rfl hr fun M' hr=>q M' hr)))))
 | arrU l ts al s us h k m=>exact cl (d:=d + 40) P rfl rfl (p_sign (d:=d + 38) P hr rfl rfl (p_takeWF (d:=d + 37) P hr rfl rfl (p_takeWF (d:=d + 37) P hr rfl rfl (p_takeWF (d:=d + 37) P hr rfl rfl (p_takeWT (d:=d + 37) P hr fun M' hr=>(p_arrU P h m k hn).up 9 _ _ _ _ _ _ _ rfl hr fun M' hr=>q M' hr)))))
 | acc s ts m ms h k=>exact cl (d:=d + 40) P rfl rfl (p_sign (d:=d + 38) P hr rfl rfl (p_takeWF (d:=d + 37) P hr rfl rfl (p_takeWF (d:=d + 37) P hr rfl rfl (p_takeWF (d:=d + 37) P hr rfl rfl (p_takeWF (d:=d + 37) P hr rfl rfl (p_takeWT (d:=d + 37) P hr fun M' hr=>(p_access P h k hn).up 10 _ _ _ _ _ _ _ rfl hr fun M' hr=>q M' hr))))))
 | rcd t l a v ts h ha =>
  simp only [List.append_assoc] at hr
  refine p_toC P (fl_s (fl_s (fl_s h.s))) (fl_w (fl_w (fl_w (h.nw rfl rfl) rfl) rfl) rfl) (fl_w (fl_w (fl_w (h.nw rfl rfl) rfl) rfl) rfl) (fl_w (fl_w (fl_w (h.nw rfl rfl) rfl) rfl) rfl) (fl_w (fl_w (fl_w (h.nw rfl rfl) rfl) rfl) rfl) (fl_w (fl_w (fl_w (h.nw rfl rfl) rfl) rfl) rfl) hr ?_
  exact p_cps P ha (h.nw rfl rfl) (h.nw rfl rfl) (h.nw rfl rfl) (h.nw rfl rfl) hr fun M' hr=>p_takeWF (d:=d + 36) P hr rfl (h.nw rfl rfl) (p_rec (d:=d + 1) P h hn hd hr fun M' hr=>q M' hr)
 | priv t l a ha =>
  simp only [List.append_assoc] at hr
  refine p_toC P (fl_s (fl_s (fl_s rfl))) (fl_w (fl_w (fl_w rfl rfl) rfl) rfl) (fl_w (fl_w (fl_w rfl rfl) rfl) rfl) (fl_w (fl_w (fl_w rfl rfl) rfl) rfl) (fl_w (fl_w (fl_w rfl rfl) rfl) rfl) (fl_w (fl_w (fl_w rfl rfl) rfl) rfl) hr ?_
  exact p_cps P ha rfl rfl rfl rfl hr fun M' hr=>p_takeWT (d:=d + 36) P hr fun M' hr=>q M' hr
 | der0 a s ts h =>
  rw [List.append_assoc] at hr
  refine p_toC P (fl_s rfl) (fl_w rfl rfl) (fl_w rfl rfl) (fl_w rfl rfl) (fl_w rfl rfl) (fl_w rfl rfl) hr ?_
  exact p_cpN P hr fun M' hr=>p_der P h hn rfl hr fun M' hr=>p_takeWF (d:=d + 35) P hr rfl rfl (q M' hr)
 | der1 a s ts x us h k =>
  simp only [List.append_assoc] at hr
  refine p_toC P (fl_s rfl) (fl_w rfl rfl) (fl_w rfl rfl) (fl_w rfl rfl) (fl_w rfl rfl) (fl_w rfl rfl) hr ?_
  refine p_cpN P hr fun M' hr=>p_der P h hn ?_ hr fun M' hr=>p_takeWT (d:=d + 35) P hr fun M' hr=>p_takeWF (d:=d + 35) P hr rfl (k.nw rfl rfl) (p_rec (d:=d) P k hn hd hr fun M' hr=>q M' hr)
  rfl
 | ext a s ts h =>
  simp only [List.append_assoc] at hr
  refine p_toC P (fl_s rfl) (fl_w rfl rfl) (fl_w rfl rfl) (fl_w rfl rfl) (fl_w rfl rfl) (fl_w rfl rfl) hr ?_
  refine p_cpN P hr fun M' hr=>p_der P h hn ?_ hr fun M' hr=>p_takeWT (d:=d + 35) P hr fun M' hr=>p_takeWT (d:=d + 35) P hr fun M' hr=>q M' hr
  rfl
end
section
variable {C:Cx} {M M₀:Mem} {Q:PV→Mem→Prop} {d r n dp k:Nat} {ts us rest:List Tk} {v w:List PV} {t l a:Bool}
noncomputable abbrev b_ds:Ss:=sbody (stm 3 f_parse_discriminants.body)
theorem ds_row (P:Pg C) {b:Nat} {l:List PV} {s:List Nat} {K:Out→Lo→Mem→Prop} {o2 o3:Option PV} (h:TRow v ts) (hn:n < 18) (h1:stop (.op s :: rest)=true) (h2:(s == o_as)=false) (h3:(s == o_cm)=false) (g:RF r b M₀ n dp (ts++.op s :: rest) l M) (hne:b ≠ r) (hl:Nat.ble l.length 100=true)
  (q:∀ M' o2 o3,RF r b M₀ n dp (.op s :: rest) (l++[.tup v]) M'→wpSs C theG (d + 30) (skipS 4 b_ds) [some (.mref r),some (.mref b),o2,o3] M' K) :
  wpSs C theG (d + 30) b_ds [some (.mref r),some (.mref b),o2,o3] M K:=by
 cases h with
 | row nn ns m ms f fs k1 k2 k3 =>
  have g:RF r b M₀ n dp (ns++(.op o_co :: (ms++(fs++(.op s :: rest))))) l M:=by simpa only [List.append_assoc,List.cons_append] using g
  have hst:stop (fs++(.op s :: rest))=true:=by
   cases k3
   ·exact h1
   ·rfl
  refine (p_names P k1).up 26 _ _ _ _ _ _ _ rfl g.rs fun M2 g2=>p_need (d:=d + 26) P (g.step hne g2).rs fun M3 g3=>?_
  have g:=(g.step hne g2).step hne g3
  refine (p_mark P k2).up 23 _ _ _ _ _ _ _ hst g.rs fun M2 g2=>?_
  have g:=g.step hne g2
  refine and2 (RdL.at g.arr trivial) ?_
  refine (p_dfl P k3 hn).up 11 _ _ _ _ _ _ _ ?_ g.rs fun M2 g2=>?_
  ·show (_ && !(s == o_as))=true
   rw [h1,h2]; rfl
  have g9:=g.step hne g2
  cases k3 <;> exact RdL.at g9.arr (and2 (Nat.le_trans (Nat.le_of_ble_eq_true hl) (by decide)) (q _ _ _ (g9.push hne)))
theorem ds_fin (P:Pg C) {b:Nat} {l:List PV} {K:Out→Lo→Mem→Prop} {o2 o3:Option PV} (g:RF r b M₀ n dp (.op o_rp :: rest) l M) (hne:b ≠ r) (hb:M₀ b=none) (q:∀ M' env,Rs r M₀ n dp rest M'→K (.ret (.list l)) env M'):wpSs C theG (d + 30) (skipS 4 b_ds) [some (.mref r),some (.mref b),o2,o3] M K:=by
 refine p_takeF (d:=d + 27) P g.rs rfl rfl (p_need (d:=d + 26) P g.rs fun M2 g2=>?_)
 have g:=g.step hne g2
 exact RdL.at g.arr (q _ _ (g.done hne hb))
theorem TRow.hd (h:TRow w ts):∃ s t,ts = .nm s :: t:=by
 cases h with
 | row nn ns m ms f fs k1 k2 k3=>obtain ⟨x,t,rfl⟩:=k1.hd; exact ⟨_,_,rfl⟩
theorem TRow.s (h:TRow w ts) {s:List Nat}:sgn (ts++rest) 0 s=false:=by
 obtain ⟨x,t,rfl⟩:=h.hd; rfl
theorem p_discs (P:Pg C) {v:PV} (h:TDiscs v ts) (hn:n < 18) (hr:Rs r M₀ n dp ts M) (q:∀ M',Rs r M₀ n dp [] M'→Q v M'):CallOk C (d + 31) (.fn 96) [.mref r] M Q:=by
 cases h with
 | no=>exact cl (d:=d + 30) P rfl rfl (p_takeF (d:=d + 27) P hr rfl rfl (q M hr))
 | box=>exact cl (d:=d + 30) P rfl rfl (p_takeT (d:=d + 27) P hr fun M' hr=>p_takeT (d:=d + 27) P hr fun M' hr=>p_need (d:=d + 26) P hr fun M' hr=>q M' hr)
 | one v ts h =>
  rw [List.cons_append] at hr
  refine cl (d:=d + 30) P rfl rfl (p_takeT (d:=d + 27) P hr fun M' hr=>p_takeF (d:=d + 27) P hr rfl h.s ?_)
  intro b hb
  have hne:=hr.ne hb
  have g:=RF.new (l:=[]) hr hb
  refine Exists.intro 1 (ds_row P h hn rfl rfl rfl g hne rfl fun M' o2 o3 g=>?_)
  exact ds_fin P g hne (hr.none hb) fun M' env h=>q M' h
 | two v ts w us h k =>
  have hr:Rs r M₀ n dp (.op o_lp :: (ts++(.op o_sc :: (us++[.op o_rp])))) M:=by simpa only [List.append_assoc,List.cons_append] using hr
  refine cl (d:=d + 30) P rfl rfl (p_takeT (d:=d + 27) P hr fun M' hr=>p_takeF (d:=d + 27) P hr rfl h.s ?_)
  intro b hb
  have hne:=hr.ne hb
  have g:=RF.new (l:=[]) hr hb
  refine Exists.intro 2 (ds_row P h hn rfl rfl rfl g hne rfl fun M' o2 o3 g=>?_)
  refine p_takeT (d:=d + 27) P g.rs fun M2 g2=>?_
  have g:=g.step hne g2
  refine ds_row P k hn rfl rfl rfl g hne rfl fun M' o2 o3 g=>?_
  exact ds_fin P g hne (hr.none hb) fun M' env h=>q M' h
end
theorem TMode.len {m ms} (h:TMode m ms):Ln 1 ms:=by cases h <;> exact Ln.k rfl
theorem TDef.len {v ts} (h:TDef v ts):Ln 3000 ts:=by
 cases h with
 | enum l ts h=>exact (h.len.cons.app (Ln.k (n:=1) rfl)).le rfl
 | int e ts h=>exact h.len.cons.le rfl
 | mod e ts h=>exact h.len.cons.le rfl
 | fix0 e ts h=>exact h.len.cons.le rfl
 | fix1 v ts e us h k=>exact (h.len.cons.app k.len.cons).le rfl
 | arrB l ts al s us h k m=>exact ((h.len.cons.cons.app (k.len.cons.cons)).app m.len).le rfl
 | arrU l ts al s us h k m=>exact ((h.len.cons.cons.app (k.len.cons.cons)).app m.len).le rfl
 | rcd t l a v ts h k=>exact ((((fl_len _ _).app (fl_len _ _)).app (fl_len _ _)).app h.len).le rfl
 | acc s ts m ms h k=>exact (k.len.cons.app h.len).le rfl
 | der0 a s ts h=>exact ((fl_len _ _).app h.len.cons).le rfl
 | der1 a s ts r us h k=>exact (((fl_len _ _).app h.len.cons).app k.len.cons).le rfl
 | ext a s ts h=>exact (((fl_len _ _).app h.len.cons).app (Ln.k (n:=2) rfl)).le rfl
 | priv t l a h=>exact ((((fl_len _ _).app (fl_len _ _)).app (fl_len _ _)).app (Ln.k (n:=1) rfl)).le rfl
theorem TDiscs.len {v ts} (h:TDiscs v ts):Ln 3000 ts:=by
 cases h with
 | no=>exact Ln.k rfl
 | box=>exact Ln.k rfl
 | one v ts h=>exact (h.len.cons.app (Ln.k (n:=1) rfl)).le rfl
 | two v ts w us h k=>exact ((h.len.cons.app k.len.cons).app (Ln.k (n:=1) rfl)).le rfl
theorem fl_ok {b:Bool} {s:List Nat} (h:(Tk.wd s).ok=true):(fl b s).all Tk.ok=true:=by
 cases b
 ·rfl
 ·exact all_cons h rfl
theorem TRec.ok {t l a v ts} (h:TRec t l a v ts):ts.all Tk.ok=true:=by
 cases h with
 | null=>rfl
 | body c v ts h=>exact all_app (all_cons rfl h.ok) rfl
theorem TLits.ok {v ts} (h:TLits v ts):ts.all Tk.ok=true:=by
 have h1:(Tk.chr 65).ok=true:=by decide
 have h2:(Tk.chr 39).ok=true:=by decide
 cases h with
 | l1=>exact all_cons rfl (all_cons rfl (all_cons h1 (all_cons rfl (all_cons rfl (all_cons rfl (all_cons h2 rfl))))))
 | l2=>exact all_cons h1 (all_cons rfl (all_cons rfl (all_cons rfl (all_cons h2 rfl))))
 | l3=>exact all_cons rfl (all_cons rfl (all_cons h2 rfl))
theorem TDis.ok {v ts} (h:TDis v ts):ts.all Tk.ok=true:=by
 cases h with
 | ext e ts h=>exact h.ok
 | no m ts h=>exact h.ok
 | rg m ts e us h k=>exact all_app h.ok (all_cons rfl k.ok)
theorem TDisL.ok {v ts} (h:TDisL v ts):ts.all Tk.ok=true:=by
 cases h with
 | one v ts h=>exact h.ok
 | two v ts w us h k=>exact all_app h.ok (all_cons rfl k.ok)
theorem TMarkL.ok {v ts} (h:TMarkL v ts):ts.all Tk.ok=true:=by
 cases h with
 | one v ts h=>exact all_app h.ok rfl
 | two v ts w us h k=>exact all_app (all_app h.ok (all_cons rfl (all_cons rfl (all_cons rfl k.ok)))) rfl
theorem TMode.ok {v ts} (h:TMode v ts):ts.all Tk.ok=true:=by cases h <;> rfl
theorem TDef.ok {v ts} (h:TDef v ts):ts.all Tk.ok=true:=by
 cases h with
 | enum l ts h=>exact all_app (all_cons rfl h.ok) rfl
 | int e ts h=>exact all_cons rfl h.ok
 | mod e ts h=>exact all_cons rfl h.ok
 | fix0 e ts h=>exact all_cons rfl h.ok
 | fix1 v ts e us h k=>exact all_app (all_cons rfl h.ok) (all_cons rfl k.ok)
 | arrB l ts al s us h k m=>exact all_app (all_app (all_cons rfl (all_cons rfl h.ok)) (all_cons rfl (all_cons rfl k.ok))) m.ok
 | arrU l ts al s us h k m=>exact all_app (all_app (all_cons rfl (all_cons rfl h.ok)) (all_cons rfl (all_cons rfl k.ok))) m.ok
 | rcd t l a v ts h k=>exact all_app (all_app (all_app (fl_ok rfl) (fl_ok rfl)) (fl_ok rfl)) h.ok
 | acc s ts m ms h k=>exact all_app (all_cons rfl k.ok) h.ok
 | der0 a s ts h=>exact all_app (fl_ok rfl) (all_cons rfl h.ok)
 | der1 a s ts r us h k=>exact all_app (all_app (fl_ok rfl) (all_cons rfl h.ok)) (all_cons rfl k.ok)
 | ext a s ts h=>exact all_app (all_app (fl_ok rfl) (all_cons rfl h.ok)) rfl
 | priv t l a h=>exact all_app (all_app (all_app (fl_ok rfl) (fl_ok rfl)) (fl_ok rfl)) rfl
theorem TRow.ok {v ts} (h:TRow v ts):ts.all Tk.ok=true:=by
 cases h with
 | row n ns m ms f fs h1 h2 h3=>exact all_app (all_app h1.ok (all_cons rfl h2.ok)) h3.ok
theorem TDiscs.ok {v ts} (h:TDiscs v ts):ts.all Tk.ok=true:=by
 cases h with
 | no=>rfl
 | box=>rfl
 | one v ts h=>exact all_app (all_cons rfl h.ok) rfl
 | two v ts w us h k=>exact all_app (all_app (all_cons rfl h.ok) (all_cons rfl k.ok)) rfl
noncomputable abbrev st (p:Bool):Sx:=match p with | true=>.P | false=>.F
noncomputable def isP (s:Sx):Bool:=match s with
 | .P=>true
 | .N=>true
 | _=>false
noncomputable def sr:Bool→List Tk→Option Bool
 | p,[]=>some p
 | p,t :: ts=>match dl (st p) t with
  | some s=>sr (isP s) ts
  | none=>none
noncomputable def Sq (p:Bool) (ts:List Tk):Prop:=∃ e,sr p ts=some e
theorem sr_app:∀ {a b:List Tk} {p e:Bool},sr p a=some e→sr p (a++b)=sr e b
 | [],b,p,e,h=>by cases h; rfl
 | t :: a,b,p,e,h=>by
  replace h:(match dl (st p) t with | some s=>sr (isP s) a | none=>none)=some e:=h
  show (match dl (st p) t with | some s=>sr (isP s) (a++b) | none=>none)=_
  cases hd:dl (st p) t with
  | none=>rw [hd] at h; cases h
  | some s=>rw [hd] at h; exact sr_app (a:=a) h
theorem Sq.app {a b:List Tk} {p:Bool} (h:Sq p a) (k:∀ e,Sq e b):Sq p (a++b):=by
 obtain ⟨e,h⟩:=h
 obtain ⟨g,k⟩:=k e
 exact ⟨g,(sr_app h).trans k⟩
noncomputable def neu (t:Tk):Bool:=match t with
 | .op s=>!(s == o_tk)
 | .chr _=>false
 | _=>true
theorem dl_neu {t:Tk} (h:neu t=true):dl .P t=dl .F t:=by
 cases t with
 | op s =>
  have h:s ≠ o_tk:=fun e=>by rw [e] at h; exact nomatch h
  show (match (generalizing:=false) s with | [39]=>some Sx.F | s=>opTo s)=opTo s
  split
  ·exact absurd rfl h
  ·rfl
 | chr c=>exact nomatch h
 | _=>rfl
theorem Sq.any {t:Tk} {b:List Tk} (hn:neu t=true) (h:Sq false (t :: b)) (e:Bool):Sq e (t :: b):=by
 cases e
 ·exact h
 ·obtain ⟨e,h⟩:=h
  refine ⟨e,?_⟩
  show (match dl .P t with | some s=>sr (isP s) b | none=>none)=_
  rw [dl_neu hn]; exact h
noncomputable def nx (t:Tk):Option Bool:=match dl .F t with
 | some s=>some (isP s)
 | none=>none
theorem Sq.c {t:Tk} {b:List Tk} {p:Bool} (hn:neu t=true) (hd:nx t=some p) (h:Sq p b) (e:Bool):Sq e (t :: b):=by
 refine Sq.any hn ?_ e
 obtain ⟨e,h⟩:=h
 refine ⟨e,?_⟩
 replace hd:(match dl .F t with | some s=>some (isP s) | none=>none)=some p:=hd
 show (match dl .F t with | some s=>sr (isP s) b | none=>none)=_
 revert hd
 cases dl .F t with
 | none=>intro hd; cases hd
 | some s=>intro hd; cases hd; exact h
theorem TVal.sq {v ts} (h:TVal v ts):Sq false ts:=by cases h <;> exact ⟨_,rfl⟩
theorem TMark.sq {v ts} (h:TMark v ts) (e:Bool):Sq e ts:=by cases h <;> cases e <;> exact ⟨_,rfl⟩
theorem TExt.sq {v ts} (h:TExt v ts) (e:Bool):Sq e ts:=by
 cases h with
 | t0=>cases e <;> exact ⟨_,rfl⟩
 | t1=>cases e <;> exact ⟨_,rfl⟩
 | rg k v ts h1 h2=>exact Sq.c rfl rfl (Sq.c rfl rfl h2.sq _) e
theorem TSub.sq {v ts} (h:TSub v ts) (e:Bool):Sq e ts:=by
 cases h with
 | no m ts h=>exact h.sq e
 | rg m ts w us h k=>exact (h.sq e).app (Sq.c rfl rfl (k.sq _))
 | a1 m ts v us h k=>exact ((h.sq e).app (Sq.c rfl rfl (Sq.c rfl rfl (Sq.c rfl rfl k.sq _) _))).app (Sq.c rfl rfl ⟨_,rfl⟩)
 | a2 m ts v us w xs h k l=>exact (((h.sq e).app (Sq.c rfl rfl k.sq)).app (Sq.c rfl rfl (Sq.c rfl rfl (Sq.c rfl rfl l.sq _) _))).app (Sq.c rfl rfl ⟨_,rfl⟩)
theorem TDis.sq {v ts} (h:TDis v ts) (e:Bool):Sq e ts:=by
 cases h with
 | ext w ts h=>exact h.sq e
 | no m ts h=>exact h.sq e
 | rg m ts w us h k=>exact (h.sq e).app (Sq.c rfl rfl (k.sq _))
theorem TNames.sq {v ts} (h:TNames v ts) (e:Bool):Sq e ts:=by cases h <;> cases e <;> exact ⟨_,rfl⟩
theorem TAl.sq {ts} (h:TAl ts) (e:Bool):Sq e ts:=by cases h <;> cases e <;> exact ⟨_,rfl⟩
theorem TDfl.sq {v ts} (h:TDfl v ts) (e:Bool):Sq e ts:=by
 cases h with
 | no=>exact ⟨_,rfl⟩
 | so v ts h=>exact Sq.c rfl rfl h.sq e
theorem TComp.sq {v ts} (h:TComp v ts) (e:Bool):Sq e ts:=by
 cases h with
 | mk n ns al s ss f fs h1 h2 h3 h4=>exact ((((h1.sq e).app (Sq.c rfl rfl (h2.sq _))).app h3.sq).app h4.sq).app (Sq.c rfl rfl ⟨_,rfl⟩)
theorem TComps.sq {v ts} (h:TComps v ts) (e:Bool):Sq e ts:=by
 cases h with
 | nil=>exact ⟨_,rfl⟩
 | one c ts h=>exact h.sq e
 | two c ts c' ts' h k=>exact (h.sq e).app k.sq
theorem TCho.sq {v ts} (h:TCho v ts):Sq false ts:=by
 cases h with
 | one v ts h=>exact h.sq
 | two v ts h=>exact h.sq.app (Sq.c rfl rfl ⟨_,rfl⟩)
 | oth=>exact ⟨_,rfl⟩
mutual
theorem TBody.sq:∀ {n l v ts},TBody n l v ts→∀ e,Sq e ts
 | _,_,_,_,.nil _,e=>Sq.c rfl rfl ⟨_,rfl⟩ e
 | _,_,_,_,.some _ _ _ _ h,e=>h.sq e
 | _,_,_,_,.var n l ts a as us h k hl,e=>((h.sq e).app (Sq.c rfl rfl (Sq.c rfl rfl (Sq.c rfl rfl (k.sq _) _) _))).app (Sq.c rfl rfl ⟨_,rfl⟩)
theorem TArms.sq:∀ {n as ts},TArms n as ts→∀ e,Sq e ts
 | _,_,_,.nil _,e=>⟨_,rfl⟩
 | _,_,_,.cons n c cs i v bs as ts h k l,e=>((Sq.c rfl rfl h.sq e).app (Sq.c rfl rfl (k.sq _))).app l.sq
end
theorem fl_sq {b:Bool} {s:List Nat} (e:Bool):Sq e (fl b s):=by
 cases b
 ·exact ⟨_,rfl⟩
 ·exact Sq.c rfl rfl ⟨_,rfl⟩ e
theorem TRec.sq {t l a v ts} (h:TRec t l a v ts) (e:Bool):Sq e ts:=by
 cases h with
 | null=>exact Sq.c rfl rfl ⟨_,rfl⟩ e
 | body c v ts h=>exact (Sq.c rfl rfl (h.sq _) e).app (Sq.c rfl rfl ⟨_,rfl⟩)
theorem TMode.sq {v ts} (h:TMode v ts) (e:Bool):Sq e ts:=by cases h <;> cases e <;> exact ⟨_,rfl⟩
theorem TDisL.sq {v ts} (h:TDisL v ts) (e:Bool):Sq e ts:=by
 cases h with
 | one v ts h=>exact h.sq e
 | two v ts w us h k=>exact (h.sq e).app (Sq.c rfl rfl (k.sq _))
theorem TMarkL.sq {v ts} (h:TMarkL v ts) (e:Bool):Sq e ts:=by
 cases h with
 | one v ts h=>exact (h.sq e).app (Sq.c rfl rfl ⟨_,rfl⟩)
 | two v ts w us h k=>exact ((h.sq e).app (Sq.c rfl rfl (Sq.c rfl rfl (Sq.c rfl rfl (k.sq _) _) _))).app (Sq.c rfl rfl ⟨_,rfl⟩)
theorem TDef.sq {v ts} (h:TDef v ts):Sq false ts:=by
 cases h with
 | enum l ts h=>cases h <;> exact ⟨_,rfl⟩
 | int e ts h=>exact Sq.c rfl rfl (h.sq _) _
 | mod e ts h=>exact Sq.c rfl rfl h.sq _
 | fix0 e ts h=>exact Sq.c rfl rfl h.sq _
 | fix1 v ts e us h k=>exact (Sq.c rfl rfl h.sq _).app (Sq.c rfl rfl (k.sq _))
 | arrB l ts al s us h k m=>exact ((Sq.c rfl rfl (Sq.c rfl rfl (h.sq _) _) _).app (Sq.c rfl rfl (Sq.c rfl rfl (k.sq _) _))).app m.sq
 | arrU l ts al s us h k m=>exact ((Sq.c rfl rfl (Sq.c rfl rfl (h.sq _) _) _).app (Sq.c rfl rfl (Sq.c rfl rfl (k.sq _) _))).app m.sq
 | rcd t l a v ts h k=>exact (((fl_sq _).app fl_sq).app fl_sq).app h.sq
 | acc s ts m ms h k=>exact (Sq.c rfl rfl (k.sq _) _).app h.sq
 | der0 a s ts h=>exact (fl_sq _).app (Sq.c rfl rfl (h.sq _))
 | der1 a s ts r us h k=>exact ((fl_sq _).app (Sq.c rfl rfl (h.sq _))).app (Sq.c rfl rfl (k.sq _))
 | ext a s ts h=>exact ((fl_sq _).app (Sq.c rfl rfl (h.sq _))).app (Sq.c rfl rfl ⟨_,rfl⟩)
 | priv t l a h=>exact (((fl_sq _).app fl_sq).app fl_sq).app (Sq.c rfl rfl ⟨_,rfl⟩)
theorem TRow.sq {v ts} (h:TRow v ts) (e:Bool):Sq e ts:=by
 cases h with
 | row n ns m ms f fs h1 h2 h3=>exact ((h1.sq e).app (Sq.c rfl rfl (h2.sq _))).app h3.sq
theorem TDiscs.sq {v ts} (h:TDiscs v ts):Sq false ts:=by
 cases h with
 | no=>exact ⟨_,rfl⟩
 | box=>exact ⟨_,rfl⟩
 | one v ts h=>exact (Sq.c rfl rfl (h.sq _) _).app (Sq.c rfl rfl ⟨_,rfl⟩)
 | two v ts w us h k=>exact ((Sq.c rfl rfl (h.sq _) _).app (Sq.c rfl rfl (k.sq _))).app (Sq.c rfl rfl ⟨_,rfl⟩)
noncomputable def spG (g:List Im):List Tk→List Im
 | []=>[]
 | t :: ts=>.tk t :: (g++spG g ts)
structure Glue (g:List Im):Prop where
 tk:toks g=[]
 go:∀ s,run s g=some (gp s)
 ok:((flat g).all fun c=>Nat.blt c 1114112)=true
 len:Nat.ble (flat g).length 20=true
theorem gp_st (s:Sx):gp s=st (isP s):=by cases s <;> rfl
theorem Glue.toks {g:List Im} (h:Glue g):∀ ts,Mine.toks (spG g ts)=ts
 | []=>rfl
 | t :: ts=>by
  show t :: Mine.toks (g++spG g ts)=_
  rw [toks_app,h.tk,h.toks ts]; rfl
theorem Glue.run {g:List Im} (h:Glue g):∀ {ts:List Tk} {p e:Bool},sr p ts=some e→Mine.run (st p) (spG g ts)=some (st e)
 | [],p,e,k=>by cases k; rfl
 | t :: ts,p,e,k=>by
  replace k:(match dl (st p) t with | some s=>sr (isP s) ts | none=>none)=some e:=k
  show (match dl (st p) t with | some s=>Mine.run s (g++spG g ts) | none=>none)=_
  cases hd:dl (st p) t with
  | none=>rw [hd] at k; cases k
  | some s =>
   rw [hd] at k
   exact (run_app (h.go s)).trans (by rw [gp_st]; exact h.run k)
theorem flat_len {g:List Im}:∀ {ts:List Tk},ts ≠ []→flat (spG g ts)=joinL (flat g) (ts.map Tk.text)++flat g
 | [],h=>absurd rfl h
 | [t],_=>by show t.text++flat (g++[])=t.text++flat g; rw [List.append_nil]
 | t :: u :: ts,_=>by
  show t.text++flat (g++spG g (u :: ts))=(t.text++flat g++joinL (flat g) ((u :: ts).map Tk.text))++flat g
  rw [flat_app,flat_len (ts:=u :: ts) (List.cons_ne_nil _ _),List.append_assoc,List.append_assoc]
theorem tk_len {t:Tk} (h:t.ok=true):t.text.length ≤ 20:=by
 cases t with
 | nm s=>exact Nat.ble_eq.mp ((Bool.and_eq_true _ _).mp ((Bool.and_eq_true _ _).mp ((Bool.and_eq_true _ _).mp h).2).2).2
 | wd s=>exact Nat.ble_eq.mp ((Bool.and_eq_true _ _).mp ((Bool.and_eq_true _ _).mp ((Bool.and_eq_true _ _).mp h).2).2).2
 | op s=>exact opB_elim (P:=fun s=>s.length ≤ 20) h (by decide) (by decide) (by decide) (by decide) (by decide) (by decide) (by decide) (by decide) (by decide) (by decide) (by decide) (by decide)
 | chr c=>show 3 ≤ 20; decide
 | int n =>
  have:∀ k:Fin 100,((Tk.int k.val).text.length ≤ 20):=by decide +kernel
  exact this ⟨n,Nat.ble_eq.mp h⟩
theorem Glue.bound {g:List Im} (h:Glue g):∀ {ts:List Tk},ts.all Tk.ok=true→(flat (spG g ts)).length ≤ 40 * ts.length
 | [],_=>Nat.le_refl _
 | t :: ts,k=>by
  obtain ⟨k1,k2⟩:=(Bool.and_eq_true _ _).mp k
  show (t.text++flat (g++spG g ts)).length ≤ 40 * (ts.length + 1)
  rw [flat_app,List.length_append,List.length_append,Nat.mul_succ]
  have:=h.bound (ts:=ts) k2
  have:=tk_len k1
  have:=Nat.le_of_ble_eq_true h.len
  omega
theorem Glue.chars {g:List Im} (h:Glue g):∀ {ts:List Tk},ts.all Tk.ok=true→((flat (spG g ts)).all fun c=>Nat.blt c 1114112)=true
 | [],_=>rfl
 | t :: ts,k=>by
  obtain ⟨k1,k2⟩:=(Bool.and_eq_true _ _).mp k
  show (t.text++flat (g++spG g ts)).all _=true
  rw [flat_app,List.all_append,List.all_append,ok_chars k1,h.ok,h.chars k2]; rfl
structure Txt (x:List Nat) (ts:List Tk):Prop where
 ex:∃ is e,flat is=x∧toks is=ts∧run .F is=some e
 len:x.length ≤ 1000000
 ok:okD 0 (.str x)=true
theorem Sp.txt {n e x ts} (h:Sp n .F e x ts) (k:Nat.ble n 1000000=true):Txt x ts:=by
 obtain ⟨is,h1,h2,h3⟩:=h.ex
 exact ⟨⟨is,e,h1,h2,h3⟩,Nat.le_trans h.len (Nat.le_of_ble_eq_true k),h.ok⟩
theorem Glue.txt {g:List Im} (h:Glue g) {ts:List Tk} (k:Sq false ts) (hk:ts.all Tk.ok=true) (hl:Ln 3000 ts):Txt (joinL (flat g) (ts.map Tk.text)++flat g) ts:=by
 by_cases hn:ts=[]
 ·subst hn
  refine ⟨⟨g,.F,rfl,h.tk,h.go .F⟩,?_,?_⟩
  ·show (flat g).length ≤ _
   exact Nat.le_trans (Nat.le_of_ble_eq_true h.len) (by decide)
  ·exact h.ok
 ·obtain ⟨e,k⟩:=k
  rw [← flat_len hn]
  refine ⟨⟨spG g ts,st e,rfl,h.toks ts,h.run k⟩,?_,h.chars hk⟩
  have:=h.bound hk
  have hl:ts.length ≤ 3000:=hl
  omega
theorem g_1:Glue [.gap 32]:=⟨rfl,fun s=>rfl,rfl,rfl⟩
theorem g_2:Glue [.gap 10]:=⟨rfl,fun s=>rfl,rfl,rfl⟩
theorem g_3:Glue [.gap 32,.rem [45,45,32,105,115,32,110,117,108,108,59]]:=⟨rfl,fun s=>by cases s <;> rfl,rfl,rfl⟩
theorem sum_len:∀ {ts:List Tk},ts.all Tk.ok=true→((ts.map Tk.text).map List.length).sum ≤ 20 * ts.length
 | [],_=>Nat.le_refl _
 | t :: ts,k=>by
  obtain ⟨k1,k2⟩:=(Bool.and_eq_true _ _).mp k
  show t.text.length + ((ts.map Tk.text).map List.length).sum ≤ 20 * (ts.length + 1)
  have:=sum_len k2
  have:=tk_len k1
  omega
section
variable {C:Cx} {M M₀:Mem} {Q:PV→Mem→Prop} {d r n dp k:Nat} {ts us rest:List Tk} {v:PV}
theorem upd_upd {a:Nat} {x y:MO}:(M.upd a x).upd a y=M.upd a y:=funext fun c=>by
 by_cases h:c=a
 ·rw [h,upd_same,upd_same]
 ·rw [upd_ne h,upd_ne h,upd_ne h]
theorem ia {a i:Nat} {l:List PV} {v:PV} {K:Mem→Prop} (h:l.length=i) (q:K (M.upd a (.obj (l++[v])))):RdO (M.upd a (.obj l)) a fun l'=>i ≤ l'.length∧K ((M.upd a (.obj l)).upd a (.obj (if i < l'.length then l'.set i v else l'++[v]))):=by
 subst h
 refine RdO.at upd_same ⟨Nat.le_refl _,?_⟩
 rw [if_neg (Nat.lt_irrefl _),upd_upd]; exact q
theorem h_init (P:Pg C) {T:List PV} {Q:Mem→Prop} (q:Q (M.upd r (.obj (rdO T 0 0 0)))):InitOk C (d + 1) 33 [.mref r,.list T] (M.upd r (.obj [])) Q :=
 initD P.g P.lim P.ini rfl (ia rfl (ia rfl (ia rfl (ia rfl (ia rfl (ia rfl (ia rfl (ia rfl (ia rfl (ia rfl (ia rfl (ia rfl (ia rfl (ia rfl (ia rfl (and2 rfl q))))))))))))))))
theorem h_heard (P:Pg C) {f:Nat} {x:List Nat} (hp:∀ (M:Mem) (r:Nat) (Q:PV→Mem→Prop),Rs r M 0 0 ts M→(∀ M',Rs r M 0 0 [] M'→Q v M')→CallOk C (d + 42) (.fn f) [.mref r] M Q) (hv:∀ (M:Mem) (Q:PV→Mem→Prop),Q v M→frzP v M Q) (hx:Txt x ts) (hk:ts.all Tk.ok=true) (hn:Ln 3000 ts) (q:∀ M',Q (.tup [v,.bool true]) M') :
  CallOk C (d + 43) (.fn 118) [.fn f,.str x] M Q:=by
 obtain ⟨is,e,rfl,rfl,hr⟩:=hx.ex
 refine cl (d:=d + 42) P rfl rfl (and2 rfl (l_tokens (d:=d + 36) P hx.len hx.ok hk hr fun l M' hl _ _=>?_))
 intro b hb
 refine ⟨d + 41,rfl,h_init (d:=d + 40) P ?_⟩
 have hs:Rs b (M'.upd b (.obj (rdO l 0 0 0))) 0 0 (toks is) (M'.upd b (.obj (rdO l 0 0 0))):=⟨⟨l,toks is,0,upd_same,hl,hk,rfl,Nat.zero_le _,Nat.le_trans hn (by decide)⟩,fun _ _=>rfl⟩
 refine hp _ _ _ hs fun M2 h2=>?_
 obtain ⟨T,all,k,k1,k2,k3,k4,k5,k6⟩:=h2.here
 have hkl:k=T.length:=by
  rw [k2.len]
  apply Nat.le_antisymm k5
  apply Nat.le_of_not_lt
  intro w
  have:=congrArg List.length k4
  rw [List.length_drop] at this
  have:0=all.length - k:=this
  omega
 subst hkl
 have hT:T.length ≤ 1000000:=by rw [k2.len]; exact k6
 refine RdO.at k1 (and2 rfl (RdO.at k1 (and2 rfl (and2 (Nat.le_trans hT (by decide)) (opt_b true (congrArg some (beq_iff_eq.mpr rfl)) ?_)))))
 show frzP v M2 fun p M=>Q (.tup [p,.bool true]) M
 exact hv _ _ (q _)
end
mutual
theorem pv_r:∀ {n:Nat} {x:PV},okD n x=true→pveq x x=true
 | n,.none,_=>rfl
 | n,.bool b,_=>beq_iff_eq.mpr rfl
 | n,.int b,_=>beq_iff_eq.mpr rfl
 | n,.str b,_=>beq_iff_eq.mpr rfl
 | 0,.tup b,h=>nomatch h
 | n + 1,.tup b,h=>pvs_r (n:=n) (x:=b) h
 | 0,.list b,h=>nomatch h
 | n + 1,.list b,h=>pvs_r (n:=n) (x:=b) h
 | n,.mref _,h=>by cases n <;> cases h
 | n,.fn _,h=>by cases n <;> cases h
 | n,.bi _,h=>by cases n <;> cases h
 | n,.dict _ _,h=>by cases n <;> cases h
 | n,.cls,h=>by cases n <;> cases h
theorem pvs_r:∀ {n:Nat} {x:List PV},okDs n x=true→pveqs x x=true
 | n,[],_=>rfl
 | n,x :: xs,h=>by
  have e:okDs n (x :: xs)=(okD n x && okDs n xs):=by cases n <;> rfl
  rw [e,Bool.and_eq_true] at h
  show (pveq x x && pveqs xs xs)=true
  rw [pv_r h.1,pvs_r h.2]; rfl
end
theorem ne_self {v:PV} {M:Mem} (h:okD 59 v=true):cmpv .ne (.tup [v,.bool true]) (.tup [v,.bool true]) M=some false:=by
 have h1:okD 60 (.tup [v,.bool true])=true:=by
  show (okD 59 v && true)=true
  rw [h]; rfl
 show (if okD 60 (.tup [v,.bool true]) && okD 60 (.tup [v,.bool true]) then some (!pveq (.tup [v,.bool true]) (.tup [v,.bool true])) else none)=_
 rw [h1,pv_r h1]; rfl
section
variable {C:Cx} {M M₀:Mem} {Q:PV→Mem→Prop} {d r n dp k:Nat} {ts us rest:List Tk} {v:PV}
theorem h_def (P:Pg C) {x:List Nat} {v:List PV} (h:TDef v ts) (hx:Txt x ts) (q:∀ M',Q (.tup [.tup v,.bool true]) M'):CallOk C (d + 43) (.fn 118) [.fn 95,.str x] M Q :=
 h_heard P (fun M r Q hr q=>(p_def P h (by decide) (by decide) hr q:CallOk C ((d + 1) + 41) _ _ _ _)) (fun M Q q=>q) hx h.ok h.len q
theorem TDiscs.frz (h:TDiscs v ts) (M:Mem) (Q:PV→Mem→Prop) (q:Q v M):frzP v M Q:=by cases h <;> exact q
theorem h_discs (P:Pg C) {x:List Nat} (h:TDiscs v ts) (hx:Txt x ts) (q:∀ M',Q (.tup [v,.bool true]) M'):CallOk C (d + 43) (.fn 118) [.fn 96,.str x] M Q :=
 h_heard P (fun M r Q hr q=>(p_discs P h (by decide) hr q:CallOk C ((d + 11) + 31) _ _ _ _)) h.frz hx h.ok h.len q
theorem e_vt {G:Nat→PV} {env:Lo} {K:PV→Mem→Prop} {i:Nat} (h:env[i]? = some (some v)) (hv:∀ (M:Mem) (Q:PV→Mem→Prop),Q v M→frzP v M Q) (q:K (.tup [v,.bool true]) M):wpE C G d (.tup (.cons (.loc i) (.cons (.cst (.bool true)) .nil))) env M K:=by
 show look env i fun x=>_
 unfold look; rw [h]
 exact hv M (fun p M=>K (.tup [p,.bool true]) M) q
theorem glue_pick {k:Int} {M:Mem} {K:PV→Prop} (q:∀ g,Glue g→K (.str (flat g))):binP .mod (.int k) (.int 3) M fun i=>subP (.tup [.str [32],.str [10],.str [32,45,45,32,105,115,32,110,117,108,108,59,10]]) i M K:=by
 refine and2 (by decide:(0:Int) < 3) ?_
 have h1:0 ≤ k % 3:=Int.emod_nonneg _ (by decide)
 have h2:k % 3 < 3:=Int.emod_lt_of_pos _ (by decide)
 have h3:k % 3=0∨k % 3=1∨k % 3=2:=by omega
 show subP _ (.int (k % 3)) M K
 rcases h3 with e | e | e
 ·rw [e]; exact and2 (by decide) (q _ g_1)
 ·rw [e]; exact and2 (by decide) (q _ g_2)
 ·rw [e]; exact and2 (by decide) (q _ g_3)
noncomputable abbrev b_law:Ss:=sbody (stm 7 f_law.body)
theorem law_turn (P:Pg C) {g:List Im} {f:Nat} {K:Out→Lo→Mem→Prop} {x0 x1 x2 x3 x4:Option PV} (hg:Glue g) (hh:∀ (x:List Nat) (M:Mem) (Q:PV→Mem→Prop),Txt x ts→(∀ M',Q (.tup [v,.bool true]) M')→CallOk C (d + 43) (.fn 118) [.fn f,.str x] M Q) (hv:∀ (M:Mem) (Q:PV→Mem→Prop),Q v M→frzP v M Q) (ho:okD 59 v=true) (h1:Sq false ts) (h2:ts.all Tk.ok=true) (h3:Ln 3000 ts)
  (q:∀ M',K .next [x0,x1,x2,x3,x4,some (.str (flat g)),some (.fn f),some v,some (.list (W ts))] M'):wpSs C theG (d + 43) b_law [x0,x1,x2,x3,x4,some (.str (flat g)),some (.fn f),some v,some (.list (W ts))] M K:=by
 have hx:=hg.txt h1 h2 h3
 have e1:=sum_len h2
 have e2:=Nat.le_of_ble_eq_true hg.len
 have h3:ts.length ≤ 3000:=h3
 have e3:(ts.map Tk.text).length * (flat g).length ≤ 3000 * 20:=by rw [List.length_map]; exact Nat.mul_le_mul h3 e2
 have e4:=hx.len
 rw [List.length_append] at e4
 refine and2 trivial (opt_at (strs_W ts) (and2 (by omega) (and2 (Nat.le_trans e4 (by decide)) (hh _ _ _ hx fun M'=>?_))))
 exact e_vt rfl hv (opt_b false (ne_self ho) (q M'))
theorem law_fin (P:Pg C) {g:List Im} (hg:Glue g) {x0 x1 x4:Option PV} {v:List PV} {w:PV} (h1:TDef v ts) (h2:TDiscs w us):wpSs C theG (d + 43) (skipS 7 f_law.body) [x0,x1,some (.tup v),some w,x4,some (.str (flat g)),none,none,none] M (retK fun v _=>v = .bool true):=by
 refine ss_for ?_
 refine w_spelled (d:=d + 31) P h1 fun ts' h1'=>?_
 have k2:=h2
 have fin:forP (fun x env M K=>opt (bindS (.inr [6,7,8]) x env) fun env=>wpSs C theG (d + 43) b_law env M K) [.tup [.fn 95,.tup v,.list (W ts')],.tup [.fn 96,w,.list (W us)]] [x0,x1,some (.tup v),some w,x4,some (.str (flat g)),none,none,none] M (seqK (fun env M Q=>wpSs C theG (d + 43) (skipS 8 f_law.body) env M Q) (retK fun v _=>v = .bool true)):=by
  refine law_turn P hg (fun x M Q hx q=>h_def P h1' hx q) (fun M Q q=>q) (okD_mono (by decide) h1.okD) h1'.sq h1'.ok h1'.len fun M'=>?_
  refine law_turn P hg (fun x M Q hx q=>h_discs P h2 hx q) h2.frz (okD_mono (by decide) h2.okD) h2.sq h2.ok h2.len fun M'=>?_
  exact rfl
 cases h2 <;> exact w_discs (d:=d + 35) P k2 (and2 (lk rfl) (IteP.mk fin))
theorem law_ok (P:Pg C) {l:List Int} (hl:l.length ≤ 63):CallOk C (d + 44) (.fn 119) [.list (l.map .int)] M fun v _=>v = .bool true:=by
 refine cl (d:=d + 43) P rfl rfl ?_
 have hl':(l.map PV.int).length ≤ 63:=by rw [List.length_map]; exact hl
 have e0:cut (l.map PV.int) none (some 40)=(l.take 40).map PV.int:=by
  show ((l.map PV.int).take 40).drop 0=_
  rw [List.drop_zero,List.map_take]
 refine and2 (by decide) (and2 (Nat.le_trans hl' (by decide)) ?_)
 refine and2 (by rw [e0,List.length_map,List.length_take]; exact Nat.le_trans (Nat.min_le_left _ _) (by decide)) ?_
 intro b hb
 rw [e0]
 have hc:Cells b M (M.upd b (.list ((l.take 40).map PV.int))):=⟨⟨_,upd_same,by rw [List.length_take]; omega⟩,fun c hc=>upd_ne hc⟩
 refine d_def (d:=d + 24) P hc fun v ts M1 h1 hc=>?_
 refine d_discs (d:=d + 39) P hc fun w us M2 h2 hc=>?_
 refine sn_def (d:=d + 28) P h1 fun x e ts' M3 he _ h1' hx=>?_
 refine h_def P h1' (hx.txt rfl) fun M4=>?_
 refine opt_b false (ne_self (okD_mono (by decide) h1.okD)) ?_
 refine sn_discs (d:=d + 34) P h2 fun x e he hx=>?_
 refine h_discs P h2 (hx.txt rfl) fun M5=>?_
 refine e_vt rfl h2.frz (opt_b false (ne_self (okD_mono (by decide) h2.okD)) ?_)
 refine IteP.mk (and2 (Nat.le_trans hl' (by decide)) ?_)
 have g1:∀ {M:Mem},40 < l.length→cmpv .gt (.int ((l.map PV.int).length:Int)) (.int 40) M=some true:=fun h=>by
  rw [List.length_map]; exact congrArg some (decide_eq_true (Int.ofNat_lt.mpr h))
 have g2:∀ {M:Mem},¬ 40 < l.length→cmpv .gt (.int ((l.map PV.int).length:Int)) (.int 40) M=some false:=fun h=>by
  rw [List.length_map]; exact congrArg some (decide_eq_false fun w=>h (Int.ofNat_lt.mp w))
 by_cases h40:40 < l.length
 ·refine e_cst (opt_b true (g1 h40) ?_)
  have e:(idx 40 (l.map PV.int).length).bind ((l.map PV.int)[·]?)=some (.int l[40]):=by
   have e:idx 40 (l.map PV.int).length=some 40:=(idx_nat 40 _).trans (if_pos (by rw [List.length_map]; exact h40))
   rw [e]
   show (l.map PV.int)[40]? = _
   rw [List.getElem?_map,List.getElem?_eq_getElem h40]; rfl
  refine opt_at e (glue_pick fun g hg=>?_)
  exact law_fin P hg h1 h2
 ·refine e_cst (opt_b false (g2 h40) ?_)
  refine glue_pick (k:=0) fun g hg=>?_
  exact law_fin P hg h1 h2
end
end Mine
end
section
open PySem PySem.W PySem.Calls
namespace Mine
open PyProof.Rows
theorem nk {n:Nat} (a b:Nat) (h:Nat.beq a b=false):n + a ≠ n + b:=fun e=>by rw [Nat.add_left_cancel e,Nat.beq_refl] at h; cases h
theorem lk' {l n:Nat} (h:l < n) (k:Nat):l ≠ n + k:=Nat.ne_of_lt (Nat.lt_of_lt_of_le h (Nat.le_add_right n k))
structure Zs (n l1 l2:Addr) (xs ys:Array Value) (f0 a b:Value) (k1 k2:Nat) (h:Heap):Prop where
 z:IsZip h (n + 4) (n + 2) (n + 3) f0
 ti:IsPair h (n + 2) (.ref (n + 0)) (.ref (n + 1))
 to:IsPair h (n + 3) a b
 i1:h.IsTupleIter (n + 0) l1 k1
 i2:h.IsTupleIter (n + 1) l2 k2
 t1:h.IsTuple l1 xs
 t2:h.IsTuple l2 ys
 lt1:l1 < n
 lt2:l2 < n
section
variable {n l1 l2:Addr} {xs ys:Array Value} {f0 a b f0' a' b':Value} {k1 k2 k1' k2':Nat} {h h':Heap}
theorem Zs.toz (c:Zs n l1 l2 xs ys f0 a b k1 k2 h) (e:IsZip h' (n + 4) (n + 2) (n + 3) f0') (x:Heap.ExtBut (n + 4) h h'):Zs n l1 l2 xs ys f0' a b k1 k2 h' :=
 ⟨e,x _ _ (nk 2 4 rfl) c.ti,x _ _ (nk 3 4 rfl) c.to,c.i1.extBut x (nk 0 4 rfl),c.i2.extBut x (nk 1 4 rfl),c.t1.extBut x (lk' c.lt1 4),c.t2.extBut x (lk' c.lt2 4),c.lt1,c.lt2⟩
theorem Zs.toto (c:Zs n l1 l2 xs ys f0 a b k1 k2 h) (e:IsPair h' (n + 3) a' b') (x:Heap.ExtBut (n + 3) h h'):Zs n l1 l2 xs ys f0 a' b' k1 k2 h' :=
 ⟨x _ _ (nk 4 3 rfl) c.z,x _ _ (nk 2 3 rfl) c.ti,e,c.i1.extBut x (nk 0 3 rfl),c.i2.extBut x (nk 1 3 rfl),c.t1.extBut x (lk' c.lt1 3),c.t2.extBut x (lk' c.lt2 3),c.lt1,c.lt2⟩
theorem Zs.to1 (c:Zs n l1 l2 xs ys f0 a b k1 k2 h) (e:h'.IsTupleIter (n + 0) l1 k1') (x:Heap.ExtBut (n + 0) h h'):Zs n l1 l2 xs ys f0 a b k1' k2 h' :=
 ⟨x _ _ (nk 4 0 rfl) c.z,x _ _ (nk 2 0 rfl) c.ti,x _ _ (nk 3 0 rfl) c.to,e,c.i2.extBut x (nk 1 0 rfl),c.t1.extBut x (lk' c.lt1 0),c.t2.extBut x (lk' c.lt2 0),c.lt1,c.lt2⟩
theorem Zs.to2 (c:Zs n l1 l2 xs ys f0 a b k1 k2 h) (e:h'.IsTupleIter (n + 1) l2 k2') (x:Heap.ExtBut (n + 1) h h'):Zs n l1 l2 xs ys f0 a b k1 k2' h' :=
 ⟨x _ _ (nk 4 1 rfl) c.z,x _ _ (nk 2 1 rfl) c.ti,x _ _ (nk 3 1 rfl) c.to,c.i1.extBut x (nk 0 1 rfl),e,c.t1.extBut x (lk' c.lt1 1),c.t2.extBut x (lk' c.lt2 1),c.lt1,c.lt2⟩
theorem Zs.keep (c:Zs n l1 l2 xs ys f0 a b k1 k2 h) (x:∀ q o,q=l1∨q=l2∨(∃ j,j < 5∧q=n + j)→h.get? q=some o→h'.get? q=some o):Zs n l1 l2 xs ys f0 a b k1 k2 h' :=
 ⟨x _ _ (.inr (.inr ⟨4,by decide,rfl⟩)) c.z,x _ _ (.inr (.inr ⟨2,by decide,rfl⟩)) c.ti,x _ _ (.inr (.inr ⟨3,by decide,rfl⟩)) c.to,c.i1.elim fun o e=>⟨o,x _ _ (.inr (.inr ⟨0,by decide,rfl⟩)) e.1,e.2⟩,c.i2.elim fun o e=>⟨o,x _ _ (.inr (.inr ⟨1,by decide,rfl⟩)) e.1,e.2⟩,
  c.t1.elim fun o e=>⟨o,x _ _ (.inl rfl) e.1,e.2⟩,c.t2.elim fun o e=>⟨o,x _ _ (.inr (.inl rfl)) e.1,e.2⟩,c.lt1,c.lt2⟩
end
section
variable {prog:Program} {w:World} {A:Around} {E:Value→Shared→Prop} {s:Shared} {n l1 l2:Addr} {xs ys:Array Value} {f0:Value} {k:Nat}
theorem nx_item {it t:Addr} {i:Nat} {items:Array Value} {x:Value} {Q:Value→Shared→Prop} (hit:s.heap.IsTupleIter it t i) (ht:s.heap.IsTuple t items) (hx:items[i]? = some x)
  (hQ:∀ h',h'.IsTupleIter it t (i + 1)→Heap.SameBut it s.heap h'→Q x { s with heap:=h' }):wpAny (model prog w) A (Builtin.SmallTypes.nextOf (.ref it)) Q E s:=by
 obtain ⟨o,ho,hc,hd⟩:=id hit
 obtain ⟨ol,hol,_,nl,hdl⟩:=ht
 unfold Builtin.SmallTypes.nextOf
 refine wpAny_bind (wpAny_callSpecial?_slot (name:=Str.ofString "__next__") hit.typeIs F.slot_tuple_iterator_next (wpAny_call_entry F.slot_tuple_iterator_next hit.typeIs F.entry_tuple_iterator_next ?_ (F.args_tuple_iterator_next_1 _)))
 refine wpAny_bind (wpAny_of_eq (a:=(Value.ref it,[])) rfl (wpAny_bind (wpAny_field ho hd (x:=.ref t) rfl ?_)))
 show wpAny _ _ (if false=true then _ else _) _ _ s
 rw [if_neg Bool.false_ne_true]
 refine wpAny_bind (wpAny_field ho hd (x:=.int i 0) rfl ?_)
 refine wpAny_bind (wpAny_seqItems hol hdl ?_)
 simp only [Int.toNat_natCast,hx]
 refine wpAny_bind (wpAny_setField ho hd (by simp) (wpAny_pure ⟨x,rfl,wpAny_pure (hQ _ ?_ (Heap.SameBut.update ..))⟩))
 exact ⟨_,Heap.get?_update_self _ ho (Obj.isFreed_of_fields (Obj.data_mapFields hd _)),(Obj.cls_mapFields ..).trans hc,by rw [Obj.data_mapFields hd]; rfl⟩
theorem nx_end {it t:Addr} {i:Nat} {items:Array Value} {Q:Value→Shared→Prop} (hh:A.handled=none) (hit:s.heap.IsTupleIter it t i) (ht:s.heap.IsTuple t items) (hx:items[i]? = none)
  (hE:∀ h' e,Heap.ExtBut it s.heap h'→(∃ o,h'.get? e=some o∧o.cls = .type "StopIteration")→E (.ref e) { s with heap:=h' }):wpAny (model prog w) A (Builtin.SmallTypes.nextOf (.ref it)) Q E s:=by
 obtain ⟨o,ho,hc,hd⟩:=id hit
 obtain ⟨ol,hol,_,nl,hdl⟩:=ht
 unfold Builtin.SmallTypes.nextOf
 refine wpAny_bind (wpAny_callSpecial?_slot (name:=Str.ofString "__next__") hit.typeIs F.slot_tuple_iterator_next (wpAny_call_entry F.slot_tuple_iterator_next hit.typeIs F.entry_tuple_iterator_next ?_ (F.args_tuple_iterator_next_1 _)))
 refine wpAny_bind (wpAny_of_eq (a:=(Value.ref it,[])) rfl (wpAny_bind (wpAny_field ho hd (x:=.ref t) rfl ?_)))
 show wpAny _ _ (if false=true then _ else _) _ _ s
 rw [if_neg Bool.false_ne_true]
 refine wpAny_bind (wpAny_field ho hd (x:=.int i 0) rfl ?_)
 refine wpAny_bind (wpAny_seqItems hol hdl ?_)
 simp only [Int.toNat_natCast,hx]
 refine wpAny_bind (wpAny_rule (wpAny_bind (wpAny_setField ho hd (by simp) ?_)))
 show wpAny _ _ (newExc (.type "StopIteration") [] >>= _) _ _ _
 refine wpAny_bind ?_
 simp only [newExc,newTuple]
 refine wpAny_bind (wpAny_newObj_type ?_ (by size_fits))
 refine wpAny_bind (m:=firstArgMember _ _) (wpAny_of_eq (a:=Value.none) (by first | rfl | (simp only [firstArgMember]; rfl)) ?_)
 refine wpAny_newObj_type ?_ (by size_fits)
 simp only [raiseNew]
 refine wpAny_bind (wpAny_handled ?_)
 rw [show A.in1.handled=none from hh]
 refine wpAny_bind (wpAny_pure (wpAny_throw ?_))
 exact hE _ _ (((Heap.SameBut.update ..).extBut.push _).push _) ⟨_,Heap.get?_push_size _ rfl,rfl⟩
end
section
variable {prog:Program} {w:World} {A:Around} {E:Value→Shared→Prop} {s:Shared} {n l1 l2:Addr} {xs ys:Array Value} {a b x y f0:Value} {k1 k2:Nat}
noncomputable def Zk (n:Nat) (h h':Heap):Prop:=∀ q o,(∀ j,j < 5→q ≠ n + j)→h.get? q=some o→h'.get? q=some o
theorem Zk.but {h h' h'':Heap} (j:Nat) (c:Zk n h h') (x:Heap.ExtBut (n + j) h' h'') (hj:j < 5):Zk n h h'':=fun q o hq e=>x q o (hq j hj) (c q o hq e)
theorem zn_go (hh:A.handled=none) (c:Zs n l1 l2 xs ys .none a b k1 k2 s.heap) {Q:Value→Shared→Prop}
  (hI:∀ x,xs[k1]? = some x→∃ y,ys[k2]? = some y∧∀ h',Zs n l1 l2 xs ys (rawInt s.heap.objs.size) x y (k1 + 1) (k2 + 1) h'→IsPair h' s.heap.objs.size x y→Zk n s.heap h'→Q (.ref s.heap.objs.size) { s with heap:=h' })
  (hE:xs[k1]? = none→∀ h' e,Zk n s.heap h'→(∃ o,h'.get? e=some o∧o.cls = .type "StopIteration")→E (.ref e) { s with heap:=h' }) :
  wpAny (model prog w) A (Builtin.«zip.__next__» ⟨[.ref (n + 4)],[]⟩) (fun fin s'=>∃ v,fin = .done (.ret v)∧Q v s') E s:=by
 refine wpAny_bind (wpAny_of_eq (a:=(Value.ref (n + 4),[])) rfl (wpAny_bind (wpAny_field c.z rfl (x:=.bool false) rfl ?_)))
 refine wpAny_bind (wpAny_field c.z rfl (x:=.ref (n + 2)) rfl (wpAny_bind (wpAny_seqItems c.ti rfl (wpAny_bind (wpAny_bind (wpAny_field c.z rfl (x:=.none) rfl (wpAny_pure ?_)))))))
 show wpAny _ _ (if true=true then _ else _) _ _ s
 rw [if_pos rfl]
 refine wpAny_bind (wpAny_rule (wpAny_bind (wpAny_field c.z rfl (x:=.ref (n + 3)) rfl (wpAny_bind (wpAny_setField_rec c.z (by simp) fun h₁ z1 s1=>?_)))))
 have c1:=c.toz (f0':=.ellipsis) z1 s1.extBut
 have q1:Zk n s.heap h₁:=Zk.but 4 (fun q o _ e=>e) s1.extBut (by decide)
 refine wpAny_bind ?_
 simp only [List.zipIdx_cons,List.zipIdx_nil,List.forIn_cons,List.forIn_nil]
 refine wpAny_bind (wpAny_bind (wpAny_onRaise (wpAny_bind ?_)))
 cases hx:xs[k1]? with
 | none =>
  refine nx_end hh c1.i1 c1.t1 hx fun h₂ e x2 he=>?_
  have z2:=x2 _ _ (nk 4 0 rfl) c1.z
  obtain ⟨oe,ho,hc⟩:=he
  refine wpAny_setField_rec z2 (by simp) fun h₃ _ s3=>hE hx h₃ e ((q1.but 0 x2 (by decide)).but 4 s3.extBut (by decide)) ⟨oe,s3.extBut _ _ (fun q=>?_) ho,hc⟩
  rw [q,z2] at ho
  cases ho
  simp at hc
 | some x =>
 obtain ⟨y,hy,hQ⟩:=hI x hx
 refine nx_item c1.i1 c1.t1 hx fun h₂ i2 s2=>wpAny_pure ?_
 have c2:=c1.to1 i2 s2.extBut
 have q2:=q1.but 0 s2.extBut (by decide)
 refine wpAny_bind (wpAny_seqItems c2.to rfl (wpAny_bind (wpAny_updateSeq_pair c2.to fun h₃ t3 s3=>wpAny_bind (wpAny_letGo _ _ (wpAny_pure ?_)))))
 have c3:=c2.toto (a':=x) (b':=b) t3 s3.extBut
 have q3:=q2.but 3 s3.extBut (by decide)
 refine wpAny_bind (wpAny_bind (wpAny_onRaise (wpAny_bind (nx_item c3.i2 c3.t2 hy fun h₄ i4 s4=>wpAny_pure ?_))))
 have c4:=c3.to2 i4 s4.extBut
 have q4:=q3.but 1 s4.extBut (by decide)
 refine wpAny_bind (wpAny_seqItems c4.to rfl (wpAny_bind (wpAny_updateSeq_pair c4.to fun h₅ t5 s5=>wpAny_bind (wpAny_letGo _ _ (wpAny_pure (wpAny_pure ?_))))))
 have c5:=c4.toto (a':=x) (b':=y) t5 s5.extBut
 have q5:=q4.but 3 s5.extBut (by decide)
 have e5:h₅.objs.size=s.heap.objs.size:=s5.1.trans (s4.1.trans (s3.1.trans (s2.1.trans s1.1)))
 refine wpAny_bind (wpAny_seqItems c5.to rfl (wpAny_bind (wpAny_newTuple ?_)))
 have c6:Zs n l1 l2 xs ys .ellipsis x y (k1 + 1) (k2 + 1) (h₅.push (tupObj [x,y] 0)):=c5.keep fun q o _ e=>Heap.get?_push_of_some _ e
 have t6:IsPair (h₅.push (tupObj [x,y] 0)) h₅.objs.size x y:=Heap.get?_push_size _ rfl
 have q6:Zk n s.heap (h₅.push (tupObj [x,y] 0)):=fun q o hq e=>Heap.get?_push_of_some _ (q5 q o hq e)
 refine wpAny_bind (wpAny_bind (wpAny_setField_rec c6.z (by simp) fun h₇ z7 s7=>?_))
 have c7:=c6.toz (f0':=rawInt h₅.objs.size) z7 s7.extBut
 refine wpAny_setField_rec c7.z (by simp) fun h₈ z8 s8=>?_
 have c8:=c7.toz (f0':=rawInt h₅.objs.size) z8 s8.extBut
 have ne:h₅.objs.size ≠ n + 4:=Nat.ne_of_gt (Heap.lt_size c5.z)
 refine wpAny_pure ⟨_,rfl,?_⟩
 show Q (.ref h₅.objs.size) _
 exact e5▸hQ h₈ (e5▸c8) (e5▸s8.extBut _ _ ne (s7.extBut _ _ ne t6)) ((q6.but 4 s7.extBut (by decide)).but 4 s8.extBut (by decide))
theorem zp_next (hh:A.handled=none) (c:Zs n l1 l2 xs ys .none a b k1 k2 s.heap) {Q:Option Value→Shared→Prop}
  (hI:∀ x,xs[k1]? = some x→∃ y,ys[k2]? = some y∧∀ h',Zs n l1 l2 xs ys (rawInt s.heap.objs.size) x y (k1 + 1) (k2 + 1) h'→IsPair h' s.heap.objs.size x y→Zk n s.heap h'→Q (some (.ref s.heap.objs.size)) { s with heap:=h' })
  (hE:xs[k1]? = none→∀ h',Zk n s.heap h'→Q none { s with heap:=h' }):wpAny (model prog w) A (pyNext (.ref (n + 4))) Q E s:=by
 have hT:s.TypeIs (.ref (n + 4)) "zip":=⟨_,c.z,rfl⟩
 unfold pyNext
 refine wpAny_bind (wpAny_attempt (wpAny_callSpecial?_slot (name:=Str.ofString "__next__") hT F.slot_zip_next (wpAny_call_entry F.slot_zip_next hT F.entry_zip_next
  (zn_go (A:=A.in1) hh c (fun x hx=>(hI x hx).elim fun y h=>⟨y,h.1,fun h' a1 a2 a3=>wpAny_pure (h.2 h' a1 a2 a3)⟩) fun hx h' e hk he=>?_) (F.args_zip_next_1 _))))
 exact wpAny_bind (wpAny_isInstance (T:="StopIteration") (b:=true) he isSubtype_stop (wpAny_pure (hE hx h' hk)))
noncomputable abbrev tH1 (h:Heap) (l1:Addr):Heap:=h.push { cls:=.type "tuple_iterator",data:=.fields #[.ref l1,.int 0 0] }
noncomputable abbrev tH2 (h:Heap) (l1 l2:Addr):Heap:=(tH1 h l1).push { cls:=.type "tuple_iterator",data:=.fields #[.ref l2,.int 0 0] }
noncomputable abbrev tH3 (h:Heap) (l1 l2:Addr):Heap:=(tH2 h l1 l2).push { cls:=.type "tuple",data:=.seq #[.ref h.objs.size,.ref (tH1 h l1).objs.size] }
noncomputable abbrev tH4 (h:Heap) (l1 l2:Addr):Heap:=(tH3 h l1 l2).push { cls:=.type "tuple",data:=.seq #[.none,.none] }
noncomputable abbrev tH5 (h:Heap) (l1 l2:Addr):Heap:=(tH4 h l1 l2).push { cls:=.type "zip",data:=.fields #[.none,.bool false,.bool false,.ref (tH2 h l1 l2).objs.size,.ref (tH3 h l1 l2).objs.size] }
theorem zip_new (l1 l2:Addr) (xs ys:Array Value) :
  Meets (Builtin.«zip.__new__» ⟨[.type "zip",.ref l1,.ref l2],[]⟩) (fun _ R s=>s.heap.IsTuple l1 xs∧s.heap.IsTuple l2 ys ∧
   R (.ok (.ret (.ref (tH4 s.heap l1 l2).objs.size))) { s with heap:=tH5 s.heap l1 l2 }) :=
 .of_wp fun prog w A R s h=>by
  obtain ⟨hp,g,d,tk,os⟩:=s; obtain ⟨hl1,hl2,h⟩:=h
  have hsub:=sub_zip
  have hL1:Heap.IsTuple (Shared.heap ⟨hp,g,d,tk,os⟩) l1 xs:=hl1
  have hL2:Heap.IsTuple (Shared.heap ⟨hp.push { cls:=.type "tuple_iterator",data:=.fields #[.ref l1,.int 0 0] },g,d,tk,os⟩) l2 ys:=Heap.IsTuple.push hl2 _
  wp_walk using wpAny_pyIter_tuple hL1,wpAny_pyIter_tuple hL2
  exact ⟨_,rfl,h⟩
theorem zip_call {Q:Value→Shared→Prop} (t1:s.heap.IsTuple l1 xs) (t2:s.heap.IsTuple l2 ys)
  (h:∀ h',Zs s.heap.objs.size l1 l2 xs ys .none .none .none 0 0 h'→(∀ c o,s.heap.get? c=some o→h'.get? c=some o)→Q (.ref (s.heap.objs.size + 4)) { s with heap:=h' }) :
  wpAny (model prog w) A (call (.type "zip") [.ref l1,.ref l2]) Q E s:=by
 refine callType_new F.called_zip (by decide) (F.typeCall_zip_2 _ _) (F.newCall_zip_2 _ _) (fun obj=>F.args_object_init_3 obj _ _) F.entry_zip_new (zip_new l1 l2 xs ys) ⟨t1,t2,?_⟩
 have p:∀ (h:Heap) (o:Obj) c x,h.get? c=some x→(h.push o).get? c=some x:=fun h o c x e=>Heap.get?_push_of_some o e
 have z1:(tH1 s.heap l1).objs.size=s.heap.objs.size + 1:=Heap.size_push ..
 have z2:(tH2 s.heap l1 l2).objs.size=s.heap.objs.size + 2:=(Heap.size_push ..).trans (congrArg Nat.succ z1)
 have z3:(tH3 s.heap l1 l2).objs.size=s.heap.objs.size + 3:=(Heap.size_push ..).trans (congrArg Nat.succ z2)
 have z4:(tH4 s.heap l1 l2).objs.size=s.heap.objs.size + 4:=(Heap.size_push ..).trans (congrArg Nat.succ z3)
 have g5:(tH5 s.heap l1 l2).get? (tH4 s.heap l1 l2).objs.size=some _:=Heap.get?_push_size _ rfl
 have g4:(tH5 s.heap l1 l2).get? (tH3 s.heap l1 l2).objs.size=some _:=p _ _ _ _ (Heap.get?_push_size _ rfl)
 have g3:(tH5 s.heap l1 l2).get? (tH2 s.heap l1 l2).objs.size=some _:=p _ _ _ _ (p _ _ _ _ (Heap.get?_push_size _ rfl))
 have g2:(tH5 s.heap l1 l2).get? (tH1 s.heap l1).objs.size=some _:=p _ _ _ _ (p _ _ _ _ (p _ _ _ _ (Heap.get?_push_size _ rfl)))
 have g1:(tH5 s.heap l1 l2).get? s.heap.objs.size=some _:=p _ _ _ _ (p _ _ _ _ (p _ _ _ _ (p _ _ _ _ (Heap.get?_push_size _ rfl))))
 have kp:∀ c o,s.heap.get? c=some o→(tH5 s.heap l1 l2).get? c=some o:=fun c o e=>p _ _ _ _ (p _ _ _ _ (p _ _ _ _ (p _ _ _ _ (p _ _ _ _ e))))
 show _∧_
 generalize tH5 s.heap l1 l2=H at g1 g2 g3 g4 g5 kp ⊢
 rw [z4,z2,z3] at g5
 rw [z3] at g4
 rw [z2,z1] at g3
 rw [z1] at g2
 rw [z4]
 exact ⟨⟨_,g5,rfl⟩,h _ ⟨g5,g3,g4,⟨_,g1,rfl,rfl⟩,⟨_,g2,rfl,rfl⟩,t1.elim fun o e=>⟨o,kp _ _ e.1,e.2⟩,t2.elim fun o e=>⟨o,kp _ _ e.1,e.2⟩,t1.elim fun o e=>Heap.lt_size e.1,t2.elim fun o e=>Heap.lt_size e.1⟩ kp⟩
end
structure Upd (W:Addr→Prop) (τ τ':Tags) (s s':Shared):Prop where
 keep:∀ b o,s.heap.get? b=some o→¬ W b→s'.heap.get? b=some o∧τ' b=τ b
 os:s'.os=s.os
 gens:s'.gens=s.gens
noncomputable def Wz (n b:Nat):Prop:=∃ j,j < 5∧b=n + j
noncomputable def flR:List (List Nat)→List Bool→List PV
 | w :: ws,b :: bs=>flW b w++flR ws bs
 | _,_=>[]
section
variable {C:Cx} {k:Kn} {f:Fs} {G:Nat→PV} {d:Nat} {env:Env} {A:Around} {τ τ' τ₀:Tags} {s s' s₀:Shared} {W:Addr→Prop} {lo:Lo} {M:Mem} {D:Addr} {acc:List PV}
theorem Upd.dk (u:Upd W τ τ' s s') (hW:∀ b,W b→τ b = .other):DKeep τ τ' s.heap s'.heap:=fun b o e t =>
 have q:=u.keep b o e fun w=>by rw [hW b w] at t; cases t
 ⟨q.1,q.2.trans t⟩
theorem Upd.pre (u:Upd W τ τ' s s') (hW:∀ b,W b→τ b = .other) (hL:¬ W env.locals) (P:Pre C f d env A τ s.heap lo M):Pre C f d env A τ' s'.heap lo M:=by
 obtain ⟨m,n,t,v⟩:=P.fr
 exact ⟨P.room,base_dk P.base (u.dk hW),⟨m,ns_keep n fun o ho=>(u.keep _ _ ho hL).1,(ns_has n).elim fun o ho=>(u.keep _ _ ho hL).2.trans t,fun i x p a b=>(v i x p a b).ext (u.dk hW)⟩,
  fun a o e=>(P.mem a o e).keep (u.dk hW) fun b ob e1 t1=>have q:=u.keep b ob e1 fun w=>oth_part (hW b w) t1; ⟨q.1,q.2.trans t1⟩⟩
theorem Upd.ext (u:Upd W τ τ' s s') (e:Ext none τ₀ τ s₀ s) (h0:∀ b o,s₀.heap.get? b=some o→¬ W b):Ext none τ₀ τ' s₀ s':=⟨fun b o g hb hp=>by
 obtain ⟨e1,t1⟩:=e.keep b o g hb hp
 obtain ⟨e2,t2⟩:=u.keep b o e1 (h0 b o g)
 exact ⟨e2,t2.trans t1⟩,u.os.trans e.os,u.gens.trans e.gens⟩
theorem Upd.dd (u:Upd W τ τ' s s') (hW:∀ b,W b→τ b = .other) (hD:¬ W D) (c:Dd C τ s.heap D acc):Dd C τ' s'.heap D acc:=by
 obtain ⟨e,r,t⟩:=c
 exact ⟨(u.keep _ _ e hD).1,r.mono (u.dk hW),(u.keep _ _ e hD).2.trans t⟩
theorem strs_any {h:Heap} {τ':Tags} {h':Heap}:∀ {ws:List (List Nat)} {vs:List Value},VRs C τ h vs (ws.map .str)→VRs C τ' h' vs (ws.map .str)
 | [],vs,r=>r.nil_i .nil
 | w :: ws,vs,r=>r.cons_i fun v vs a b=>.cons (a.str_i fun t=>.str _ _) (strs_any b)
theorem bools_any {h:Heap} {τ':Tags} {h':Heap}:∀ {ws:List Bool} {vs:List Value},VRs C τ h vs (ws.map .bool)→VRs C τ' h' vs (ws.map .bool)
 | [],vs,r=>r.nil_i .nil
 | w :: ws,vs,r=>r.cons_i fun v vs a b=>.cons (vi_bool a▸.bool _) (bools_any b)
structure ZI (C:Cx) (f:Fs) (d:Nat) (env:Env) (A:Around) (τ₀:Tags) (s₀:Shared) (D n l1 l2:Addr) (vs us:List Value) (k:Nat) (acc:List PV) (M:Mem) (τ:Tags) (s:Shared):Prop where
 ext:Ext none τ₀ τ s₀ s
 pre:Pre C f d env A τ s.heap [none,none] M
 dd:Dd C τ s.heap D acc
 zs:∃ a b,Zs n l1 l2 vs.toArray us.toArray .none a b k k s.heap
 t:∀ b,Wz n b→τ b = .other
 t1:τ l1 = .data
 t2:τ l2 = .data
section
variable {n l1 l2:Addr} {vs us:List Value} {i:Nat}
theorem zs_ext {a b f0:Value} {k1 k2:Nat} (c:Zs n l1 l2 vs.toArray us.toArray f0 a b k1 k2 s.heap) (t:∀ b,Wz n b→τ b = .other) (t1:τ l1 = .data) (t2:τ l2 = .data) (x:Ext none τ τ' s s'):Zs n l1 l2 vs.toArray us.toArray f0 a b k1 k2 s'.heap :=
 c.keep fun q o hq e=>(x.keep q o e (fun e=>no e.symm) fun p tp=>by
  rcases hq with rfl | rfl | hq
  ·rw [t1] at tp; cases tp
  ·rw [t2] at tp; cases tp
  ·exact oth_part (t q hq) tp).1
theorem zs_chg {a b f0:Value} {k1 k2:Nat} {x:Addr} (c:Zs n l1 l2 vs.toArray us.toArray f0 a b k1 k2 s.heap) (t1:τ l1 = .data) (t2:τ l2 = .data) (tx:τ x = .other) (hx:¬ Wz n x) (ch:Chg x s s'):Zs n l1 l2 vs.toArray us.toArray f0 a b k1 k2 s'.heap :=
 c.keep fun q o hq e=>ch.keep q o (fun h=>by
  subst h
  rcases hq with rfl | rfl | hq
  ·rw [t1] at tx; cases tx
  ·rw [t2] at tx; cases tx
  ·exact hx hq) e
theorem Zs.has {a b f0:Value} {k1 k2 q:Nat} {xs ys:Array Value} {h:Heap} (z:Zs n l1 l2 xs ys f0 a b k1 k2 h) (hq:Wz n q):∃ o,h.get? q=some o:=match q,hq with
 | _,⟨0,_,rfl⟩=>z.i1.imp fun o e=>e.1
 | _,⟨1,_,rfl⟩=>z.i2.imp fun o e=>e.1
 | _,⟨2,_,rfl⟩=>⟨_,z.ti⟩
 | _,⟨3,_,rfl⟩=>⟨_,z.to⟩
 | _,⟨4,_,rfl⟩=>⟨_,z.z⟩
 | _,⟨j + 5,h,_⟩=>absurd h (Nat.not_lt.mpr (Nat.le_add_left 5 j))
theorem ZI.ex {M':Mem} (c:ZI C f d env A τ₀ s₀ D n l1 l2 vs us i acc M τ s) (x:Ext none τ τ' s s') (m:MemOk C M' τ' s'.heap):ZI C f d env A τ₀ s₀ D n l1 l2 vs us i acc M' τ' s':=by
 obtain ⟨a,b,z⟩:=c.zs
 have kt:∀ q o,s.heap.get? q=some o→(∀ p,τ q ≠ .part p)→τ' q=τ q:=fun q o e h=>(x.keep q o e (fun e=>no e.symm) h).2
 refine ⟨c.ext.trans x,c.pre.ext x m,c.dd.ext x,⟨a,b,zs_ext z c.t c.t1 c.t2 x⟩,fun q hq=>?_,?_,?_⟩
 ·obtain ⟨o,e⟩:=z.has hq
  exact (kt q o e fun p tp=>oth_part (c.t q hq) tp).trans (c.t q hq)
 ·exact z.t1.elim fun o e=>(kt _ o e.1 fun p tp=>by rw [c.t1] at tp; cases tp).trans c.t1
 ·exact z.t2.elim fun o e=>(kt _ o e.1 fun p tp=>by rw [c.t2] at tp; cases tp).trans c.t2
end
end
section
variable {C:Cx} {k:Kn} {f:Fs} {G:Nat→PV} {d:Nat} {env:Env} {A:Around} {τ τ' τ₀:Tags} {s s' s₀:Shared} {lo:Lo} {M:Mem} {D:Addr} {acc:List PV} {n l1 l2:Addr} {vs us:List Value} {i:Nat}
inductive ZJ (C:Cx) (f:Fs) (d:Nat) (env:Env) (A:Around) (τ₀:Tags) (s₀:Shared) (D n l1 l2:Addr) (vs us:List Value) (ws:List (List Nat)) (bs:List Bool) (M:Mem) (Q:List PV→Prop) (m:Nat) (s:Shared):Prop
 | mk (j:Nat) (ac:List PV) (t:Tags) (hi:j ≤ ws.length) (ha:ac.length ≤ j) (hm:m=ws.length + 1 - j) (c:ZI C f d env A τ₀ s₀ D n l1 l2 vs us j ac M t s) (q:Q (ac++flR (ws.drop j) (bs.drop j))):ZJ C f d env A τ₀ s₀ D n l1 l2 vs us ws bs M Q m s
theorem zip_turn {x y:Value} {h2:Heap} {ifs:List Expr} {elt tgt:Expr} {w:List Nat} {bb:Bool} {J:Nat→Shared→Prop} {m:Nat} (X:EnvOk C f env) (ht:tgtOk f (.inr [0,1]) tgt=true) (hif:SFor C k f G d env (.cons (.val (.loc 1)) .nil) ifs) (helt:SE C k f G d env (.loc 0) elt)
  (nL:¬ Wz n env.locals) (nD:¬ Wz n D) (DL:D ≠ env.locals) (h0:∀ b o,s₀.heap.get? b=some o→¬ Wz n b) (h0D:s₀.heap.get? D=none) (h0L:s₀.heap.get? env.locals=none) (c:ZI C f d env A τ₀ s₀ D n l1 l2 vs us i acc M τ s) (rx:VR C τ s.heap x (.str w)) (ry:VR C τ s.heap y (.bool bb))
  (u:Upd (Wz n) τ (τ.set s.heap.objs.size .data) s { s with heap:=h2 }) (z:∃ a b,Zs n l1 l2 vs.toArray us.toArray .none a b (i + 1) (i + 1) h2) (pT:h2.get? s.heap.objs.size=some (tupObj [x,y] 0)) (hlen:acc.length ≤ 10000000)
  (hJ:∀ acc' τ' s',acc'.length ≤ acc.length + 1→acc'=acc++flW bb w→ZI C f d env A τ₀ s₀ D n l1 l2 vs us (i + 1) acc' M τ' s'→∃ m',m' < m∧J m' s') :
  wpAny (model C.prog C.w) A (assign tgt env (.ref s.heap.objs.size)) (fun _ s₂ =>
     wpAny (model C.prog C.w) A (forIn ifs true fun c r=>if r=true then do let ok ← isTrue c env (eval c env); pure (ForInStep.yield ok) else pure (ForInStep.yield r)) (fun ok s₃ =>
      if ok=true then wpAny (model C.prog C.w) A (eval elt env) (fun x s₄ =>
       wpAny (model C.prog C.w) A (call (.builtin "list.append") [.ref D,x]) (fun _ s₅=>∃ m',m' < m∧J m' s₅) NoE s₄) NoE s₃
      else ∃ m',m' < m∧J m' s₃) NoE s₂) NoE { s with heap:=h2 }:=by
 obtain ⟨a',b',z'⟩:=c.zs
 have tz:∀ q,Wz n q→(τ.set s.heap.objs.size .data) q = .other:=fun q hq=>(Tags.set_ne _ _ (Nat.ne_of_lt ((z'.has hq).elim fun o e=>Heap.lt_size e))).trans (c.t q hq)
 have P1:=u.pre c.t nL c.pre
 have rT:VR C (τ.set s.heap.objs.size .data) h2 (.ref s.heap.objs.size) (.tup [.str w,.bool bb]):=.tup (vs:=[x,y]) (n:=0) pT (Tags.set_same ..) (.cons (rx.mono (u.dk c.t)) (.cons (ry.mono (u.dk c.t)) .nil))
 refine tgt_ok (s:={ s with heap:=h2 }) (M:=M) (R:=fun lo'=>lo'=[some (.str w),some (.bool bb)]) X ht P1 rT rfl fun lo' s2 ch2 P2 hlo=>?_
 subst hlo
 have tL:=P1.loc
 have c2:ZI C f d env A τ₀ s₀ D n l1 l2 vs us (i + 1) acc M (τ.set s.heap.objs.size .data) s2:=⟨ch2.ext tL (u.ext c.ext h0) (.inl h0L),P2.weaken fun i p h=>(lo_n i p h).elim,(u.dd c.t nD c.dd).chg ch2 tL DL,
  (by obtain ⟨a,b,z⟩:=z; exact ⟨a,b,zs_chg (s:={ s with heap:=h2 }) z (set_data _ c.t1) (set_data _ c.t2) tL nL ch2⟩),tz,set_data _ c.t1,set_data _ c.t2⟩
 refine wpAny_mono (hif _ M (fun b M'=>b=bb∧M'=M) A s2 _ P2 (by cases bb <;> exact and2 rfl rfl)) (fun ok s3 q3=>?_) fun _ _ e=>e
 obtain ⟨M3,τ3,x3,m3,rfl,rfl⟩:=q3
 have c3:=c2.ex x3 m3
 cases ok with
 | false=>exact hJ _ _ _ (Nat.le_succ _) (List.append_nil _).symm c3
 | true =>
  refine SE.go (Q:=fun p M'=>p = .str w∧M'=M3) helt (P2.ext x3 m3) (and2 rfl rfl) fun v s4 p M4 τ4 x4 P4 r4 q4=>?_
  obtain ⟨rfl,rfl⟩:=q4
  have c4:=c3.ex x4 P4.mem
  exact c4.dd.push r4 hlen fun h6 ch6 t6 d6=>by
   obtain ⟨a,b,z4⟩:=c4.zs
   exact hJ _ τ4 { s4 with heap:=h6 } (by rw [List.length_append]; exact Nat.le_refl _) rfl ⟨ch6.ext t6 c4.ext (.inl h0D),c4.pre.chg ch6 t6 DL.symm,d6,⟨a,b,zs_chg z4 c4.t1 c4.t2 t6 nD ch6⟩,c4.t,c4.t1,c4.t2⟩
theorem zip_loop {x tgt iter:Expr} {ifs:List Expr} {scope:Scope} {pos:Pos} (X:EnvOk C f env) (ht:tgtOk f (.inr [0,1]) tgt=true) (hif:SFor C k f G d env (.cons (.val (.loc 1)) .nil) ifs) (helt:SE C k f G d env (.loc 0) x)
  {ws:List (List Nat)} {bs:List Bool} (hl:bs.length=ws.length) (h3:ws.length ≤ 10000000) (hv:VRs C τ s.heap vs (ws.map .str)) (hu:VRs C τ s.heap us (bs.map .bool))
  (nL:¬ Wz n env.locals) (nD:¬ Wz n D) (DL:D ≠ env.locals) (h0:∀ b o,s₀.heap.get? b=some o→¬ Wz n b) (h0D:s₀.heap.get? D=none) (h0L:s₀.heap.get? env.locals=none)
  (c:ZI C f d env A τ₀ s₀ D n l1 l2 vs us 0 [] M τ s) {Q:List PV→Prop} (q:Q (flR ws bs)) {R:Result→Shared→Prop} (hR:∀ acc τ' s',CEnd C τ₀ s₀ D env.locals acc M τ' s'→Q acc→R (.ok .next) s') :
  codeAny (model C.prog C.w) A (.compLoop (.ListComp x [⟨tgt,iter,ifs,0⟩] scope pos) 0 (.ref (n + 4)) (.ref D) env) R s:=by
 refine compLoop_gen (ZJ C f d env A τ₀ s₀ D n l1 l2 vs us ws bs M Q) (fun m s' j=>?_) (ws.length + 1) ⟨0,[],τ,Nat.zero_le _,Nat.le_refl _,rfl,c,q⟩
 obtain ⟨i,ac,t,hi,ha,rfl,c,q⟩:=j
 obtain ⟨a,b,z⟩:=c.zs
 have lv:vs.length=ws.length:=hv.length.trans (List.length_map ..)
 refine zp_next c.pre.room.1 z (fun x hx=>?_) fun hx h' zk=>?_
 ·rw [List.getElem?_toArray] at hx
  have lt:i < ws.length:=lv▸(List.getElem?_eq_some_iff.mp hx).1
  have e1:ws[i]? = some ws[i]:=List.getElem?_eq_getElem lt
  have e2:bs[i]? = some (bs[i]'(hl▸lt)):=List.getElem?_eq_getElem _
  generalize ws[i]=w at e1
  generalize bs[i]'(hl▸lt)=bb at e2
  obtain ⟨x',hx',rx⟩:=(strs_any (τ':=t) (h':=s'.heap) hv).get (show (ws.map PV.str)[i]? = some (.str w) by rw [List.getElem?_map,e1]; rfl)
  obtain rfl:=Option.some.inj (hx'.symm.trans hx)
  obtain ⟨y,hy,ry⟩:=(bools_any (τ':=t) (h':=s'.heap) hu).get (show (bs.map PV.bool)[i]? = some (.bool bb) by rw [List.getElem?_map,e2]; rfl)
  refine ⟨y,List.getElem?_toArray.trans hy,fun h1 z1 pr zk=>?_⟩
  rw [drop_at e1,drop_at e2] at q
  have hT:¬ Wz n s'.heap.objs.size:=fun h=>(z.has h).elim fun o e=>Nat.lt_irrefl _ (Heap.lt_size e)
  obtain ⟨es,kk,px,rfl⟩:∃ es kk px,tgt = .Tuple es kk px:=kTuple_i (P:=fun tgt=>∃ es kk px,tgt = .Tuple es kk px) ht fun es kk p _=>⟨es,kk,p,rfl⟩
  refine wpAny_letOwnedTupleGo_zip z1.z fun h2 z2 hs=>?_
  have u:Upd (Wz n) t (t.set s'.heap.objs.size .data) s' { s' with heap:=h2 }:=⟨fun q o e nw=>⟨hs.extBut _ _ (fun e=>nw ⟨4,by decide,e⟩) (zk q o (fun j hj e=>nw ⟨j,hj,e⟩) e),Tags.set_ne _ _ (Nat.ne_of_lt (Heap.lt_size e))⟩,rfl,rfl⟩
  exact zip_turn X ht hif helt nL nD DL h0 h0D h0L c rx ry u ⟨x',y,z1.toz z2 hs.extBut⟩ (hs.extBut _ _ (fun e=>hT ⟨4,by decide,e⟩) pr) (Nat.le_trans ha (Nat.le_trans hi h3))
   fun ac' τ2 s2 hl2 e c2=>⟨_,sub_lt lt,i + 1,ac',τ2,lt,Nat.le_trans hl2 (Nat.succ_le_succ ha),rfl,c2,by rw [e,List.append_assoc]; exact q⟩
 ·rw [List.getElem?_toArray] at hx
  have e:i=ws.length:=Nat.le_antisymm hi (lv▸List.getElem?_eq_none_iff.mp hx)
  subst e
  rw [List.drop_length,show flR [] (bs.drop ws.length)=[] from rfl,List.append_nil] at q
  have u:Upd (Wz n) t t s' { s' with heap:=h' }:=⟨fun q o e nw=>⟨zk q o (fun j hj e=>nw ⟨j,hj,e⟩) e,rfl⟩,rfl,rfl⟩
  have P:=u.pre c.t nL c.pre
  exact hR _ t { s' with heap:=h' } ⟨u.ext c.ext h0,P.mem,u.dd c.t nD c.dd,(by obtain ⟨m,n,_,_⟩:=P.fr; exact ⟨m,n⟩),P.loc⟩ q
end
noncomputable def zws:List (List Nat):=[[97,98,115,116,114,97,99,116],[116,97,103,103,101,100],[108,105,109,105,116,101,100]]
section
variable {C:Cx} {k:Kn} {G:Nat→PV} {d:Nat} {env:Env} {A:Around} {τ:Tags} {s:Shared} {M:Mem}
noncomputable def LoadZ (C:Cx):Prop:=∀ (env:Env) (A:Around) (s:Shared) (τ:Tags) (Q E:Value→Shared→Prop),env.globals=C.mod→env.builtins=C.bmod→Base C τ s.heap→Q (.type "zip") s→wpAny (model C.prog C.w) A (loadGlobal env (Str.ofString "zip")) Q E s
inductive ZS (C:Cx) (f:Fs) (d:Nat) (env:Env) (A:Around) (lo:Lo) (M:Mem) (τ:Tags) (s:Shared) (bs:List Bool) (I:Addr) (s':Shared):Prop
 | mk (τ2:Tags) (s2:Shared) (x:Ext none τ τ2 s s2) (P:Pre C f d env A τ2 s2.heap lo M) (l1 l2:Addr) (vs us:List Value) (n:Addr) (e:I=n + 4) (hn:n=s2.heap.objs.size) (z:Zs n l1 l2 vs.toArray us.toArray .none .none .none 0 0 s'.heap)
   (kp:∀ c o,s2.heap.get? c=some o→s'.heap.get? c=some o) (os:s'.os=s2.os) (gens:s'.gens=s2.gens) (t1:∃ o,s2.heap.get? l1=some o∧τ2 l1 = .data) (t2:∃ o,s2.heap.get? l2=some o∧τ2 l2 = .data) (r1:VRs C τ2 s2.heap vs (zws.map .str)) (r2:VRs C τ2 s2.heap us (bs.map .bool)):ZS C f d env A lo M τ s bs I s'
theorem zip_iter (O:GOk C k G) (lz:LoadZ C) (X:EnvOk C zf env) {bs:List Bool} {iter:Expr} (h:zI k iter=true) (P:Pre C zf d env A τ s.heap [some (.tup (bs.map .bool))] M) {K:Value→Shared→Prop}
  (hK:∀ I s',ZS C zf d env A [some (.tup (bs.map .bool))] M τ s bs I s'→K (.ref I) s'):wpAny (model C.prog C.w) A (eval iter env) (fun xv s₁=>wpAny (model C.prog C.w) A (pyIter xv) K NoE s₁) NoE s :=
 kCall_i (P:=fun iter=>wpAny (model C.prog C.w) A (eval iter env) (fun xv s₁=>wpAny (model C.prog C.w) A (pyIter xv) K NoE s₁) NoE s) h fun c args kws p h=>kName_i (P:=fun c=>wpAny (model C.prog C.w) A (eval (.Call c args kws p) env) (fun xv s₁=>wpAny (model C.prog C.w) A (pyIter xv) K NoE s₁) NoE s) h fun nm np h =>
  twoL_i (P:=fun args=>wpAny (model C.prog C.w) A (eval (.Call (.Name nm np) args kws p) env) (fun xv s₁=>wpAny (model C.prog C.w) A (pyIter xv) K NoE s₁) NoE s) h fun a1 a2 h=>nil_i (P:=fun kws=>wpAny (model C.prog C.w) A (eval (.Call (.Name nm np) [a1,a2] kws p) env) (fun xv s₁=>wpAny (model C.prog C.w) A (pyIter xv) K NoE s₁) NoE s) h fun h =>
  eq_i (P:=fun nm=>wpAny (model C.prog C.w) A (eval (.Call (.Name nm np) [a1,a2] [] p) env) (fun xv s₁=>wpAny (model C.prog C.w) A (pyIter xv) K NoE s₁) NoE s) h fun h=>by
  refine wpAny_Call_any rfl (Name_function_global X.kind ((kind_is X _).trans rfl) (lz env A s τ _ _ X.globals X.builtins P.base ?_) (by decide +kernel))
  rw [back_cons (ntb h),back_cons (ntb (bb h))]
  refine PySem.callWith_type rfl (evalArgs_plain (spliced_cons (SE.go (Q:=fun p M'=>p = .tup (zws.map .str)∧M'=M) (sE O zT zf env X _ (ba (bb (bb h)))) P (and2 rfl rfl) fun v1 s1 p1 M1 τ1 x1 P1 r1 q1=>spliced_cons (SE.go (M:=M1) (lo:=[some (.tup (bs.map .bool))]) (Q:=fun p M'=>p = .tup (bs.map .bool)∧M'=M1) (sE O (.loc 0) zf env X _ (bb (bb (bb h)))) P1 (and2 rfl rfl) fun v2 s2 p2 M2 τ2 x2 P2 r2 q2=>spliced_nil ?_))))
  obtain ⟨rfl,rfl⟩:=q1
  obtain ⟨rfl,rfl⟩:=q2
  refine (r1.mono x2.dkeep).tup_i (P:=fun v1=>wpAny _ _ (call _ [v1,v2] []) _ _ s2) fun l1 vs m1 e1 t1 r1=>r2.tup_i (P:=fun v2=>wpAny _ _ (call _ [.ref l1,v2] []) _ _ s2) fun l2 us m2 e2 t2 r2=>?_
  refine zip_call ⟨_,e1,rfl,_,rfl⟩ ⟨_,e2,rfl,_,rfl⟩ fun h' z kp=>wpAny_pyIter_zip z.z (hK _ _ ⟨τ2,s2,x1.trans x2,P2,l1,l2,vs,us,_,rfl,rfl,z,kp,rfl,rfl,⟨_,e1,t1⟩,⟨_,e2,t2⟩,r1,r2⟩)
theorem zip_comp (O:GOk C k G) (lz:LoadZ C) (X:EnvOk C zf env) {bs:List Bool} (hb:bs.length=3) {x tgt iter:Expr} {ifs:List Expr} {scope:Scope} {pos p:Pos} (o:CompOk zf 2 [] scope tgt) (ht:tgtOk (inner zf 2 tgt [] scope) (.inr [0,1]) tgt=true) (hn:notSet iter=true)
  (hif:mTs k (inner zf 2 tgt [] scope) (.cons (.val (.loc 1)) .nil) ifs=true) (hel:mE k (inner zf 2 tgt [] scope) (.loc 0) x=true) (hi:zI k iter=true) (P:Pre C zf d env A τ s.heap [some (.tup (bs.map .bool))] M) {Q:PV→Mem→Prop} (q:Q (.list (flR zws bs)) M) :
  wpAny (model C.prog C.w) A (comprehension (.ListComp x [⟨tgt,iter,ifs,0⟩] scope pos) scope env p (newList []) false (eval iter env) none) (Post C τ s Q) NoE s:=by
 have hclos:closureFor scope env=pure (clGo env scope.names []):=closure_eq fun y hy hf=>X.cells _ (o.free y hy hf)
 refine wpAny_comprehension_free (g:=⟨tgt,iter,ifs,0⟩) (gs:=[]) rfl (notSet_eq hn) hclos o.kind o.loc ?_
 refine zip_iter O lz X hi P fun I s₂ zs=>?_
 obtain ⟨τ2,s2,x2,P2,l1,l2,vs,us,n,rfl,hn,z,kp,os,gens,t1,t2,r1,r2⟩:=zs
 have g:Grow τ2 (fun b=>if b < n then τ2 b else .other) s2 s₂:=⟨fun b o e=>⟨kp b o e,if_pos (hn▸Heap.lt_size e)⟩,os,gens⟩
 have Pz:=P2.ext g.ext (P2.mem.grow g)
 refine wpAny_newObj_type (wpAny_newFunctionEnv o.nocell (fun y hy=>absurd hy List.not_mem_nil) (fun h3 hns hsb=>?_) o.kind)
 obtain ⟨τ3,gg,dd,tC,hDC,nD,nC,lC⟩:=new_g (s3:={ s₂ with heap:=h3 }) Pz hsb rfl rfl
 have X':=inner_env X o (s₂.heap.push (lstObj [] 0)).objs.size
 have x3:Ext none τ2 τ3 s2 { s₂ with heap:=h3 }:=g.ext.trans gg.ext
 have z3:=z.keep fun q o _ e=>(gg.keep q o e).1
 have tz:∀ q,Wz n q→τ3 q = .other:=fun q hq=>(z.has hq).elim fun o e=>(gg.keep q o e).2.trans (if_neg (by obtain ⟨j,_,rfl⟩:=hq; exact Nat.not_lt.mpr (Nat.le_add_right n j)))
 have td:∀ q o,s2.heap.get? q=some o→τ2 q = .data→τ3 q = .data:=fun q o e t=>((g.trans gg).keep q o e).2.trans t
 have nz:∀ q,s₂.heap.get? q=none→¬ Wz n q:=fun q e h=>(z.has h).elim fun o ho=>no (e.symm.trans ho)
 have n2:∀ q,s₂.heap.get? q=none→s2.heap.get? q=none:=fun q=>none_back kp
 have h0:∀ b o,s2.heap.get? b=some o→¬ Wz n b:=fun b o e h=>by
  obtain ⟨j,_,rfl⟩:=h
  have lt:=Heap.lt_size e
  rw [← hn] at lt
  exact absurd lt (Nat.not_lt.mpr (Nat.le_add_right n j))
 have loop:∀ s3:Shared,Same { s₂ with heap:=h3 } s3→codeAny (model C.prog C.w) A (.compLoop (.ListComp x [⟨tgt,iter,ifs,0⟩] scope pos) 0 (.ref (n + 4)) (.ref s₂.heap.objs.size) (compEnvC scope (clGo env scope.names []) (s₂.heap.push (lstObj [] 0)).objs.size env))
   (compPost (model C.prog C.w) A NoE none (Post C τ s Q) (.ref s₂.heap.objs.size) (s₂.heap.push (lstObj [] 0)).objs.size) s3:=by
  intro s3 e
  obtain rfl:s3.heap=h3:=e.h
  have gg:=gg.trans e.grow
  refine zip_loop (s:=s3) (d:=d) (τ₀:=τ2) (s₀:=s2) (M:=M) X' ht (sFor O _ _ _ X' _ hif) (sE O _ _ _ X' _ hel) (ws:=zws) (bs:=bs) hb (by decide) (r1.mono x3.dkeep) (r2.mono x3.dkeep) (nz _ nC) (nz _ nD) hDC h0 (n2 _ nD) (n2 _ nC)
   ⟨g.ext.trans gg.ext,⟨P.room,Pz.base.ext gg.ext,⟨_,hns,tC,fun j y pj hy hj=>(lo_n j pj hj).elim⟩,Pz.mem.grow gg⟩,dd,⟨_,_,z3⟩,tz,t1.elim fun o e=>td _ o e.1 e.2,t2.elim fun o e=>td _ o e.1 e.2⟩ (Q:=fun l=>Q (.list l) M) q fun acc τ' s' ce qq=>?_
  exact use_none (use_c P x2 (n2 _ nD) (n2 _ nC) lC hDC ce) qq
 exact codeAny_compStart_list (loop _ rfl) (wpAny_pyIter_zip z3.z (loop _ rfl))
theorem zp_ok (O:GOk C k G) (lim:C.H.NoLimit) (lz:LoadZ C) {i:Nat} {a:Addr} {o:Obj} {fd:FuncData} {body:List Stmt} (names:namesB zF=true) (I:FdIs C i zF a o fd body) (hm:zB k body=true)
  (hbind:∀ vals:List Value,vals.length=zF.np→bindArgs fd ⟨vals,[]⟩=pure ((zF.f.vars.take zF.np).zip vals)) (d:Nat) (x y z:Bool) (M:Mem) (Q:PV→Mem→Prop)
  (q:Q (.list (flW x [97,98,115,116,114,97,99,116]++flW y [116,97,103,103,101,100]++flW z [108,105,109,105,116,101,100])) M):CallOk C (d + 1) (.fn i) [.tup [.bool x,.bool y,.bool z]] M Q:=by
 have q':Q (.list (flR zws [x,y,z])) M:=by
  rw [List.append_assoc] at q
  show Q (.list (flW x _++(flW y _++(flW z _++[])))) M
  rw [List.append_nil]
  exact q
 refine call_gen lim names I hbind rfl fun A env s s₁ τ τ₁ E X hL g P=>?_
 refine oneL_i (P:=fun body=>wpAny (model C.prog C.w) (A.deeper env) (execs body env) (fun f s'=>Post C τ s Q (match f with | .ret v=>v | _=>.none) s') E s₁) hm fun st h=>sReturn_i (P:=fun st=>wpAny (model C.prog C.w) (A.deeper env) (execs [st] env) (fun f s'=>Post C τ s Q (match f with | .ret v=>v | _=>.none) s') E s₁) h fun v pos h =>
  oK_i (P:=fun v=>wpAny (model C.prog C.w) (A.deeper env) (execs [.Return v pos] env) (fun f s'=>Post C τ s Q (match f with | .ret v=>v | _=>.none) s') E s₁) h fun v h=>wpAny_execs_cons (wpAny_Return_some (no_e (wpAny_mono (?_:wpAny (model C.prog C.w) (A.deeper env) (eval v env) (Post C τ₁ s₁ Q) NoE s₁) (fun v s' p=>p.step g.ext) fun _ _ e=>e)))
 refine kListComp_i (P:=fun v=>wpAny (model C.prog C.w) (A.deeper env) (eval v env) (Post C τ₁ s₁ Q) NoE s₁) h fun el gens scope cp h=>oneL_i (P:=fun gens=>wpAny (model C.prog C.w) (A.deeper env) (eval (.ListComp el gens scope cp) env) (Post C τ₁ s₁ Q) NoE s₁) h fun g1 h=>kGen_i (P:=fun g1=>wpAny (model C.prog C.w) (A.deeper env) (eval (.ListComp el [g1] scope cp) env) (Post C τ₁ s₁ Q) NoE s₁) h fun tgt iter ifs h=>?_
 rw [arm_eval_ListComp]
 exact zip_comp O lz X (bs:=[x,y,z]) rfl (compOk_iff (ba h)) (ba (bb h)) (ba (bb (bb h))) (ba (bb (bb (bb h)))) (ba (bb (bb (bb (bb h))))) (bb (bb (bb (bb (bb h))))) P q'
end
end Mine
end
section
open PySem PySem.W PySem.Calls
namespace Mine
theorem valI_i {P:Value→Prop} {v:Value} {K:Int→Tok→Bool} (h:valI v K=true) (q:∀ a b,K a b=true→P (.int a b)):P v :=
 dk h fun w h=>@Value.int.elim (fun v=>(w:v.ctorIdx=4)→@Value.int.elim (fun _=>Bool) v w K=true→P v) v w (fun a b w h=>q a b h) w h
theorem valS_i {P:Value→Prop} {v:Value} {K:Str→Tok→Bool} (h:valS v K=true) (q:∀ a b,K a b=true→P (.str a b)):P v :=
 dk h fun w h=>@Value.str.elim (fun v=>(w:v.ctorIdx=6)→@Value.str.elim (fun _=>Bool) v w K=true→P v) v w (fun a b w h=>q a b h) w h
theorem valR_i {P:Value→Prop} {v:Value} {K:Addr→Bool} (h:valR v K=true) (q:∀ a,K a=true→P (.ref a)):P v :=
 dk h fun w h=>@Value.ref.elim (fun v=>(w:v.ctorIdx=10)→@Value.ref.elim (fun _=>Bool) v w K=true→P v) v w (fun a w h=>q a h) w h
theorem dSeq_i {P:Data→Prop} {v:Data} {K:Array Value→Nat→Bool} (h:dSeq v K=true) (q:∀ a b,K a b=true→P (.seq a b)):P v :=
 dk h fun w h=>@Data.seq.elim (fun v=>(w:v.ctorIdx=2)→@Data.seq.elim (fun _=>Bool) v w K=true→P v) v w (fun a b w h=>q a b h) w h
theorem dDic_i {P:Data→Prop} {v:Data} {K:Array DictEntry→Nat→Bool} (h:dDic v K=true) (q:∀ a b,K a b=true→P (.dict a b)):P v :=
 dk h fun w h=>@Data.dict.elim (fun v=>(w:v.ctorIdx=3)→@Data.dict.elim (fun _=>Bool) v w K=true→P v) v w (fun a b w h=>q a b h) w h
theorem someB_i {α:Type} {o:Option α} {K:α→Bool} (h:someB o K=true):∃ x,o=some x∧K x=true:=match o,h with
 | some x,h=>⟨x,rfl,h⟩
 | none,h=>nb h
theorem objB_i {K:Frag} {a:Addr} {n:String} {R:Data→Bool} (h:objB K a n R=true):∃ d,K.lookup a=some { cls:=.type n,data:=d }∧R d=true:=by
 obtain ⟨⟨c,d,dt,sl⟩,e,h⟩:=someB_i h
 obtain rfl:=beq (ba h)
 obtain rfl:=Option.isNone_iff_eq_none.mp (ba (bb h))
 obtain ⟨sl⟩:=sl
 obtain rfl:=List.isEmpty_iff.mp (ba (bb (bb h)))
 exact ⟨dt,e,bb (bb (bb h))⟩
section
variable {C:Cx} {K:Frag} {τ:Tags} {h:Heap}
theorem all2_ok {R:PV→Value→Bool} (ih:∀ p v,R p v=true→VR C τ h v p):∀ {ps:List PV} {vs:List Value},all2 R ps vs=true→VRs C τ h vs ps
 | [],vs,q=>List.isEmpty_iff.mp q▸.nil
 | p :: ps,vs,q=>unc_i (P:=fun vs=>VRs C τ h vs (p :: ps)) q fun v vs q=>.cons (ih _ _ (ba q)) (all2_ok ih (bb q))
theorem keys_ok:∀ {ks:List (List Nat)} {es:List DictEntry},keysB ks es=true→es.map (·.hash)=es.map (fun e=>PyData.keyHash C.w.params (keyS e))→fieldKeys C es ks
 | [],es,q,_=>List.isEmpty_iff.mp q▸trivial
 | k :: ks,es,q,w=>unc_i (P:=fun es=>es.map (·.hash)=es.map (fun e=>PyData.keyHash C.w.params (keyS e))→fieldKeys C es (k :: ks)) q (fun e es q w=>by
  obtain ⟨w1,w2⟩:=List.cons.inj w
  obtain ⟨hs,key,val⟩:=e
  exact valS_i (P:=fun key=>hs=PyData.keyHash C.w.params (keyS ⟨hs,key,val⟩)→fieldKeys C (⟨hs,key,val⟩ :: es) (k :: ks)) (ba q) (fun x t e w=>⟨⟨⟨t,by rw [beq e]⟩,by rw [← beq e]; exact w⟩,keys_ok (bb q) w2⟩) w1) w
theorem vB_ok (hf:∀ i,C.fv i = .ref (fa i)) (hc:C.cls=370) (X:K.In C.H) (B:Base C τ h) (hh:∀ a,(a == 15 || a == 30)=true→(dicAt K a).map (·.hash)=(dicAt K a).map fun e=>PyData.keyHash C.w.params (keyS e)) :
  ∀ (n:Nat) (p:PV) (v:Value),vB K n p v=true→VR C τ h v p
 | 0,p,v,q=>nb q
 | n + 1,p,v,q=>by
  cases p with
  | int i=>exact valI_i (P:=fun v=>VR C τ h v (.int i)) q fun j t e=>beq e▸.int _ _
  | str s=>exact valS_i (P:=fun v=>VR C τ h v (.str s)) q fun x t e=>(beq e).symm▸.str _ _
  | tup l =>
   refine valR_i (P:=fun v=>VR C τ h v (.tup l)) q fun a e=>?_
   obtain ⟨d,e1,e⟩:=objB_i e
   exact dSeq_i (P:=fun d=>K.lookup a=some { cls:=.type "tuple",data:=d }→VR C τ h (.ref a) (.tup l)) e (fun xs m e e1=>.tup (vs:=xs.toList) (n:=m) (B _ _ (X _ _ e1)).1 (B _ _ (X _ _ e1)).2 (all2_ok (vB_ok hf hc X B hh n) e)) e1
  | dict ks ps =>
   refine valR_i (P:=fun v=>VR C τ h v (.dict ks ps)) q fun a e=>?_
   obtain ⟨d,e1,e2⟩:=objB_i (bb e)
   refine dDic_i (P:=fun d=>K.lookup a=some { cls:=.type "dict",data:=d }→VR C τ h (.ref a) (.dict ks ps)) e2 (fun es m e2 e1=>?_) e1
   refine .dict (es:=es.toList) (n:=m) (B _ _ (X _ _ e1)).1 (B _ _ (X _ _ e1)).2 (fun q=>by subst q; exact nb (ba e)) (keys_ok (ba e2) ?_) (all2_ok (vB_ok hf hc X B hh n) (bb e2))
   have:=hh a (ba e)
   unfold dicAt at this
   rw [e1] at this
   exact this
  | fn i=>exact valR_i (P:=fun v=>VR C τ h v (.fn i)) q fun a e=>(beq e)▸hf i▸.fn i
  | cls=>exact valR_i (P:=fun v=>VR C τ h v .cls) q fun a e=>(beq e).symm▸hc▸.cls
  | _=>exact nb q
end
theorem fn_at {K:Frag} {a:Addr} (h:isF K a=true):∃ o,K.lookup a=some o∧o.data = .func (fdAt K a):=by
 obtain ⟨o,e,h⟩:=someB_i h
 refine ⟨o,e,?_⟩
 have w:o.data.ctorIdx=7:=beq h
 unfold fdAt
 rw [e,Option.elim_some,dif_pos w]
 exact @Data.func.elim (fun d=>∀ w:d.ctorIdx=7,d = .func (@Data.func.elim (fun _=>FuncData) d w id)) o.data w (fun f _=>rfl) w
theorem stms_at {b:FuncBody} (h:(b.ctorIdx == 0)=true):b = .stmts (stms b):=by
 have w:b.ctorIdx=0:=beq h
 unfold stms
 rw [dif_pos w]
 exact @FuncBody.stmts.elim (fun d=>∀ w:d.ctorIdx=0,d = .stmts (@FuncBody.stmts.elim (fun _=>List Stmt) d w id)) b w (fun f _=>rfl) w
noncomputable def theC (w:World) (H:Heap) (K:Frag):Cx:=⟨PySem.Challenge.pw_xm0010_01,w,H,fun i=>.ref (fa i),bvT,370,K,theKn.an,mainGlobals,builtinsNs⟩
section
variable {w:World} {H:Heap} {K:Frag}
theorem fdIs (X:K.In H) {i:Nat} {F:Fn} {m:List Stmt→Bool} (h:fmB K i F m=true):∃ o,namesB F=true∧m (stms (fdAt K (fa i)).body)=true∧FdIs (theC w H K) i F (fa i) o (fdAt K (fa i)) (stms (fdAt K (fa i)).body):=by
 obtain ⟨o,e1,e2⟩:=fn_at (ba h)
 have h:=bb h
 exact ⟨o,ba h,ba (bb (bb (bb h))),rfl,X _ _ e1,e2,codeRec_of X (ba (bb h)),stms_at (ba (bb (bb h))),beq (ba (bb (bb (bb (bb h))))),of_decide_eq_true (ba (bb (bb (bb (bb (bb h)))))),ntb (bb (bb (bb (bb (bb (bb h)))))),ntb (bb (bb (bb (bb (bb (bb (bb h))))))),
  beq (ba (bb (bb (bb (bb (bb (bb (bb (bb h))))))))),beq (ba (bb (bb (bb (bb (bb (bb (bb (bb (bb h)))))))))),List.isEmpty_iff.mp (bb (bb (bb (bb (bb (bb (bb (bb (bb (bb h))))))))))⟩
theorem biB_i {p:PV} {R:Nat→Bool} (h:biB p R=true):∃ b,p = .bi b∧R b=true:=by
 cases p <;> first | exact nb h | exact ⟨_,rfl,h⟩
theorem load_ok {mg mb:Str→Option Value} (X:K.In H) (Tg:H.Ns mainGlobals mg) (Tb:H.Ns builtinsNs mb) (hb:∀ x:Str,x ≠ "__name__"→mb x=bootBuiltins x)
  (hh:∀ a,(a == 15 || a == 30)=true→(dicAt K a).map (·.hash)=(dicAt K a).map fun e=>PyData.keyHash w.params (keyS e))
  (hl:theKn.gn.length=gtab.length) (h:(theKn.gn.zip gtab).all (fun y=>gB K y.1 y.2)=true):LoadOk (theC w H K) theKn theG:=by
 intro g x hx env A s τ Q E h1 h2 B hq
 obtain ⟨lt,_⟩:=List.getElem?_eq_some_iff.mp hx
 have hg:gtab[g]? = some (gtab[g]'(hl▸lt)):=List.getElem?_eq_getElem _
 have hz:(theKn.gn.zip gtab)[g]? = some (x,gtab[g]'(hl▸lt)):=by rw [List.getElem?_zip_eq_some]; exact ⟨hx,hg⟩
 have key:=List.all_eq_true.mp h _ (List.mem_of_getElem? hz)
 have eg:theG g=gtab[g]'(hl▸lt):=by unfold theG; rw [List.getD_eq_getElem?_getD,hg]; rfl
 rw [eg] at hq
 have kp:∀ b o,H.get? b=some o→s.heap.get? b=some o:=fun b o e=>(B b o e).1
 have Tg':s.heap.Ns env.globals mg:=h1▸Tg.keeps kp
 rcases Bool.or_eq_true_iff.mp key with k | k
 ·obtain ⟨b,e,k⟩:=biB_i k
  dsimp only at e k
  rw [e] at hq
  exact loadGlobal_builtin Tg' (mg_none_of X Tg (beq (ba k))) (h2▸Tb.keeps kp) ((hb x fun e=>Bool.noConfusion ((ntb' (bb (bb k))).symm.trans (beq_iff_eq.mpr e))).trans (beq (ba (bb k)))) (hq _ (.bi b))
 ·obtain ⟨o,e,k⟩:=someB_i k
  obtain ⟨v,rfl,k⟩:=someB_i k
  exact loadGlobal_global Tg' (mg_of X Tg e) (hq v (vB_ok (C:=theC w H K) (fun i=>rfl) rfl X B hh 4 _ v k))
theorem lz_ok {mg mb:Str→Option Value} (X:K.In H) (Tg:H.Ns mainGlobals mg) (Tb:H.Ns builtinsNs mb) (hb:∀ x:Str,x ≠ "__name__"→mb x=bootBuiltins x)
  (h:(nsIn K mainGlobals (Str.ofString "zip") == some none && (bootBuiltins (Str.ofString "zip") == some (.type "zip") && !(Str.ofString "zip" == "__name__")))=true):LoadZ (theC w H K):=by
 intro env A s τ Q E h1 h2 B hq
 have kp:∀ b o,H.get? b=some o→s.heap.get? b=some o:=fun b o e=>(B b o e).1
 exact loadGlobal_builtin (h1▸Tg.keeps kp:s.heap.Ns env.globals mg) (mg_none_of X Tg (beq (ba h))) (h2▸Tb.keeps kp) ((hb _ fun e=>Bool.noConfusion ((ntb' (bb (bb h))).symm.trans (beq_iff_eq.mpr e))).trans (beq (ba (bb h)))) hq
theorem range_pad {vals:List Value} {n:Nat} (h:vals.length=n):(List.range n).map (fun i=>vals.getD i .none)=vals:=by
 subst h
 refine List.ext_getElem (by simp) fun i h1 h2=>?_
 rw [List.getElem_map,List.getElem_range,List.getD_eq_getElem?_getD,List.getElem?_eq_getElem h2]
 rfl
theorem bind_of {i:Nat} {F:Fn} (hb:∀ g,bindsP K g) (hm:(i,F) ∈ (113,zF) :: ftab) {vals:List Value} (hv:vals.length=F.np):bindArgs (fdAt K (fa i)) ⟨vals,[]⟩=pure ((F.f.vars.take F.np).zip vals):=by
 have:=List.map_inj_left.mp (hb fun i=>vals.getD i .none) _ hm
 dsimp only at this
 rw [range_pad hv] at this
 exact this
theorem fn_ok (X:K.In H) {i:Nat} {F:Fn} (hm:(i,F) ∈ ftab) (h:ftab.all (fun y=>fnB K y.1 y.2)=true) (hb:∀ g,bindsP K g):FnOk (theC w H K) theKn i F:=by
 obtain ⟨o,n,m,I⟩:=fdIs (w:=w) X (List.all_eq_true.mp h _ hm)
 exact ⟨_,o,_,_,n,I,m,fun vals hv=>bind_of hb (List.mem_cons_of_mem _ hm) hv⟩
theorem fnOf_mem {i:Nat} {F:Fn}:∀ {l:List (Nat×Fn)},fnOf i l=some F→(i,F) ∈ l
 | (j,G) :: r,h=>by
  unfold fnOf at h
  cases e:Nat.beq i j with
  | true=>rw [e] at h; rw [Nat.eq_of_beq_eq_true e,← Option.some.inj h]; exact List.mem_cons_self
  | false=>rw [e] at h; exact List.mem_cons_of_mem _ (fnOf_mem h)
end
section
variable {w:World} {H:Heap} {K:Frag}
theorem bindsTo_of {fd:FuncData} {vals:List Value} {binds:List (Str×Value)} {s:Shared} (X:K.In s.heap) (h:∀ S,peek K S (bindArgs fd ⟨vals,[]⟩)=some binds):BindsTo s fd ⟨vals,[]⟩ binds :=
 fun M A E Q q=>(Looks.of_peek (M:=M) X (h _)).here q
theorem fnD_ok (hf:True) (X:K.In H) {i:Nat} {F:Fn} (hm:(i,F) ∈ dtab) (h:dtab.all (fun y=>dfB K y.1 y.2)=true) (hD:∀ S g,bindsD K S g) (hE:∀ S g,bindsE K S g)
  (hh:∀ a,(a == 15 || a == 30)=true→(dicAt K a).map (·.hash)=(dicAt K a).map fun e=>PyData.keyHash w.params (keyS e)):∀ dfl:List PV,dfl=[.int 0]∨dfl=[]→FnOkD (theC w H K) theKn i F dfl:=by
 intro dfl hd
 have q:=List.all_eq_true.mp h _ hm
 obtain ⟨o,n,m,I⟩:=fdIs (w:=w) X (ba q)
 have nc:∀ x ∈ F.f.sc,x.2 ≠ .cell:=fun x hx e=>Bool.noConfusion ((ntb' (List.all_eq_true.mp (bb (bb q)) x hx)).symm.trans (beq_iff_eq.mpr e))
 refine ⟨_,o,_,_,n,nc,I,m,fun s vals kp hv=>?_⟩
 rcases hd with rfl | rfl
 ·refine ⟨dvAt K (fdAt K (fa i)),fun τ B=>all2_ok (fun p v=>vB_ok (C:=theC w H K) (fun i=>rfl) rfl X B hh 1 p v) (ba (bb q)),bindsTo_of (X.keeps kp) fun S=>?_⟩
  have e:=List.map_inj_left.mp (hD S fun i=>vals.getD i .none) _ hm
  dsimp only at e
  rw [range_pad (n:=F.np - 1) (hv▸rfl)] at e
  exact e
 ·refine ⟨[],fun τ B=>.nil,bindsTo_of (X.keeps kp) fun S=>?_⟩
  have e:=List.map_inj_left.mp (hE S fun i=>vals.getD i .none) _ hm
  dsimp only at e
  rw [range_pad (n:=F.np) hv] at e
  exact e
theorem cls_ok (X:K.In H) (h:clsB K=true):ClsOk (theC w H K)∧MkOk (theC w H K) theKn.ini:=by
 refine ⟨⟨X,beq (ba h),beq (ba (bb h)),ba (bb (bb h)),ba (bb (bb (bb h))),fun k hk=>?_,nodupL_iff (ba (bb (bb (bb (bb (bb h)))))),of_decide_eq_true (ba (bb (bb (bb (bb (bb (bb h)))))))⟩,
  ba (bb (bb (bb (bb (bb (bb (bb h))))))),ba (bb (bb (bb (bb (bb (bb (bb (bb h)))))))),367,rfl,beq (ba (bb (bb (bb (bb (bb (bb (bb (bb (bb h)))))))))),beq (bb (bb (bb (bb (bb (bb (bb (bb (bb (bb h))))))))))⟩
 have q:=List.all_eq_true.mp (ba (bb (bb (bb (bb h))))) k hk
 exact ⟨beq (ba q),beq (bb q)⟩
theorem fns_ok (X:K.In H) (h:isFs K=true) (i:Nat):∃ a o fd,(theC w H K).fv i = .ref a∧H.get? a=some o∧o.data = .func fd:=by
 have q:isF K (fa i)=true:=by
  unfold fa
  rw [List.getD_eq_getElem?_getD]
  cases e:faT[i]? with
  | none=>exact bb h
  | some a=>exact List.all_eq_true.mp (ba h) a (List.mem_of_getElem? e)
 obtain ⟨o,e1,e2⟩:=fn_at q
 exact ⟨_,o,_,rfl,X _ _ e1,e2⟩
theorem app_eq {α β:Type} {f g:α→β} {l m:List α} (h:(l++m).map f=(l++m).map g):l.map f=l.map g∧m.map f=m.map g:=by
 have:=List.map_inj_left.mp h
 exact ⟨List.map_inj_left.mpr fun a ha=>this a (List.mem_append_left _ ha),List.map_inj_left.mpr fun a ha=>this a (List.mem_append_right _ ha)⟩
theorem pg_ok {K:Params→Frag} {mg mb:Str→Option Value} (k:KOk K) (X:(K w.params).In H) (Tg:H.Ns mainGlobals mg) (Tb:H.Ns builtinsNs mb) (hb:∀ x:Str,x ≠ "__name__"→mb x=bootBuiltins x) (lim:H.NoLimit):Pg (theC w H (K w.params)):=by
 have c:=k.chk w.params
 have hh:∀ a,(a == 15 || a == 30)=true→(dicAt (K w.params) a).map (·.hash)=(dicAt (K w.params) a).map fun e=>PyData.keyHash w.params (keyS e):=fun a ha =>
  (Bool.or_eq_true_iff.mp ha).elim (fun e=>(beq e).symm▸(app_eq (k.hash w.params)).1) fun e=>(beq e).symm▸(app_eq (k.hash w.params)).2
 have co:=cls_ok (w:=w) X (ba (bb (bb (bb c))))
 have D:=fun {i:Nat} {F:Fn} (hm:(i,F) ∈ dtab)=>fnD_ok (w:=w) trivial X hm (ba (bb (bb c))) (k.bindD w.params) (k.bindE w.params) hh
 have c6:=bb (bb (bb (bb (bb (bb c)))))
 have O:GOk (theC w H (K w.params)) theKn theG:=⟨load_ok X Tg Tb hb hh (beq (ba (bb (bb (bb (bb (bb c))))))) (ba c),fns_ok X (ba (bb (bb (bb (bb c))))),rfl,rfl,(Option.isSome_iff_exists.mp (ba c6)).imp fun o e=>X _ _ e,co.2,co.1⟩
 obtain ⟨o,nz,mz,Iz⟩:=fdIs (w:=w) X (ba (bb c6))
 exact ⟨O,lim,fun i F h=>fn_ok X (fnOf_mem h) (ba (bb c)) (k.bind w.params),D (.tail _ (.head _)),D (.tail _ (.tail _ (.head _))),D (.head _) _ (.inl rfl),zp_ok O lim (lz_ok X Tg Tb hb (bb (bb c6))) nz Iz mz fun vals hv=>bind_of (k.bind w.params) (.head _) hv⟩
end
theorem pre63 {R:WRecords} {xs:List WData} (h:(WTm.and (.not (.lt (.lit (.int 63)) (.len (.arg 0)))) (.lit (.bool true))).holds R { args:=[.list xs] }=true):xs.length ≤ 63:=by
 refine Nat.le_of_not_lt fun hlt=>?_
 have e:less? (.int 63) (.int xs.length)=some true:=congrArg some (decide_eq_true (Int.ofNat_lt.mpr hlt:((63:Nat):Int) < xs.length))
 have v:WTm.value R (WTm.lt (.lit (.int 63)) (.len (.arg 0))) { args:=[.list xs] }=some (.bool true):=congrArg (Option.map WData.bool) e
 unfold WTm.holds at h
 unfold WTm.value WTm.value at h
 rw [v] at h
 exact nb h
theorem ints_ok {C:Cx} {τ:Tags} {R:WRecords} {P:Params} {h:Heap}:∀ {xs:List WData} {vs:List Value},WShape.hasItems R xs .int=true→WellAll P h vs xs→∃ l:List Int,l.length=xs.length∧VRs C τ h vs (l.map .int)
 | [],vs,q,w=>by cases w; exact ⟨[],rfl,.nil⟩
 | x :: xs,vs,q,w=>by
  unfold WShape.hasItems at q
  obtain ⟨i,rfl⟩:=hasW_int (ba q)
  cases w with
  | cons a b =>
   obtain ⟨l,e,r⟩:=ints_ok (bb q) b
   cases a
   exact ⟨i :: l,congrArg Nat.succ e,.cons (.int _ _) r⟩
theorem walk {q:Program} {loose:List Str} {XP:(Str→Option Value)→Heap→Prop} {YP:World→Heap→Prop} {K:Params→Frag} {d:DefRec} {kwd:List (Str×Expr)} (hY:∀ w h,YP w h→(K w.params).In h) (hn:d.name = "law") (k:KOk K):WalkO q loose XP YP PySem.Challenge.rw_xm0010_01.row.toRowW d kwd fun f vs=>PySem.call f vs:=by
 intro w s₀ s₁ mg mb G Y a o pm cd doc dV kV ho hd hcd hD hmg hg args vals as hpre hlay hrd hwl hlo
 have X:=hY _ _ Y
 have P:=pg_ok (w:=w) k X G.T.g G.T.b G.T.builtins G.T.nolimit
 obtain ⟨h1,h2⟩:=pre_splitW hpre
 obtain ⟨x,r,rfl,hx,hr⟩:=hasAllW_cons h1
 obtain rfl:=hasAllW_nil hr
 obtain ⟨xs,rfl,hi⟩:=hasW_list hx
 have h63:=pre63 h2
 cases hwl with
 | cons a1 a2 =>
  cases a2
  cases a1 with
  | list ho' hw =>
   obtain ⟨l,e,r⟩:=ints_ok (C:=theC w s₁.heap (K w.params)) (τ:=fun _=>.data) hi hw
   have c:=law_ok (d:=0) (M:=fun _=>none) P (e▸h63:l.length ≤ 63)
   have ea:a=983:=by
    have:=(mg_of X G.T.g (k.law w.params)).symm.trans (hn▸hmg)
    cases this
    rfl
   subst ea
   have B:Base (theC w s₁.heap (K w.params)) (fun _=>.data) s₁.heap:=fun b o e=>⟨e,rfl⟩
   refine wpAny_mono (c.run callerA s₁ (fun _=>.data) (.ref 983) _ ⟨rfl,by decide +kernel,by decide +kernel⟩ B (fun a o e=>no e) (.fn 119) (.cons (.list ho' rfl r) .nil)) (fun v s' p=>?_) fun _ _ f=>f.elim
   obtain ⟨p,M',τ',x,m,rv,rfl⟩:=p
   rw [vi_bool rv]
   exact ⟨.inl ⟨.bool true,.bool true,[],rfl,fun _=>rfl,.bool true,(by kernel_rfl),fun _=>⟨.nil,fun a ha=>nomatch ha⟩⟩,.of_keep fun b o e=>(x.dkeep b o e rfl).1,x.os,.of_eq (x.gens.trans hg)⟩
end Mine
end
theorem PySem.Challenge.cw_xm0010_01_holds : PySem.Challenge.rw_xm0010_01.Holds :=
  Mine.hd fun ⟨_,a,b⟩ c=>Mine.walk a c b
