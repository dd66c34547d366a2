import PyProof.Rows.All
import Wide.All
import OpenK.AllK
import Wide.FinOn
import PySem.Challenge.RW_sa0455_01
set_option Elab.async false
set_option maxRecDepth 100000
set_option maxHeartbeats 0
set_option genSizeOf false
set_option genInjectivity false
set_option genCtorIdx false
set_option backward.match.sparseCases false
set_option bootstrap.genMatcherCode false
set_option pp.deepTerms false
set_option pp.maxSteps 1000
set_option linter.unusedVariables false
set_option linter.unusedSimpArgs false
set_option linter.all false
section
namespace Mine.Internal
open PySem
set_option genCtorIdx true in
inductive D where
 | none
 | bool (b:Bool)
 | int (i:Int)
 | str (s:List Nat)
 | tup (ds:List D)
 | fl (ds:List D)
 | dct (kvs:List (List Nat × D))
 | cell (i:Nat)
 | glob (a:Nat)
set_option genCtorIdx true in
inductive Cell where
 | lst (ds:List D)
 | obj (fs:List (List Nat × D))
 | junk
abbrev Sto:=List Cell
set_option genCtorIdx true in
inductive R (α:Type) where
 | ok (a:α) (σ:Sto)
 | err (σ:Sto)
 | no
noncomputable def R.bind {α β:Type} (r:R α) (f:α->Sto->R β):R β:=match r with
 | .ok a σ=>f a σ
 | .err σ=>.err σ
 | .no=>.no
mutual
inductive Op where
 | add | sub | mul | fdiv | mod | pow
inductive Me where
 | append | pop | extend | find | lower | get
end
mutual
inductive Cm where
 | eq | ne | lt | le | gt | ge | is | isn | inn | notin
inductive Fa where
 | rows | «at» | deep
end
mutual
inductive Bi where
 | len | str | mn | mx | tup | lst | isTup | isStr | isInt | isBool
inductive Wm where
 | peek | take | looks | expect | name | deeper | shallower | splitClose
end
noncomputable def Fa.ix:Fa->Nat | .rows=>0 | .at=>1 | .deep=>2
theorem Fa.inj {a b:Fa} (h:a.ix=b.ix):a=b:=by
 cases a <;> cases b <;> first | rfl | exact absurd h (by decide)
inductive X where
 | k (d:D)
 | loc (i:Nat)
 | gl (d:D)
 | tup (xs:List X)
 | lst (xs:List X)
 | dsp (kvs:List (List Nat × D))
 | sub (x i:X)
 | slc (x:X) (lo hi:Option X)
 | rev (x:X)
 | bin (o:Op) (x y:X)
 | cmp (c:Cm) (x y:X)
 | band (xs:List X)
 | bor (xs:List X)
 | bnot (x:X)
 | neg (x:X)
 | ite (c a b:X)
 | call (f:X) (xs:List X)
 | wm (m:Wm) (x:X) (xs:List X)
 | me (m:Me) (x:X) (xs:List X)
 | bi (b:Bi) (xs:List X)
 | isi (b:Bi) (x:X)
 | att (x:X) (a:Fa)
 | pairs (x:X)
 | un
inductive Tg where
 | n (i:Nat)
 | ns (is:List Nat)
inductive SS where
 | ret (x:X)
 | ex (x:X)
 | asg (t:Tg) (x:X)
 | asgA (o:X) (a:Fa) (x:X)
 | asgS (o i x:X)
 | aug (i:Nat) (x:X)
 | augA (o:X) (a:Fa) (op:Op) (x:X)
 | ifs (c:X) (a b:List SS)
 | whl (c:X) (b:List SS)
 | forR (i:Nat) (n:X) (b:List SS)
 | for_ (t:Tg) (x:X) (b:List SS)
 | forv (t:Tg) (x:X) (b:List SS)
 | raise (m s:X)
 | brk
 | try_ (i:Nat) (x:X)
 | un
inductive VM:Expr->Type where
 | neg (i:Int) (k:Nat) (kp p:Pos):VM (.UnaryOp .USub (.Constant (.int i) k kp) p)
 | un (e:Expr):VM e
noncomputable def FU:(e:Expr)->VM e
 | .UnaryOp .USub (.Constant (.int i) k kp) p=>.neg i k kp p
 | e=>.un e
inductive VN:Expr->Type where
 | name (x:Str) (p:Pos):VN (.Name x p)
 | tup (es:List Expr) (k:Nat) (p:Pos):VN (.Tuple es k p)
 | const (c:Const) (k:Nat) (p:Pos):VN (.Constant c k p)
 | un (e:Expr):VN e
noncomputable def eZ:(e:Expr)->VN e
 | .Name x p=>.name x p
 | .Tuple es k p=>.tup es k p
 | .Constant c k p=>.const c k p
 | e=>.un e
inductive VI:Expr->Type where
 | call (x:Str) (xp:Pos) (as:List Expr) (p:Pos):VI (.Call (.Name x xp) as [] p)
 | rev (v e:Expr) (sp p:Pos):VI (.Subscript v (.Slice none none (some e) sp) p)
 | un (e:Expr):VI e
noncomputable def rU:(e:Expr)->VI e
 | .Call (.Name x xp) as [] p=>.call x xp as p
 | .Subscript v (.Slice none none (some e) sp) p=>.rev v e sp p
 | e=>.un e
noncomputable def sl (s:String):List Nat:=(Str.ofString s).cps.toList
noncomputable def isS (x:Str) (s:String):Bool:=x == Str.ofString s
noncomputable def nth (names:List Str) (x:Str):Option Nat:=names.findIdx? (· == x)
structure Cx where
 names:List Str          -- the locals,parameters first
 scope:Scope
 gl:List (Str × D)
noncomputable def Cx.kind (cx:Cx) (x:Str):Option NameKind:=cx.scope.names.lookup x
noncomputable def Cx.slot (cx : Cx) (x : Str) : Option Nat := if cx.kind x == some .local && !(isS x "__debug__") then nth cx.names x else none
noncomputable def Cx.glob (cx:Cx) (x:Str):Option D:=if cx.kind x == some .globalImplicit then cx.gl.lookup x else none
noncomputable def Cx.builtin (cx:Cx) (x:Str):Bool:=cx.kind x == some .globalImplicit
noncomputable def gZ {α:Type} (x:Str):List (String × α)->Option (String × α)
 | []=>none
 | p :: r=>if isS x p.1 then some p else gZ x r
noncomputable def PE : List (String × Wm) := [("peek", .peek), ("take", .take), ("looks", .looks), ("expect", .expect), ("name", .name), ("deeper", .deeper), ("shallower", .shallower), ("split_close", .splitClose)]
noncomputable def Ml : List (String × Me) := [("append", .append), ("pop", .pop), ("extend", .extend), ("find", .find), ("lower", .lower), ("get", .get)]
noncomputable def KC : List (String × Fa) := [("rows", .rows), ("at", .at), ("deep", .deep)]
noncomputable def J1 (x:Str):Option Wm:=(gZ x PE).map (·.2)
noncomputable def HF (x:Str):Option Me:=(gZ x Ml).map (·.2)
noncomputable def sW (x:Str):Option Fa:=(gZ x KC).map (·.2)
noncomputable def rq:Operator->Option Op
 | .Add=>some .add | .Sub=>some .sub | .Mult=>some .mul | .FloorDiv=>some .fdiv | .Mod=>some .mod | .Pow=>some .pow | _=>none
noncomputable def mY:CmpOp->Cm
 | .Eq=>.eq | .NotEq=>.ne | .Lt=>.lt | .LtE=>.le | .Gt=>.gt | .GtE=>.ge | .Is=>.is | .IsNot=>.isn | .In=>.inn | .NotIn=>.notin
noncomputable def strOf (e:Expr):Option Str:=match eZ e with | .const c _ _=>(match c with | .str s=>some s | _=>none) | _=>none
noncomputable def intOf (e:Expr):Option Int:=match eZ e with | .const c _ _=>(match c with | .int s=>some s | _=>none) | _=>none
noncomputable def nameOf (e:Expr):Option Str:=match eZ e with | .name x _=>some x | _=>none
noncomputable def isFalse (e:Expr):Bool:=match eZ e with | .const c _ _=>(match c with | .bool b=>!b | _=>false) | _=>false
noncomputable def iJ:List (Option Expr)->List Expr->Option (List (List Nat × D))
 | [],vs=>if vs.isEmpty then some [] else none
 | k :: ks,vs=>(match vs with
  | []=>none
  | v :: vs=>(k.bind strOf).bind fun s=>(intOf v).bind fun i=>(iJ ks vs).map ((s.cps.toList,.int i) :: ·))
noncomputable def uF : List (String × Nat × Bi) := [("len", 1, .len), ("str", 1, .str), ("tuple", 1, .tup), ("list", 1, .lst), ("min", 2, .mn), ("max", 2, .mx)]
noncomputable def zF : List (String × Bi) := [("tuple", .isTup), ("str", .isStr), ("int", .isInt), ("bool", .isBool)]
noncomputable def FD (a b:Expr):Option (Bi × List Expr):=(nameOf b).bind fun t=>(gZ t zF).map fun p=>(p.2,[a])
noncomputable def we (x:Str) (as:List Expr):Option (Bi × List Expr):=match gZ x uF with
 | some p=>if Nat.beq as.length p.2.1 then some (p.2.2,as) else none
 | none => if isS x "isinstance" then (match as with | [a, b] => FD a b | _ => none) else none
noncomputable def gY:Bi->Bool
 | .isTup | .isStr | .isInt | .isBool=>true
 | _=>false
noncomputable def iI (x : Str) (as : List Expr) : List Str := x :: (if isS x "isinstance" then (match as with | [_, b] => (nameOf b).toList | _ => []) else [])
noncomputable def lu (sc : Scope) (a : Str) : Bool := sc.kind == .function && sc.names.all (fun y => y.2 == .local && sc.names.lookup y.1 == some .local) && sc.names.lookup a == some .local && !(isS a "__debug__")
noncomputable def dB (e:Expr):Bool:=match FU e with
 | .neg i _ _ _=>i == 1
 | .un _=>false
noncomputable def uL:List Comprehension->Option (Str × Expr)
 | [g]=>if g.ifs.isEmpty && g.is_async == 0 then (nameOf g.target).map fun b=>(b,g.iter) else none
 | _=>none
noncomputable def pY (e:Expr):Option Str:=match eZ e with
 | .tup es _ _=>(match es with | [a,f]=>if isFalse f then nameOf a else none | _=>none)
 | _=>none
noncomputable def pairsOf (elt:Expr) (gens:List Comprehension) (sc:Scope):Option Expr :=
 (uL gens).bind fun p=>(pY elt).bind fun a=>if a == p.1 && lu sc a then some p.2 else none
noncomputable def baseOk (e:Expr):Bool:=match rU e with
 | .call _ _ as _=>!as.isEmpty
 | _=>true
noncomputable def noStar:Expr->Bool
 | .Starred ..=>false
 | _=>true
noncomputable def aW (es:List Expr):Bool:=es.all noStar
noncomputable def rf (o:Expr) (apos pos:Pos) (es:List Expr):Bool:=baseOk o && apos.endLine == pos.line && Nat.blt es.length 30
noncomputable def iX:Expr->Bool
 | .Slice ..=>false
 | _=>true
inductive VX:Expr->Type where
 | const (c:Const) (k:Nat) (p:Pos):VX (.Constant c k p)
 | name (x:Str) (p:Pos):VX (.Name x p)
 | tup (es:List Expr) (k:Nat) (p:Pos):VX (.Tuple es k p)
 | lst (es:List Expr) (p:Pos):VX (.List es p)
 | dict (ks:List (Option Expr)) (vs:List Expr) (p:Pos):VX (.Dict ks vs p)
 | slc (v:Expr) (lo hi st:Option Expr) (sp p:Pos):VX (.Subscript v (.Slice lo hi st sp) p)
 | sub (v i:Expr) (p:Pos) (h:iX i=true):VX (.Subscript v i p)
 | bin (l:Expr) (o:Operator) (r:Expr) (p:Pos):VX (.BinOp l o r p)
 | not (x:Expr) (p:Pos):VX (.UnaryOp .Not x p)
 | neg (i:Int) (k:Nat) (kp p:Pos):VX (.UnaryOp .USub (.Constant (.int i) k kp) p)
 | band (es:List Expr) (p:Pos):VX (.BoolOp .And es p)
 | bor (es:List Expr) (p:Pos):VX (.BoolOp .Or es p)
 | cmp (l:Expr) (o:CmpOp) (r:Expr) (p:Pos):VX (.Compare l [o] [r] p)
 | ite (c a b:Expr) (p:Pos):VX (.IfExp c a b p)
 | callN (x:Str) (xp:Pos) (as:List Expr) (p:Pos):VX (.Call (.Name x xp) as [] p)
 | uG (o:Expr) (m:Str) (ap:Pos) (as:List Expr) (p:Pos):VX (.Call (.Attribute o m ap) as [] p)
 | att (o:Expr) (a:Str) (p:Pos):VX (.Attribute o a p)
 | comp (e:Expr) (g:List Comprehension) (sc:Scope) (p:Pos):VX (.ListComp e g sc p)
 | un (e:Expr):VX e
noncomputable def Bf:(e:Expr)->VX e
 | .Constant c k p=>.const c k p
 | .Name x p=>.name x p
 | .Tuple es k p=>.tup es k p
 | .List es p=>.lst es p
 | .Dict ks vs p=>.dict ks vs p
 | .Subscript v i p=>if h:iX i=true then .sub v i p h else (match i with | .Slice lo hi st sp=>.slc v lo hi st sp p | i=>.un (.Subscript v i p))
 | .BinOp l o r p=>.bin l o r p
 | .UnaryOp .Not x p=>.not x p
 | .UnaryOp .USub (.Constant (.int i) k kp) p=>.neg i k kp p
 | .BoolOp .And es p=>.band es p
 | .BoolOp .Or es p=>.bor es p
 | .Compare l [o] [r] p=>.cmp l o r p
 | .IfExp c a b p=>.ite c a b p
 | .Call (.Name x xp) as [] p=>.callN x xp as p
 | .Call (.Attribute o m ap) as [] p=>.uG o m ap as p
 | .Attribute o a p=>.att o a p
 | .ListComp e g sc p=>.comp e g sc p
 | e=>.un e
noncomputable def Qg (b:Bi):List X->X
 | [a]=>.isi b a
 | _=>.un
noncomputable def vg:Option Nat->Option D->X
 | some i,_=>.loc i
 | none,some d=>.gl d
 | none,none=>.un
noncomputable def ifU {T:Type} (u:T) (b:Bool) (x:T):T:=match b with | true=>x | false=>u
noncomputable def opU {α T:Type} (u:T) (o:Option α) (f:α->T):T:=match o with | some a=>f a | none=>u
noncomputable def Gn:Const->X
 | .none=>.k .none
 | .bool b=>.k (.bool b)
 | .int i=>.k (.int i)
 | .str s=>.k (.str s.cps.toList)
 | _=>.un
noncomputable def biW (b:Bi) (xs:List X):X:=match gY b with | true=>Qg b xs | false=>.bi b xs
noncomputable def F4 (cx:Cx) (f:Expr->X) (e:Expr) (v:VX e):X:=VX.casesOn (motive:=fun _ _=>X) v
 (fun c _ _=>Gn c)
 (fun x _=>vg (cx.slot x) (cx.glob x))
 (fun es _ _=>.tup (es.map f))
 (fun es _=>.lst (es.map f))
 (fun ks vs _=>opU .un (iJ ks vs) .dsp)
 (fun v lo hi st _ _=>opU (.slc (f v) (lo.map f) (hi.map f)) st fun e=>ifU .un (lo.isNone && hi.isNone && dB e) (.rev (f v)))
 (fun v s _ _=>.sub (f v) (f s))
 (fun l o r _=>opU .un (rq o) fun o=>.bin o (f l) (f r))
 (fun x _=>.bnot (f x))
 (fun i k p _=>.neg (f (.Constant (.int i) k p)))
 (fun es _=>.band (es.map f))
 (fun es _=>.bor (es.map f))
 (fun l op r _=>ifU .un (!behindInMarks op r) (.cmp (mY op) (f l) (f r)))
 (fun c a b _=>.ite (f c) (f a) (f b))
 (fun x p as _=>ifU .un (aW as) (opU (opU (ifU .un ((iI x as).all cx.builtin) (opU .un (we x as) fun q=>biW q.1 (q.2.map f))) (cx.glob x) fun _=>.call (f (.Name x p)) (as.map f)) (cx.slot x) fun _=>.call (f (.Name x p)) (as.map f)))
 (fun o m apos as cpos=>ifU .un (aW as) (ifU .un (rf o apos cpos as) (opU (opU .un (HF m) fun m=>.me m (f o) (as.map f)) (J1 m) fun m=>.wm m (f o) (as.map f))))
 (fun o a _=>ifU .un (baseOk o) (opU .un (sW a) fun a=>.att (f o) a))
 (fun elt gens sc _=>opU .un (pairsOf elt gens sc) fun it=>.pairs (f it))
 (fun _=>.un)
noncomputable def aa:Nat->Cx->Expr->X
 | 0,_,_=>.un
 | n+1,cx,e=>F4 cx (aa n cx) e (Bf e)
noncomputable def slots (cx:Cx):List Expr->Option (List Nat)
 | []=>some []
 | e :: r=>(nameOf e).bind fun x=>(cx.slot x).bind fun i=>(slots cx r).map (i :: ·)
noncomputable def qk (cx:Cx) (e:Expr):Option Tg:=match eZ e with
 | .name x _=>(cx.slot x).map .n
 | .tup es _ _=>(slots cx es).map .ns
 | _=>none
noncomputable def rangeOf (cx:Cx) (i:Expr):Option Expr:=match rU i with
 | .call r _ as _ => (match as with | [e] => if isS r "range" && cx.builtin r && noStar e then some e else none | _ => none)
 | _=>none
noncomputable def vB (i:Expr):Option Expr:=match rU i with
 | .rev v e _ _=>if dB e then some v else none
 | _=>none
noncomputable def nt:Expr->Bool
 | .Tuple vs _ _=>!(vs.all (constantsAlone 8)) || vs.all (foldedForSure 8)
 | .ListComp ..=>false
 | .SetComp ..=>false
 | .DictComp ..=>false
 | _=>true
noncomputable def kF:Option D->Bool
 | some (.glob _)=>true
 | _=>false
inductive VS:Stmt->Type where
 | ret (e:Expr) (p:Pos):VS (.Return (some e) p)
 | ex (e:Expr) (p:Pos):VS (.Expr e p)
 | asgA (o:Expr) (a:Str) (ap:Pos) (v:Expr) (p:Pos):VS (.Assign [.Attribute o a ap] v p)
 | asgS (o i:Expr) (ip:Pos) (v:Expr) (p:Pos):VS (.Assign [.Subscript o i ip] v p)
 | asgN (x:Str) (xp:Pos) (v:Expr) (p:Pos):VS (.Assign [.Name x xp] v p)
 | bW (es:List Expr) (k:Nat) (tp:Pos) (v:Expr) (p:Pos):VS (.Assign [.Tuple es k tp] v p)
 | aug (x:Str) (xp:Pos) (v:Expr) (p:Pos):VS (.AugAssign (.Name x xp) .Add v p)
 | augA (o:Expr) (a:Str) (ap:Pos) (op:Operator) (v:Expr) (p:Pos):VS (.AugAssign (.Attribute o a ap) op v p)
 | ifs (c:Expr) (a b:List Stmt) (p:Pos):VS (.If c a b p)
 | whl (c:Expr) (b:List Stmt) (p:Pos):VS (.While c b [] p)
 | for_ (t it:Expr) (b:List Stmt) (p:Pos):VS (.For t it b [] p)
 | raise (x:Str) (xp:Pos) (m q:Expr) (cp p:Pos):VS (.Raise (some (.Call (.Name x xp) [m,q] [] cp)) none p)
 | brk (p:Pos):VS (.Break p)
 | try_ (x:Str) (p1:Pos) (v:Expr) (p2:Pos) (g:Str) (p3:Pos) (k:Nat) (p4 p5 p6 p7:Pos) :
   VS (.Try [.Assign [.Name x p1] v p2] [.ExceptHandler (some (.Name g p3)) none [.Return (some (.Constant .none k p4)) p5] p6] [] [] p7)
 | un (s:Stmt):VS s
section
variable {α:Type} {M:List α->Type} {MO:Option α->Type} {ME:Expr->Type} {MS:Stmt->Type}
noncomputable def on0 (f:M []) (d:∀ l,M l):∀ l,M l
 | []=>f
 | l=>d l
noncomputable def on1 (f:∀ a,M [a]) (d:∀ l,M l):∀ l,M l
 | [a]=>f a
 | l=>d l
noncomputable def xE (f:∀ a,MO (some a)) (d:MO none):∀ o,MO o
 | some a=>f a
 | none=>d
noncomputable def HS (f:∀ x p,ME (.Name x p)) (d:∀ e,ME e):∀ e,ME e
 | .Name x p=>f x p
 | e=>d e
noncomputable def Qw (f:∀ k p,ME (.Constant .none k p)) (d:∀ e,ME e):∀ e,ME e
 | .Constant .none k p=>f k p
 | e=>d e
noncomputable def Qv (f:∀ g as ks p,ME (.Call g as ks p)) (d:∀ e,ME e):∀ e,ME e
 | .Call g as ks p=>f g as ks p
 | e=>d e
noncomputable def Qu (f:∀ ts v p,MS (.Assign ts v p)) (d:∀ e,MS e):∀ e,MS e
 | .Assign ts v p=>f ts v p
 | e=>d e
noncomputable def Qx (f:∀ o p,MS (.Return o p)) (d:∀ e,MS e):∀ e,MS e
 | .Return o p=>f o p
 | e=>d e
end
noncomputable def Ek (v:Expr) (p:Pos):(t:Expr)->VS (.Assign [t] v p)
 | .Attribute o a ap=>.asgA o a ap v p
 | .Subscript o i ip=>.asgS o i ip v p
 | .Name x xp=>.asgN x xp v p
 | .Tuple es k tp=>.bW es k tp v p
 | _=>.un _
noncomputable def El (op:Operator) (v:Expr) (p:Pos):(t:Expr)->VS (.AugAssign t op v p)
 | .Name x xp=>(match op with | .Add=>.aug x xp v p | _=>.un _)
 | .Attribute o a ap=>.augA o a ap op v p
 | _=>.un _
noncomputable def yc (p:Pos):(o:Option Expr)->VS (.Raise o none p) :=
 xE (MO:=fun o=>VS (.Raise o none p)) (Qv (ME:=fun e=>VS (.Raise (some e) none p)) (fun g as ks cp=>HS (ME:=fun g=>VS (.Raise (some (.Call g as ks cp)) none p)) (fun x xp=>on0 (M:=fun ks=>VS (.Raise (some (.Call (.Name x xp) as ks cp)) none p)) (match as with | [m,q]=>.raise x xp m q cp p | _=>.un _) (fun _=>.un _) ks) (fun _=>.un _) g) (fun _=>.un _)) (.un _)
noncomputable def IY (x:Str) (p1:Pos) (v:Expr) (p2 p7:Pos):(h:ExceptHandler)->VS (.Try [.Assign [.Name x p1] v p2] [h] [] [] p7)
 | .ExceptHandler t n b p6 =>
  xE (MO:=fun t=>VS (.Try [.Assign [.Name x p1] v p2] [.ExceptHandler t n b p6] [] [] p7)) (HS (ME:=fun t=>VS (.Try [.Assign [.Name x p1] v p2] [.ExceptHandler (some t) n b p6] [] [] p7)) (fun g p3=>xE (MO:=fun n=>VS (.Try [.Assign [.Name x p1] v p2] [.ExceptHandler (some (.Name g p3)) n b p6] [] [] p7)) (fun _=>.un _)
   (on1 (M:=fun b=>VS (.Try [.Assign [.Name x p1] v p2] [.ExceptHandler (some (.Name g p3)) none b p6] [] [] p7)) (Qx (MS:=fun r=>VS (.Try [.Assign [.Name x p1] v p2] [.ExceptHandler (some (.Name g p3)) none [r] p6] [] [] p7)) (fun o p5=>xE (MO:=fun o=>VS (.Try [.Assign [.Name x p1] v p2] [.ExceptHandler (some (.Name g p3)) none [.Return o p5] p6] [] [] p7))
    (Qw (ME:=fun e=>VS (.Try [.Assign [.Name x p1] v p2] [.ExceptHandler (some (.Name g p3)) none [.Return (some e) p5] p6] [] [] p7)) (fun k p4=>.try_ x p1 v p2 g p3 k p4 p5 p6 p7) (fun _=>.un _)) (.un _) o) (fun _=>.un _)) (fun _=>.un _) b) n) (fun _=>.un _)) (.un _) t
noncomputable def Em (hs:List ExceptHandler) (p7:Pos):(b:List Stmt)->VS (.Try b hs [] [] p7) :=
 on1 (M:=fun b=>VS (.Try b hs [] [] p7)) (Qu (MS:=fun s=>VS (.Try [s] hs [] [] p7)) (fun ts v p2=>on1 (M:=fun ts=>VS (.Try [.Assign ts v p2] hs [] [] p7)) (HS (ME:=fun t=>VS (.Try [.Assign [t] v p2] hs [] [] p7)) (fun x p1=>on1 (M:=fun hs=>VS (.Try [.Assign [.Name x p1] v p2] hs [] [] p7)) (IY x p1 v p2 p7) (fun _=>.un _) hs) (fun _=>.un _)) (fun _=>.un _) ts) (fun _=>.un _)) (fun _=>.un _)
noncomputable def Be:(s:Stmt)->VS s
 | .Return o p=>xE (MO:=fun o=>VS (.Return o p)) (fun e=>.ret e p) (.un _) o
 | .Expr e p=>.ex e p
 | .Assign ts v p=>on1 (M:=fun ts=>VS (.Assign ts v p)) (Ek v p) (fun _=>.un _) ts
 | .AugAssign t op v p=>El op v p t
 | .If c a b p=>.ifs c a b p
 | .While c b e p=>on0 (M:=fun e=>VS (.While c b e p)) (.whl c b p) (fun _=>.un _) e
 | .For t it b e p=>on0 (M:=fun e=>VS (.For t it b e p)) (.for_ t it b p) (fun _=>.un _) e
 | .Raise o c p=>xE (MO:=fun c=>VS (.Raise o c p)) (fun _=>.un _) (yc p o) c
 | .Break p=>.brk p
 | .Try b hs e f p=>on0 (M:=fun e=>VS (.Try b hs e f p)) (on0 (M:=fun f=>VS (.Try b hs [] f p)) (Em hs p b) (fun _=>.un _) f) (fun _=>.un _) e
 | s=>.un s
noncomputable def tgN (t:Tg) (f:Nat->SS):SS:=match t with | .n i=>f i | .ns _=>.un
noncomputable def F3 (cx:Cx) (f:Expr->X) (g:Stmt->SS) (s:Stmt) (v:VS s):SS:=VS.casesOn (motive:=fun _ _=>SS) v
 (fun e _=>.ret (f e))
 (fun e _=>ifU .un (nt e) (.ex (f e)))
 (fun o a _ v _=>opU .un (sW a) fun a=>.asgA (f o) a (f v))
 (fun o i _ v _=>.asgS (f o) (f i) (f v))
 (fun x _ v _=>opU .un (cx.slot x) fun i=>ifU .un (nt v) (.asg (.n i) (f v)))
 (fun es _ _ v _=>opU .un (slots cx es) fun is=>ifU .un (nt v) (.asg (.ns is) (f v)))
 (fun x _ v _=>opU .un (cx.slot x) fun i=>.aug i (f v))
 (fun o a _ op v _=>opU .un (sW a) fun a=>opU .un (rq op) fun op=>.augA (f o) a op (f v))
 (fun c a b _=>.ifs (f c) (a.map g) (b.map g))
 (fun c b _=>.whl (f c) (b.map g))
 (fun t it b _=>opU .un (qk cx t) fun t=>opU (opU (.for_ t (f it) (b.map g)) (vB it) fun v=>.forv t (f v) (b.map g)) (rangeOf cx it) fun e=>tgN t fun i=>.forR i (f e) (b.map g))
 (fun x _ m p _ _ => ifU .un (isS x "GrammarFault" && aW [m, p] && kF (cx.glob x)) (.raise (f m) (f p)))
 (fun _=>.brk)
 (fun x _ v _ y _ _ _ _ _ _ => opU .un (cx.slot x) fun i => ifU .un (isS y "GrammarFault" && nt v && kF (cx.glob y)) (.try_ i (f v)))
 (fun _=>.un)
noncomputable def aF:Nat->Cx->Stmt->SS
 | 0,_,_=>.un
 | n+1,cx,s=>F3 cx (aa n cx) (aF n cx) s (Be s)
structure ah where
 np:Nat
 nl:Nat
 dfl:List D
 body:List SS
noncomputable def localNames (ps:Arguments) (sc:Scope):List Str:=ps.args.map (·.arg)++((sc.names.filter fun x=>x.2 == .local && !(ps.args.map (·.arg)).contains x.1).map (·.1))
noncomputable def sR (e:Expr):Option D:=match eZ e with
 | .const c _ _=>(match c with | .none=>some .none | .bool b=>some (.bool b) | .int i=>some (.int i) | _=>none)
 | _=>none
noncomputable def d9:List Expr->Option (List D)
 | []=>some []
 | e :: r=>(match sR e,d9 r with | some d,some ds=>some (d :: ds) | _,_=>none)
noncomputable def F2 (gl:List (Str × D)) (ps:Arguments) (body:List Stmt) (sc:Scope):Option ah:=do
 let names:=localNames ps sc
 let dfl ← d9 ps.defaults
 some { np:=ps.args.length,nl:=names.length,dfl,body:=body.map (aF 60 { names,scope:=sc,gl }) }
end Mine.Internal
end
section
namespace Mine.Internal
open PySem
noncomputable def eO:List (Str × D):=[
 (Str.ofString "LendError", .glob 32),
 (Str.ofString "WordFault", .glob 45),
 (Str.ofString "GrammarFault", .glob 57),
 (Str.ofString "INT_KINDS", .tup [.str [105, 56], .str [105, 49, 54], .str [105, 51, 50], .str [105, 54, 52], .str [117, 56], .str [117, 49, 54], .str [117, 51, 50], .str [117, 54, 52], .str [117, 115, 105, 122, 101]]),
 (Str.ofString "KEYWORDS", .tup [.str [95], .str [83, 101, 108, 102], .str [97, 98, 115, 116, 114, 97, 99, 116], .str [97, 115], .str [97, 115, 121, 110, 99], .str [97, 119, 97, 105, 116], .str [98, 101, 99, 111, 109, 101], .str [98, 111, 120], .str [98, 114, 101, 97, 107], .str [99, 111, 110, 115, 116], .str [99, 111, 110, 116, 105, 110, 117, 101], .str [99, 114, 97, 116, 101], .str [100, 111], .str [100, 121, 110], .str [101, 108, 115, 101], .str [101, 110, 117, 109], .str [101, 120, 116, 101, 114, 110], .str [102, 97, 108, 115, 101], .str [102, 105, 110, 97, 108], .str [102, 110], .str [102, 111, 114], .str [105, 102], .str [105, 109, 112, 108], .str [105, 110], .str [108, 101, 116], .str [108, 111, 111, 112], .str [109, 97, 99, 114, 111], .str [109, 97, 116, 99, 104], .str [109, 111, 100], .str [109, 111, 118, 101], .str [109, 117, 116], .str [111, 118, 101, 114, 114, 105, 100, 101], .str [112, 114, 105, 118], .str [112, 117, 98], .str [114, 101, 102], .str [114, 101, 116, 117, 114, 110], .str [115, 101, 108, 102], .str [115, 116, 97, 116, 105, 99], .str [115, 116, 114, 117, 99, 116], .str [115, 117, 112, 101, 114], .str [116, 114, 97, 105, 116], .str [116, 114, 117, 101], .str [116, 114, 121], .str [116, 121, 112, 101], .str [116, 121, 112, 101, 111, 102], .str [117, 110, 115, 97, 102, 101], .str [117, 110, 115, 105, 122, 101, 100], .str [117, 115, 101], .str [118, 105, 114, 116, 117, 97, 108], .str [119, 104, 101, 114, 101], .str [119, 104, 105, 108, 101], .str [121, 105, 101, 108, 100]]),
 (Str.ofString "SIGNS", .tup [.str [60, 60, 61], .str [62, 62, 61], .str [46, 46, 61], .str [58, 58], .str [45, 62], .str [61, 62], .str [61, 61], .str [33, 61], .str [60, 61], .str [62, 61], .str [38, 38], .str [124, 124], .str [60, 60], .str [62, 62], .str [46, 46], .str [43, 61], .str [45, 61], .str [42, 61], .str [47, 61], .str [37, 61], .str [38, 61], .str [124, 61], .str [94, 61], .str [40], .str [41], .str [123], .str [125], .str [91], .str [93], .str [44], .str [59], .str [58], .str [46], .str [61], .str [60], .str [62], .str [43], .str [45], .str [42], .str [47], .str [37], .str [38], .str [124], .str [94], .str [33], .str [64]]),
 (Str.ofString "SMALL", .str [97, 98, 99, 100, 101, 102, 103, 104, 105, 106, 107, 108, 109, 110, 111, 112, 113, 114, 115, 116, 117, 118, 119, 120, 121, 122]),
 (Str.ofString "GREAT", .str [65, 66, 67, 68, 69, 70, 71, 72, 73, 74, 75, 76, 77, 78, 79, 80, 81, 82, 83, 84, 85, 86, 87, 88, 89, 90]),
 (Str.ofString "FIGURES", .str [48, 49, 50, 51, 52, 53, 54, 55, 56, 57]),
 (Str.ofString "NAME_BEGINS", .str [97, 98, 99, 100, 101, 102, 103, 104, 105, 106, 107, 108, 109, 110, 111, 112, 113, 114, 115, 116, 117, 118, 119, 120, 121, 122, 65, 66, 67, 68, 69, 70, 71, 72, 73, 74, 75, 76, 77, 78, 79, 80, 81, 82, 83, 84, 85, 86, 87, 88, 89, 90, 95]),
 (Str.ofString "NAME_SIGNS", .str [97, 98, 99, 100, 101, 102, 103, 104, 105, 106, 107, 108, 109, 110, 111, 112, 113, 114, 115, 116, 117, 118, 119, 120, 121, 122, 65, 66, 67, 68, 69, 70, 71, 72, 73, 74, 75, 76, 77, 78, 79, 80, 81, 82, 83, 84, 85, 86, 87, 88, 89, 90, 95, 48, 49, 50, 51, 52, 53, 54, 55, 56, 57]),
 (Str.ofString "BLANKS", .str [32, 9, 13, 10, 11, 12, 133, 8206, 8207, 8232, 8233]),
 (Str.ofString "MOST_FIGURES", .int 40),
 (Str.ofString "MOST_VALUE", .int 10000000000000000000000000000000000000000),
 (Str.ofString "MOST_DEEP", .int 60),
 (Str.ofString "run_end", .glob 69),
 (Str.ofString "remark_end", .glob 76),
 (Str.ofString "blank_end", .glob 83),
 (Str.ofString "figure_worth", .glob 90),
 (Str.ofString "base_at", .glob 97),
 (Str.ofString "read_int", .glob 104),
 (Str.ofString "read_sign", .glob 111),
 (Str.ofString "read_word", .glob 118),
 (Str.ofString "word_rows", .glob 125),
 (Str.ofString "read_words", .glob 132),
 (Str.ofString "Words", .glob 207),
 (Str.ofString "PATH_WORDS", .tup [.str [83, 101, 108, 102], .str [99, 114, 97, 116, 101], .str [115, 101, 108, 102], .str [115, 117, 112, 101, 114]]),
 (Str.ofString "MOST_LENGTH", .int 4096),
 (Str.ofString "read_type", .glob 219),
 (Str.ofString "read_shallow_type", .glob 226),
 (Str.ofString "read_paren_type", .glob 233),
 (Str.ofString "read_ref_type", .glob 240),
 (Str.ofString "read_array_type", .glob 247),
 (Str.ofString "read_length", .glob 254),
 (Str.ofString "read_spath", .glob 260),
 (Str.ofString "read_segment", .glob 267),
 (Str.ofString "read_path_name", .glob 274),
 (Str.ofString "read_arguments", .glob 281),
 (Str.ofString "is_closed", .glob 288),
 (Str.ofString "is_plain_name", .glob 295),
 (Str.ofString "read_pattern", .glob 302),
 (Str.ofString "read_part", .glob 309),
 (Str.ofString "read_shallow_part", .glob 316),
 (Str.ofString "is_alone", .glob 323),
 (Str.ofString "read_ref_pattern", .glob 330),
 (Str.ofString "read_paren_pattern", .glob 337),
 (Str.ofString "read_whole", .glob 344),
 (Str.ofString "read_number", .glob 351),
 (Str.ofString "read_binding", .glob 358),
 (Str.ofString "read_variant", .glob 365),
 (Str.ofString "read_places", .glob 372),
 (Str.ofString "read_fields", .glob 379),
 (Str.ofString "read_field", .glob 532),
 (Str.ofString "read_field_parse_patterns", .glob 386),
 (Str.ofString "LEVELS", .dct [([124, 124], .int 1), ([38, 38], .int 2), ([61, 61], .int 3), ([33, 61], .int 3), ([60], .int 3), ([60, 61], .int 3), ([62], .int 3), ([62, 61], .int 3), ([124], .int 4), ([94], .int 5), ([38], .int 6), ([60, 60], .int 7), ([62, 62], .int 7), ([43], .int 8), ([45], .int 8), ([42], .int 9), ([47], .int 9), ([37], .int 9)]),
 (Str.ofString "COMPARED", .int 3),
 (Str.ofString "UPDATES", .tup [.str [43, 61], .str [45, 61], .str [42, 61], .str [47, 61], .str [37, 61], .str [38, 61], .str [124, 61], .str [94, 61], .str [60, 60, 61], .str [62, 62, 61]]),
 (Str.ofString "MACROS", .tup [.str [112, 97, 110, 105, 99], .str [97, 115, 115, 101, 114, 116], .str [112, 114, 105, 110, 116]]),
 (Str.ofString "ENDS", .tup [.str [59], .str [125], .str [41], .str [93], .str [44], .str [61, 62]]),
 (Str.ofString "read_expr", .glob 399),
 (Str.ofString "read_right", .glob 406),
 (Str.ofString "level_of", .glob 413),
 (Str.ofString "read_binary", .glob 420),
 (Str.ofString "read_behind", .glob 427),
 (Str.ofString "read_cast", .glob 434),
 (Str.ofString "cast_behind", .glob 441),
 (Str.ofString "read_unary", .glob 448),
 (Str.ofString "read_beneath", .glob 455),
 (Str.ofString "read_borrow", .glob 462),
 (Str.ofString "read_postfix", .glob 469),
 (Str.ofString "read_member", .glob 476),
 (Str.ofString "place_name", .glob 483),
 (Str.ofString "read_types", .glob 490),
 (Str.ofString "closes", .glob 497),
 (Str.ofString "read_list", .glob 504),
 (Str.ofString "is_block_like", .glob 511),
 (Str.ofString "read_primary", .glob 518),
 (Str.ofString "read_path_like", .glob 525),
 (Str.ofString "read_field_parse_exprs", .glob 532),
 (Str.ofString "read_paren", .glob 539),
 (Str.ofString "read_array", .glob 546),
 (Str.ofString "read_label", .glob 553),
 (Str.ofString "has_value", .glob 560),
 (Str.ofString "read_jump", .glob 567),
 (Str.ofString "read_block_like", .glob 574),
 (Str.ofString "read_loop", .glob 581),
 (Str.ofString "read_if", .glob 588),
 (Str.ofString "read_match", .glob 595),
 (Str.ofString "read_arm", .glob 602),
 (Str.ofString "read_on", .glob 609),
 (Str.ofString "read_let", .glob 616),
 (Str.ofString "read_statement_expr", .glob 623),
 (Str.ofString "read_block", .glob 630),
 (Str.ofString "plain", .glob 635),
 (Str.ofString "without_spot", .glob 642),
 (Str.ofString "_law_creel", .glob 649),
 (Str.ofString "_law_draw", .glob 656),
 (Str.ofString "_law_path", .glob 663),
 (Str.ofString "_law_block", .glob 670),
 (Str.ofString "_law_ahead", .glob 677),
 (Str.ofString "_law_held", .glob 684),
 (Str.ofString "_law_blocked", .glob 691),
 (Str.ofString "_law_open", .glob 698),
 (Str.ofString "_law_read", .glob 705),
 (Str.ofString "_law_depth_right", .glob 712),
 (Str.ofString "_law_match_right", .glob 719),
 (Str.ofString "_law_texts", .glob 726),
 (Str.ofString "law", .glob 733)]
noncomputable def defsIn (b:List Stmt) (n:Str):List (Arguments × List Stmt × Scope):=b.filterMap fun s=>match s with
 | .FunctionDef m ps bd _ _ _ sc _ _ _=>if m == n then some (ps,bd,sc) else none
 | _=>none
noncomputable def wz (b:List Stmt) (n:Str):List Stmt:=(b.filterMap fun s=>match s with
 | .ClassDef m _ _ bd _ _ _ _ _ _ _=>if m == n then some bd else none
 | _=>none).headD []
noncomputable def Al:List Stmt:=PySem.Challenge.pw_sa0455_01.main.body
structure At where
 cls:Option String
 name:String
 i:Nat
noncomputable def At.find (a:At):Option (Arguments × List Stmt × Scope) :=
 (defsIn (match a.cls with | some c=>wz Al (Str.ofString c) | none=>Al) (Str.ofString a.name))[a.i]?
noncomputable def At.comp (a:At):Option ah:=a.find.bind fun (ps,bd,sc)=>F2 eO ps bd sc
noncomputable def nM:List (Nat × At):=[
 (69, ⟨none, "run_end", 0⟩),
 (83, ⟨none, "blank_end", 0⟩),
 (90, ⟨none, "figure_worth", 0⟩),
 (97, ⟨none, "base_at", 0⟩),
 (104, ⟨none, "read_int", 0⟩),
 (111, ⟨none, "read_sign", 0⟩),
 (118, ⟨none, "read_word", 0⟩),
 (125, ⟨none, "word_rows", 0⟩),
 (132, ⟨none, "read_words", 0⟩),
 (146, ⟨some "Words", "__init__", 0⟩),
 (153, ⟨some "Words", "deeper", 0⟩),
 (160, ⟨some "Words", "shallower", 0⟩),
 (168, ⟨some "Words", "peek", 0⟩),
 (175, ⟨some "Words", "take", 0⟩),
 (183, ⟨some "Words", "looks", 0⟩),
 (190, ⟨some "Words", "expect", 0⟩),
 (197, ⟨some "Words", "name", 0⟩),
 (204, ⟨some "Words", "split_close", 0⟩),
 (219, ⟨none, "read_type", 0⟩),
 (226, ⟨none, "read_shallow_type", 0⟩),
 (233, ⟨none, "read_paren_type", 0⟩),
 (240, ⟨none, "read_ref_type", 0⟩),
 (247, ⟨none, "read_array_type", 0⟩),
 (254, ⟨none, "read_length", 0⟩),
 (260, ⟨none, "read_spath", 0⟩),
 (267, ⟨none, "read_segment", 0⟩),
 (274, ⟨none, "read_path_name", 0⟩),
 (281, ⟨none, "read_arguments", 0⟩),
 (288, ⟨none, "is_closed", 0⟩),
 (295, ⟨none, "is_plain_name", 0⟩),
 (302, ⟨none, "read_pattern", 0⟩),
 (309, ⟨none, "read_part", 0⟩),
 (316, ⟨none, "read_shallow_part", 0⟩),
 (323, ⟨none, "is_alone", 0⟩),
 (330, ⟨none, "read_ref_pattern", 0⟩),
 (337, ⟨none, "read_paren_pattern", 0⟩),
 (344, ⟨none, "read_whole", 0⟩),
 (351, ⟨none, "read_number", 0⟩),
 (358, ⟨none, "read_binding", 0⟩),
 (365, ⟨none, "read_variant", 0⟩),
 (372, ⟨none, "read_places", 0⟩),
 (379, ⟨none, "read_fields", 0⟩),
 (386, ⟨none, "read_field", 0⟩),
 (399, ⟨none, "read_expr", 0⟩),
 (406, ⟨none, "read_right", 0⟩),
 (413, ⟨none, "level_of", 0⟩),
 (420, ⟨none, "read_binary", 0⟩),
 (427, ⟨none, "read_behind", 0⟩),
 (434, ⟨none, "read_cast", 0⟩),
 (441, ⟨none, "cast_behind", 0⟩),
 (448, ⟨none, "read_unary", 0⟩),
 (455, ⟨none, "read_beneath", 0⟩),
 (462, ⟨none, "read_borrow", 0⟩),
 (469, ⟨none, "read_postfix", 0⟩),
 (476, ⟨none, "read_member", 0⟩),
 (483, ⟨none, "place_name", 0⟩),
 (490, ⟨none, "read_types", 0⟩),
 (497, ⟨none, "closes", 0⟩),
 (504, ⟨none, "read_list", 0⟩),
 (511, ⟨none, "is_block_like", 0⟩),
 (518, ⟨none, "read_primary", 0⟩),
 (525, ⟨none, "read_path_like", 0⟩),
 (532, ⟨none, "read_field", 1⟩),
 (539, ⟨none, "read_paren", 0⟩),
 (546, ⟨none, "read_array", 0⟩),
 (553, ⟨none, "read_label", 0⟩),
 (560, ⟨none, "has_value", 0⟩),
 (567, ⟨none, "read_jump", 0⟩),
 (574, ⟨none, "read_block_like", 0⟩),
 (581, ⟨none, "read_loop", 0⟩),
 (588, ⟨none, "read_if", 0⟩),
 (595, ⟨none, "read_match", 0⟩),
 (602, ⟨none, "read_arm", 0⟩),
 (609, ⟨none, "read_on", 0⟩),
 (616, ⟨none, "read_let", 0⟩),
 (623, ⟨none, "read_statement_expr", 0⟩),
 (630, ⟨none, "read_block", 0⟩),
 (635, ⟨none, "plain", 0⟩),
 (642, ⟨none, "without_spot", 0⟩),
 (649, ⟨none, "_law_creel", 0⟩),
 (656, ⟨none, "_law_draw", 0⟩),
 (663, ⟨none, "_law_path", 0⟩),
 (670, ⟨none, "_law_block", 0⟩),
 (677, ⟨none, "_law_ahead", 0⟩),
 (684, ⟨none, "_law_held", 0⟩),
 (691, ⟨none, "_law_blocked", 0⟩),
 (698, ⟨none, "_law_open", 0⟩),
 (705, ⟨none, "_law_read", 0⟩),
 (712, ⟨none, "_law_depth_right", 0⟩),
 (719, ⟨none, "_law_match_right", 0⟩),
 (726, ⟨none, "_law_texts", 0⟩),
 (733, ⟨none, "law", 0⟩)]
end Mine.Internal
end
section
namespace Mine.Internal
open PySem
theorem nn {α:Type} {a:α} {P:Prop} (h:(none:Option α)=some a):P:=nomatch h
theorem ns {α:Type} {a:α} {P:Prop} (h:some a=(none:Option α)):P:=nomatch h
theorem nb {P:Prop} (h:false=true):P:=Bool.noConfusion h
theorem cM {α:Type} {c:Bool} {x:Option α} {y:α} (h:(if c then x else none)=some y):c=true∧x=some y:=by
 cases c with
 | true=>exact ⟨rfl,h⟩
 | false=>exact nn h
theorem ak {a b:Bool} (h:(a && b)=true):a=true∧b=true:=Bool.and_eq_true_iff.mp h
mutual
noncomputable def D.py:D->Option PyData
 | .none=>some .none
 | .bool b=>some (.bool b)
 | .int i=>some (.int i)
 | .str s=>some (.str ⟨s.toArray⟩)
 | .tup ds=>(D.pys ds).map .tuple
 | _=>.none
noncomputable def D.pys:List D->Option (List PyData)
 | []=>some []
 | d :: r=>match D.py d,D.pys r with
  | some a,some b=>some (a :: b)
  | _,_=>.none
end
noncomputable def aB (d:PyData):Bool:=PySem.SeqAt.shaped d
noncomputable def aL:D->Option Bool
 | .bool b=>some b
 | _=>Option.none
noncomputable def lim:Nat:=1000000
section
variable {α β:Type}
noncomputable def zer (n x:α):List D->α | []=>x | _=>n
noncomputable def one (n:α) (f:β->α):List β->α | [a]=>f a | _=>n
noncomputable def two (n:α) (f:D->D->α):List D->α | [a,b]=>f a b | _=>n
noncomputable def onK (n:α) (f:D->List D->α):List D->α | a :: r=>f a r | []=>n
noncomputable def onI (n:α) (f:Int->α):D->α | .int i=>f i | _=>n
noncomputable def onU (n:α) (f:Nat->α):D->α:=onI n fun | .ofNat k=>f k | .negSucc _=>n
noncomputable def onS (n:α) (f:List Nat->α):D->α | .str s=>f s | _=>n
noncomputable def onT (n:α) (f:List D->α):D->α | .tup s=>f s | _=>n
noncomputable def onC (n:α) (f:Nat->α):D->α | .cell i=>f i | _=>n
noncomputable def onM (n:α) (f:List (List Nat × D)->α):D->α | .dct k=>f k | _=>n
noncomputable def onL (n:α) (f:List D->α):Option Cell->α | some (.lst ds)=>f ds | _=>n
noncomputable def onJ (n:α) (f:List (List Nat × D)->α):Option Cell->α | some (.obj fs)=>f fs | _=>n
noncomputable def onO (n:α) (f:β->α):Option β->α | some b=>f b | none=>n
variable {n:α} {G:α->Prop} {d:D}
theorem uy {G:List D->α->Prop} {x:α} (h0:∀ as,G as n) (h:G [] x):∀ as,G as (zer n x as)
 | []=>h
 | _ :: _=>h0 _
theorem jr {G:List β->α->Prop} {f:β->α} (h0:∀ as,G as n) (h:∀ a,G [a] (f a)):∀ as,G as (one n f as)
 | []=>h0 _
 | [a]=>h a
 | _ :: _ :: _=>h0 _
theorem uh {G:List D->α->Prop} {f:D->D->α} (h0:∀ as,G as n) (h:∀ a b,G [a,b] (f a b)):∀ as,G as (two n f as)
 | []=>h0 _
 | [_]=>h0 _
 | [a,b]=>h a b
 | _ :: _ :: _ :: _=>h0 _
theorem bK {f:Int->α} (h0:G n) (h:∀ i,d=.int i->G (f i)):G (onI n f d):=by
 cases d with
 | int i=>exact h i rfl
 | _=>exact h0
theorem A8 {f:Nat->α} (h0:G n) (h:∀ k:Nat,d=.int (.ofNat k)->G (f k)):G (onU n f d):=bK h0 fun i e=>by
 cases i with
 | ofNat k=>exact h k e
 | negSucc _=>exact h0
theorem cX {f:List Nat->α} (h0:G n) (h:∀ i,d=.str i->G (f i)):G (onS n f d):=by
 cases d with
 | str i=>exact h i rfl
 | _=>exact h0
theorem jq {f:List D->α} (h0:G n) (h:∀ i,d=.tup i->G (f i)):G (onT n f d):=by
 cases d with
 | tup i=>exact h i rfl
 | _=>exact h0
theorem cW {f:Nat->α} (h0:G n) (h:∀ i,d=.cell i->G (f i)):G (onC n f d):=by
 cases d with
 | cell i=>exact h i rfl
 | _=>exact h0
theorem tQ {f:List (List Nat × D)->α} (h0:G n) (h:∀ i,d=.dct i->G (f i)):G (onM n f d):=by
 cases d with
 | dct i=>exact h i rfl
 | _=>exact h0
theorem dD {f:List D->α} {c:Option Cell} (h0:G n) (h:∀ ds,c=some (.lst ds)->G (f ds)):G (onL n f c):=by
 cases c with
 | none=>exact h0
 | some c=>cases c with
  | lst ds=>exact h ds rfl
  | _=>exact h0
theorem tP {f:List (List Nat × D)->α} {c:Option Cell} (h0:G n) (h:∀ ds,c=some (.obj ds)->G (f ds)):G (onJ n f c):=by
 cases c with
 | none=>exact h0
 | some c=>cases c with
  | obj ds=>exact h ds rfl
  | _=>exact h0
theorem cJ {f:β->α} {c:Option β} (h0:G n) (h:∀ b,c=some b->G (f b)):G (onO n f c):=by
 cases c with
 | none=>exact h0
 | some b=>exact h b rfl
theorem jo {f:D->List D->α} {c:List D} (h0:G n) (h:∀ a r,c=a :: r->G (f a r)):G (onK n f c):=by
 cases c with
 | nil=>exact h0
 | cons a r=>exact h a r rfl
theorem aN {c:Prop} [Decidable c] {x y:α} (h1:c->G x) (h2:¬ c->G y):G (if c then x else y):=by
 by_cases h:c
 ·rw [if_pos h];exact h1 h
 ·rw [if_neg h];exact h2 h
end
noncomputable def D.pyC (σ:Sto):D->Option PyData
 | .cell i=>onL Option.none (fun ds=>(D.pys ds).map .list) σ[i]?
 | d=>d.py
noncomputable def cU (σ:Sto) (a i:D):Option D:=match i with
 | .int (.ofNat k)=>if Nat.ble k lim then (match a with
  | .tup ds=>ds[k]?
  | .fl ds=>ds[k]?
  | .str s=>(s[k]?).map fun c=>.str [c]
  | .cell j=>(match σ[j]? with | some (.lst ds)=>ds[k]? | _=>Option.none)
  | _=>Option.none) else Option.none
 | .str s=>(match a with | .dct kvs=>kvs.lookup s | _=>Option.none)
 | _=>Option.none
noncomputable def cD:Option D->Option (Option Nat)
 | Option.none=>some Option.none
 | some (.int (.ofNat k))=>some (some k)
 | _=>Option.none
noncomputable def bU {α:Type} (l:List α) (lo hi:Option Nat):List α:=(match hi with | some h=>l.take h | Option.none=>l).drop (lo.getD 0)
noncomputable def lM (x:PyData) (ys:List PyData):Bool:=ys.any fun y=>PyData.eqv y x
noncomputable def fy:D->Bool
 | .none=>true
 | _=>false
noncomputable def yQ (σ:Sto) (f:Bool->Bool) (a b:D):Option D:=onO none (fun x=>onO none (fun y=>if aB x && aB y then some (.bool (f (PyData.eqv x y))) else none) (D.pyC σ b)) (D.pyC σ a)
noncomputable def eS (f:Int->Int->Bool) (a b:D):Option D:=onI none (fun x=>onI none (fun y=>some (.bool (f x y))) b) a
noncomputable def jA (f:Bool->Bool) (a:D) (ds:List D):Option D:=onO none (fun x=>onO none (fun ys=>if aB x && aB (.tuple ys) then some (.bool (f (lM x ys))) else none) (D.pys ds)) a.py
noncomputable def aV (σ:Sto) (c:Cm) (a b:D):Option D:=match c with
 | .eq=>yQ σ (fun b=>b) a b
 | .ne=>yQ σ (fun b=>!b) a b
 | .lt=>eS (fun x y=>decide (x < y)) a b
 | .le=>eS (fun x y=>decide (x≤y)) a b
 | .gt=>eS (fun x y=>decide (y < x)) a b
 | .ge=>eS (fun x y=>decide (y≤x)) a b
 | .is=>(match b with | .none=>some (.bool (fy a)) | _=>Option.none)
 | .isn=>(match b with | .none=>some (.bool (!fy a)) | _=>Option.none)
 | .inn=>(match b with
  | .str s=>onS none (one none fun c=>some (.bool (s.contains c))) a
  | .dct kvs=>onS none (fun k=>some (.bool (kvs.lookup k).isSome)) a
  | .tup ds=>jA (fun b=>b) a ds
  | _=>none)
 | .notin=>onT none (jA (fun b=>!b) a) b
noncomputable def pR (σ:Sto) (f:Int->Nat->Int) (a b:D):R D:=onI .no (fun x=>onU .no (fun y=>if Nat.blt 0 y && Nat.ble y 1000000 then .ok (.int (f x y)) σ else .no) b) a
noncomputable def bx (σ:Sto) (o:Op) (a b:D):R D:=match o with
 | .add=>(match a with
  | .int x=>onI .no (fun y=>.ok (.int (x+y)) σ) b
  | .str x=>onS .no (fun y=>if Nat.ble (x.length+y.length) lim then .ok (.str (x++y)) σ else .no) b
  | .tup x=>onT .no (fun y=>if Nat.ble (x.length+y.length) lim then .ok (.tup (x++y)) σ else .no) b
  | .cell i=>onC .no (fun j=>onL .no (fun x=>onL .no (fun y=>if Nat.ble (x.length+y.length) lim then .ok (.cell σ.length) (σ++[.lst (x++y)]) else .no) σ[j]?) σ[i]?) b
  | _=>.no)
 | .sub=>onI .no (fun x=>onI .no (fun y=>.ok (.int (x - y)) σ) b) a
 | .mul=>onI .no (fun x=>onI .no (fun y=>if Nat.ble x.natAbs (10 ^ 60) && Nat.ble y.natAbs (10 ^ 6) then .ok (.int (x * y)) σ else .no) b) a
 | .fdiv=>pR σ (fun x y=>x.fdiv y) a b
 | .mod=>pR σ (fun x y=>x.fmod y) a b
 | .pow=>onU .no (fun x=>onU .no (fun n=>if Nat.beq x 10 && Nat.ble n 40 then .ok (.int ((10 ^ n:Nat):Int)) σ else .no) b) a
noncomputable def cQ (c:Nat):Nat:=if 65≤c && c≤90 then c+32 else c
noncomputable def tD (σ:Sto):D->Option Nat
 | .str s=>some s.length
 | .tup ds=>some ds.length
 | .fl ds=>some ds.length
 | .cell i=>onL none (fun ds=>some ds.length) σ[i]?
 | _=>Option.none
noncomputable def qX:D->Option Nat
 | .none=>some 0
 | .bool _=>some 1
 | .int _=>some 2
 | .str _=>some 3
 | .tup _=>some 4
 | _=>none
noncomputable def biD (σ:Sto) (b:Bi) (as:List D):R D:=match b with
 | .len=>one .no (fun a=>onO .no (fun n=>if Nat.ble n lim then .ok (.int n) σ else .no) (tD σ a)) as
 | .str=>one .no (onI .no fun i=>if i.natAbs < 10 ^ 100 then .ok (.str (sl (toString i))) σ else .no) as
 | .mn=>two .no (fun a b=>onI .no (fun x=>onI .no (fun y=>.ok (.int (if y < x then y else x)) σ) b) a) as
 | .mx=>two .no (fun a b=>onI .no (fun x=>onI .no (fun y=>.ok (.int (if x < y then y else x)) σ) b) a) as
 | .tup=>one .no (onC .no fun i=>onL .no (fun ds=>if ds.length≤lim then .ok (.tup ds) σ else .no) σ[i]?) as
 | .lst=>one .no (onC .no fun i=>onL .no (fun ds=>if ds.length≤lim then .ok (.cell σ.length) (σ++[.lst ds]) else .no) σ[i]?) as
 | .isTup=>one .no (fun a=>onO .no (fun k=>.ok (.bool (Nat.beq k 4)) σ) (qX a)) as
 | .isStr=>one .no (fun a=>onO .no (fun k=>.ok (.bool (Nat.beq k 3)) σ) (qX a)) as
 | .isInt=>one .no (fun a=>onO .no (fun k=>.ok (.bool (Nat.beq k 1 || Nat.beq k 2)) σ) (qX a)) as
 | .isBool=>one .no (fun a=>onO .no (fun k=>.ok (.bool (Nat.beq k 1)) σ) (qX a)) as
noncomputable def wR:List Nat:=[48,49,50,51,52,53,54,55,56,57,97,98,99,100,101,102]
noncomputable def fO (c:Nat):Int:=if Nat.ble 48 c && Nat.ble c 57 then ((c - 48:Nat):Int) else if Nat.ble 97 c && Nat.ble c 102 then ((c - 87:Nat):Int) else -1
noncomputable def meD (σ:Sto) (m:Me) (a:D) (as:List D):R D:=match m with
 | .append=>onC .no (fun i=>one .no (fun d=>onL .no (fun ds=>if ds.length≤lim then .ok .none (σ.set i (.lst (ds++[d]))) else .no) σ[i]?) as) a
 | .pop=>onC .no (fun i=>zer .no (onL .no (fun ds=>onK .no (fun d r=>if Nat.ble ds.length lim then .ok d (σ.set i (.lst r.reverse)) else .no) ds.reverse) σ[i]?) as) a
 | .extend=>onC .no (fun i=>one .no (onC .no fun j=>onL .no (fun x=>onL .no (fun y=>if Nat.beq i j then .no else if Nat.ble (x.length+y.length) lim then .ok .none (σ.set i (.lst (x++y))) else .no) σ[j]?) σ[i]?) as) a
 | .find=>onS .no (fun s=>one .no (onS .no <| one .no fun c=>if s == wR && Nat.blt c 128 then .ok (.int (fO c)) σ else .no) as) a
 | .lower=>onS .no (fun s=>zer .no (if s.all (Nat.blt · 128) && Nat.ble s.length lim then .ok (.str (s.map cQ)) σ else .no) as) a
 | .get=>onM .no (fun kvs=>two .no (fun k d=>onS .no (fun k=>onI .no (fun d=>.ok ((kvs.lookup k).getD (.int d)) σ) d) k) as) a
noncomputable def faN:Fa->List Nat
 | .rows=>[114,111,119,115]
 | .at=>[97,116]
 | .deep=>[100,101,101,112]
noncomputable def Mm:Nat:=60
noncomputable def iH (σ:Sto) (a:D) (f:Fa):Option D:=onC none (fun i=>onJ none (·.lookup (faN f)) σ[i]?) a
noncomputable def qb (fs:List (List Nat × D)) (k:List Nat) (d:D):List (List Nat × D):=match fs with
 | []=>[(k,d)]
 | p :: r=>if p.1 == k then (k,d) :: r else p :: qb r k d
noncomputable def bw (σ:Sto) (a:D) (f:Fa) (d:D):Option Sto:=onC none (fun i=>onJ none (fun fs=>some (σ.set i (.obj (qb fs (faN f) d)))) σ[i]?) a
noncomputable def cR (σ:Sto) (a i d:D):Option Sto:=match a,i with
 | .cell j,.int (.ofNat k)=>(match σ[j]? with | some (.lst ds)=>if Nat.blt k ds.length && Nat.ble ds.length lim then some (σ.set j (.lst (ds.set k d))) else Option.none | _=>Option.none)
 | _,_=>Option.none
noncomputable def wmA:Wm->Nat
 | .peek=>168 | .take=>175 | .looks=>183 | .expect=>190 | .name=>197 | .deeper=>153 | .shallower=>160 | .splitClose=>204
inductive Fl where
 | next | brk
 | ret (d:D)
abbrev Loc:=List (Option D)
structure Ev where
 x:Nat->Loc->X->Sto->R D
 l:Nat->Loc->List X->Sto->R (List D)
 b:Nat->Loc->List SS->Sto->R (Fl × Loc)
 w:Nat->Loc->X->List SS->Sto->R (Fl × Loc)
 f:Nat->Loc->Tg->List D->List SS->Sto->R (Fl × Loc)
 c:Nat->Nat->List D->Sto->R D
noncomputable def Ev.zero:Ev:=⟨fun _ _ _ _=>.no,fun _ _ _ _=>.no,fun _ _ _ _=>.no,fun _ _ _ _ _=>.no,fun _ _ _ _ _ _=>.no,fun _ _ _ _=>.no⟩
noncomputable def ofO {α:Type} (σ:Sto):Option α->R α
 | some a=>.ok a σ
 | Option.none=>.no
noncomputable def Ev.t (E:Ev) (dp:Nat) (ρ:Loc) (x:X) (σ:Sto):R Bool:=(E.x dp ρ x σ).bind fun d σ=>ofO σ (aL d)
noncomputable def Aa (E:Ev) (dp:Nat) (ρ:Loc) (x:Option X) (σ:Sto):R (Option D):=match x with
 | Option.none=>.ok Option.none σ
 | some x=>(E.x dp ρ x σ).bind fun d σ=>.ok (some d) σ
noncomputable def gm (σ:Sto) (a:D) (lo hi:Option Nat):R D:=match a with
 | .str s=>if Nat.ble s.length lim then .ok (.str (bU s lo hi)) σ else .no
 | .cell j=>(match σ[j]? with | some (.lst ds)=>if Nat.ble ds.length lim then .ok (.cell σ.length) (σ++[.lst (bU ds lo hi)]) else .no | _=>.no)
 | _=>.no
noncomputable def DN (σ:Sto) (a:D):R D:=match a with
 | .tup ds=>if Nat.ble ds.length lim then .ok (.tup ds.reverse) σ else .no
 | _=>.no
noncomputable def onG {α:Type} (n:α) (f:Nat->α):D->α | .glob a=>f a | _=>n
theorem HR {α:Type} {n:α} {G:α->Prop} {d:D} {f:Nat->α} (h0:G n) (h:∀ i,d=.glob i->G (f i)):G (onG n f d):=by
 cases d with
 | glob i=>exact h i rfl
 | _=>exact h0
noncomputable def uH (E:Ev) (dp:Nat) (f:D) (as:List D) (σ:Sto):R D:=onG .no (fun a=>E.c dp a as σ) f
noncomputable def ig (σ:Sto):D->Bool:=onC false fun i=>onJ false (fun _=>true) σ[i]?
noncomputable def zE (σ:Sto):D->Bool:=onC false fun i=>onL false (fun _=>true) σ[i]?
noncomputable def cV (σ:Sto) (m:Me) (a:D):Bool:=match m with
 | .append | .pop | .extend=>zE σ a
 | .find | .lower=>onS false (fun _=>true) a
 | .get=>onM false (fun _=>true) a
noncomputable def yO (kvs:List (List Nat × D)):Bool:=!kvs.isEmpty && Nat.ble kvs.length 15 && decide (kvs.map (·.1)).Nodup
noncomputable def aq (z:Bool) (E:Ev) (dp:Nat) (ρ:Loc) (x:X) (σ:Sto):R D:=match x with
 | .k d=>.ok d σ
 | .loc i=>(match ρ[i]? with | some (some d)=>.ok d σ | _=>.no)
 | .gl d=>.ok d σ
 | .tup xs=>(E.l dp ρ xs σ).bind fun ds σ=>if Nat.ble ds.length lim then .ok (.tup ds) σ else .no
 | .lst xs=>(E.l dp ρ xs σ).bind fun ds σ=>if Nat.ble ds.length lim then .ok (.cell σ.length) (σ++[.lst ds]) else .no
 | .dsp kvs=>if yO kvs then .ok (.dct kvs) σ else .no
 | .sub x i=>(E.x dp ρ x σ).bind fun a σ=>(E.x dp ρ i σ).bind fun i σ=>ofO σ (cU σ a i)
 | .slc x lo hi=>(E.x dp ρ x σ).bind fun a σ=>(Aa E dp ρ lo σ).bind fun l σ=>(Aa E dp ρ hi σ).bind fun h σ =>
   (match cD l,cD h with | some l,some h=>gm σ a l h | _,_=>.no)
 | .rev x=>(E.x dp ρ x σ).bind fun a σ=>DN σ a
 | .bin o x y=>(E.x dp ρ x σ).bind fun a σ=>(E.x dp ρ y σ).bind fun b σ=>bx σ o a b
 | .cmp c x y=>(E.x dp ρ x σ).bind fun a σ=>(E.x dp ρ y σ).bind fun b σ=>ofO σ (aV σ c a b)
 | .band xs=>(match xs with
  | []=>.no
  | [x]=>E.x dp ρ x σ
  | x :: r=>(E.x dp ρ x σ).bind fun a σ=>(match aL a with | some true=>E.x dp ρ (.band r) σ | some false=>.ok a σ | Option.none=>.no))
 | .bor xs=>(match xs with
  | []=>.no
  | [x]=>E.x dp ρ x σ
  | x :: r=>(E.x dp ρ x σ).bind fun a σ=>(match aL a with | some false=>E.x dp ρ (.bor r) σ | some true=>.ok a σ | Option.none=>.no))
 | .bnot x=>(E.t dp ρ x σ).bind fun b σ=>.ok (.bool (!b)) σ
 | .neg x=>(E.x dp ρ x σ).bind fun a σ=>(match a with | .int i=>.ok (.int (-i)) σ | _=>.no)
 | .ite c a b=>(E.t dp ρ c σ).bind fun t σ=>if t then E.x dp ρ a σ else E.x dp ρ b σ
 | .call f xs=>(E.x dp ρ f σ).bind fun f σ=>(E.l dp ρ xs σ).bind fun as σ=>uH E dp f as σ
 | .wm m x xs=>(E.x dp ρ x σ).bind fun a σ=>if ig σ a then (E.l dp ρ xs σ).bind fun as σ=>E.c dp (wmA m) (a :: as) σ else .no
 | .me m x xs=>(E.x dp ρ x σ).bind fun a σ=>if cV σ m a then (E.l dp ρ xs σ).bind fun as σ=>meD σ m a as else .no
 | .bi b xs=>(E.l dp ρ xs σ).bind fun as σ=>biD σ b as
 | .isi b x=>(E.x dp ρ x σ).bind fun a σ=>biD σ b [a]
 | .att x a=>(E.x dp ρ x σ).bind fun d σ=>ofO σ (iH σ d a)
 | .pairs x=>(E.x dp ρ x σ).bind fun a σ=>(match a with | .tup ds=>if Nat.ble ds.length lim then .ok (.cell σ.length) (σ++[.lst (ds.map fun d=>.tup [d,.bool false])]) else .no | _=>.no)
 | .un=>.no
noncomputable def rF (E:Ev) (dp:Nat) (ρ:Loc) (xs:List X) (σ:Sto):R (List D):=match xs with
 | []=>.ok [] σ
 | x :: r=>(E.x dp ρ x σ).bind fun d σ=>(E.l dp ρ r σ).bind fun ds σ=>.ok (d :: ds) σ
noncomputable def put (ρ:Loc) (i:Nat) (d:D):Loc:=ρ.set i (some d)
noncomputable def eW:Loc->List Nat->List D->Option Loc
 | ρ,[],[]=>some ρ
 | ρ,i :: is,d :: ds=>eW (put ρ i d) is ds
 | _,_,_=>Option.none
noncomputable def bW (ρ:Loc) (t:Tg) (d:D):Option Loc:=match t,d with
 | .n i,d=>some (put ρ i d)
 | .ns is,.tup ds=>if decide is.Nodup then eW ρ is ds else Option.none
 | _,_=>Option.none
noncomputable def cH (n:Nat):List D:=(List.range n).map fun (i:Nat)=>.int i
noncomputable def DX (E:Ev) (dp:Nat) (rest:List SS) (p:Fl × Loc) (σ:Sto):R (Fl × Loc):=match p.1 with
 | .next=>E.b dp p.2 rest σ
 | .brk=>.ok p σ
 | .ret d=>.ok (.ret d,p.2) σ
noncomputable def oR (op:Op) (old v:D):Option D:=match op,old,v with
 | .add,.int x,.int y=>some (.int (x+y))
 | .sub,.int x,.int y=>some (.int (x - y))
 | _,_,_=>Option.none
noncomputable def j4 (σ:Sto) (o:D) (a:Fa) (d:Option D) (ρ:Loc):R (Fl × Loc):=match d with
 | some d=>(match bw σ o a d with | some σ=>.ok (.next,ρ) σ | Option.none=>.no)
 | Option.none=>.no
noncomputable def jv (σ:Sto) (o i d:D) (ρ:Loc):R (Fl × Loc):=match cR σ o i d with
 | some σ=>.ok (.next,ρ) σ
 | Option.none=>.no
noncomputable def aG (E:Ev) (dp:Nat) (ρ:Loc) (s:SS) (σ:Sto):R (Fl × Loc):=match s with
 | .ret x=>(E.x dp ρ x σ).bind fun d σ=>.ok (.ret d,ρ) σ
 | .ex x=>(E.x dp ρ x σ).bind fun _ σ=>.ok (.next,ρ) σ
 | .asg t x=>(E.x dp ρ x σ).bind fun d σ=>(match bW ρ t d with | some ρ=>.ok (.next,ρ) σ | Option.none=>.no)
 | .asgA o a x=>(E.x dp ρ x σ).bind fun d σ=>(E.x dp ρ o σ).bind fun o σ=>j4 σ o a (some d) ρ
 | .asgS o i x=>(E.x dp ρ x σ).bind fun d σ=>(E.x dp ρ o σ).bind fun o σ=>(E.x dp ρ i σ).bind fun i σ=>jv σ o i d ρ
 | .aug i x=>(match ρ[i]? with
   | some (some (.int a))=>(E.x dp ρ x σ).bind fun b σ=>(match b with
    | .int y=>.ok (.next,put ρ i (.int (a+y))) σ
    | _=>.no)
   | _=>.no)
 | .augA o a op x=>(E.x dp ρ o σ).bind fun o σ=>(match iH σ o a with
   | some old=>(E.x dp ρ x σ).bind fun v σ=>j4 σ o a (oR op old v) ρ
   | Option.none=>.no)
 | .ifs c a b=>(E.t dp ρ c σ).bind fun t σ=>if t then E.b dp ρ a σ else E.b dp ρ b σ
 | .whl c b=>E.w dp ρ c b σ
 | .forR i n b=>(E.x dp ρ n σ).bind fun d σ=>(match d with | .int (.ofNat k)=>if Nat.ble k 1000 then E.f dp ρ (.n i) (cH k) b σ else .no | _=>.no)
 | .for_ t x b=>(E.x dp ρ x σ).bind fun d σ=>(match d with | .tup ds=>E.f dp ρ t ds b σ | _=>.no)
 | .forv t x b => (E.x dp ρ x σ).bind fun d σ => (match d with
    | .cell j=>(match σ[j]? with | some (.lst ds)=>if Nat.ble ds.length lim then E.f dp ρ t ds.reverse b σ else .no | _=>.no)
    | _=>.no)
 | .raise m s=>(E.x dp ρ m σ).bind fun _ σ=>(E.x dp ρ s σ).bind fun _ σ=>.err σ
 | .brk=>.ok (.brk,ρ) σ
 | .try_ i x=>(match E.x dp ρ x σ with
   | .ok d σ=>.ok (.next,put ρ i d) σ
   | .err σ=>.ok (.ret .none,ρ) σ
   | .no=>.no)
 | .un=>.no
noncomputable def rE (E:Ev) (dp:Nat) (ρ:Loc) (ss:List SS) (σ:Sto):R (Fl × Loc):=match ss with
 | []=>.ok (.next,ρ) σ
 | s :: r=>(aG E dp ρ s σ).bind fun p σ=>DX E dp r p σ
noncomputable def rG (E:Ev) (dp:Nat) (ρ:Loc) (c:X) (b:List SS) (σ:Sto):R (Fl × Loc) :=
 (E.t dp ρ c σ).bind fun t σ=>if t then (E.b dp ρ b σ).bind fun p σ=>(match p.1 with
  | .next=>E.w dp p.2 c b σ
  | .brk=>.ok (.next,p.2) σ
  | .ret d=>.ok (.ret d,p.2) σ) else .ok (.next,ρ) σ
noncomputable def oq (E:Ev) (dp:Nat) (ρ:Loc) (t:Tg) (ds:List D) (b:List SS) (σ:Sto):R (Fl × Loc):=match ds with
 | []=>.ok (.next,ρ) σ
 | d :: r=>(match bW ρ t d with
  | some ρ=>(E.b dp ρ b σ).bind fun p σ=>(match p.1 with
   | .next=>E.f dp p.2 t r b σ
   | .brk=>.ok (.next,p.2) σ
   | .ret d=>.ok (.ret d,p.2) σ)
  | Option.none=>.no)
noncomputable def fill (r:ah) (as:List D):Option (List D) :=
 let need:=r.np - as.length
 if as.length≤r.np && need≤r.dfl.length then some (as++r.dfl.drop (r.dfl.length - need)) else Option.none
noncomputable def flD:Fl->D
 | .ret d=>d
 | _=>.none
noncomputable def aO:Nat:=207
noncomputable def jK:Nat:=146
noncomputable def jO (z:Bool) (T:Nat->Option ah) (E:Ev) (dp:Nat) (a:Nat) (as:List D) (σ:Sto):R D:=match dp with
 | 0=>.no
 | dp+1=>if Nat.beq a aO then (match as with
   | [d]=>(E.c dp jK [.cell σ.length,d] (σ++[.obj []])).bind fun r σ'=>(match r with | .none=>.ok (.cell σ.length) σ' | _=>.no)
   | _=>.no)
  else match T a with
  | some r=>(match fill r as with
   | some ds=>(E.b dp (ds.map some++List.replicate (r.nl - r.np) Option.none) r.body σ).bind fun p σ=>.ok (flD p.1) σ
   | Option.none=>.no)
  | Option.none=>.no
noncomputable def step (z:Bool) (T:Nat->Option ah) (E:Ev):Ev where
 x:=aq z E
 l:=rF E
 b:=rE E
 w:=rG E
 f:=oq E
 c:=jO z T E
noncomputable def evn (z:Bool) (T:Nat->Option ah):Nat->Ev
 | 0=>.zero
 | n+1=>step z T (evn z T n)
noncomputable def fnT (a:Nat):Option ah:=(nM.lookup a).bind At.comp
end Mine.Internal
end
section
namespace Mine.Internal
open PySem PySem.W PySem.Calls PyProof.Rows
theorem lP {x:Str} {t:String} (h:isS x t=true):x=Str.ofString t:=beq_iff_eq.mp h
theorem gO {e:Expr} {x:Str} (h:nameOf e=some x):∃ p,e=.Name x p:=by
 unfold nameOf at h
 generalize eZ e=v at h
 cases v with
 | name y p=>cases h;exact ⟨p,rfl⟩
 | _=>cases h
theorem B3 {e:Expr} {x:Str} (h:strOf e=some x):∃ k p,e=.Constant (.str x) k p:=by
 unfold strOf at h
 generalize eZ e=v at h
 cases v with
 | const c k p=>cases c with
  | str s=>cases h;exact ⟨k,p,rfl⟩
  | _=>cases h
 | _=>cases h
theorem zD {e:Expr} {x:Int} (h:intOf e=some x):∃ k p,e=.Constant (.int x) k p:=by
 unfold intOf at h
 generalize eZ e=v at h
 cases v with
 | const c k p=>cases c with
  | int s=>cases h;exact ⟨k,p,rfl⟩
  | _=>cases h
 | _=>cases h
theorem tw {e:Expr} (h:isFalse e=true):∃ k p,e=.Constant (.bool false) k p:=by
 unfold isFalse at h
 generalize eZ e=v at h
 cases v with
 | const c k p=>cases c with
  | bool b=>cases b with
   | false=>exact ⟨k,p,rfl⟩
   | true=>cases h
  | _=>cases h
 | _=>cases h
theorem jL {e:Expr} (h:dB e=true):∃ k kp p,e=.UnaryOp .USub (.Constant (.int 1) k kp) p:=by
 unfold dB at h
 generalize FU e=v at h
 cases v with
 | neg i k kp p=>obtain rfl:=beq_iff_eq.mp h;exact ⟨k,kp,p,rfl⟩
 | un=>cases h
theorem Ar {i v:Expr} (h:vB i=some v):∃ k kp q sp p,i=.Subscript v (.Slice none none (some (.UnaryOp .USub (.Constant (.int 1) k kp) q)) sp) p:=by
 unfold vB at h
 generalize rU i=u at h
 cases u with
 | rev v' e sp p =>
  change (if dB e=true then some v' else none)=_ at h
  by_cases hm:dB e=true
  ·obtain ⟨k,kp,q,rfl⟩:=jL hm
   rw [if_pos hm] at h
   cases h
   exact ⟨k,kp,q,sp,p,rfl⟩
  ·rw [if_neg hm] at h;cases h
 | _=>cases h
theorem tY {cx : Cx} {i e : Expr} (h : rangeOf cx i = some e) : ∃ r xp p, i = .Call (.Name r xp) [e] [] p ∧ isS r "range" = true ∧ cx.builtin r = true ∧ noStar e = true := by
 unfold rangeOf at h
 generalize rU i=u at h
 cases u with
 | call r xp as p=>cases as with
  | nil=>cases h
  | cons a t=>cases t with
   | cons _ _=>cases h
   | nil =>
    change (if (isS r "range" && cx.builtin r && noStar a) = true then some a else none) = _ at h
    by_cases hc : (isS r "range" && cx.builtin r && noStar a) = true
    ·rw [if_pos hc] at h
     cases h
     rw [Bool.and_eq_true,Bool.and_eq_true] at hc
     exact ⟨r,xp,p,rfl,hc.1.1,hc.1.2,hc.2⟩
    ·rw [if_neg hc] at h;cases h
 | _=>cases h
theorem sQ {gens:List Comprehension} {b:Str} {it:Expr} (h:uL gens=some (b,it)):∃ p,gens=[⟨.Name b p,it,[],0⟩]:=by
 cases gens with
 | nil=>cases h
 | cons g r=>cases r with
  | cons _ _=>cases h
  | nil =>
   obtain ⟨t,i,f,a⟩:=g
   change (if (f.isEmpty && a == 0)=true then _ else none)=_ at h
   by_cases hc:(f.isEmpty && a == 0)=true
   ·rw [if_pos hc] at h
    rw [Bool.and_eq_true,List.isEmpty_iff,beq_iff_eq] at hc
    obtain ⟨rfl,rfl⟩:=hc
    obtain ⟨x,hx,h⟩:=Option.map_eq_some_iff.mp h
    cases h
    obtain ⟨p,rfl⟩:=gO hx
    exact ⟨p,rfl⟩
   ·rw [if_neg hc] at h;cases h
theorem tS {e:Expr} {a:Str} (h:pY e=some a):∃ p k q j r,e=.Tuple [.Name a p,.Constant (.bool false) k q] j r:=by
 unfold pY at h
 generalize eZ e=v at h
 cases v with
 | tup es j r=>cases es with
  | nil=>cases h
  | cons x t=>cases t with
   | nil=>cases h
   | cons f t=>cases t with
    | cons _ _=>cases h
    | nil =>
     change (if isFalse f=true then nameOf x else none)=_ at h
     by_cases hc:isFalse f=true
     ·rw [if_pos hc] at h
      obtain ⟨k,q,rfl⟩:=tw hc
      obtain ⟨p,rfl⟩:=gO h
      exact ⟨p,k,q,j,r,rfl⟩
     ·rw [if_neg hc] at h;cases h
 | _=>cases h
theorem tT {elt:Expr} {gens:List Comprehension} {sc:Scope} {it:Expr} (h:pairsOf elt gens sc=some it):∃ a p k q j r b,elt=.Tuple [.Name a p,.Constant (.bool false) k q] j r∧gens=[⟨.Name a b,it,[],0⟩]∧lu sc a=true:=by
 obtain ⟨⟨b,i⟩,h1,h⟩:=Option.bind_eq_some_iff.mp h
 obtain ⟨a,h2,h⟩:=Option.bind_eq_some_iff.mp h
 obtain ⟨p1,rfl⟩:=sQ h1
 obtain ⟨p,k,q,j,r,rfl⟩:=tS h2
 change (if (a == b && lu sc a)=true then some i else none)=_ at h
 by_cases hc:(a == b && lu sc a)=true
 ·rw [if_pos hc] at h
  cases h
  rw [Bool.and_eq_true,beq_iff_eq] at hc
  obtain ⟨rfl,hc⟩:=hc
  exact ⟨a,p,k,q,j,r,p1,rfl,rfl,hc⟩
 ·rw [if_neg hc] at h;cases h
structure CA where
 a:Addr
 d:Addr
 r:Addr
noncomputable def CA.all (c:CA):List Addr:=[c.a,c.d,c.r]
abbrev Gam:=List CA
noncomputable def muts (γ:Gam):List Addr:=γ.flatMap CA.all
noncomputable def aX (fr:List Addr) (γ:Gam) (x:Addr):Prop:=x ∈ fr∨x ∈ muts γ
noncomputable def pK:List (List Nat × D)->List (PyData × PyData)
 | []=>[]
 | (k,d) :: r=>(.str ⟨k.toArray⟩,(d.py).getD .none) :: pK r
noncomputable def lQ:List (List Nat × D)->Bool
 | []=>true
 | (_,d) :: r=>(match d with | .int _=>true | _=>false) && lQ r
section
variable (prog:Program) (w:World)
mutual
inductive Den (h:Heap) (fr:List Addr) (γ:Gam):Value->D->Prop
 | none:Den h fr γ .none .none
 | bool (b:Bool):Den h fr γ (.bool b) (.bool b)
 | int (i:Int) (t:Tok):Den h fr γ (.int i t) (.int i)
 | str (s:List Nat) (t:Tok):Den h fr γ (.str ⟨s.toArray⟩ t) (.str s)
 | tup {a:Addr} {vs:List Value} {ds:List D}:IsTup h a vs.toArray->¬ aX fr γ a->av h fr γ vs ds->Den h fr γ (.ref a) (.tup ds)
 | fl {a:Addr} {vs:List Value} {ds:List D}:h.IsList a vs.toArray->¬ aX fr γ a->av h fr γ vs ds->Den h fr γ (.ref a) (.fl ds)
 | dct {a:Addr} {kvs:List (List Nat × D)}:StrTab prog w h a (pK kvs)->lQ kvs=true->¬ aX fr γ a->Den h fr γ (.ref a) (.dct kvs)
 | cell {i:Nat} {c:CA}:γ[i]?=some c->Den h fr γ (.ref c.a) (.cell i)
 | glob (a:Addr):Den h fr γ (.ref a) (.glob a)
inductive av (h:Heap) (fr:List Addr) (γ:Gam):List Value->List D->Prop
 | nil:av h fr γ [] []
 | cons {v:Value} {vs:List Value} {d:D} {ds:List D}:Den h fr γ v d->av h fr γ vs ds->av h fr γ (v :: vs) (d :: ds)
end
noncomputable def Qe (h:Heap) (fr:List Addr) (γ:Gam) (v:Value):D->Prop
 | .none=>v=.none
 | .bool b=>v=.bool b
 | .int i=>∃ t,v=.int i t
 | .str x=>∃ t,v=.str ⟨x.toArray⟩ t
 | .tup ds=>∃ a vs,v=.ref a∧IsTup h a vs.toArray∧¬ aX fr γ a∧av prog w h fr γ vs ds
 | .fl ds=>∃ a vs,v=.ref a∧h.IsList a vs.toArray∧¬ aX fr γ a∧av prog w h fr γ vs ds
 | .dct kvs=>∃ a,v=.ref a∧StrTab prog w h a (pK kvs)∧lQ kvs=true
 | .cell i=>∃ c,v=.ref c.a∧γ[i]?=some c
 | .glob a=>v=.ref a
theorem Den.inv {h:Heap} {fr:List Addr} {γ:Gam} {v:Value} {d:D} (x:Den prog w h fr γ v d):Qe prog w h fr γ v d:=by
 cases x with
 | none=>rfl
 | bool b=>rfl
 | int i t=>exact ⟨t,rfl⟩
 | str x t=>exact ⟨t,rfl⟩
 | tup a b c=>exact ⟨_,_,rfl,a,b,c⟩
 | fl a b c=>exact ⟨_,_,rfl,a,b,c⟩
 | dct a b c=>exact ⟨_,rfl,a,b⟩
 | cell e=>exact ⟨_,rfl,e⟩
 | glob a=>rfl
noncomputable def Ja (h:Heap) (fr:List Addr) (γ:Gam) (vs:List Value):List D->Prop
 | []=>vs=[]
 | d :: ds=>∃ v r,vs=v :: r∧Den prog w h fr γ v d∧av prog w h fr γ r ds
theorem av.inv {h:Heap} {fr:List Addr} {γ:Gam} {vs:List Value} {ds:List D} (x:av prog w h fr γ vs ds):Ja prog w h fr γ vs ds:=by
 cases x with
 | nil=>rfl
 | cons a b=>exact ⟨_,_,rfl,a,b⟩
noncomputable def PlainL (h : Heap) (a : Addr) (vs : List Value) : Prop := ∃ n, h.get? a = some { cls := .type "list", dict := none, data := .seq vs.toArray n, slots := #[] }
theorem PlainL.isList {h:Heap} {a:Addr} {vs:List Value} (x:PlainL h a vs):h.IsList a vs.toArray:=let ⟨n,e⟩:=x;⟨_,e,rfl,n,rfl⟩
noncomputable def bC (f:Fa):Str:=⟨(faN f).toArray⟩
structure gV (h:Heap) (a d:Addr) (mA:Str->Option Value):Prop where
 inst:h.Inst a aO mA
 dict:∃ o,h.get? a=some o∧o.dict=some d∧o.data=.plain
 only:∀ x,(mA x).isSome=true->∃ f:Fa,x=bC f
noncomputable def cG (h:Heap) (fr:List Addr) (γ:Gam) (c:CA):Cell->Prop
 | .lst ds=>c.d=c.a∧c.r=c.a∧∃ vs:List Value,PlainL h c.a vs∧av prog w h fr γ vs ds
 | .obj fs=>c.r=c.a∧∃ mA,gV h c.a c.d mA∧∀ f d,fs.lookup (faN f)=some d->∃ v,mA (bC f)=some v∧Den prog w h fr γ v d
 | .junk=>True
structure Inv (B:Heap) (fr:List Addr) (γ:Gam) (σ:Sto) (h:Heap):Prop where
 len:γ.length=σ.length
 cells:∀ (i:Nat) (c:CA) (x:Cell),γ[i]?=some c->σ[i]?=some x->cG prog w h fr γ c x
 apart:∀ (i j:Nat) (c c':CA),γ[i]?=some c->γ[j]?=some c'->i ≠ j->∀ x ∈ c.all,x ∉ c'.all
 off:∀ x ∈ muts γ,x ∉ fr
 ex:∀ x,aX fr γ x->∃ o,h.get? x=some o∧∀ vs,o.data ≠ .fields vs
 base:∀ b o,B.get? b=some o->h.get? b=some o∧¬ aX fr γ b
end
structure Step (fr ks:List Addr) (h:Heap) (γ:Gam) (h':Heap) (γ':Gam):Prop where
 pre:∃ δ,γ'=γ++δ
 keep:∀ a o,h.get? a=some o->¬ aX fr γ a->h'.get? a=some o∧a ∉ muts γ'
 frames:∀ a ∈ ks,∀ o,h.get? a=some o->∃ sl,h'.get? a=some { o with slots:=sl }
theorem Step.refl {fr ks:List Addr} {h:Heap} {γ:Gam}:Step fr ks h γ h γ :=
 ⟨⟨[],by simp⟩,fun _ _ e n=>⟨e,fun m=>n (.inr m)⟩,fun _ _ o e=>⟨o.slots,e⟩⟩
theorem Step.trans {fr ks:List Addr} {h h₁ h₂:Heap} {γ γ₁ γ₂:Gam} (x:Step fr ks h γ h₁ γ₁) (y:Step fr ks h₁ γ₁ h₂ γ₂):Step fr ks h γ h₂ γ₂:=by
 refine ⟨?_,fun a o e n=>?_,fun a ha o e=>?_⟩
 ·obtain ⟨δ,rfl⟩:=x.pre
  obtain ⟨ε,rfl⟩:=y.pre
  exact ⟨δ++ε,by simp⟩
 ·obtain ⟨e₁,n₁⟩:=x.keep a o e n
  exact y.keep a o e₁ fun q=>q.elim (fun q=>n (.inl q)) n₁
 ·obtain ⟨sl,e₁⟩:=x.frames a ha o e
  obtain ⟨sl₂,e₂⟩:=y.frames a ha _ e₁
  exact ⟨sl₂,e₂⟩
theorem Step.soft {fr ks:List Addr} {h h':Heap} {γ γ':Gam} (x:Step fr ks h γ h' γ') {a:Addr} {o:Obj} (e:h.get? a=some o) (n:¬ aX fr γ a):¬ aX fr γ' a :=
 fun q=>q.elim (fun q=>n (.inl q)) (x.keep a o e n).2
theorem Step.cell {fr ks:List Addr} {h h':Heap} {γ γ':Gam} (x:Step fr ks h γ h' γ') {i:Nat} {c:CA} (e:γ[i]?=some c):γ'[i]?=some c:=by
 obtain ⟨δ,rfl⟩:=x.pre
 rw [List.getElem?_append_left]
 ·exact e
 ·exact (List.getElem?_eq_some_iff.mp e).1
theorem Step.weaken {fr ks ks':List Addr} {h h':Heap} {γ γ':Gam} (x:Step fr ks h γ h' γ') (s:∀ a ∈ ks',a ∈ ks):Step fr ks' h γ h' γ':=⟨x.pre,x.keep,fun a ha=>x.frames a (s a ha)⟩
section
variable {prog:Program} {w:World} {fr ks:List Addr} {h h':Heap} {γ γ':Gam}
theorem Ay {o:Obj} {a:Array Value} {n:Nat} (h:o.data=.seq a n) (vs:Array Value):o.data ≠ .fields vs:=fun e=>nomatch h.symm.trans e
theorem BL {o:Obj} {a:Array DictEntry} {n:Nat} (h:o.data=.dict a n) (vs:Array Value):o.data ≠ .fields vs:=fun e=>nomatch h.symm.trans e
theorem lA {fr':List Addr} (T:∀ a o,h.get? a=some o->¬ aX fr γ a->(∀ vs,o.data ≠ .fields vs)->h'.get? a=some o∧¬ aX fr' γ' a) (C:∀ (i:Nat) (c:CA),γ[i]?=some c->γ'[i]?=some c) :
  (∀ v d,Den prog w h fr γ v d->Den prog w h' fr' γ' v d)∧∀ vs ds,av prog w h fr γ vs ds->av prog w h' fr' γ' vs ds:=by
 have t:∀ {a:Addr} {vs:List Value} {ds:List D},IsTup h a vs.toArray->¬ aX fr γ a->av prog w h' fr' γ' vs ds->Den prog w h' fr' γ' (.ref a) (.tup ds):=fun ⟨o,ho,hc,n,hd⟩ hs r=>let ⟨e,f⟩:=T _ _ ho hs (Ay hd);.tup ⟨o,e,hc,n,hd⟩ f r
 have l:∀ {a:Addr} {vs:List Value} {ds:List D},h.IsList a vs.toArray->¬ aX fr γ a->av prog w h' fr' γ' vs ds->Den prog w h' fr' γ' (.ref a) (.fl ds):=fun ⟨o,ho,hc,n,hd⟩ hs r=>let ⟨e,f⟩:=T _ _ ho hs (Ay hd);.fl ⟨o,e,hc,n,hd⟩ f r
 have d:∀ {a:Addr} {kvs:List (List Nat × D)},StrTab prog w h a (pK kvs)->lQ kvs=true->¬ aX fr γ a->Den prog w h' fr' γ' (.ref a) (.dct kvs):=fun ⟨lo,ps,⟨o,es,ep,ho,hx,hd,r⟩,hf⟩ hk hs=>let ⟨e,f⟩:=T _ _ ho hs (BL hd);.dct ⟨lo,ps,⟨o,es,ep,e,hx,hd,r⟩,hf⟩ hk f
 exact ⟨fun _ _ x=>Den.rec (motive_1:=fun v d _=>Den prog w h' fr' γ' v d) (motive_2:=fun vs ds _=>av prog w h' fr' γ' vs ds) .none .bool .int .str (fun a b _ r=>t a b r) (fun a b _ r=>l a b r) d (fun e=>.cell (C _ _ e)) .glob .nil (fun _ _ a r=>.cons a r) x,
  fun _ _ x=>av.rec (motive_1:=fun v d _=>Den prog w h' fr' γ' v d) (motive_2:=fun vs ds _=>av prog w h' fr' γ' vs ds) .none .bool .int .str (fun a b _ r=>t a b r) (fun a b _ r=>l a b r) d (fun e=>.cell (C _ _ e)) .glob .nil (fun _ _ a r=>.cons a r) x⟩
theorem Step.moves (x:Step fr ks h γ h' γ'):(∀ v d,Den prog w h fr γ v d->Den prog w h' fr γ' v d)∧∀ vs ds,av prog w h fr γ vs ds->av prog w h' fr γ' vs ds:=lA (fun _ _ ho hs _=>⟨(x.keep _ _ ho hs).1,x.soft ho hs⟩) fun _ _ e=>x.cell e
theorem Den.step (x:Step fr ks h γ h' γ') {v:Value} {d:D} (y:Den prog w h fr γ v d):Den prog w h' fr γ' v d:=x.moves.1 v d y
theorem av.step (x:Step fr ks h γ h' γ') {vs:List Value} {ds:List D} (y:av prog w h fr γ vs ds):av prog w h' fr γ' vs ds:=x.moves.2 vs ds y
theorem av.length {vs:List Value} {ds:List D} (x:av prog w h fr γ vs ds):vs.length=ds.length:=by
 induction vs generalizing ds with
 | nil=>cases x;rfl
 | cons v vs ih=>cases x with | cons _ r=>rw [List.length_cons,List.length_cons,ih r]
theorem av.get {vs:List Value} {ds:List D} (x:av prog w h fr γ vs ds) {k:Nat} {d:D} (e:ds[k]?=some d):∃ v,vs[k]?=some v∧Den prog w h fr γ v d:=by
 induction vs generalizing ds k with
 | nil=>cases x;cases e
 | cons v vs ih =>
  cases x with
  | cons a r =>
   cases k with
   | zero=>cases e;exact ⟨v,rfl,a⟩
   | succ k=>exact ih r e
theorem av.append {vs ws:List Value} {ds es:List D} (x:av prog w h fr γ vs ds) (y:av prog w h fr γ ws es):av prog w h fr γ (vs++ws) (ds++es):=by
 induction vs generalizing ds with
 | nil=>cases x;exact y
 | cons v vs ih=>cases x with | cons a r=>exact .cons a (ih r)
theorem av.take {vs:List Value} {ds:List D} (x:av prog w h fr γ vs ds) (k:Nat):av prog w h fr γ (vs.take k) (ds.take k):=by
 induction vs generalizing ds k with
 | nil=>cases x;simp;exact .nil
 | cons v vs ih=>cases x with | cons a r=>cases k with | zero=>exact .nil | succ k=>exact .cons a (ih r k)
theorem av.drop {vs:List Value} {ds:List D} (x:av prog w h fr γ vs ds) (k:Nat):av prog w h fr γ (vs.drop k) (ds.drop k):=by
 induction vs generalizing ds k with
 | nil=>cases x;simp;exact .nil
 | cons v vs ih=>cases x with | cons a r=>cases k with | zero=>exact .cons a r | succ k=>exact ih r k
theorem av.reverse {vs:List Value} {ds:List D} (x:av prog w h fr γ vs ds):av prog w h fr γ vs.reverse ds.reverse:=by
 induction vs generalizing ds with
 | nil=>cases x;exact .nil
 | cons v vs ih=>cases x with | cons a r=>rw [List.reverse_cons,List.reverse_cons];exact (ih r).append (.cons a .nil)
theorem av.set {vs:List Value} {ds:List D} {v:Value} {d:D} (x:av prog w h fr γ vs ds) (y:Den prog w h fr γ v d) (k:Nat):av prog w h fr γ (vs.set k v) (ds.set k d):=by
 induction vs generalizing ds k with
 | nil=>cases x;exact .nil
 | cons v vs ih=>cases x with | cons a r=>cases k with | zero=>exact .cons y r | succ k=>exact .cons a (ih r k)
end
noncomputable def Rest (s s':Shared):Prop:=s'.gens=s.gens∧s'.drawn=s.drawn∧s'.os=s.os
theorem Rest.refl {s:Shared}:Rest s s:=⟨rfl,rfl,rfl⟩
theorem Rest.trans {s s' s'':Shared} (x:Rest s s') (y:Rest s' s''):Rest s s'':=⟨y.1.trans x.1,y.2.1.trans x.2.1,y.2.2.trans x.2.2⟩
noncomputable def gfA:Nat:=57
noncomputable def ExcAt (h₀:Heap) (fl:Option Addr) (e:Value) (h:Heap):Prop :=
 ∃ (x:Addr) (oe:Obj) (vs:Array Value),e=.ref x∧h₀.get? x=none∧h.get? x=some oe∧oe.cls=.ref gfA∧oe.data=.fields vs ∧
  ((fl=none∧vs[1]?=some .none)∨∃ (T:Addr) (oT:Obj) (ts:Array Value),vs[1]?=some (.ref T)∧h₀.get? T=none∧T ≠ x∧h.get? T=some oT∧oT.data=.fields ts ∧
   ts[3]?=some (match fl with | none=>.none | some L=>rawInt L))
noncomputable def eB (h₀ h:Heap):Prop:=∀ a o,h₀.get? a=some o->∃ o',h.get? a=some o'
theorem eB.none {h₀ h:Heap} (x:eB h₀ h) {a:Addr} (e:h.get? a=none):h₀.get? a=none:=by
 cases q:h₀.get? a with
 | none=>rfl
 | some o=>obtain ⟨o',h'⟩:=x a o q;rw [e] at h';cases h'
theorem ExcAt.mono {h₀ h₁:Heap} {fl:Option Addr} {e:Value} {h:Heap} (x:ExcAt h₁ fl e h) (hm:eB h₀ h₁):ExcAt h₀ fl e h:=by
 obtain ⟨a,oe,vs,rfl,h1,h2,h3,h4,h5⟩:=x
 refine ⟨a,oe,vs,rfl,hm.none h1,h2,h3,h4,?_⟩
 rcases h5 with h5 | ⟨T,oT,ts,k1,k2,k3⟩
 ·exact .inl h5
 ·exact .inr ⟨T,oT,ts,k1,hm.none k2,k3⟩
theorem aX.mono {fr ks:List Addr} {h h':Heap} {γ γ':Gam} (st:Step fr ks h γ h' γ') {x:Addr} (s:aX fr γ x):aX fr γ' x:=by
 obtain ⟨δ,rfl⟩:=st.pre
 refine s.imp id fun m=>?_
 unfold muts at *
 rw [List.flatMap_append]
 exact List.mem_append_left _ m
theorem Step.older {prog:Program} {w:World} {B:Heap} {fr ks:List Addr} {h h':Heap} {γ γ':Gam} {σ':Sto} (st:Step fr ks h γ h' γ') (I:Inv prog w B fr γ' σ' h'):eB h h':=fun a o e=>by
 by_cases s:aX fr γ a
 ·obtain ⟨o',e',_⟩:=I.ex a (s.mono st)
  exact ⟨o',e'⟩
 ·exact ⟨o,(st.keep a o e s).1⟩
section
variable (prog:Program) (w:World) (B:Heap) (fr ks:List Addr)
inductive Post {α β:Type} (s:Shared) (γ:Gam) (Rel:Heap->Gam->α->β->Prop) (r:R β) (v:α) (s':Shared):Prop
 | mk (b:β) (σ':Sto) (γ':Gam) (e:r=.ok b σ') (st:Step fr ks s.heap γ s'.heap γ') (I:Inv prog w B fr γ' σ' s'.heap) (rs:Rest s s') (rel:Rel s'.heap γ' v b):Post s γ Rel r v s'
inductive aP {β:Type} (s:Shared) (γ:Gam) (r:R β) (fl:Option Addr) (e:Value) (s':Shared):Prop
 | mk (σ':Sto) (γ':Gam) (er:r=.err σ') (st:Step fr ks s.heap γ s'.heap γ') (I:Inv prog w B fr γ' σ' s'.heap) (rs:Rest s s') (ex:ExcAt s.heap fl e s'.heap):aP s γ r fl e s'
noncomputable def WP {α β:Type} (A:Around) (t:Sem α) (s:Shared) (γ:Gam) (Rel:Heap->Gam->α->β->Prop) (r:R β):Prop :=
 wpAny (model prog w) A t (Post prog w B fr ks s γ Rel r) (aP prog w B fr ks s γ r none) s
end
section
variable {prog:Program} {w:World} {B:Heap} {fr ks:List Addr} {α β δ:Type} {s s₁:Shared} {γ γ₁:Gam} {A:Around}
theorem Post.trans {Rel:Heap->Gam->α->β->Prop} {r:R β} {v:α} {s':Shared} (x:Step fr ks s.heap γ s₁.heap γ₁) (y:Rest s s₁) (p:Post prog w B fr ks s₁ γ₁ Rel r v s'):Post prog w B fr ks s γ Rel r v s':=by
 obtain ⟨b,σ',γ',e,st,inv,rs,rel⟩:=p
 exact ⟨b,σ',γ',e,x.trans st,inv,y.trans rs,rel⟩
theorem aP.trans {σ₁:Sto} {r:R β} {fl:Option Addr} {v:Value} {s':Shared} (x:Step fr ks s.heap γ s₁.heap γ₁) (I:Inv prog w B fr γ₁ σ₁ s₁.heap) (y:Rest s s₁) (p:aP prog w B fr ks s₁ γ₁ r fl v s'):aP prog w B fr ks s γ r fl v s':=by
 obtain ⟨σ',γ',e,st,inv,rs,ex⟩:=p
 exact ⟨σ',γ',e,x.trans st,inv,y.trans rs,ex.mono (x.older I)⟩
theorem aP.bind {r:R β} {k:β->Sto->R δ} {fl:Option Addr} {v:Value} {s':Shared} (p:aP prog w B fr ks s γ r fl v s'):aP prog w B fr ks s γ (r.bind k) fl v s':=by
 obtain ⟨σ',γ',e,a,b,c,d⟩:=p
 exact ⟨σ',γ',by rw [e];rfl,a,b,c,d⟩
theorem WP.seq {ε:Type} {t:Sem α} {Rel:Heap->Gam->α->β->Prop} {r:R β} {t₂:α->Sem ε} {Rel₂:Heap->Gam->ε->δ->Prop} {k:β->Sto->R δ} (x:WP prog w B fr ks A t s γ Rel r)
  (y:∀ a b σ₁ γ₁ s₁,r=.ok b σ₁->Step fr ks s.heap γ s₁.heap γ₁->Inv prog w B fr γ₁ σ₁ s₁.heap->Rest s s₁->Rel s₁.heap γ₁ a b->WP prog w B fr ks A (t₂ a) s₁ γ₁ Rel₂ (k b σ₁)) :
  wpAny (model prog w) A t (fun a s₁=>wpAny (model prog w) A (t₂ a) (Post prog w B fr ks s γ Rel₂ (r.bind k)) (aP prog w B fr ks s γ (r.bind k) none) s₁) (aP prog w B fr ks s γ (r.bind k) none) s:=by
 refine wpAny_mono x (fun a s₁ p=>?_) fun e s' p=>p.bind
 obtain ⟨b,σ₁,γ₁,rfl,st,inv,rs,rel⟩:=p
 exact wpAny_mono (y a b σ₁ γ₁ s₁ rfl st inv rs rel) (fun _ _ q=>q.trans st rs) fun _ _ q=>q.trans st inv rs
theorem WP.bind {ε:Type} {t:Sem α} {Rel:Heap->Gam->α->β->Prop} {r:R β} {t₂:α->Sem ε} {Rel₂:Heap->Gam->ε->δ->Prop} {k:β->Sto->R δ} (x:WP prog w B fr ks A t s γ Rel r)
  (y:∀ a b σ₁ γ₁ s₁,r=.ok b σ₁->Step fr ks s.heap γ s₁.heap γ₁->Inv prog w B fr γ₁ σ₁ s₁.heap->Rest s s₁->Rel s₁.heap γ₁ a b->WP prog w B fr ks A (t₂ a) s₁ γ₁ Rel₂ (k b σ₁)) :
  WP prog w B fr ks A (t >>= t₂) s γ Rel₂ (r.bind k):=wpAny_bind (WP.seq x y)
theorem R.bind_no {f:β->Sto->R δ}:(R.no:R β).bind f=.no:=rfl
theorem R.bg {f:β->Sto->R δ} {b:β} {σ:Sto}:(R.ok b σ:R β).bind f=f b σ:=rfl
theorem R.bind_err {f:β->Sto->R δ} {σ:Sto}:(R.err σ:R β).bind f=.err σ:=rfl
theorem R.of_bind {r:R β} {f:β->Sto->R δ} (h:r.bind f ≠ .no):r ≠ .no:=fun e=>h (by rw [e];rfl)
end
end Mine.Internal
end
section
namespace Mine.Internal
open PySem PySem.W PySem.Calls PyProof.Rows PyProof.V
noncomputable def nameList : List String := ["len", "str", "tuple", "list", "min", "max", "isinstance", "int", "bool", "range"]
noncomputable def wmN:Wm->Str
 | .peek => Str.ofString "peek" | .take => Str.ofString "take" | .looks => Str.ofString "looks" | .expect => Str.ofString "expect" | .name => Str.ofString "name"
 | .deeper => Str.ofString "deeper" | .shallower => Str.ofString "shallower" | .splitClose => Str.ofString "split_close"
noncomputable def pS (l:List Str):Bool:=match l with
 | []=>true
 | x :: r=>!r.contains x && pS r
noncomputable def kC (ps:Arguments) (sc:Scope):Bool :=
 ps.posonlyargs.isEmpty && (ps.kwonlyargs.isEmpty && (ps.vararg.isNone && (ps.kwarg.isNone && (sc.kind == .function && (!sc.isCoroutine && (!sc.isGenerator && (sc.names.all (fun x=>x.2 != .cell) &&
  (pS (localNames ps sc) && ((ps.args.map (·.arg)).all (fun x=>sc.names.lookup x == some .local) && Nat.ble ps.defaults.length ps.args.length)))))))))
noncomputable def leA:Nat:=32
noncomputable def cy:Nat:=29
noncomputable abbrev bmE : List Value := [.type "Exception", .type "BaseException", .type "object"]
noncomputable abbrev bmX:List Value:=.ref leA :: bmE
end Mine.Internal
end
section
namespace Mine.Internal
open PySem PySem.W PyProof.Rows PyProof.V
variable {α:Type}
abbrev Get:=Addr->Option Obj
noncomputable def orB (b:Bool) (o:Option α):Option α:=match b with | true=>o | false=>none
theorem Ad {b:Bool} {o:Option α} {x:α} (h:orB b o=some x):b=true∧o=some x:=by
 cases b with
 | true=>exact ⟨rfl,h⟩
 | false=>cases h
noncomputable def rH:Value->Option Str | .str s _=>some s | _=>none
noncomputable def Aq:Value->Option Addr | .ref a=>some a | _=>none
noncomputable def Bd:Value->Option String | .type t=>some t | _=>none
noncomputable def Kh:Option Value->Option String | some (.builtin t)=>some t | _=>none
noncomputable def tB:Value->Bool | .int _ _=>true | _=>false
noncomputable def CD:Value->Bool | .none=>true | _=>false
noncomputable def Gq:Data->Option (Array DictEntry) | .dict es _=>some es | _=>none
noncomputable def Ij:Data->Option (Array Value) | .seq vs _=>some vs | _=>none
noncomputable def GB:Data->Option FuncData | .func f=>some f | _=>none
noncomputable def Gl:Data->Option ClassData | .cls c=>some c | _=>none
noncomputable def KG:Data->Option (Array Value) | .fields vs=>some vs | _=>none
noncomputable def OG:FuncBody->Option (List Stmt) | .stmts b=>some b | _=>none
theorem kM {v:Value} {s:Str} (h:rH v=some s):∃ t,v=.str s t:=by
 cases v with
 | str x t=>exact ⟨t,Option.some.inj h ▸ rfl⟩
 | _=>exact nn h
theorem kJ {v:Value} {a:Addr} (h:Aq v=some a):v=.ref a:=by
 cases v with
 | ref x=>exact Option.some.inj h ▸ rfl
 | _=>exact nn h
theorem kO {v:Value} {a:String} (h:Bd v=some a):v=.type a:=by
 cases v with
 | type x=>exact Option.some.inj h ▸ rfl
 | _=>exact nn h
theorem BG {v:Option Value} {a:String} (h:Kh v=some a):v=some (.builtin a):=by
 cases v with
 | none=>exact nn h
 | some v=>cases v with
  | builtin x=>exact Option.some.inj h ▸ rfl
  | _=>exact nn h
theorem vh {v:Value} (h:CD v=true):v=.none:=by
 cases v with
 | none=>rfl
 | _=>exact nb h
theorem uN {d:Data} {es:Array DictEntry} (h:Gq d=some es):∃ n,d=.dict es n:=by
 cases d with
 | dict x n=>exact ⟨n,Option.some.inj h ▸ rfl⟩
 | _=>exact nn h
theorem vG {d:Data} {es:Array Value} (h:Ij d=some es):∃ n,d=.seq es n:=by
 cases d with
 | seq x n=>exact ⟨n,Option.some.inj h ▸ rfl⟩
 | _=>exact nn h
theorem BX {d:Data} {f:FuncData} (h:GB d=some f):d=.func f:=by
 cases d with
 | func x=>exact Option.some.inj h ▸ rfl
 | _=>exact nn h
theorem uK {d:Data} {f:ClassData} (h:Gl d=some f):d=.cls f:=by
 cases d with
 | cls x=>exact Option.some.inj h ▸ rfl
 | _=>exact nn h
theorem BS {d:Data} {f:Array Value} (h:KG d=some f):d=.fields f:=by
 cases d with
 | fields x=>exact Option.some.inj h ▸ rfl
 | _=>exact nn h
theorem E7 {d:FuncBody} {b:List Stmt} (h:OG d=some b):d=.stmts b:=by
 cases d with
 | stmts x=>exact Option.some.inj h ▸ rfl
 | _=>exact nn h
noncomputable def isE (o:Option α) (p:α->Bool):Bool:=match o with | some a=>p a | none=>false
theorem aK {o:Option α} {p:α->Bool} (h:isE o p=true):∃ a,o=some a∧p a=true:=by
 cases o with
 | some a=>exact ⟨a,rfl,h⟩
 | none=>cases h
noncomputable def rI (es:Array DictEntry):Bool:=es.toList.all fun e=>(rH e.key).isSome
theorem uf {es:Array DictEntry} (h:rI es=true):StrKeys es:=by
 intro e he
 have:=List.all_eq_true.mp h e (Array.mem_toList_iff.mpr he)
 obtain ⟨x,hx⟩:=Option.isSome_iff_exists.mp this
 exact ⟨x,kM hx⟩
noncomputable def nsE (g:Get) (N:Addr):Option (Array DictEntry):=(g N).bind fun o=>(Gq o.data).bind fun es=>orB (rI es) (some es)
noncomputable def yY (v:Value) (d:D):Bool:=match d with
 | .none=>CD v
 | .bool b=>(match v with | .bool a=>a == b | _=>false)
 | .int j=>(match v with | .int i _=>i == j | _=>false)
 | .str s=>isE (rH v) fun x=>x.cps.toList == s
 | .glob b=>isE (Aq v) fun a=>a == b
 | _=>false
noncomputable def oY:List Value->List D->Bool
 | [],ds=>ds.isEmpty
 | v :: vs,ds=>(match ds with | []=>false | d :: ds=>yY v d && oY vs ds)
noncomputable def Pa (g:Get) (v:Value) (d:D):Bool:=match d with
 | .tup ds => isE (Aq v) fun a => isE (g a) fun o => isE (Bd o.cls) (fun t => t == "tuple") && isE (Ij o.data) fun vs => oY vs.toList ds
 | _=>yY v d
noncomputable def uX:D->Bool
 | .dct _=>true
 | _=>false
noncomputable def tE:Nat:=387
noncomputable def fz : List (List Nat × D) := match eO.lookup (Str.ofString "LEVELS") with
 | some (.dct k)=>k
 | _=>[]
noncomputable def codeB (g:Get) (cd:Value) (q:Str):Bool:=isE (Aq cd) fun c=>isE (g c) fun o=>isE (KG o.data) fun vs=>isE (vs[1]?:Option Value) fun v=>isE (rH v) fun x=>x == q
noncomputable def dfB (g:Get) (v:Value) (ds:List D):Bool:=match CD v with
 | true=>ds.isEmpty
 | false=>isE (Aq v) fun T=>isE (g T) fun o=>isE (Ij o.data) fun vs=>oY vs.toList ds
noncomputable def fdB (g:Get) (fd:FuncData):Bool:=Nat.beq fd.globals mainGlobals && (Nat.beq fd.builtins builtinsNs && (fd.closure.isEmpty && (codeB g fd.code fd.qualname && (isE (d9 fd.params.defaults) (fun ds=>dfB g fd.defaults ds) && kC fd.params fd.scope))))
noncomputable def fnB (g : Get) (a : Addr) : Bool := isE (g a) fun o => isE (Bd o.cls) (fun t => t == "function") && isE (GB o.data) fun fd => fdB g fd
noncomputable def kr (g:Get) (a:Addr):Option (Arguments × List Stmt × Scope):=(g a).bind fun o=>(GB o.data).bind fun fd=>(OG fd.body).map fun bd=>(fd.params,bd,fd.scope)
noncomputable def fc : List (Nat × At) := (cy, ⟨some "LendError", "__init__", 0⟩) :: nM
noncomputable def zK:List Nat:=aO :: gfA :: fc.map (·.1)
noncomputable def kOf (g:Get):Frag:=zK.filterMap fun a=>(g a).map fun o=>(a,o)
noncomputable def hasB (es:Array DictEntry) (x:Str) (v:Value):Bool:=isE (nsFind es x) fun w=>w == v
noncomputable def ri (es:Array DictEntry) (l:List String):Bool:=l.all fun x=>(nsFind es (Str.ofString x)).isNone
noncomputable def EY:List Fa:=[.rows,.at,.deep]
noncomputable def EZ:List Wm:=[.peek,.take,.looks,.expect,.name,.deeper,.shallower,.splitClose]
noncomputable def cdB (C:Addr) (bm:List Value) (ab:Bool) (cd:ClassData):Bool:=cd.mro == .ref C :: bm && (cd.hasDict && (!cd.hasDel && (ab || !cd.abstract)))
noncomputable def OA (l:List (Option Value)) (new:String):Bool:=Nat.beq l.length 6 && isE (l[4]?) fun v=>isE (Kh v) fun i=>i == new
noncomputable def Gk (g:Get) (C:Addr) (bm:List Value) (ab:Bool) (new:String):Option (Array DictEntry):=(g C).bind fun o=>(Gl o.data).bind fun cd =>
 orB (isE (Bd o.cls) (fun t => t == "type") && (cdB C bm ab cd && OA o.slots.toList new)) (nsE g cd.ns)
noncomputable def Bo (g : Get) : Bool := isE (Gk g aO [.type "object"] false "object.__new__") fun es => ri es ["__getattribute__", "__getattr__", "__setattr__"] && (EY.all (fun f => (nsFind es (bC f)).isNone) &&
   (hasB es (Str.ofString "__init__") (.ref jK) && (EZ.all (fun m => hasB es (wmN m) (.ref (wmA m)) && fnB g (wmA m)) && fnB g jK)))
noncomputable def gfB (g : Get) : Bool := isE (Gk g gfA bmX true "Exception.__new__") fun es => isE (g leA) fun o => isE (Gl o.data) fun cd => isE (nsE g cd.ns) fun el =>
 ri es ["__init__", "__setattr__", "message", "spot"] && (ri el ["__setattr__", "message", "spot"] && hasB el (Str.ofString "__init__") (.ref cy))
noncomputable def Of (g : Get) (es : Array DictEntry) (p : Str × D) : Bool := !(isS p.1 "__debug__") && (uX p.2 || isE (nsFind es p.1) fun v => Pa g v p.2)
noncomputable def Fz (g : Get) : Bool := isE (nsE g mainGlobals) fun es => eO.all (Of g es) && (hasB es (Str.ofString "LEVELS") (.ref tE) && (ri es nameList && (nsFind es (Str.ofString "Exception")).isNone))
noncomputable def chk (g:Get):Bool:=fc.all (fun p=>fnB g p.1) && (zK.all (fun a=>keepIn (kOf g) (.ref a)) && (Bo g && (gfB g && Fz g)))
noncomputable def Qi (v:Value):List Nat:=match rH v with | some x=>x.cps.toList | none=>[]
noncomputable def QE:Value->Int | .int i _=>i | _=>0
noncomputable def intD:D->Int | .int i=>i | _=>0
noncomputable def tF (e:DictEntry):Int × List Nat × Int:=(e.hash,Qi e.key,QE e.val)
noncomputable def tG (w:World) (p:List Nat × D):Int × List Nat × Int:=(hashStr w ⟨p.1.toArray⟩,p.1,intD p.2)
noncomputable def Qj (o:Obj) (es:Array DictEntry):Bool:=o.dict.isNone && (o.slots.toList.isEmpty && es.toList.all (fun e=>(rH e.key).isSome && tB e.val))
noncomputable def gM (g:Get):Option (String × Bool × List (Int × List Nat × Int)):=(g tE).bind fun o=>(Bd o.cls).bind fun t=>(Gq o.data).map fun es=>(t,Qj o es,es.toList.map tF)
abbrev Obs:=Bool × List (Option (Arguments × List Stmt × Scope)) × Option (String × Bool × List (Int × List Nat × Int))
noncomputable def CI (g:Get):Obs:=(chk g,fc.map (fun p=>kr g p.1),gM g)
noncomputable def Ej (w : World) : Obs := (true, fc.map (fun p => p.2.find), some ("dict", true, fz.map (tG w)))
noncomputable def G2 (w:World) (h:Heap):Prop:=∃ g:Get,(∀ a o,g a=some o->h.get? a=some o)∧CI g=Ej w
noncomputable def fJ:Hook:=⟨Obs,fun s=>CI s.heap.get?,Ej,G2,fun _ s e=>⟨s.heap.get?,fun _ _ h=>h,e⟩,fun _ _ _ ⟨g,a,b⟩ k=>⟨g,fun x o e=>k _ _ (a x o e),b⟩⟩
end Mine.Internal
end
section
namespace Mine.Internal
open PySem PySem.W PySem.Calls PyProof.Rows PyProof.V
abbrev rw0:=PySem.Challenge.rw_sa0455_01
abbrev pw:Program:=PySem.Challenge.pw_sa0455_01
noncomputable def q0:Program:={ pw with main:={ pw.main with body:=pw.main.body.drop 115 } }
noncomputable def pO : List Str := (["__name__", "LendError", "WordFault", "GrammarFault", "INT_KINDS", "KEYWORDS", "SIGNS", "SMALL", "GREAT", "FIGURES", "NAME_BEGINS", "NAME_SIGNS", "BLANKS", "MOST_FIGURES", "MOST_VALUE", "MOST_DEEP", "run_end", "remark_end", "blank_end", "figure_worth", "base_at", "read_int", "read_sign", "read_word", "word_rows", "read_words", "Words", "PATH_WORDS", "MOST_LENGTH", "read_type", "read_shallow_type", "read_paren_type", "read_ref_type", "read_array_type", "read_length", "read_spath", "read_segment", "read_path_name", "read_arguments", "is_closed", "is_plain_name", "read_pattern", "read_part", "read_shallow_part", "is_alone", "read_ref_pattern", "read_paren_pattern", "read_whole", "read_number", "read_binding", "read_variant", "read_places", "read_fields", "read_field", "read_field_parse_patterns", "LEVELS", "COMPARED", "UPDATES", "MACROS", "ENDS", "read_expr", "read_right", "level_of", "read_binary", "read_behind", "read_cast", "cast_behind", "read_unary", "read_beneath", "read_borrow", "read_postfix", "read_member", "place_name", "read_types", "closes", "read_list", "is_block_like", "read_primary", "read_path_like", "read_field_parse_exprs", "read_paren", "read_array", "read_label", "has_value", "read_jump", "read_block_like", "read_loop", "read_if", "read_match", "read_arm", "read_on", "read_let", "read_statement_expr", "read_block", "plain", "without_spot", "_law_creel", "_law_draw", "_law_path", "_law_block", "_law_ahead", "_law_held", "_law_blocked", "_law_open", "_law_read", "_law_depth_right", "_law_match_right", "_law_texts"] : List String).map Str.ofString
noncomputable def fG (tb:String->Option Builtin) (p:Program) (w:World) (n₀:Nat) (ann:Option Value):Nat->SharedT->Thread->Option SharedT
 | 0,_,_=>none
 | n+1,s,t=>match through t with
  | true=>some s
  | false=>match stepOk n₀ ann t with
   | false=>none
   | true=>match stepT (denote tb) p w s t with
    | some (s',t')=>fG tb p w n₀ ann n s' t'
    | none=>none
theorem Ax {tb:String->Option Builtin} {p:Program} {w:World} {n₀:Nat} {ann:Option Value}:∀ {n:Nat} {s s':SharedT} {t:Thread},fG tb p w n₀ ann n s t=some s'->topRun tb p w n₀ ann n s.abs t=some s'.abs
 | 0,_,_,_,h=>by cases h
 | n+1,s,s',t,h=>by
  unfold fG at h
  unfold topRun
  cases he:through t with
  | true=>rw [he] at h;cases h;rfl
  | false =>
   rw [he] at h
   cases hk:stepOk n₀ ann t with
   | false=>rw [hk] at h;cases h
   | true =>
    rw [hk] at h
    cases hs:stepT (denote tb) p w s t with
    | none=>rw [hs] at h;cases h
    | some r=>obtain ⟨s₂,t₂⟩:=r;rw [hs] at h;rw [stepT_spec hs];exact Ax h
noncomputable def treeOf:List Obj->BT->Nat->Option (BT × Nat)
 | [],t,n=>some (t,n)
 | o :: r,t,n=>match ((t.ins n o).get n).isSome with
  | true=>treeOf r (t.ins n o) (n+1)
  | false=>none
theorem oz {life:Life}:∀ {l:List Obj} {t:BT} {n:Nat} {t':BT} {n':Nat},treeOf l t n=some (t',n')->absHeap t' n' life=⟨(absHeap t n life).objs++l.toArray,life⟩
 | [],t,n,t',n',h=>by cases h;simp [absHeap]
 | o :: r,t,n,t',n',h=>by
  unfold treeOf at h
  cases e:((t.ins n o).get n).isSome with
  | false=>rw [e] at h;cases h
  | true =>
   rw [e] at h
   rw [oz h,absHeap_ins e]
   simp [Heap.push]
noncomputable def wO (s:SharedT):Get:=fun a=>match Nat.blt a s.n with
 | true=>alive ((s.tree.get a).getD default)
 | false=>none
set_option backward.match.sparseCases true in
theorem BY (s:SharedT):s.abs.heap.get?=wO s:=by
 funext a
 unfold wO SharedT.abs Heap.get?
 show (match (absHeap s.tree s.n s.life).objs[a]? with | some ⟨_,_,.freed,_⟩=>none | o=>o)=_
 rw [absHeap_at]
 cases e:Nat.blt a s.n with
 | true =>
  have lt:a < s.n:=Nat.le_of_ble_eq_true e
  rw [if_pos lt]
  generalize (s.tree.get a).getD default=o
  obtain ⟨c,d,dt,sl⟩:=o
  cases dt <;> rfl
 | false =>
  have lt:¬ a < s.n:=fun q=>by rw [show Nat.blt a s.n=true from Nat.ble_eq_true_of_le q] at e;cases e
  rw [if_neg lt]
noncomputable def startT (w:World) (os:OsState):Option SharedT:=(treeOf (boot_heap w.params).objs.toList .nil 0).map fun (t,n)=>⟨t,n,(boot_heap w.params).life,#[],boot_drawn,boot_toks,os⟩
noncomputable def m0:Nat:=11
noncomputable def K5:Option Value:=some (.ref 6)
end Mine.Internal
end
section
namespace Mine.Internal
open PySem PySem.W PySem.Calls PyProof.Rows PyProof.V
noncomputable abbrev AY:=@PySem.W.Fast.tw10156331382660048174
noncomputable abbrev vK:=@PySem.W.Fast.tw6613529449190102663
noncomputable abbrev uM:=@PySem.W.Fast.tw11892475500146522536
noncomputable abbrev mK:=@PySem.W.Fast.tw14364793385576792824
noncomputable abbrev nZ:=@PySem.W.Fast.tw4187177175401517315
noncomputable def DP (p:Program) (w:World) (n₀:Nat) (ann:Option Value):Nat->SharedT->Thread->Option SharedT
 | 0,_,_=>none
 | n+1,s,t=>match through t with
  | true=>some s
  | false=>match vK n₀ ann t with
   | false=>none
   | true=>match AY (uM mK) p w s t with
    | some (s',t')=>DP p w n₀ ann n s' t'
    | none=>none
theorem vD {p:Program} {w:World} {n₀:Nat} {ann:Option Value}:∀ (n:Nat) (s:SharedT) (t:Thread),fG treeTable p w n₀ ann n s t=DP p w n₀ ann n s t
 | 0,_,_=>rfl
 | n+1,s,t=>by
  unfold fG DP vK AY uM mK
  rw [← PySem.W.Fast.te6613529449190102663,← PySem.W.Fast.te10156331382660048174,← PySem.W.Fast.te11892475500146522536,← PySem.W.Fast.te14364793385576792824]
  simp only [vD n] <;> rfl
noncomputable def Xt0 (s:Shared):Bool:=xlAt q0 [] s && recOk [] s
noncomputable def ng : String := "special-get-raises"
noncomputable def Av (w:World) (os:OsState):Option SharedT:=(startT w os).bind fun s=>DP pw w m0 K5 9184 s (topStub pw)
noncomputable def uZ (w:World) (s:SharedT) :=
 (staticsOk (importedModules pw.main.body) (boot_heap w.params) s.abs.heap && namesBound pw s.abs.heap && gensDone s.abs && laidKept (boot_heap w.params) s.abs.heap,nZ q0 pO (importedModules pw.main.body) Xt0 false s.abs,s.os,fc.map fun p=>kr (wO s) p.1)
noncomputable def vE (os:OsState):=(true,openGood q0 pO,os,fc.map fun p=>p.2.find)
noncomputable def v5 (s:SharedT):=(chk (wO s),gM (wO s))
noncomputable def vF (w : World) := (true, some ("dict", true, fz.map (tG w)))
end Mine.Internal
end
section
namespace Mine.Internal
open PySem PySem.W PySem.Calls PyProof.Rows PyProof.V
theorem Pb:PySem.Challenge.rw_sa0455_01.row.prog.tablesWhole=true:=by decide +kernel
theorem fh {a b:Bool} (h:a=true) (k:b=true):(a && b)=true:=by rw [h,k];rfl
theorem Mb:PySem.W.Fast.tw11788848310118352699 pw.main=true:=by kernel_rfl
theorem Mc:((PySem.W.Fast.tw9807087744658564304 pw.main.body).isEmpty || PySem.W.Fast.tw12862048085361865435 (PySem.W.Fast.tw9807087744658564304 pw.main.body) pw.main.body)=true:=by kernel_rfl
theorem Mf:PySem.W.Fast.tw8377067652309620493 pw=true:=by kernel_rfl
theorem Mg:(PySem.W.R.allR (PySem.W.Fast.tw18344453789297297638 pw) fun n=>!PySem.W.Fast.tw3471404346716756564 PySem.W.Fast.tw14412699480532031325 n)=true:=by kernel_rfl
noncomputable def road (p:Program):Bool:=PySem.W.Fast.tw8326940854005059898 { strict:=!PySem.W.R.allR (PySem.W.Fast.tw5923862056798008813 p.main.body) (PySem.W.Fast.tw3471404346716756564 PySem.W.Fast.tw17691160309236699985),foot:=none,bare:=PySem.W.R.filterR (PySem.W.Fast.tw13343964577679436407 p p.main.body) [⟨⟨[118,97,114,115]⟩⟩,⟨⟨[100,105,114]⟩⟩,⟨⟨[108,111,99,97,108,115]⟩⟩] } p.main.body
theorem Mh:road pw=true:=by kernel_rfl
theorem Mi:(PySem.W.Fast.tw17119622794617984870 pw pw.main.body fun _ n=>PySem.W.Fast.tw17868728402115742887 n)=true:=by kernel_rfl
theorem look:PySem.W.Fast.tw12908688711261696721 pw=true:=fh (fh (fh (fh (fh Mb Mc) Mf) Mg) Mh) Mi
theorem Oo:PySem.W.Fast.tw9446332074065402090 rw0=true:=by
 iterate 18 refine fh ?_ (by kernel_rfl)
 refine fh (fh ?_ (by kernel_rfl)) (by kernel_rfl)
 iterate 13 refine fh ?_ (by kernel_rfl)
 exact look
theorem Om:rw0.wellSaid=true:=(congrFun PySem.W.Fast.te9446332074065402090 rw0).trans Oo
end Mine.Internal
end
section
namespace Mine.Internal
open PySem PySem.W PySem.Calls PyProof.Rows PyProof.V
theorem Oa (w:World) (os:OsState):(Av (w.withFollow ng false) os).map (uZ (w.withFollow ng false))=some (vE os):=by kernel_rfl
theorem Ob (w:World) (os:OsState):(Av (w.withFollow ng false) os).map v5=some (vF (w.withFollow ng false)):=by kernel_rfl
theorem Oc (w:World) (os:OsState):(Av (w.withFollow ng true) os).map (uZ (w.withFollow ng true))=some (vE os):=by kernel_rfl
theorem Od (w:World) (os:OsState):(Av (w.withFollow ng true) os).map v5=some (vF (w.withFollow ng true)):=by kernel_rfl
end Mine.Internal
end
section
namespace Mine.Internal.Q
open PySem
inductive An where
 | n (k:Nat)
 | d (d:D) (σ:Sto)
 | e (σ:Sto)
 | o (d:D)
 | b (b:Bool)
 | s (σ:Sto)
 | f (p:Fl × Loc) (σ:Sto)
abbrev St:=Nat × List An
noncomputable def norm:List An->St
 | .n k :: r=>(k,r)
 | r=>(0,r)
inductive Lg (α:Type):Type 1 where
 | ok (a:α) (σ:Sto) (s:St) (ps:List Prop)
 | err (σ:Sto) (s:St) (ps:List Prop)
 | no
noncomputable def All:List Prop->Prop
 | []=>True
 | [p]=>p
 | p :: q :: r=>p∧All (q :: r)
theorem All.head {p:Prop}:∀ {r:List Prop},All (p :: r)->p
 | [],h=>h
 | _ :: _,h=>h.1
theorem All.tail {p:Prop}:∀ {r:List Prop},All (p :: r)->All r
 | [],_=>trivial
 | _ :: _,h=>h.2
theorem All.left:∀ {a b:List Prop},All (a++b)->All a
 | [],_,_=>trivial
 | [_],_,h=>All.head h
 | _ :: q :: r,_,h=>⟨h.1,All.left (a:=q :: r) h.2⟩
theorem All.right:∀ {a b:List Prop},All (a++b)->All b
 | [],_,h=>h
 | _ :: _,_,h=>All.right (All.tail h)
noncomputable def Lg.more {α:Type} (l:Lg α) (ps:List Prop):Lg α:=match l with
 | .ok b σ s qs=>.ok b σ s (ps++qs)
 | .err σ s qs=>.err σ s (ps++qs)
 | .no=>.no
noncomputable def Lg.bind {α β:Type} (l:Lg α) (f:α->Sto->St->Lg β):Lg β:=match l with
 | .ok a σ s ps=>(f a σ s).more ps
 | .err σ s ps=>.err σ s ps
 | .no=>.no
noncomputable def Snd {α:Type} (l:Lg α) (r:R α):Prop:=match l with
 | .ok a σ _ ps=>All ps->r=.ok a σ
 | .err σ _ ps=>All ps->r=.err σ
 | .no=>True
theorem Snd.bind {α β:Type} {l:Lg α} {r:R α} {f:α->Sto->St->Lg β} {g:α->Sto->R β} (h:Snd l r) (k:∀ a σ s,Snd (f a σ s) (g a σ)):Snd (l.bind f) (r.bind g):=by
 cases l with
 | no=>trivial
 | err σ s ps=>exact fun a=>congrArg (·.bind g) (h a)
 | ok a σ s ps =>
  have k:=k a σ s
  unfold Lg.bind
  dsimp only
  generalize f a σ s=l₂ at k
  cases l₂ with
  | no=>trivial
  | err σ' s' qs=>exact fun a=>(congrArg (·.bind g) (h (All.left a))).trans (k (All.right a))
  | ok b σ' s' qs=>exact fun a=>(congrArg (·.bind g) (h (All.left a))).trans (k (All.right a))
theorem Snd.ret {α:Type} {a:α} {σ:Sto} {s:St}:Snd (.ok a σ s []) (.ok a σ):=fun _=>rfl
theorem Snd.none {α:Type} {r:R α}:Snd .no r:=trivial
noncomputable def ofR {α:Type} (r:R α) (s:St):Lg α:=match r with
 | .ok a σ=>.ok a σ s []
 | .err σ=>.err σ s []
 | .no=>.no
theorem Snd.ofR {α:Type} {r:R α} {s:St}:Snd (ofR r s) r:=by
 cases r with
 | ok=>exact fun _=>rfl
 | err=>exact fun _=>rfl
 | no=>trivial
noncomputable def eE (r:R D) (s:St):Lg D:=match s with
 | (k+1,t)=>ofR r (k,t)
 | (0,.d d σ :: t)=>.ok d σ (norm t) [r=.ok d σ]
 | (0,.e σ :: t)=>.err σ (norm t) [r=.err σ]
 | (0,t)=>ofR r (0,t)
theorem Snd.eE {r:R D} {s:St}:Snd (eE r s) r:=by
 obtain ⟨k,t⟩:=s
 cases k with
 | succ=>exact .ofR
 | zero=>cases t with
  | nil=>exact .ofR
  | cons a t=>cases a with
   | d=>exact fun h=>h
   | e=>exact fun h=>h
   | _=>exact .ofR
noncomputable def qy (r:R (Fl × Loc)) (s:St):Lg (Fl × Loc):=match s with
 | (k+1,t)=>ofR r (k,t)
 | (0,.f p σ :: t)=>.ok p σ (norm t) [r=.ok p σ]
 | (0,.e σ :: t)=>.err σ (norm t) [r=.err σ]
 | (0,t)=>ofR r (0,t)
theorem Snd.qy {r:R (Fl × Loc)} {s:St}:Snd (qy r s) r:=by
 obtain ⟨k,t⟩:=s
 cases k with
 | succ=>exact .ofR
 | zero=>cases t with
  | nil=>exact .ofR
  | cons a t=>cases a with
   | f=>exact fun h=>h
   | e=>exact fun h=>h
   | _=>exact .ofR
noncomputable def pU {α:Type} (σ:Sto) (o:Option α) (s:St):Lg α:=match o with
 | some a=>.ok a σ s []
 | none=>.no
noncomputable def mX (σ:Sto) (o:Option D) (s:St):Lg D:=match s with
 | (k+1,t)=>pU σ o (k,t)
 | (0,.o d :: t)=>.ok d σ (norm t) [o=some d]
 | (0,t)=>pU σ o (0,t)
theorem Snd.pU {α:Type} {σ:Sto} {o:Option α} {s:St}:Snd (pU σ o s) (ofO σ o):=by
 cases o with
 | some=>exact fun _=>rfl
 | none=>trivial
theorem Snd.mX {σ:Sto} {o:Option D} {s:St}:Snd (mX σ o s) (ofO σ o):=by
 obtain ⟨k,t⟩:=s
 cases k with
 | succ=>exact .pU
 | zero=>cases t with
  | nil=>exact .pU
  | cons a t=>cases a with
   | o=>exact fun (h:o=_)=>by rw [h];rfl
   | _=>exact .pU
noncomputable def oO (σ:Sto) (o:Option Sto) (ρ:Loc) (s:St):Lg (Fl × Loc):=match s with
 | (k+1,t)=>(match o with | some σ=>.ok (.next,ρ) σ (k,t) [] | none=>.no)
 | (0,.s σ' :: t)=>.ok (.next,ρ) σ' (norm t) [o=some σ']
 | (0,t)=>(match o with | some σ=>.ok (.next,ρ) σ (0,t) [] | none=>.no)
noncomputable def toS (o:Option Sto) (ρ:Loc):R (Fl × Loc):=match o with | some σ=>.ok (.next,ρ) σ | none=>.no
theorem Snd.oO {σ:Sto} {o:Option Sto} {ρ:Loc} {s:St}:Snd (oO σ o ρ s) (toS o ρ):=by
 obtain ⟨k,t⟩:=s
 cases k with
 | succ=>cases o with | some=>exact fun _=>rfl | none=>trivial
 | zero=>cases t with
  | nil=>cases o with | some=>exact fun _=>rfl | none=>trivial
  | cons a t=>cases a with
   | s=>exact fun (h:o=_)=>by rw [h];rfl
   | _=>cases o with | some=>exact fun _=>rfl | none=>trivial
noncomputable def w7 (σ:Sto) (b:Bool) (s:St):Lg Bool:=match s with
 | (k+1,t)=>.ok b σ (k,t) []
 | (0,.b c :: t)=>.ok c σ (norm t) [b=c]
 | (0,t)=>.ok b σ (0,t) []
theorem Snd.w7 {σ:Sto} {b:Bool} {s:St}:Snd (w7 σ b s) (.ok b σ):=by
 obtain ⟨k,t⟩:=s
 cases k with
 | succ=>exact fun _=>rfl
 | zero=>cases t with
  | nil=>exact fun _=>rfl
  | cons a t=>cases a with
   | b=>exact fun (h:b=_)=>by rw [h]
   | _=>exact fun _=>rfl
structure EvL where
 x:Nat->Loc->X->Sto->St->Lg D
 l:Nat->Loc->List X->Sto->St->Lg (List D)
 b:Nat->Loc->List SS->Sto->St->Lg (Fl × Loc)
noncomputable def EvL.t (E:EvL) (dp:Nat) (ρ:Loc) (x:X) (σ:Sto) (s:St):Lg Bool:=(E.x dp ρ x σ s).bind fun d σ s=>pU σ (aL d) s
noncomputable def Ac (E:EvL) (dp:Nat) (ρ:Loc) (x:Option X) (σ:Sto) (s:St):Lg (Option D):=match x with
 | none=>.ok none σ s []
 | some x=>(E.x dp ρ x σ s).bind fun d σ s=>.ok (some d) σ s []
noncomputable def Bx (E:EvL) (dp:Nat) (ρ:Loc) (w:Bool) (f:List X->X) (xs:List X) (σ:Sto) (s:St):Lg D:=match xs with
 | []=>.no
 | x :: r=>(match r with
  | []=>E.x dp ρ x σ s
  | _=>(E.x dp ρ x σ s).bind fun a σ s=>(match aL a with | some b=>(match b == w with | true=>E.x dp ρ (f r) σ s | false=>.ok a σ s []) | none=>.no))
noncomputable def qg (Q:Ev) (E:EvL) (dp:Nat) (ρ:Loc) (x:X) (σ:Sto) (s:St):Lg D:=match x with
 | .k d=>.ok d σ s []
 | .loc i=>(match ρ[i]? with | some (some d)=>.ok d σ s [] | _=>.no)
 | .gl d=>.ok d σ s []
 | .tup xs=>(E.l dp ρ xs σ s).bind fun ds σ s=>ofR (if Nat.ble ds.length lim then .ok (.tup ds) σ else .no) s
 | .lst xs=>(E.l dp ρ xs σ s).bind fun ds σ s=>ofR (if Nat.ble ds.length lim then .ok (.cell σ.length) (σ++[.lst ds]) else .no) s
 | .sub x i=>(E.x dp ρ x σ s).bind fun a σ s=>(E.x dp ρ i σ s).bind fun i σ s=>mX σ (cU σ a i) s
 | .slc x lo hi=>(E.x dp ρ x σ s).bind fun a σ s=>(Ac E dp ρ lo σ s).bind fun l σ s=>(Ac E dp ρ hi σ s).bind fun h σ s=>eE (match cD l,cD h with | some l,some h=>gm σ a l h | _,_=>.no) s
 | .rev x=>(E.x dp ρ x σ s).bind fun a σ s=>eE (DN σ a) s
 | .bin o x y=>(E.x dp ρ x σ s).bind fun a σ s=>(E.x dp ρ y σ s).bind fun b σ s=>eE (bx σ o a b) s
 | .cmp c x y=>(E.x dp ρ x σ s).bind fun a σ s=>(E.x dp ρ y σ s).bind fun b σ s=>mX σ (aV σ c a b) s
 | .band xs=>Bx E dp ρ true .band xs σ s
 | .bor xs=>Bx E dp ρ false .bor xs σ s
 | .bnot x=>(E.t dp ρ x σ s).bind fun b σ s=>.ok (.bool (!b)) σ s []
 | .neg x=>(E.x dp ρ x σ s).bind fun a σ s=>ofR (match a with | .int i=>.ok (.int (-i)) σ | _=>.no) s
 | .ite c a b=>(E.t dp ρ c σ s).bind fun t σ s=>(match t with | true=>E.x dp ρ a σ s | false=>E.x dp ρ b σ s)
 | .call f xs=>(E.x dp ρ f σ s).bind fun f σ s=>(E.l dp ρ xs σ s).bind fun as σ s=>eE (uH Q dp f as σ) s
 | .wm m x xs=>(E.x dp ρ x σ s).bind fun a σ s=>(w7 σ (ig σ a) s).bind fun b σ s=>(match b with | true=>(E.l dp ρ xs σ s).bind fun as σ s=>eE (Q.c dp (wmA m) (a :: as) σ) s | false=>.no)
 | .me m x xs=>(E.x dp ρ x σ s).bind fun a σ s=>(w7 σ (cV σ m a) s).bind fun b σ s=>(match b with | true=>(E.l dp ρ xs σ s).bind fun as σ s=>eE (meD σ m a as) s | false=>.no)
 | .bi b xs=>(E.l dp ρ xs σ s).bind fun as σ s=>eE (biD σ b as) s
 | .isi b x=>(E.x dp ρ x σ s).bind fun a σ s=>eE (biD σ b [a]) s
 | .att x a=>(E.x dp ρ x σ s).bind fun d σ s=>mX σ (iH σ d a) s
 | .dsp kvs=>ofR (if yO kvs=true then .ok (.dct kvs) σ else .no) s
 | .pairs x=>(E.x dp ρ x σ s).bind fun a σ s=>eE (match a with | .tup ds=>if Nat.ble ds.length lim then .ok (.cell σ.length) (σ++[.lst (ds.map fun d=>.tup [d,.bool false])]) else .no | _=>.no) s
 | _=>.no
noncomputable def AX (E:EvL) (dp:Nat) (ρ:Loc) (xs:List X) (σ:Sto) (s:St):Lg (List D):=match xs with
 | []=>.ok [] σ s []
 | x :: r=>(E.x dp ρ x σ s).bind fun d σ s=>(E.l dp ρ r σ s).bind fun ds σ s=>.ok (d :: ds) σ s []
noncomputable def qe (Q:Ev) (E:EvL) (dp:Nat) (ρ:Loc) (x:SS) (σ:Sto) (s:St):Lg (Fl × Loc):=match x with
 | .ret x=>(E.x dp ρ x σ s).bind fun d σ s=>.ok (.ret d,ρ) σ s []
 | .ex x=>(E.x dp ρ x σ s).bind fun _ σ s=>.ok (.next,ρ) σ s []
 | .asg t x=>(E.x dp ρ x σ s).bind fun d σ s=>ofR (match bW ρ t d with | some ρ=>.ok (.next,ρ) σ | Option.none=>.no) s
 | .asgA o a x=>(E.x dp ρ x σ s).bind fun d σ s=>(E.x dp ρ o σ s).bind fun o σ s=>oO σ (bw σ o a d) ρ s
 | .augA o a op x=>(E.x dp ρ o σ s).bind fun o σ s=>(mX σ (iH σ o a) s).bind fun old σ s=>(E.x dp ρ x σ s).bind fun v σ s=>(match oR op old v with | some d=>oO σ (bw σ o a d) ρ s | none=>.no)
 | .asgS o i x=>(E.x dp ρ x σ s).bind fun d σ s=>(E.x dp ρ o σ s).bind fun o σ s=>(E.x dp ρ i σ s).bind fun i σ s=>oO σ (cR σ o i d) ρ s
 | .aug i x=>(match ρ[i]? with
   | some (some (.int a))=>(E.x dp ρ x σ s).bind fun b σ s=>ofR (match b with
    | .int y=>.ok (.next,put ρ i (.int (a+y))) σ
    | _=>.no) s
   | _=>.no)
 | .ifs c a b=>(E.t dp ρ c σ s).bind fun t σ s=>(match t with | true=>E.b dp ρ a σ s | false=>E.b dp ρ b σ s)
 | .whl c b=>qy (Q.w dp ρ c b σ) s
 | .forR i n b=>(E.x dp ρ n σ s).bind fun d σ s=>qy (match d with | .int (.ofNat k)=>if Nat.ble k 1000 then Q.f dp ρ (.n i) (cH k) b σ else .no | _=>.no) s
 | .for_ t x b=>(E.x dp ρ x σ s).bind fun d σ s=>qy (match d with | .tup ds=>Q.f dp ρ t ds b σ | _=>.no) s
 | .raise m p=>(E.x dp ρ m σ s).bind fun _ σ s=>(E.x dp ρ p σ s).bind fun _ σ s=>.err σ s []
 | .brk=>.ok (.brk,ρ) σ s []
 | .try_ i x=>(match E.x dp ρ x σ s with
   | .ok d σ s ps=>.ok (.next,put ρ i d) σ s ps
   | .err σ s ps=>.ok (.ret .none,ρ) σ s ps
   | .no=>.no)
 | _=>.no
noncomputable def QD (E:EvL) (dp:Nat) (rest:List SS) (p:Fl × Loc) (σ:Sto) (s:St):Lg (Fl × Loc):=match p.1 with
 | .next=>E.b dp p.2 rest σ s
 | .brk=>.ok p σ s []
 | .ret d=>.ok (.ret d,p.2) σ s []
noncomputable def AV (Q:Ev) (E:EvL) (dp:Nat) (ρ:Loc) (ss:List SS) (σ:Sto) (s:St):Lg (Fl × Loc):=match ss with
 | []=>.ok (.next,ρ) σ s []
 | x :: r=>(qe Q E dp ρ x σ s).bind fun p σ s=>QD E dp r p σ s
noncomputable def evL (m:Nat):Nat->EvL
 | 0=>⟨fun _ _ _ _ _=>.no,fun _ _ _ _ _=>.no,fun _ _ _ _ _=>.no⟩
 | j+1=>⟨qg (evn false fnT (m+j)) (evL m j),AX (evL m j),AV (evn false fnT (m+j)) (evL m j)⟩
structure mV (L:EvL) (E:Ev):Prop where
 x:∀ dp ρ x σ s,Snd (L.x dp ρ x σ s) (E.x dp ρ x σ)
 l:∀ dp ρ x σ s,Snd (L.l dp ρ x σ s) (E.l dp ρ x σ)
 b:∀ dp ρ x σ s,Snd (L.b dp ρ x σ s) (E.b dp ρ x σ)
section
variable {L:EvL} {E:Ev} (H:mV L E) {dp:Nat} {ρ:Loc} {σ:Sto} {s:St}
include H
theorem mV.t {x:X}:Snd (L.t dp ρ x σ s) (E.t dp ρ x σ):=(H.x ..).bind fun _ _ _=>.pU
theorem mV.opt {x:Option X}:Snd (Ac L dp ρ x σ s) (Aa E dp ρ x σ):=by
 cases x with
 | none=>exact .ret
 | some x=>exact (H.x ..).bind fun _ _ _=>.ret
theorem mV.band {xs:List X}:Snd (Bx L dp ρ true .band xs σ s) (aq false E dp ρ (.band xs) σ):=by
 cases xs with
 | nil=>exact .none
 | cons x r=>cases r with
  | nil=>exact H.x ..
  | cons y r =>
   exact (H.x ..).bind fun a σ s=>by
    cases aL a with
    | none=>exact .none
    | some b=>cases b with
     | true=>exact H.x ..
     | false=>exact .ret
theorem mV.bor {xs:List X}:Snd (Bx L dp ρ false .bor xs σ s) (aq false E dp ρ (.bor xs) σ):=by
 cases xs with
 | nil=>exact .none
 | cons x r=>cases r with
  | nil=>exact H.x ..
  | cons y r =>
   exact (H.x ..).bind fun a σ s=>by
    cases aL a with
    | none=>exact .none
    | some b=>cases b with
     | false=>exact H.x ..
     | true=>exact .ret
theorem mV.aq (x:X):Snd (qg E L dp ρ x σ s) (aq false E dp ρ x σ):=by
 cases x with
 | k=>exact .ret
 | gl=>exact .ret
 | loc i =>
  unfold qg Mine.Internal.aq
  dsimp only
  cases ρ[i]? with
  | none=>exact .none
  | some o=>cases o with
   | none=>exact .none
   | some d=>exact .ret
 | tup=>exact (H.l ..).bind fun _ _ _=>.ofR
 | lst=>exact (H.l ..).bind fun _ _ _=>.ofR
 | sub=>exact (H.x ..).bind fun _ _ _=>(H.x ..).bind fun _ _ _=>.mX
 | slc=>exact (H.x ..).bind fun _ _ _=>H.opt.bind fun _ _ _=>H.opt.bind fun _ _ _=>.eE
 | rev=>exact (H.x ..).bind fun _ _ _=>.eE
 | bin=>exact (H.x ..).bind fun _ _ _=>(H.x ..).bind fun _ _ _=>.eE
 | cmp=>exact (H.x ..).bind fun _ _ _=>(H.x ..).bind fun _ _ _=>.mX
 | band=>exact H.band
 | bor=>exact H.bor
 | bnot=>exact H.t.bind fun _ _ _=>.ret
 | neg=>exact (H.x ..).bind fun _ _ _=>.ofR
 | ite=>exact H.t.bind fun t _ _=>by cases t <;> exact H.x ..
 | call=>exact (H.x ..).bind fun _ _ _=>(H.l ..).bind fun _ _ _=>.eE
 | wm m x xs =>
  exact (H.x ..).bind fun a σ _=>(Snd.w7 (σ:=σ) (b:=ig σ a)).bind (g:=fun b σ=>if b then (E.l dp ρ xs σ).bind fun as σ=>E.c dp (wmA m) (a :: as) σ else .no) fun b _ _=>by
   cases b with
   | true=>exact (H.l ..).bind fun _ _ _=>.eE
   | false=>exact .none
 | me m x xs =>
  exact (H.x ..).bind fun a σ _=>(Snd.w7 (σ:=σ) (b:=cV σ m a)).bind (g:=fun b σ=>if b then (E.l dp ρ xs σ).bind fun as σ=>meD σ m a as else .no) fun b _ _=>by
   cases b with
   | true=>exact (H.l ..).bind fun _ _ _=>.eE
   | false=>exact .none
 | bi=>exact (H.l ..).bind fun _ _ _=>.eE
 | isi=>exact (H.x ..).bind fun _ _ _=>.eE
 | att=>exact (H.x ..).bind fun _ _ _=>.mX
 | pairs=>exact (H.x ..).bind fun _ _ _=>.eE
 | dsp=>exact .ofR
 | un=>exact .none
theorem mV.aG (x:SS):Snd (qe E L dp ρ x σ s) (aG E dp ρ x σ):=by
 cases x with
 | ret=>exact (H.x ..).bind fun _ _ _=>.ret
 | ex=>exact (H.x ..).bind fun _ _ _=>.ret
 | asg=>exact (H.x ..).bind fun _ _ _=>.ofR
 | asgA=>exact (H.x ..).bind fun _ _ _=>(H.x ..).bind fun _ _ _=>.oO
 | asgS=>exact (H.x ..).bind fun _ _ _=>(H.x ..).bind fun _ _ _=>(H.x ..).bind fun _ _ _=>.oO
 | aug i x =>
  unfold qe Mine.Internal.aG
  dsimp only
  cases ρ[i]? with
  | none=>exact .none
  | some o=>cases o with
   | none=>exact .none
   | some d=>cases d with
    | int a=>exact (H.x ..).bind fun _ _ _=>.ofR
    | _=>exact .none
 | ifs=>exact H.t.bind fun t _ _=>by cases t <;> exact H.b ..
 | whl=>exact .qy
 | forR=>exact (H.x ..).bind fun _ _ _=>.qy
 | for_=>exact (H.x ..).bind fun _ _ _=>.qy
 | raise=>exact (H.x ..).bind fun _ _ _=>(H.x ..).bind fun _ _ _=>fun _=>rfl
 | brk=>exact .ret
 | try_ i x =>
  have h:=H.x dp ρ x σ s
  unfold qe Mine.Internal.aG
  dsimp only
  generalize L.x dp ρ x σ s=l at h
  cases l with
  | ok=>exact fun a=>by rw [h a]
  | err=>exact fun a=>by rw [h a]
  | no=>exact .none
 | augA o a op x =>
  exact (H.x ..).bind fun o σ s=>by
   have h:=(Snd.mX (σ:=σ) (o:=iH σ o a) (s:=s)).bind (g:=fun old σ=>(E.x dp ρ x σ).bind fun v σ=>j4 σ o a (oR op old v) ρ) fun old σ s=>(H.x dp ρ x σ s).bind fun v σ s=>(by
    cases oR op old v with
    | some d=>exact .oO
    | none=>exact .none:Snd (match oR op old v with | some d=>oO σ (bw σ o a d) ρ s | none=>.no) (j4 σ o a (oR op old v) ρ))
   revert h
   cases iH σ o a <;> exact id
 | forv=>exact .none
 | un=>exact .none
theorem mV.next:mV ⟨qg E L,AX L,AV E L⟩ (step false fnT E) where
 x:=fun _ _ x _ _=>H.aq x
 l:=fun dp ρ x σ s=>by
  cases x with
  | nil=>exact .ret
  | cons=>exact (H.x ..).bind fun _ _ _=>(H.l ..).bind fun _ _ _=>.ret
 b:=fun dp ρ x σ s=>by
  cases x with
  | nil=>exact .ret
  | cons x r =>
   exact (H.aG x).bind fun p _ _=>by
    obtain ⟨f,ρ⟩:=p
    cases f with
    | next=>exact H.b ..
    | brk=>exact .ret
    | ret=>exact .ret
end
theorem lG (m:Nat):∀ j,mV (evL m j) (evn false fnT (m+j))
 | 0=>⟨fun _ _ _ _ _=>trivial,fun _ _ _ _ _=>trivial,fun _ _ _ _ _=>trivial⟩
 | j+1=>(lG m j).next
noncomputable def Lg.out {α:Type} (l:Lg α):Option (R α) × Prop:=match l with
 | .ok a σ _ ps=>(some (.ok a σ),All ps)
 | .err σ _ ps=>(some (.err σ),All ps)
 | .no=>(none,True)
theorem Snd.out {α:Type} {l:Lg α} {r r':R α} {P:Prop} (h:Snd l r) (hp:P) (e:l.out=(some r',P)):r=r':=by
 cases l with
 | ok=>cases e;exact h hp
 | err=>cases e;exact h hp
 | no=>cases e
structure Fc (s:List An) (ps:List Prop):Prop where
 h:All ps
theorem Fc.z:Fc [] []:=⟨trivial⟩
theorem Fc.cons {p:Prop} {s:List An} {ps:List Prop} (a:An) (h:p) (F:Fc s ps):Fc (a :: s) (p :: ps):=⟨by cases ps with | nil=>exact h | cons=>exact ⟨h,F.h⟩⟩
theorem fn (k:Nat) {s:List An} {ps:List Prop} (F:Fc s ps):Fc (.n k :: s) ps:=⟨F.h⟩
theorem fd {r:R D} {d:D} {σ:Sto} (h:r=.ok d σ) {s:List An} {ps:List Prop} (F:Fc s ps):Fc (.d d σ :: s) ((r=.ok d σ) :: ps):=F.cons _ h
theorem fe {r:R D} {σ:Sto} (h:r=.err σ) {s:List An} {ps:List Prop} (F:Fc s ps):Fc (.e σ :: s) ((r=.err σ) :: ps):=F.cons _ h
theorem fo {o:Option D} {d:D} (h:o=some d) {s:List An} {ps:List Prop} (F:Fc s ps):Fc (.o d :: s) ((o=some d) :: ps):=F.cons _ h
theorem fs {o:Option Sto} {σ:Sto} (h:o=some σ) {s:List An} {ps:List Prop} (F:Fc s ps):Fc (.s σ :: s) ((o=some σ) :: ps):=F.cons _ h
theorem fb {b c:Bool} (h:b=c) {s:List An} {ps:List Prop} (F:Fc s ps):Fc (.b c :: s) ((b=c) :: ps):=F.cons _ h
theorem ff {r:R (Fl × Loc)} {p:Fl × Loc} {σ:Sto} (h:r=.ok p σ) {s:List An} {ps:List Prop} (F:Fc s ps):Fc (.f p σ :: s) ((r=.ok p σ) :: ps):=F.cons _ h
theorem fT {m j:Nat} {ps:List Prop} {dp:Nat} {ρ:Loc} {b:List SS} {σ:Sto} {r:R (Fl × Loc)} {s:List An} (F:Fc s ps) (e:((evL m j).b dp ρ b σ (norm s)).out=(some r,All ps)):(evn false fnT (m+j)).b dp ρ b σ=r:=((lG m j).b ..).out F.h e
theorem QL {m j:Nat} {ps:List Prop} {dp:Nat} {ρ:Loc} {x:X} {σ:Sto} {r:R D} {s:List An} (F:Fc s ps) (e:((evL m j).x dp ρ x σ (norm s)).out=(some r,All ps)):(evn false fnT (m+j)).x dp ρ x σ=r:=((lG m j).x ..).out F.h e
noncomputable def DL (l:Lg (Fl × Loc)):Lg D:=l.bind fun p σ s=>.ok (flD p.1) σ s []
theorem Snd.DL {l:Lg (Fl × Loc)} {r:R (Fl × Loc)} (h:Snd l r):Snd (DL l) (r.bind fun p σ=>.ok (flD p.1) σ):=Snd.bind (f:=fun (p:Fl × Loc) σ s=>.ok (flD p.1) σ s []) (g:=fun (p:Fl × Loc) σ=>.ok (flD p.1) σ) h fun _ _ _=>Snd.ret
theorem runC {m j:Nat} {ps:List Prop} {dp a:Nat} {as ds:List D} {σ:Sto} {q:ah} {r:R D} {s:List An} (h:fnT a=some q) (ha:Nat.beq a aO=false) (hf:fill q as=some ds) (F:Fc s ps)
  (e:(DL ((evL m j).b dp (ds.map some++List.replicate (q.nl - q.np) none) q.body σ (norm s))).out=(some r,All ps)):(evn false fnT (m+j+1)).c (dp+1) a as σ=r:=by
 have k:(evn false fnT (m+j+1)).c (dp+1) a as σ=((evn false fnT (m+j)).b dp (ds.map some++List.replicate (q.nl - q.np) none) q.body σ).bind fun p σ=>.ok (flD p.1) σ:=by
  show (if Nat.beq a aO then _ else _)=_
  rw [ha,h,if_neg (by decide)]
  show (match fill q as with | some ds=>_ | none=>_)=_
  rw [hf]
 rw [k]
 exact ((lG m j).b ..).DL.out F.h e
theorem fG {m j:Nat} {ps:List Prop} {dp:Nat} {ρ:Loc} {x:X} {σ:Sto} {r:R Bool} {s:List An} (F:Fc s ps) (e:((evL m j).t dp ρ x σ (norm s)).out=(some r,All ps)):(evn false fnT (m+j)).t dp ρ x σ=r:=(lG m j).t.out F.h e
theorem Qa {n dp:Nat} {ρ:Loc} {t:Tg} {b:List SS} {σ:Sto}:(evn false fnT (n+1)).f dp ρ t [] b σ=.ok (.next,ρ) σ:=rfl
theorem iL {n dp:Nat} {ρ ρ₁ ρ₂:Loc} {t:Tg} {d:D} {r:List D} {b:List SS} {σ σ':Sto} (h:bW ρ t d=some ρ₁) (hb:(evn false fnT n).b dp ρ₁ b σ=.ok (.next,ρ₂) σ'):(evn false fnT (n+1)).f dp ρ t (d :: r) b σ=(evn false fnT n).f dp ρ₂ t r b σ':=by
 show (match bW ρ t d with | some ρ=>_ | none=>_)=_
 rw [h]
 show ((evn false fnT n).b dp ρ₁ b σ).bind _=_
 rw [hb]
 rfl
theorem f9 {n dp:Nat} {ρ:Loc} {c:X} {b:List SS} {σ σ':Sto} (h:(evn false fnT n).t dp ρ c σ=.ok false σ'):(evn false fnT (n+1)).w dp ρ c b σ=.ok (.next,ρ) σ':=by
 show ((evn false fnT n).t dp ρ c σ).bind _=_
 rw [h]
 rfl
theorem dH {n dp:Nat} {ρ ρ':Loc} {c:X} {b:List SS} {σ σ₁ σ₂:Sto} (h:(evn false fnT n).t dp ρ c σ=.ok true σ₁) (hb:(evn false fnT n).b dp ρ b σ₁=.ok (.next,ρ') σ₂):(evn false fnT (n+1)).w dp ρ c b σ=(evn false fnT n).w dp ρ' c b σ₂:=by
 show ((evn false fnT n).t dp ρ c σ).bind _=_
 rw [h]
 show ((evn false fnT n).b dp ρ b σ₁).bind _=_
 rw [hb]
 rfl
theorem qS {n dp:Nat} {ρ:Loc} {i x:Nat} {b:List SS} {σ σ':Sto} {p:Fl × Loc} (hx:x≤1000) (h:(evn false fnT n).f dp ρ (.n i) (cH x) b σ=.ok p σ'):(if Nat.ble x 1000=true then (evn false fnT n).f dp ρ (.n i) (cH x) b σ else .no)=.ok p σ':=(if_pos (Nat.ble_eq.mpr hx)).trans h
theorem gK {σ:Sto} {j x:Nat} {ds:List D} {v:D} (h:σ[j]?=some (.lst ds)) (hx:x≤lim) (hv:ds[x]?=some v):cU σ (.cell j) (.int (x:Int))=some v:=by
 show (if Nat.ble x lim then (match σ[j]? with | some (.lst ds)=>ds[x]? | _=>none) else none)=_
 rw [h,if_pos (Nat.ble_eq.mpr hx)]
 exact hv
theorem fM {α:Type} {l:List α} {k:Nat} {x:α} (h:l[k]?=some x):k < l.length:=(List.getElem?_eq_some_iff.mp h).1
theorem bA {σ e:Sto} {k:Nat} {x:Cell} (h:σ[k]?=some x):(σ++e)[k]?=some x:=(List.getElem?_append_left (fM h)).trans h
theorem dS {σ:Sto} {x:Cell}:(σ++[x])[σ.length]?=some x:=by rw [List.getElem?_append_right (Nat.le_refl _),Nat.sub_self];rfl
theorem dU {σ:Sto} {k:Nat} {x y:Cell} (h:σ[k]?=some x):(σ.set k y)[k]?=some y:=List.getElem?_set_self (fM h)
theorem jI {σ:Sto} {j k:Nat} {x y:Cell} (hn:j ≠ k) (h:σ[k]?=some x):(σ.set j y)[k]?=some x:=(List.getElem?_set_ne hn).trans h
noncomputable def fR (p:Nat->Prop):Nat->Prop
 | 0=>True
 | n+1=>fR p n∧p n
theorem fR.get {p:Nat->Prop}:∀ {n:Nat},fR p n->∀ {x:Nat},x < n->p x
 | n+1,h,x,hx=>by
  by_cases e:x=n
  ·exact e ▸ h.2
  ·exact fR.get h.1 (Nat.lt_of_le_of_ne (Nat.le_of_lt_succ hx) e)
end Mine.Internal.Q
end
section
namespace Mine.Internal.Q
open PySem
noncomputable def eqN:List Nat->List Nat->Bool
 | [],[]=>true
 | a :: r,b :: s=>Nat.beq a b && eqN r s
 | _,_=>false
noncomputable def inN (x:List Nat):List (List Nat)->Bool
 | []=>false
 | y :: r=>eqN y x || inN x r
noncomputable def mxN (a b:Nat):Nat:=if Nat.ble a b then b else a
structure bD where
 fst:D
 tree:D
 arm:Bool
 bad:Bool
 isb:Bool
 need:Nat
 needB:Nat
inductive TK where
 | t (k x:List Nat) (p:Int) (v w:D)
 | h (H:bD)
noncomputable def aI (k x:List Nat) (p:Int) (v w:D):D:=.tup [.str k,.str x,.int p,v,w]
noncomputable def TK.d:TK->D
 | .t k x p v w=>aI k x p v w
 | .h H=>H.fst
structure AS where
 toks:List TK
 prev:D
 off:Nat
 ls:List (List D)
inductive RA (α:Type) where
 | ok (a:α) (s:AS) (m:Nat) (o:List Nat)
 | err
 | no
noncomputable def RA.bind {α β:Type} (r:RA α) (f:α->AS->RA β):RA β:=match r with
 | .ok a s m o=>(match f a s with
  | .ok b s' m' o'=>.ok b s' (mxN m m') (o++o')
  | .err=>.err
  | .no=>.no)
 | .err=>.err
 | .no=>.no
noncomputable def RA.ret {α:Type} (a:α) (s:AS):RA α:=.ok a s 0 []
noncomputable def DM {α:Type} (s:AS):Option α->RA α
 | some a=>.ret a s
 | Option.none=>.no
noncomputable def af:List Nat:=[115,105,103,110]
noncomputable def aj:List Nat:=[110,97,109,101]
noncomputable def fS:List Nat:=[101,110,100]
noncomputable def kwL:List (List Nat):=[[95],[83,101,108,102],[97,98,115,116,114,97,99,116],[97,115],[97,115,121,110,99],[97,119,97,105,116],[98,101,99,111,109,101],[98,111,120],[98,114,101,97,107],[99,111,110,115,116],[99,111,110,116,105,110,117,101],[99,114,97,116,101],[100,111],[100,121,110],[101,108,115,101],[101,110,117,109],[101,120,116,101,114,110],[102,97,108,115,101],[102,105,110,97,108],[102,110],[102,111,114],[105,102],[105,109,112,108],[105,110],[108,101,116],[108,111,111,112],[109,97,99,114,111],[109,97,116,99,104],[109,111,100],[109,111,118,101],[109,117,116],[111,118,101,114,114,105,100,101],[112,114,105,118],[112,117,98],[114,101,102],[114,101,116,117,114,110],[115,101,108,102],[115,116,97,116,105,99],[115,116,114,117,99,116],[115,117,112,101,114],[116,114,97,105,116],[116,114,117,101],[116,114,121],[116,121,112,101],[116,121,112,101,111,102],[117,110,115,97,102,101],[117,110,115,105,122,101,100],[117,115,101],[118,105,114,116,117,97,108],[119,104,101,114,101],[119,104,105,108,101],[121,105,101,108,100]]
noncomputable def notFirst:List (List Nat):=[[41],[93],[125],[44],[59],[61,62],[108,101,116],[61],[109,117,116]]
noncomputable def au (x:List Nat):Bool:=x.all (Nat.blt · 128)
noncomputable def lT (t:TK) (x:List Nat):Option Bool:=match t with
 | .t k y _ _ _=>if au k && au y && au x then some ((eqN af k || eqN aj k) && eqN y x) else none
 | .h _=>if inN x notFirst then some false else none
section
variable {α:Type}
noncomputable def A7 (n:α) (f:TK->α):List TK->α | t :: _=>f t | []=>n
noncomputable def tR (n:α) (f:List Nat->List Nat->Int->D->D->List TK->α):List TK->α | .t k x p v w :: r=>f k x p v w r | _=>n
theorem DE {G:α->Prop} {n:α} {f:TK->α} {l:List TK} (h0:G n) (h:∀ t r,l=t :: r->G (f t)):G (A7 n f l):=by
 cases l with
 | nil=>exact h0
 | cons t r=>exact h t r rfl
theorem DF {G:α->Prop} {n:α} {f:List Nat->List Nat->Int->D->D->List TK->α} {l:List TK} (h0:G n) (h:∀ k x p v w r,l=.t k x p v w :: r->G (f k x p v w r)):G (tR n f l):=by
 cases l with
 | nil=>exact h0
 | cons t r=>cases t with
  | t k x p v w=>exact h k x p v w r rfl
  | h _=>exact h0
end
noncomputable def FL (s:AS) (x:List Nat):List TK->RA D:=A7 .no fun t=>onO .no (fun b=>.ret (.bool b) s) (lT t x)
noncomputable def wmP (m:Wm) (as:List D) (s:AS):RA D:=match m with
 | .peek=>(match as with
  | []=>A7 .no (fun t=>.ret t.d s) s.toks
  | a :: r=>zer .no (onI .no (fun i=>if i == .negSucc 0 then onT .no (fun ds=>.ret (.tup ds) s) s.prev else .no) a) r)
 | .take=>zer .no (tR .no (fun k x p v w r=>if au k then (if eqN k fS then .ret (aI k x p v w) s else .ret (aI k x p v w) { s with toks:=r,prev:=aI k x p v w }) else .no) s.toks) as
 | .looks=>(match as with
  | []=>.no
  | a :: r=>onS .no (fun x=>(match r with
   | []=>FL s x s.toks
   | c :: q=>zer .no (onI .no (fun i=>if i == .ofNat 1 then tR .no (fun _ _ _ _ _ r=>FL s x r) s.toks else .no) c) q)) a)
 | .expect=>one .no (onS .no fun x=>tR .no (fun k y p v w r=>if au k && au y && au x && Nat.ble x.length 100 then (if (eqN af k || eqN aj k) && eqN y x then .ret (aI k y p v w) { s with toks:=r,prev:=aI k y p v w } else .err) else .no) s.toks) as
 | .name=>zer .no (tR .no (fun k x p v w r=>if au k && au x then (if eqN k aj && !inN x kwL then .ret (.tup [.str x,.int p]) { s with toks:=r,prev:=aI k x p v w } else .err) else .no) s.toks) as
 | .deeper=>zer .no (A7 .no (fun _=>.ok .none { s with off:=s.off+1 } (s.off+1) []) s.toks) as
 | .shallower=>zer .no (match s.off with | n+1=>.ret .none { s with off:=n } | 0=>.no) as
 | .splitClose=>zer .no (tR .no (fun k x p v w r=>if au k && au x && eqN k af && eqN x [62] then .ret (.tup [.str af,.str [62],.int p,.none,.none]) { s with toks:=r,prev:=aI k x p v w } else .no) s.toks) as
structure EvA where
 x:Nat->Loc->X->AS->RA D
 l:Nat->Loc->List X->AS->RA (List D)
 b:Nat->Loc->List SS->AS->RA (Fl × Loc)
 w:Nat->Loc->X->List SS->AS->RA (Fl × Loc)
 f:Nat->Loc->Tg->List D->List SS->AS->RA (Fl × Loc)
 c:Nat->Nat->List D->AS->RA D
noncomputable def EvA.zero:EvA:=⟨fun _ _ _ _=>.no,fun _ _ _ _=>.no,fun _ _ _ _=>.no,fun _ _ _ _ _=>.no,fun _ _ _ _ _ _=>.no,fun _ _ _ _=>.no⟩
noncomputable def EvA.t (E:EvA) (dp:Nat) (ρ:Loc) (x:X) (s:AS):RA Bool:=(E.x dp ρ x s).bind fun d s=>DM s (aL d)
noncomputable def GH (s:AS) (a i:D):Option D:=match i with
 | .int (.ofNat k)=>if Nat.ble k lim then (match a with
  | .tup ds=>ds[k]?
  | .str t=>(t[k]?).map fun c=>.str [c]
  | .cell j=>(match s.ls[j]? with | some ds=>ds[k]? | Option.none=>Option.none)
  | _=>Option.none) else Option.none
 | _=>Option.none
noncomputable def eqA (a b:D):Option Bool:=match a with
 | .str x=>(match b with
  | .str y=>if au x && au y then some (eqN x y) else Option.none
  | .none=>if au x then some false else Option.none
  | _=>Option.none)
 | .int x=>onI Option.none (fun y=>some (x == y)) b
 | .none=>(match b with
  | .none=>some true
  | .str y=>if au y then some false else Option.none
  | _=>Option.none)
 | .tup x=>onT Option.none (fun y=>if x.isEmpty && y.isEmpty then some true else Option.none) b
 | _=>Option.none
noncomputable def inA (x:D):List D->Option Bool
 | []=>some false
 | y :: r=>onO Option.none (fun a=>onO Option.none (fun b=>some (a || b)) (inA x r)) (eqA y x)
noncomputable def dG:D->Bool
 | .str _=>true
 | .none=>true
 | _=>false
noncomputable def Kw (c:Cm) (a b:D):Option D:=match c with
 | .eq=>(eqA a b).map .bool
 | .ne=>(eqA a b).map fun x=>.bool (!x)
 | .lt=>eS (fun x y=>decide (x < y)) a b
 | .le=>eS (fun x y=>decide (x≤y)) a b
 | .gt=>eS (fun x y=>decide (y < x)) a b
 | .ge=>eS (fun x y=>decide (y≤x)) a b
 | .is=>(match b with | .none=>some (.bool (fy a)) | _=>Option.none)
 | .isn=>(match b with | .none=>some (.bool (!fy a)) | _=>Option.none)
 | .inn=>onT Option.none (fun ds=>if dG a && ds.all dG && Nat.blt 0 ds.length then (inA a ds).map .bool else Option.none) b
 | .notin=>onT Option.none (fun ds=>if dG a && ds.all dG && Nat.blt 0 ds.length then (inA a ds).map fun x=>.bool (!x) else Option.none) b
noncomputable def Kg (s:AS) (o:Op) (a b:D):RA D:=match o with
 | .add=>(match a with
  | .int x=>onI .no (fun y=>.ret (.int (x+y)) s) b
  | .str x=>onS .no (fun y=>if Nat.ble (x.length+y.length) lim then .ret (.str (x++y)) s else .no) b
  | .tup x=>onT .no (fun y=>if Nat.ble (x.length+y.length) lim then .ret (.tup (x++y)) s else .no) b
  | _=>.no)
 | .sub=>onI .no (fun x=>onI .no (fun y=>.ret (.int (x - y)) s) b) a
 | _=>.no
noncomputable def Iw:Int->Option (List Nat)
 | .ofNat 0=>some [48]
 | .ofNat 1=>some [49]
 | .ofNat 10=>some [49,48]
 | .ofNat 4096=>some [52,48,57,54]
 | _=>Option.none
noncomputable def M7 (s:AS):D->Option Nat
 | .str t=>some t.length
 | .tup t=>some t.length
 | .cell i=>(s.ls[i]?).map List.length
 | _=>none
noncomputable def biA (s:AS) (b:Bi) (as:List D):RA D:=match b with
 | .len=>one .no (fun a=>onO .no (fun n=>if Nat.ble n lim then .ret (.int n) s else .no) (M7 s a)) as
 | .str=>one .no (onI .no fun i=>onO .no (fun t=>.ret (.str t) s) (Iw i)) as
 | .tup=>one .no (onC .no fun i=>onO .no (fun ds=>if Nat.ble ds.length lim then .ret (.tup ds) s else .no) s.ls[i]?) as
 | _=>.no
noncomputable def gf (k:List Nat):List (List Nat × D)->Option D
 | []=>Option.none
 | p :: r=>if eqN k p.1 then some p.2 else gf k r
noncomputable def GR:D->Bool
 | .int _=>true
 | _=>false
noncomputable def meA (s:AS) (m:Me) (a:D) (as:List D):RA D:=match m with
 | .append=>onC .no (fun i=>one .no (fun d=>onO .no (fun ds=>if Nat.ble ds.length lim then .ret .none { s with ls:=s.ls.set i (ds++[d]) } else .no) s.ls[i]?) as) a
 | .get=>onM .no (fun kvs=>two .no (fun k d=>onS .no (fun k=>onI .no (fun d=>if GR ((gf k kvs).getD (.int d)) then .ret ((gf k kvs).getD (.int d)) s else .no) d) k) as) a
 | _=>.no
noncomputable def vc (s:AS) (m:Me) (a:D):Bool:=match m with
 | .append=>(match a with | .cell i=>(s.ls[i]?).isSome | _=>false)
 | .get=>(match a with | .dct _=>true | _=>false)
 | _=>false
noncomputable def dX:D->Bool
 | .none | .bool _ | .int _ | .str _ | .glob _ | .dct _=>true
 | .tup ds=>ds.all dG
 | _=>false
noncomputable def Ip (s:AS) (a:D) (lo hi:Option Nat):RA D:=match a with
 | .str t=>if Nat.ble t.length lim then .ret (.str (bU t lo hi)) s else .no
 | _=>.no
noncomputable def Ab (E:EvA) (dp:Nat) (ρ:Loc) (x:Option X) (s:AS):RA (Option D):=match x with
 | Option.none=>.ret Option.none s
 | some x=>(E.x dp ρ x s).bind fun d s=>.ret (some d) s
noncomputable def uG (E:EvA) (dp:Nat) (f:D) (as:List D) (s:AS):RA D:=match f with
 | .glob a=>E.c dp a as s
 | _=>.no
noncomputable def isWord:D->Bool
 | .fl []=>true
 | _=>false
noncomputable def B0 (E:EvA) (dp:Nat) (ρ:Loc) (x:X) (s:AS):RA D:=match x with
 | .k d=>if dX d then .ret d s else .no
 | .loc i=>(match ρ[i]? with | some (some d)=>.ret d s | _=>.no)
 | .gl d=>if dX d then .ret d s else .no
 | .tup xs=>(E.l dp ρ xs s).bind fun ds s=>if Nat.ble ds.length lim then .ret (.tup ds) s else .no
 | .lst xs=>(E.l dp ρ xs s).bind fun ds s=>if Nat.ble ds.length lim then .ret (.cell s.ls.length) { s with ls:=s.ls++[ds] } else .no
 | .sub x i=>(E.x dp ρ x s).bind fun a s=>(E.x dp ρ i s).bind fun i s=>DM s (GH s a i)
 | .slc x lo hi=>(E.x dp ρ x s).bind fun a s=>(Ab E dp ρ lo s).bind fun l s=>(Ab E dp ρ hi s).bind fun h s =>
   (match cD l,cD h with | some l,some h=>Ip s a l h | _,_=>.no)
 | .bin o x y=>(E.x dp ρ x s).bind fun a s=>(E.x dp ρ y s).bind fun b s=>Kg s o a b
 | .cmp c x y=>(E.x dp ρ x s).bind fun a s=>(E.x dp ρ y s).bind fun b s=>DM s (Kw c a b)
 | .band xs=>(match xs with
  | []=>.no
  | [x]=>E.x dp ρ x s
  | x :: r=>(E.x dp ρ x s).bind fun a s=>(match aL a with | some true=>E.x dp ρ (.band r) s | some false=>.ret a s | Option.none=>.no))
 | .bor xs=>(match xs with
  | []=>.no
  | [x]=>E.x dp ρ x s
  | x :: r=>(E.x dp ρ x s).bind fun a s=>(match aL a with | some false=>E.x dp ρ (.bor r) s | some true=>.ret a s | Option.none=>.no))
 | .bnot x=>(E.t dp ρ x s).bind fun b s=>.ret (.bool (!b)) s
 | .neg x=>(E.x dp ρ x s).bind fun a s=>(match a with | .int i=>.ret (.int (-i)) s | _=>.no)
 | .ite c a b=>(E.t dp ρ c s).bind fun t s=>if t then E.x dp ρ a s else E.x dp ρ b s
 | .call f xs=>(E.x dp ρ f s).bind fun f s=>(E.l dp ρ xs s).bind fun as s=>uG E dp f as s
 | .wm m x xs=>(E.x dp ρ x s).bind fun a s=>if isWord a then (E.l dp ρ xs s).bind fun as s=>wmP m as s else .no
 | .me m x xs=>(E.x dp ρ x s).bind fun a s=>if vc s m a then (E.l dp ρ xs s).bind fun as s=>meA s m a as else .no
 | .bi b xs=>(E.l dp ρ xs s).bind fun as s=>biA s b as
 | _=>.no
noncomputable def AW (E:EvA) (dp:Nat) (ρ:Loc) (xs:List X) (s:AS):RA (List D):=match xs with
 | []=>.ret [] s
 | x :: r=>(E.x dp ρ x s).bind fun d s=>(E.l dp ρ r s).bind fun ds s=>.ret (d :: ds) s
noncomputable def QC (E:EvA) (dp:Nat) (rest:List SS) (p:Fl × Loc) (s:AS):RA (Fl × Loc):=match p.1 with
 | .next=>E.b dp p.2 rest s
 | .brk=>.ret p s
 | .ret d=>.ret (.ret d,p.2) s
noncomputable def AR (E:EvA) (dp:Nat) (ρ:Loc) (c:SS) (s:AS):RA (Fl × Loc):=match c with
 | .ret x=>(E.x dp ρ x s).bind fun d s=>.ret (.ret d,ρ) s
 | .ex x=>(E.x dp ρ x s).bind fun _ s=>.ret (.next,ρ) s
 | .asg t x=>(E.x dp ρ x s).bind fun d s=>(match bW ρ t d with | some ρ=>.ret (.next,ρ) s | Option.none=>.no)
 | .ifs c a b=>(E.t dp ρ c s).bind fun t s=>if t then E.b dp ρ a s else E.b dp ρ b s
 | .whl c b=>E.w dp ρ c b s
 | .for_ t x b=>(E.x dp ρ x s).bind fun d s=>(match d with | .tup ds=>E.f dp ρ t ds b s | _=>.no)
 | .forv t x b => (E.x dp ρ x s).bind fun d s => (match d with
    | .cell j=>(match s.ls[j]? with | some ds=>if Nat.ble ds.length lim then E.f dp ρ t ds.reverse b s else .no | _=>.no)
    | _=>.no)
 | .raise m p=>(E.x dp ρ m s).bind fun _ s=>(E.x dp ρ p s).bind fun _ _=>.err
 | .brk=>.ret (.brk,ρ) s
 | _=>.no
noncomputable def AU (E:EvA) (dp:Nat) (ρ:Loc) (ss:List SS) (s:AS):RA (Fl × Loc):=match ss with
 | []=>.ret (.next,ρ) s
 | c :: r=>(AR E dp ρ c s).bind fun p s=>QC E dp r p s
noncomputable def G3 (E:EvA) (dp:Nat) (c:X) (b:List SS) (p:Fl × Loc) (s:AS):RA (Fl × Loc):=match p.1 with
  | .next=>E.w dp p.2 c b s
  | .brk=>.ret (.next,p.2) s
  | .ret d=>.ret (.ret d,p.2) s
noncomputable def AZ (E:EvA) (dp:Nat) (ρ:Loc) (c:X) (b:List SS) (s:AS):RA (Fl × Loc) :=
 (E.t dp ρ c s).bind fun t s=>if t then (E.b dp ρ b s).bind fun p s=>G3 E dp c b p s else .ret (.next,ρ) s
noncomputable def Bw (E : EvA) (dp : Nat) (t : Tg) (r : List D) (b : List SS) (p : Fl × Loc) (s : AS) : RA (Fl × Loc) := match p.1 with
   | .next=>E.f dp p.2 t r b s
   | .brk=>.ret (.next,p.2) s
   | .ret d=>.ret (.ret d,p.2) s
noncomputable def uc (E:EvA) (dp:Nat) (ρ:Loc) (t:Tg) (ds:List D) (b:List SS) (s:AS):RA (Fl × Loc):=match ds with
 | []=>.ret (.next,ρ) s
 | d :: r=>(match bW ρ t d with
  | some ρ=>(E.b dp ρ b s).bind fun p s=>Bw E dp t r b p s
  | Option.none=>.no)
noncomputable def fl0:D->Bool
 | .fl ds=>ds.isEmpty
 | _=>false
noncomputable def boF:D->Bool
 | .bool b=>!b
 | _=>false
noncomputable def Cg:List D->Bool
 | []=>false
 | a :: r=>fl0 a && r.isEmpty
noncomputable def GQ:List D->Bool
 | []=>false
 | a :: r=>fl0 a && (match r with | []=>false | b :: t=>boF b && t.isEmpty)
noncomputable def elS {α:Type} (b:Bool) (x:α) (o:Option α):Option α:=match b with | true=>some x | false=>o
noncomputable def zo (a:Nat) (as:List D) (H:bD) (r:List TK) (s:AS):Option (RA D):=match H.arm with
 | true=>elS (Cg as && Nat.beq a 602) (if H.bad then .err else .ok H.tree { s with toks:=r,prev:=.none } 0 [s.off+H.need]) none
 | false=>elS (GQ as && Nat.beq a 448) (.ok H.tree { s with toks:=r,prev:=.none } 0 [s.off+H.need]) (elS (GQ as && Nat.beq a 560) (.ret (.bool true) s)
   (elS (Cg as && Nat.beq a 511) (.ret (.bool H.isb) s) (elS (Cg as && (Nat.beq a 574 && H.isb)) (.ok H.tree { s with toks:=r,prev:=.none } 0 [s.off+H.needB]) none)))
noncomputable def Ae (a:Nat) (as:List D) (s:AS):Option (RA D):=match s.toks with
 | .h H :: r=>zo a as H r s
 | _=>Option.none
noncomputable def I9 (T:Nat->Option ah) (E:EvA) (dp:Nat) (a:Nat) (as:List D) (s:AS):RA D:=match T a with
  | some r=>(match fill r as with
   | some ds=>(E.b dp (ds.map some++List.replicate (r.nl - r.np) Option.none) r.body s).bind fun p s=>.ret (flD p.1) s
   | Option.none=>.no)
  | Option.none=>.no
noncomputable def ua (T:Nat->Option ah) (E:EvA) (dp:Nat) (a:Nat) (as:List D) (s:AS):RA D:=match dp with
 | 0=>.no
 | dp+1=>(match Ae a as s with
  | some r=>r
  | Option.none=>I9 T E dp a as s)
noncomputable def OE (T:Nat->Option ah) (E:EvA):EvA where
 x:=B0 E
 l:=AW E
 b:=AU E
 w:=AZ E
 f:=uc E
 c:=ua T E
noncomputable def evA (T:Nat->Option ah):Nat->EvA
 | 0=>.zero
 | n+1=>OE T (evA T n)
end Mine.Internal.Q
end
section
namespace Mine.Internal.Q
open PySem
noncomputable def KW0:D:=.tup [.str [95],.str [83,101,108,102],.str [97,98,115,116,114,97,99,116],.str [97,115],.str [97,115,121,110,99],.str [97,119,97,105,116],.str [98,101,99,111,109,101],.str [98,111,120],.str [98,114,101,97,107],.str [99,111,110,115,116],.str [99,111,110,116,105,110,117,101],.str [99,114,97,116,101],.str [100,111],.str [100,121,110],.str [101,108,115,101],.str [101,110,117,109],.str [101,120,116,101,114,110],.str [102,97,108,115,101],.str [102,105,110,97,108],.str [102,110],.str [102,111,114],.str [105,102],.str [105,109,112,108],.str [105,110],.str [108,101,116],.str [108,111,111,112],.str [109,97,99,114,111],.str [109,97,116,99,104],.str [109,111,100],.str [109,111,118,101],.str [109,117,116],.str [111,118,101,114,114,105,100,101],.str [112,114,105,118],.str [112,117,98],.str [114,101,102],.str [114,101,116,117,114,110],.str [115,101,108,102],.str [115,116,97,116,105,99],.str [115,116,114,117,99,116],.str [115,117,112,101,114],.str [116,114,97,105,116],.str [116,114,117,101],.str [116,114,121],.str [116,121,112,101],.str [116,121,112,101,111,102],.str [117,110,115,97,102,101],.str [117,110,115,105,122,101,100],.str [117,115,101],.str [118,105,114,116,117,97,108],.str [119,104,101,114,101],.str [119,104,105,108,101],.str [121,105,101,108,100]]
noncomputable def KW3:D:=.tup [.str [43,61],.str [45,61],.str [42,61],.str [47,61],.str [37,61],.str [38,61],.str [124,61],.str [94,61],.str [60,60,61],.str [62,62,61]]
noncomputable def KW4:D:=.tup [.str [83,101,108,102],.str [99,114,97,116,101],.str [115,101,108,102],.str [115,117,112,101,114]]
noncomputable def S0:D:=.str [40]
noncomputable def S1:D:=.str [41]
noncomputable def S2:D:=.str [115,105,103,110]
noncomputable def S3:D:=.str [44]
noncomputable def S4:D:=.str [105,110,116]
noncomputable def S5:D:=.str [110,97,109,101]
noncomputable def S6:D:=.str [125]
noncomputable def S7:D:=.str [123]
noncomputable def S8:D:=.str [93]
noncomputable def S9:D:=.str [105,102]
noncomputable def S10:D:=.str [108,105,116]
noncomputable def S11:D:=.str [109,97,116,99,104]
noncomputable def S16:D:=.str [38,38]
noncomputable def S17:D:=.str [60,60]
noncomputable def S19:D:=.str [114,101,102]
noncomputable def S20:D:=.str [98,105,110,97,114,121]
noncomputable def S21:D:=.str [108,111,111,112]
noncomputable def S28:D:=.str [114,101,103,105,111,110]
noncomputable def S29:D:=.str [112,97,116,104]
noncomputable def S30:D:=.str [109,117,116]
noncomputable def S31:D:=.str [99,97,115,116]
noncomputable def S32:D:=.str [98,111,114,114,111,119]
noncomputable def S33:D:=.str [119,104,105,108,101]
noncomputable def S34:D:=.str [108,101,116]
noncomputable def S35:D:=.str [98,108,111,99,107]
noncomputable def S38:D:=.str [101,110,100]
noncomputable def S39:D:=.str [116,114,117,101]
noncomputable def S40:D:=.str [114,101,116,117,114,110]
noncomputable def S41:D:=.str [114,101,112,101,97,116]
noncomputable def S43:D:=.str [97,98,99,100,101,102,103,104,105,106,107,108,109,110,111,112,113,114,115,116,117,118,119,120,121,122,65,66,67,68,69,70,71,72,73,74,75,76,77,78,79,80,81,82,83,84,85,86,87,88,89,90,95,48,49,50,51,52,53,54,55,56,57]
noncomputable def S50:D:=.str [116,117,112,108,101]
noncomputable def S51:D:=.str [97,114,114,97,121]
noncomputable def S52:D:=.str [97,115,115,105,103,110]
noncomputable def S53:D:=.str [99,97,108,108]
noncomputable def S54:D:=.str [102,105,101,108,100]
noncomputable def S55:D:=.str [109,101,116,104,111,100]
noncomputable def S57:D:=.str [99,111,110,116,105,110,117,101]
noncomputable def S58:D:=.str [115,116,114,117,99,116]
noncomputable def Y0:X:=.loc 0
noncomputable def Y1:X:=.loc 1
noncomputable def Y2:X:=.loc 2
noncomputable def Y3:X:=.loc 3
noncomputable def Y4:X:=.loc 4
noncomputable def Y5:X:=.loc 5
noncomputable def Y6:X:=.loc 6
noncomputable def Y7:X:=.loc 7
noncomputable def Y8:X:=.loc 8
noncomputable def N0:X:=.k (.int 0)
noncomputable def N1:X:=.k (.int 1)
noncomputable def N2:X:=.k (.int 2)
noncomputable def r69:ah:={ np:=3,nl:=3,dfl:=[],body:=[.whl (.band [.cmp .lt Y1 (.bi .len [Y0]),.cmp .inn (.sub Y0 Y1) Y2]) [.aug 1 N1],.ret Y1] }
noncomputable def r83:ah:={ np:=2,nl:=3,dfl:=[],body:=[.whl (.cmp .lt Y1 (.bi .len [Y0])) [.ifs (.cmp .inn (.sub Y0 Y1) (.gl (.str [32,9,13,10,11,12,133,8206,8207,8232,8233]))) [.asg (.n 1) (.call (.gl (.glob 69)) [Y0,Y1,.gl (.str [32,9,13,10,11,12,133,8206,8207,8232,8233])])] [.ifs (.cmp .eq (.slc Y0 (some Y1) (some (.bin .add Y1 N2))) (.k (.str [47,47]))) [.asg (.n 2) (.me .find Y0 [.k (.str [10]),Y1]),.asg (.n 1) (.ite (.cmp .lt Y2 N0) (.bi .len [Y0]) Y2)] [.ifs (.cmp .eq (.slc Y0 (some Y1) (some (.bin .add Y1 N2))) (.k (.str [47,42]))) [.asg (.n 1) (.call (.gl (.glob 76)) [Y0,Y1])] [.ret Y1]]]],.ret Y1] }
noncomputable def r90:ah:={ np:=1,nl:=2,dfl:=[],body:=[.asg (.n 1) (.me .find (.k (.str [48,49,50,51,52,53,54,55,56,57,97,98,99,100,101,102])) [.me .lower Y0 []]),.ret (.ite (.cmp .ge Y1 N0) Y1 (.k (.int 99)))] }
noncomputable def r97:ah:={ np:=2,nl:=4,dfl:=[],body:=[.asg (.n 2) (.dsp [([48,120],.int 16),([48,111],.int 8),([48,98],.int 2)]),.asg (.n 3) (.slc Y0 (some Y1) (some (.bin .add Y1 N2))),.ret (.ite (.cmp .inn Y3 Y2) (.tup [.sub Y2 Y3,.bin .add Y1 N2]) (.tup [.k (.int 10),Y1]))] }
noncomputable def MB:ah:={ np:=2,nl:=8,dfl:=[],body:=[.asg (.ns [2,3]) (.call (.gl (.glob 97)) [Y0,Y1]),.asg (.ns [4,5]) (.tup [N0,N0]),.whl (.band [.cmp .lt Y3 (.bi .len [Y0]),.bor [.cmp .eq (.sub Y0 Y3) (.k (.str [95])),.cmp .lt (.call (.gl (.glob 90)) [.sub Y0 Y3]) Y2]]) [.ifs (.cmp .ne (.sub Y0 Y3) (.k (.str [95]))) [.asg (.ns [4,5]) (.tup [.bin .add (.bin .mul Y4 Y2) (.call (.gl (.glob 90)) [.sub Y0 Y3]),.bin .add Y5 N1])] [],.ifs (.cmp .ge Y4 (.gl (.int 10000000000000000000000000000000000000000))) [.un] [],.aug 3 N1],.ifs (.cmp .eq Y5 N0) [.un] [],.asg (.n 6) (.call (.gl (.glob 69)) [Y0,Y3,.gl S43]),.asg (.n 7) (.slc Y0 (some Y3) (some Y6)),.ifs (.band [.cmp .ne Y7 (.k (.str [])),.cmp .notin Y7 (.gl (.tup [.str [105,56],.str [105,49,54],.str [105,51,50],.str [105,54,52],.str [117,56],.str [117,49,54],.str [117,51,50],.str [117,54,52],.str [117,115,105,122,101]]))]) [.un] [],.ret (.tup [.tup [.k S4,.slc Y0 (some Y1) (some Y6),Y1,Y4,.ite (.cmp .eq Y7 (.k (.str []))) (.k .none) Y7],Y6])] }
noncomputable def MC:ah:={ np:=2,nl:=3,dfl:=[],body:=[.for_ (.n 2) (.gl (.tup [.str [60,60,61],.str [62,62,61],.str [46,46,61],.str [58,58],.str [45,62],.str [61,62],.str [61,61],.str [33,61],.str [60,61],.str [62,61],S16,.str [124,124],S17,.str [62,62],.str [46,46],.str [43,61],.str [45,61],.str [42,61],.str [47,61],.str [37,61],.str [38,61],.str [124,61],.str [94,61],S0,S1,S7,S6,.str [91],S8,S3,.str [59],.str [58],.str [46],.str [61],.str [60],.str [62],.str [43],.str [45],.str [42],.str [47],.str [37],.str [38],.str [124],.str [94],.str [33],.str [64]])) [.ifs (.cmp .eq (.slc Y0 (some Y1) (some (.bin .add Y1 (.bi .len [Y2])))) Y2) [.ret (.tup [.tup [.k S2,Y2,Y1,.k .none,.k .none],.bin .add Y1 (.bi .len [Y2])])] []],.un] }
noncomputable def MD:ah:={ np:=2,nl:=3,dfl:=[],body:=[.ifs (.cmp .inn (.sub Y0 Y1) (.gl (.str [97,98,99,100,101,102,103,104,105,106,107,108,109,110,111,112,113,114,115,116,117,118,119,120,121,122,65,66,67,68,69,70,71,72,73,74,75,76,77,78,79,80,81,82,83,84,85,86,87,88,89,90,95]))) [.asg (.n 2) (.call (.gl (.glob 69)) [Y0,Y1,.gl S43]),.ifs (.cmp .eq (.slc Y0 (some Y2) (some (.bin .add Y2 N1))) (.k (.str [39]))) [.un] [],.ret (.tup [.tup [.k S5,.slc Y0 (some Y1) (some Y2),Y1,.k .none,.k .none],Y2])] [],.ifs (.cmp .inn (.sub Y0 Y1) (.gl (.str [48,49,50,51,52,53,54,55,56,57]))) [.ret (.call (.gl (.glob 104)) [Y0,Y1])] [],.ifs (.cmp .eq (.sub Y0 Y1) (.k (.str [39]))) [.asg (.n 2) (.call (.gl (.glob 69)) [Y0,.bin .add Y1 N1,.gl S43]),.ifs (.bor [.cmp .eq Y2 (.bin .add Y1 N1),.cmp .inn (.sub Y0 (.bin .add Y1 N1)) (.gl (.str [48,49,50,51,52,53,54,55,56,57]))]) [.un] [],.ret (.tup [.tup [.k S28,.slc Y0 (some Y1) (some Y2),Y1,.k .none,.k .none],Y2])] [],.ret (.call (.gl (.glob 111)) [Y0,Y1])] }
noncomputable def MF:ah:={ np:=1,nl:=4,dfl:=[],body:=[.asg (.n 1) (.lst []),.asg (.n 2) (.call (.gl (.glob 83)) [Y0,N0]),.whl (.cmp .lt Y2 (.bi .len [Y0])) [.asg (.ns [3,2]) (.call (.gl (.glob 118)) [Y0,Y2]),.ex (.me .append Y1 [Y3]),.asg (.n 2) (.call (.gl (.glob 83)) [Y0,Y2])],.ex (.me .append Y1 [.tup [.k S38,.k (.str []),.bi .len [Y0],.k .none,.k .none]]),.ret Y1] }
noncomputable def MG:ah:={ np:=1,nl:=1,dfl:=[],body:=[.ret (.call (.gl (.glob 207)) [.call (.gl (.glob 125)) [Y0]])] }
noncomputable def MH:ah:={ np:=2,nl:=2,dfl:=[],body:=[.asgA Y0 .rows (.bi .lst [Y1]),.asgA Y0 .at N0,.asgA Y0 .deep N0] }
noncomputable def MI:ah:={ np:=1,nl:=1,dfl:=[],body:=[.augA Y0 .deep .add N1,.ifs (.cmp .gt (.att Y0 .deep) (.gl (.int 60))) [.raise (.k (.str [116,111,111,32,109,97,110,121,32,112,97,114,116,115,32,119,105,116,104,105,110,32,111,110,101,32,97,110,111,116,104,101,114])) (.sub (.wm .peek Y0 []) N2)] []] }
noncomputable def MJ:ah:={ np:=1,nl:=1,dfl:=[],body:=[.augA Y0 .deep .sub N1] }
noncomputable def I4:ah:={ np:=2,nl:=2,dfl:=[.int 0],body:=[.ret (.sub (.att Y0 .rows) (.bi .mn [.bin .add (.att Y0 .at) Y1,.bin .sub (.bi .len [.att Y0 .rows]) N1]))] }
noncomputable def MK:ah:={ np:=1,nl:=2,dfl:=[],body:=[.asg (.n 1) (.wm .peek Y0 []),.ifs (.cmp .ne (.sub Y1 N0) (.k S38)) [.augA Y0 .at .add N1] [],.ret Y1] }
noncomputable def I5:ah:={ np:=3,nl:=4,dfl:=[.int 0],body:=[.asg (.n 3) (.wm .peek Y0 [Y2]),.ret (.band [.cmp .inn (.sub Y3 N0) (.tup [.k S2,.k S5]),.cmp .eq (.sub Y3 N1) Y1])] }
noncomputable def ML:ah:={ np:=2,nl:=2,dfl:=[],body:=[.ifs (.bnot (.wm .looks Y0 [Y1])) [.raise (.bin .add Y1 (.k (.str [32,105,115,32,109,105,115,115,105,110,103]))) (.sub (.wm .peek Y0 []) N2)] [],.ret (.wm .take Y0 [])] }
noncomputable def MM:ah:={ np:=1,nl:=2,dfl:=[],body:=[.asg (.n 1) (.wm .peek Y0 []),.ifs (.bor [.cmp .ne (.sub Y1 N0) (.k S5),.cmp .inn (.sub Y1 N1) (.gl KW0)]) [.raise (.k (.str [97,32,110,97,109,101,32,105,115,32,109,105,115,115,105,110,103])) (.sub Y1 N2)] [],.augA Y0 .at .add N1,.ret (.tup [.sub Y1 N1,.sub Y1 N2])] }
noncomputable def MN:ah:={ np:=1,nl:=2,dfl:=[],body:=[.asg (.n 1) (.wm .peek Y0 []),.ifs (.bor [.cmp .ne (.sub Y1 N0) (.k S2),.cmp .ne (.slc (.sub Y1 N1) none (some N1)) (.k (.str [62]))]) [.raise (.k (.str [62,32,105,115,32,109,105,115,115,105,110,103])) (.sub Y1 N2)] [],.ifs (.cmp .eq (.sub Y1 N1) (.k (.str [62]))) [.augA Y0 .at .add N1] [.asgS (.att Y0 .rows) (.att Y0 .at) (.tup [.k S2,.slc (.sub Y1 N1) (some N1) none,.bin .add (.sub Y1 N2) N1,.k .none,.k .none])],.ret (.tup [.k S2,.k (.str [62]),.sub Y1 N2,.k .none,.k .none])] }
noncomputable def MP:ah:={ np:=1,nl:=2,dfl:=[],body:=[.ex (.wm .deeper Y0 []),.asg (.n 1) (.call (.gl (.glob 226)) [Y0]),.ex (.wm .shallower Y0 []),.ret Y1] }
noncomputable def MQ:ah:={ np:=1,nl:=3,dfl:=[],body:=[.asg (.n 1) (.wm .peek Y0 []),.asg (.n 2) (.sub Y1 N2),.ifs (.wm .looks Y0 [.k S0]) [.ret (.call (.gl (.glob 233)) [Y0])] [],.ifs (.bor [.wm .looks Y0 [.k (.str [38])],.wm .looks Y0 [.k S16]]) [.ret (.call (.gl (.glob 240)) [Y0])] [],.ifs (.wm .looks Y0 [.k (.str [91])]) [.ret (.call (.gl (.glob 247)) [Y0])] [],.ifs (.wm .looks Y0 [.k (.str [33])]) [.ex (.wm .take Y0 []),.ret (.tup [.k (.str [110,101,118,101,114]),Y2])] [],.ifs (.wm .looks Y0 [.k (.str [95])]) [.ex (.wm .take Y0 []),.ret (.tup [.k (.str [105,110,102,101,114]),Y2])] [],.ret (.tup [.k S29,Y2,.call (.gl (.glob 260)) [Y0]])] }
noncomputable def MR:ah:={ np:=1,nl:=4,dfl:=[],body:=[.asg (.n 1) (.sub (.wm .expect Y0 [.k S0]) N2),.asg (.ns [2,3]) (.tup [.lst [],.k (.bool true)]),.whl (.bnot (.wm .looks Y0 [.k S1])) [.ex (.me .append Y2 [.call (.gl (.glob 219)) [Y0]]),.asg (.n 3) (.wm .looks Y0 [.k S3]),.ifs (.bnot Y3) [.brk] [],.ex (.wm .take Y0 [])],.ex (.wm .expect Y0 [.k S1]),.ifs (.band [.cmp .eq (.bi .len [Y2]) N1,.bnot Y3]) [.ret (.sub Y2 N0)] [],.ret (.tup [.k S50,Y1,.bi .tup [Y2]])] }
noncomputable def MT:ah:={ np:=1,nl:=6,dfl:=[],body:=[.asg (.n 1) (.wm .take Y0 []),.asg (.n 2) (.bin .sub (.bin .add (.sub Y1 N2) (.bi .len [.sub Y1 N1])) N1),.asg (.n 3) (.k .none),.ifs (.cmp .eq (.sub (.wm .peek Y0 []) N0) (.k S28)) [.asg (.n 3) (.sub (.wm .take Y0 []) N1)] [],.asg (.n 4) (.wm .looks Y0 [.k S30]),.ifs Y4 [.ex (.wm .take Y0 [])] [],.asg (.n 5) (.tup [.k S19,Y2,Y3,Y4,.call (.gl (.glob 219)) [Y0]]),.ret (.ite (.cmp .eq (.sub Y1 N1) (.k (.str [38]))) Y5 (.tup [.k S19,.sub Y1 N2,.k .none,.k (.bool false),Y5]))] }
noncomputable def MU:ah:={ np:=1,nl:=4,dfl:=[],body:=[.asg (.n 1) (.sub (.wm .expect Y0 [.k (.str [91])]) N2),.asg (.n 2) (.call (.gl (.glob 219)) [Y0]),.ex (.wm .expect Y0 [.k (.str [59])]),.asg (.n 3) (.call (.gl (.glob 254)) [Y0]),.ex (.wm .expect Y0 [.k S8]),.ret (.tup [.k S51,Y1,Y2,Y3])] }
noncomputable def MV:ah:={ np:=1,nl:=2,dfl:=[],body:=[.asg (.n 1) (.wm .take Y0 []),.ifs (.bor [.cmp .ne (.sub Y1 N0) (.k S4),.cmp .notin (.sub Y1 (.k (.int 4))) (.tup [.k .none,.k (.str [117,115,105,122,101])])]) [.raise (.k (.str [116,104,101,32,108,101,110,103,116,104,32,111,102,32,97,110,32,97,114,114,97,121,32,105,115,32,109,105,115,115,105,110,103])) (.sub Y1 N2)] [],.ifs (.cmp .gt (.sub Y1 (.k (.int 3))) (.gl (.int 4096))) [.raise (.bin .add (.bin .add (.k (.str [97,110,32,97,114,114,97,121,32,111,102,32,109,111,114,101,32,116,104,97,110,32])) (.bi .str [.gl (.int 4096)])) (.k (.str [32,101,108,101,109,101,110,116,115]))) (.sub Y1 N2)] [],.ret (.sub Y1 (.k (.int 3)))] }
noncomputable def MW:ah:={ np:=2,nl:=3,dfl:=[.bool false],body:=[.asg (.n 2) (.lst [.call (.gl (.glob 267)) [Y0,.tup [],Y1]]),.whl (.wm .looks Y0 [.k (.str [58,58])]) [.ex (.wm .take Y0 []),.ex (.me .append Y2 [.call (.gl (.glob 267)) [Y0,.bi .tup [.un],Y1]])],.ret (.bi .tup [Y2])] }
noncomputable def MX:ah:={ np:=3,nl:=4,dfl:=[],body:=[.asg (.n 3) (.call (.gl (.glob 274)) [Y0,Y1]),.ifs (.band [.wm .looks Y0 [.k (.str [58,58])],.wm .looks Y0 [.k (.str [60]),N1]]) [.ex (.wm .take Y0 []),.ret (.bin .add (.tup [Y3]) (.call (.gl (.glob 281)) [Y0]))] [],.ifs (.band [.bnot Y2,.wm .looks Y0 [.k (.str [60])]]) [.ret (.bin .add (.tup [Y3]) (.call (.gl (.glob 281)) [Y0]))] [],.ret (.tup [Y3,.tup [],.tup []])] }
noncomputable def MY:ah:={ np:=2,nl:=3,dfl:=[],body:=[.asg (.n 2) (.wm .peek Y0 []),.ifs (.band [.cmp .eq (.sub Y2 N0) (.k S5),.cmp .inn (.sub Y2 N1) (.gl KW4)]) [.ifs (.bor [.cmp .eq Y1 (.tup []),.band [.cmp .eq (.sub Y2 N1) (.k (.str [115,117,112,101,114])),.cmp .inn (.sub Y1 (.neg N1)) (.tup [.k (.str [115,117,112,101,114]),.k (.str [115,101,108,102])])]]) [.ex (.wm .take Y0 []),.ret (.sub Y2 N1)] [],.raise (.bin .add (.sub Y2 N1) (.k (.str [32,115,116,97,110,100,115,32,97,116,32,116,104,101,32,98,101,103,105,110,32,111,102,32,97,32,112,97,116,104,32,97,108,111,110,101]))) (.sub Y2 N2)] [],.ret (.sub (.wm .name Y0 []) N0)] }
noncomputable def MZ:ah:={ np:=1,nl:=3,dfl:=[],body:=[.ex (.wm .expect Y0 [.k (.str [60])]),.asg (.ns [1,2]) (.tup [.lst [],.lst []]),.whl (.bnot (.call (.gl (.glob 288)) [Y0])) [.ifs (.cmp .eq (.sub (.wm .peek Y0 []) N0) (.k S28)) [.ifs (.cmp .ne Y2 (.lst [])) [.raise (.k (.str [114,101,103,105,111,110,115,32,115,116,97,110,100,32,97,104,101,97,100,32,111,102,32,116,121,112,101,115])) (.sub (.wm .peek Y0 []) N2)] [],.ex (.me .append Y1 [.sub (.wm .take Y0 []) N1])] [.ex (.me .append Y2 [.call (.gl (.glob 219)) [Y0]])],.ifs (.bnot (.wm .looks Y0 [.k S3])) [.brk] [],.ex (.wm .take Y0 [])],.ex (.wm .splitClose Y0 []),.ret (.tup [.bi .tup [Y1],.bi .tup [Y2]])] }
noncomputable def N3:ah:={ np:=1,nl:=2,dfl:=[],body:=[.asg (.n 1) (.wm .peek Y0 []),.ret (.band [.cmp .eq (.sub Y1 N0) (.k S2),.cmp .eq (.slc (.sub Y1 N1) none (some N1)) (.k (.str [62]))])] }
noncomputable def N4:ah:={ np:=1,nl:=1,dfl:=[],body:=[.ret (.band [.cmp .eq (.sub Y0 N0) (.k S5),.cmp .notin (.sub Y0 N1) (.gl KW0)])] }
noncomputable def N5:ah:={ np:=1,nl:=3,dfl:=[],body:=[.asg (.n 1) (.sub (.wm .peek Y0 []) N2),.ifs (.wm .looks Y0 [.k (.str [124])]) [.ex (.wm .take Y0 [])] [],.asg (.n 2) (.lst [.call (.gl (.glob 309)) [Y0]]),.whl (.wm .looks Y0 [.k (.str [124])]) [.ex (.wm .take Y0 []),.ex (.me .append Y2 [.call (.gl (.glob 309)) [Y0]])],.ret (.ite (.cmp .eq (.bi .len [Y2]) N1) (.sub Y2 N0) (.tup [.k (.str [111,114]),Y1,.bi .tup [Y2]]))] }
noncomputable def N6:ah:={ np:=1,nl:=2,dfl:=[],body:=[.ex (.wm .deeper Y0 []),.asg (.n 1) (.call (.gl (.glob 316)) [Y0]),.ex (.wm .shallower Y0 []),.ret Y1] }
noncomputable def N7:ah:={ np:=1,nl:=3,dfl:=[],body:=[.asg (.n 1) (.wm .peek Y0 []),.asg (.n 2) (.sub Y1 N2),.ifs (.wm .looks Y0 [.k (.str [95])]) [.ex (.wm .take Y0 []),.ret (.tup [.k (.str [119,105,108,100]),Y2])] [],.ifs (.bor [.wm .looks Y0 [.k (.str [38])],.wm .looks Y0 [.k S16]]) [.ret (.call (.gl (.glob 330)) [Y0])] [],.ifs (.wm .looks Y0 [.k S0]) [.ret (.call (.gl (.glob 337)) [Y0])] [],.ifs (.bor [.cmp .eq (.sub Y1 N0) (.k S4),.wm .looks Y0 [.k (.str [45])]]) [.ret (.call (.gl (.glob 351)) [Y0])] [],.ifs (.bor [.wm .looks Y0 [.k S39],.wm .looks Y0 [.k (.str [102,97,108,115,101])]]) [.ex (.wm .take Y0 []),.ret (.tup [.k S10,Y2,.cmp .eq (.sub Y1 N1) (.k S39)])] [],.ifs (.bor [.wm .looks Y0 [.k S19],.wm .looks Y0 [.k S30]]) [.ret (.call (.gl (.glob 358)) [Y0])] [],.ifs (.band [.call (.gl (.glob 295)) [Y1],.call (.gl (.glob 323)) [Y0]]) [.ret (.call (.gl (.glob 358)) [Y0])] [],.ifs (.bor [.call (.gl (.glob 295)) [Y1],.band [.cmp .eq (.sub Y1 N0) (.k S5),.cmp .inn (.sub Y1 N1) (.gl KW4)]]) [.ret (.call (.gl (.glob 365)) [Y0])] [],.raise (.k (.str [97,32,112,97,116,116,101,114,110,32,105,115,32,109,105,115,115,105,110,103])) Y2] }
noncomputable def N8:ah:={ np:=1,nl:=2,dfl:=[],body:=[.for_ (.n 1) (.tup [.k (.str [58,58]),.k S0,.k S7]) [.ifs (.wm .looks Y0 [Y1,N1]) [.ret (.k (.bool false))] []],.ret (.k (.bool true))] }
noncomputable def N9:ah:={ np:=1,nl:=8,dfl:=[],body:=[.asg (.n 1) (.wm .take Y0 []),.asg (.n 2) (.bin .sub (.bin .add (.sub Y1 N2) (.bi .len [.sub Y1 N1])) N1),.asg (.n 3) (.wm .looks Y0 [.k S30]),.ifs Y3 [.ex (.wm .take Y0 [])] [],.asg (.ns [4,5]) (.tup [.wm .looks Y0 [.k S0],.sub (.wm .peek Y0 []) N2]),.asg (.n 6) (.call (.gl (.glob 309)) [Y0]),.ifs (.band [.cmp .eq (.sub Y6 N0) (.k (.str [114,97,110,103,101])),.bnot Y4]) [.raise (.k (.str [97,32,114,97,110,103,101,32,111,102,32,97,32,114,101,102,101,114,101,110,99,101,32,115,116,97,110,100,115,32,105,110,32,112,97,114,101,110,116,104,101,115,101,115])) Y5] [],.asg (.n 7) (.tup [.k S19,Y2,Y3,Y6]),.ret (.ite (.cmp .eq (.sub Y1 N1) (.k (.str [38]))) Y7 (.tup [.k S19,.sub Y1 N2,.k (.bool false),Y7]))] }
noncomputable def Na:ah:={ np:=1,nl:=4,dfl:=[],body:=[.asg (.n 1) (.sub (.wm .expect Y0 [.k S0]) N2),.asg (.ns [2,3]) (.tup [.lst [],.k (.bool true)]),.whl (.bnot (.wm .looks Y0 [.k S1])) [.ex (.me .append Y2 [.call (.gl (.glob 302)) [Y0]]),.asg (.n 3) (.wm .looks Y0 [.k S3]),.ifs (.bnot Y3) [.brk] [],.ex (.wm .take Y0 [])],.ex (.wm .expect Y0 [.k S1]),.ifs (.band [.cmp .eq (.bi .len [Y2]) N1,.bnot Y3]) [.ret (.sub Y2 N0)] [],.ret (.tup [.k S50,Y1,.bi .tup [Y2]])] }
noncomputable def Nb:ah:={ np:=1,nl:=3,dfl:=[],body:=[.asg (.n 1) (.wm .looks Y0 [.k (.str [45])]),.ifs Y1 [.ex (.wm .take Y0 [])] [],.asg (.n 2) (.wm .take Y0 []),.ifs (.cmp .ne (.sub Y2 N0) (.k S4)) [.raise (.k (.str [97,32,110,117,109,98,101,114,32,105,115,32,109,105,115,115,105,110,103])) (.sub Y2 N2)] [],.ifs (.cmp .isn (.sub Y2 (.k (.int 4))) (.k .none)) [.raise (.k (.str [97,32,110,117,109,98,101,114,32,111,102,32,97,32,112,97,116,116,101,114,110,32,116,101,108,108,115,32,110,111,32,107,105,110,100])) (.sub Y2 N2)] [],.ret (.ite Y1 (.bin .sub N0 (.sub Y2 (.k (.int 3)))) (.sub Y2 (.k (.int 3))))] }
noncomputable def Nc:ah:={ np:=1,nl:=3,dfl:=[],body:=[.asg (.n 1) (.sub (.wm .peek Y0 []) N2),.asg (.n 2) (.call (.gl (.glob 344)) [Y0]),.ifs (.bnot (.wm .looks Y0 [.k (.str [46,46,61])])) [.ret (.tup [.k S10,Y1,Y2])] [],.ex (.wm .take Y0 []),.ret (.tup [.k (.str [114,97,110,103,101]),Y1,Y2,.call (.gl (.glob 344)) [Y0]])] }
noncomputable def Nd:ah:={ np:=1,nl:=6,dfl:=[],body:=[.asg (.n 1) (.sub (.wm .peek Y0 []) N2),.asg (.n 2) (.wm .looks Y0 [.k S19]),.ifs Y2 [.ex (.wm .take Y0 [])] [],.asg (.n 3) (.wm .looks Y0 [.k S30]),.ifs Y3 [.ex (.wm .take Y0 [])] [],.asg (.n 4) (.sub (.wm .name Y0 []) N0),.asg (.n 5) (.k .none),.ifs (.wm .looks Y0 [.k (.str [64])]) [.ex (.wm .take Y0 []),.asg (.n 5) (.call (.gl (.glob 309)) [Y0])] [],.ret (.tup [.k S5,Y1,Y4,Y2,Y3,Y5])] }
noncomputable def Nf:ah:={ np:=1,nl:=5,dfl:=[],body:=[.asg (.n 1) (.sub (.wm .peek Y0 []) N2),.asg (.n 2) (.call (.gl (.glob 260)) [Y0,.k (.bool true)]),.ifs (.wm .looks Y0 [.k S0]) [.ret (.tup [.k (.str [118,97,114,105,97,110,116]),Y1,Y2,.call (.gl (.glob 372)) [Y0]])] [],.ifs (.wm .looks Y0 [.k S7]) [.asg (.ns [3,4]) (.call (.gl (.glob 379)) [Y0]),.ret (.tup [.k (.str [102,105,101,108,100,115]),Y1,Y2,Y3,Y4])] [],.ret (.tup [.k (.str [118,97,114,105,97,110,116]),Y1,Y2,.tup []])] }
noncomputable def Ng:ah:={ np:=1,nl:=2,dfl:=[],body:=[.ex (.wm .expect Y0 [.k S0]),.asg (.n 1) (.lst []),.whl (.bnot (.wm .looks Y0 [.k S1])) [.ex (.me .append Y1 [.call (.gl (.glob 302)) [Y0]]),.ifs (.bnot (.wm .looks Y0 [.k S3])) [.brk] [],.ex (.wm .take Y0 [])],.ex (.wm .expect Y0 [.k S1]),.ret (.bi .tup [Y1])] }
noncomputable def Nh:ah:={ np:=1,nl:=3,dfl:=[],body:=[.ex (.wm .expect Y0 [.k S7]),.asg (.ns [1,2]) (.tup [.lst [],.k (.bool false)]),.whl (.bnot (.wm .looks Y0 [.k S6])) [.ifs (.wm .looks Y0 [.k (.str [46,46])]) [.ex (.wm .take Y0 []),.asg (.n 2) (.k (.bool true)),.brk] [],.ex (.me .append Y1 [.call (.gl (.glob 386)) [Y0]]),.ifs (.bnot (.wm .looks Y0 [.k S3])) [.brk] [],.ex (.wm .take Y0 [])],.ex (.wm .expect Y0 [.k S6]),.ret (.tup [.bi .tup [Y1],Y2])] }
noncomputable def Ni:ah:={ np:=1,nl:=3,dfl:=[],body:=[.asg (.n 1) (.wm .peek Y0 []),.ifs (.band [.cmp .eq (.sub Y1 N0) (.k S4),.cmp .eq (.sub Y1 N1) (.bi .str [.sub Y1 (.k (.int 3))])]) [.ex (.wm .take Y0 []),.ex (.wm .expect Y0 [.k (.str [58])]),.ret (.tup [.sub Y1 N1,.call (.gl (.glob 302)) [Y0]])] [],.ifs (.band [.call (.gl (.glob 295)) [Y1],.wm .looks Y0 [.k (.str [58]),N1]]) [.ex (.wm .take Y0 []),.ex (.wm .take Y0 []),.ret (.tup [.sub Y1 N1,.call (.gl (.glob 302)) [Y0]])] [],.asg (.n 2) (.call (.gl (.glob 358)) [Y0]),.ifs (.cmp .isn (.sub Y2 (.k (.int 5))) (.k .none)) [.raise (.k (.str [97,32,102,105,101,108,100,39,115,32,110,97,109,101,32,97,108,111,110,101,32,105,115,32,110,111,32,112,97,116,116,101,114,110,32,119,105,116,104,32,64])) (.sub Y2 N1)] [],.ret (.tup [.sub Y2 N2,Y2])] }
noncomputable def Nj:ah:={ np:=2,nl:=4,dfl:=[.bool false],body:=[.asg (.n 2) (.call (.gl (.glob 420)) [Y0,N1,Y1]),.asg (.n 3) (.wm .peek Y0 []),.ifs (.band [.cmp .eq (.sub Y3 N0) (.k S2),.cmp .eq (.sub Y3 N1) (.k (.str [61]))]) [.ex (.wm .take Y0 []),.ret (.tup [.k S52,.sub Y2 N1,Y2,.call (.gl (.glob 406)) [Y0,Y1]])] [],.ifs (.band [.cmp .eq (.sub Y3 N0) (.k S2),.cmp .inn (.sub Y3 N1) (.gl KW3)]) [.ex (.wm .take Y0 []),.ret (.tup [.k (.str [117,112,100,97,116,101]),.sub Y2 N1,.slc (.sub Y3 N1) none (some (.neg N1)),Y2,.call (.gl (.glob 406)) [Y0,Y1]])] [],.ret Y2] }
noncomputable def Nk:ah:={ np:=2,nl:=3,dfl:=[],body:=[.ex (.wm .deeper Y0 []),.asg (.n 2) (.call (.gl (.glob 399)) [Y0,Y1]),.ex (.wm .shallower Y0 []),.ret Y2] }
noncomputable def r413:ah:={ np:=1,nl:=1,dfl:=[],body:=[.ret (.ite (.cmp .eq (.sub Y0 N0) (.k S2)) (.me .get (.gl (.dct [([124,124],.int 1),([38,38],.int 2),([61,61],.int 3),([33,61],.int 3),([60],.int 3),([60,61],.int 3),([62],.int 3),([62,61],.int 3),([124],.int 4),([94],.int 5),([38],.int 6),([60,60],.int 7),([62,62],.int 7),([43],.int 8),([45],.int 8),([42],.int 9),([47],.int 9),([37],.int 9)])) [.sub Y0 N1,N0]) N0)] }
noncomputable def Nl:ah:={ np:=3,nl:=4,dfl:=[],body:=[.ex (.wm .deeper Y0 []),.asg (.n 3) (.call (.gl (.glob 427)) [Y0,.call (.gl (.glob 434)) [Y0,Y2],Y1,Y2]),.ex (.wm .shallower Y0 []),.ret Y3] }
noncomputable def Nm:ah:={ np:=4,nl:=8,dfl:=[],body:=[.asg (.n 4) (.k (.bool false)),.whl (.k (.bool true)) [.asg (.n 5) (.wm .peek Y0 []),.asg (.n 6) (.call (.gl (.glob 413)) [Y5]),.ifs (.bor [.cmp .lt Y6 Y2,.cmp .eq Y6 N0]) [.ret Y1] [],.ifs (.band [.cmp .eq Y6 (.gl (.int 3)),Y4]) [.raise (.k (.str [99,111,109,112,97,114,105,115,111,110,115,32,100,111,32,110,111,116,32,99,104,97,105,110])) (.sub Y5 N2)] [],.ex (.wm .take Y0 []),.asg (.n 7) (.call (.gl (.glob 420)) [Y0,.bin .add Y6 N1,Y3]),.asg (.n 1) (.tup [.k S20,.sub Y1 N1,.sub Y5 N1,Y1,Y7]),.asg (.n 4) (.cmp .eq Y6 (.gl (.int 3)))]] }
noncomputable def Nn:ah:={ np:=2,nl:=2,dfl:=[],body:=[.ret (.call (.gl (.glob 441)) [Y0,.call (.gl (.glob 448)) [Y0,Y1]])] }
noncomputable def Np:ah:={ np:=2,nl:=3,dfl:=[],body:=[.whl (.wm .looks Y0 [.k (.str [97,115])]) [.ex (.wm .take Y0 []),.asg (.n 1) (.tup [.k S31,.sub Y1 N1,Y1,.call (.gl (.glob 219)) [Y0]]),.asg (.n 2) (.wm .peek Y0 [.neg N1]),.ifs (.band [.cmp .eq (.sub Y2 N0) (.k S5),.cmp .ne (.sub Y2 N1) (.k (.str [95])),.wm .looks Y0 [.k S17]]) [.raise (.k (.str [97,110,32,97,110,103,108,101,32,98,101,104,105,110,100,32,97,32,116,121,112,101,32,98,101,108,111,110,103,115,32,116,111,32,105,116])) (.sub (.wm .peek Y0 []) N2)] []],.ret Y1] }
noncomputable def Nq:ah:={ np:=2,nl:=4,dfl:=[],body:=[.asg (.n 2) (.wm .peek Y0 []),.ifs (.band [.cmp .eq (.sub Y2 N0) (.k S2),.cmp .inn (.sub Y2 N1) (.tup [.k (.str [45]),.k (.str [33]),.k (.str [42])])]) [.ex (.wm .take Y0 []),.ret (.tup [.k (.str [117,110,97,114,121]),.sub Y2 N2,.sub Y2 N1,.call (.gl (.glob 455)) [Y0,Y1]])] [],.ifs (.band [.cmp .eq (.sub Y2 N0) (.k S2),.cmp .inn (.sub Y2 N1) (.tup [.k (.str [38]),.k S16])]) [.ex (.wm .take Y0 []),.asg (.n 3) (.call (.gl (.glob 462)) [Y0,.bin .sub (.bin .add (.sub Y2 N2) (.bi .len [.sub Y2 N1])) N1,Y1]),.ret (.ite (.cmp .eq (.sub Y2 N1) (.k (.str [38]))) Y3 (.tup [.k S32,.sub Y2 N2,.k (.bool false),Y3]))] [],.ret (.call (.gl (.glob 469)) [Y0,.call (.gl (.glob 518)) [Y0,Y1]])] }
noncomputable def Nr:ah:={ np:=2,nl:=3,dfl:=[],body:=[.ex (.wm .deeper Y0 []),.asg (.n 2) (.call (.gl (.glob 448)) [Y0,Y1]),.ex (.wm .shallower Y0 []),.ret Y2] }
noncomputable def Nt:ah:={ np:=3,nl:=4,dfl:=[],body:=[.asg (.n 3) (.wm .looks Y0 [.k S30]),.ifs Y3 [.ex (.wm .take Y0 [])] [],.ret (.tup [.k S32,Y1,Y3,.call (.gl (.glob 455)) [Y0,Y2]])] }
noncomputable def Nu:ah:={ np:=2,nl:=3,dfl:=[],body:=[.whl (.k (.bool true)) [.ifs (.wm .looks Y0 [.k S0]) [.asg (.n 1) (.tup [.k S53,.sub Y1 N1,Y1,.call (.gl (.glob 504)) [Y0,.k S0,.k S1]])] [.ifs (.wm .looks Y0 [.k (.str [91])]) [.ex (.wm .take Y0 []),.asg (.n 2) (.call (.gl (.glob 399)) [Y0]),.ex (.wm .expect Y0 [.k S8]),.asg (.n 1) (.tup [.k (.str [105,110,100,101,120]),.sub Y1 N1,Y1,Y2])] [.ifs (.wm .looks Y0 [.k (.str [46])]) [.ex (.wm .take Y0 []),.asg (.n 1) (.call (.gl (.glob 476)) [Y0,Y1])] [.ret Y1]]]]] }
noncomputable def Nv:ah:={ np:=2,nl:=6,dfl:=[],body:=[.asg (.n 2) (.wm .peek Y0 []),.ifs (.cmp .eq (.sub Y2 N0) (.k S4)) [.ex (.wm .take Y0 []),.ifs (.cmp .isn (.sub Y2 (.k (.int 4))) (.k .none)) [.raise (.k (.str [97,32,112,108,97,99,101,32,105,110,32,97,32,116,117,112,108,101,32,104,97,115,32,110,111,32,107,105,110,100])) (.sub Y2 N2)] [],.ret (.tup [.k S54,.sub Y1 N1,Y1,.call (.gl (.glob 483)) [Y2]])] [],.asg (.ns [3,4]) (.wm .name Y0 []),.asg (.n 5) (.tup []),.ifs (.wm .looks Y0 [.k (.str [58,58])]) [.ex (.wm .take Y0 []),.asg (.n 5) (.call (.gl (.glob 490)) [Y0]),.ifs (.bnot (.wm .looks Y0 [.k S0])) [.raise (.k (.str [97,32,102,105,101,108,100,32,104,97,115,32,110,111,32,116,121,112,101,115])) Y4] []] [],.ifs (.wm .looks Y0 [.k S0]) [.ret (.tup [.k S55,.sub Y1 N1,Y1,Y3,Y5,.call (.gl (.glob 504)) [Y0,.k S0,.k S1]])] [],.ret (.tup [.k S54,.sub Y1 N1,Y1,Y3])] }
noncomputable def Nx:ah:={ np:=1,nl:=1,dfl:=[],body:=[.ifs (.cmp .ne (.sub Y0 N1) (.bi .str [.sub Y0 (.k (.int 3))])) [.raise (.k (.str [97,32,112,108,97,99,101,32,105,110,32,97,32,116,117,112,108,101,32,105,115,32,116,111,108,100,32,98,121,32,112,108,97,105,110,32,102,105,103,117,114,101,115])) (.sub Y0 N2)] [],.ret (.sub Y0 N1)] }
noncomputable def Ny:ah:={ np:=1,nl:=2,dfl:=[],body:=[.ex (.wm .expect Y0 [.k (.str [60])]),.asg (.n 1) (.lst []),.whl (.bnot (.call (.gl (.glob 497)) [Y0])) [.ex (.me .append Y1 [.call (.gl (.glob 219)) [Y0]]),.ifs (.bnot (.wm .looks Y0 [.k S3])) [.brk] [],.ex (.wm .take Y0 [])],.ex (.wm .splitClose Y0 []),.ret (.bi .tup [Y1])] }
noncomputable def Nz:ah:={ np:=1,nl:=2,dfl:=[],body:=[.asg (.n 1) (.wm .peek Y0 []),.ret (.band [.cmp .eq (.sub Y1 N0) (.k S2),.cmp .eq (.slc (.sub Y1 N1) none (some N1)) (.k (.str [62]))])] }
noncomputable def NB:ah:={ np:=3,nl:=4,dfl:=[],body:=[.ex (.wm .expect Y0 [Y1]),.asg (.n 3) (.lst []),.whl (.bnot (.wm .looks Y0 [Y2])) [.ex (.me .append Y3 [.call (.gl (.glob 399)) [Y0]]),.ifs (.bnot (.wm .looks Y0 [.k S3])) [.brk] [],.ex (.wm .take Y0 [])],.ex (.wm .expect Y0 [Y2]),.ret (.bi .tup [Y3])] }
noncomputable def NC:ah:={ np:=1,nl:=2,dfl:=[],body:=[.asg (.n 1) (.wm .peek Y0 []),.ifs (.cmp .eq (.sub Y1 N0) (.k S28)) [.ret (.k (.bool true))] [],.ret (.band [.cmp .inn (.sub Y1 N1) (.tup [.k S7,.k S9,.k S11,.k S21,.k S33,.k (.str [102,111,114])]),.cmp .inn (.sub Y1 N0) (.tup [.k S2,.k S5])])] }
noncomputable def ND:ah:={ np:=2,nl:=3,dfl:=[],body:=[.asg (.n 2) (.wm .peek Y0 []),.ifs (.call (.gl (.glob 511)) [Y0]) [.ret (.call (.gl (.glob 574)) [Y0])] [],.ifs (.cmp .eq (.sub Y2 N0) (.k S4)) [.ex (.wm .take Y0 []),.ret (.tup [.k S4,.sub Y2 N2,.sub Y2 (.k (.int 3)),.sub Y2 (.k (.int 4))])] [],.ifs (.band [.cmp .eq (.sub Y2 N0) (.k S2),.cmp .eq (.sub Y2 N1) (.k S0)]) [.ret (.call (.gl (.glob 539)) [Y0])] [],.ifs (.band [.cmp .eq (.sub Y2 N0) (.k S2),.cmp .eq (.sub Y2 N1) (.k (.str [91]))]) [.ret (.call (.gl (.glob 546)) [Y0])] [],.ifs (.cmp .ne (.sub Y2 N0) (.k S5)) [.raise (.k (.str [97,110,32,101,120,112,114,101,115,115,105,111,110,32,105,115,32,109,105,115,115,105,110,103])) (.sub Y2 N2)] [],.ifs (.cmp .inn (.sub Y2 N1) (.tup [.k S39,.k (.str [102,97,108,115,101])])) [.ex (.wm .take Y0 []),.ret (.tup [.k (.str [98,111,111,108]),.sub Y2 N2,.cmp .eq (.sub Y2 N1) (.k S39)])] [],.ifs (.cmp .inn (.sub Y2 N1) (.tup [.k (.str [98,114,101,97,107]),.k S57,.k S40])) [.ret (.call (.gl (.glob 567)) [Y0,Y1])] [],.ifs (.band [.cmp .inn (.sub Y2 N1) (.gl (.tup [.str [112,97,110,105,99],.str [97,115,115,101,114,116],.str [112,114,105,110,116]])),.wm .looks Y0 [.k (.str [33]),N1]]) [.ex (.wm .take Y0 []),.ex (.wm .take Y0 []),.ret (.tup [.k (.str [109,97,99,114,111]),.sub Y2 N2,.sub Y2 N1,.call (.gl (.glob 504)) [Y0,.k S0,.k S1]])] [],.ret (.call (.gl (.glob 525)) [Y0,Y1])] }
noncomputable def NF:ah:={ np:=2,nl:=5,dfl:=[],body:=[.asg (.n 2) (.sub (.wm .peek Y0 []) N2),.asg (.n 3) (.call (.gl (.glob 260)) [Y0,.k (.bool true)]),.ifs (.bor [Y1,.bnot (.wm .looks Y0 [.k S7])]) [.ret (.tup [.k S29,Y2,Y3])] [],.ex (.wm .take Y0 []),.asg (.n 4) (.lst []),.whl (.bnot (.wm .looks Y0 [.k S6])) [.ex (.me .append Y4 [.call (.gl (.glob 532)) [Y0]]),.ifs (.bnot (.wm .looks Y0 [.k S3])) [.brk] [],.ex (.wm .take Y0 [])],.ex (.wm .expect Y0 [.k S6]),.ret (.tup [.k S58,Y2,Y3,.bi .tup [Y4]])] }
noncomputable def NG:ah:={ np:=1,nl:=4,dfl:=[],body:=[.asg (.n 1) (.wm .peek Y0 []),.ifs (.band [.cmp .eq (.sub Y1 N0) (.k S4),.cmp .is (.sub Y1 (.k (.int 4))) (.k .none)]) [.ex (.wm .take Y0 []),.ex (.wm .expect Y0 [.k (.str [58])]),.ret (.tup [.call (.gl (.glob 483)) [Y1],.call (.gl (.glob 399)) [Y0]])] [],.asg (.ns [2,3]) (.wm .name Y0 []),.ifs (.bnot (.wm .looks Y0 [.k (.str [58])])) [.ret (.tup [Y2,.tup [.k S29,Y3,.tup [.tup [Y2,.tup [],.tup []]]]])] [],.ex (.wm .take Y0 []),.ret (.tup [Y2,.call (.gl (.glob 399)) [Y0]])] }
noncomputable def NH:ah:={ np:=1,nl:=4,dfl:=[],body:=[.asg (.n 1) (.sub (.wm .expect Y0 [.k S0]) N2),.asg (.ns [2,3]) (.tup [.lst [],.k (.bool true)]),.whl (.bnot (.wm .looks Y0 [.k S1])) [.ex (.me .append Y2 [.call (.gl (.glob 399)) [Y0]]),.asg (.n 3) (.wm .looks Y0 [.k S3]),.ifs (.bnot Y3) [.brk] [],.ex (.wm .take Y0 [])],.ex (.wm .expect Y0 [.k S1]),.ifs (.band [.cmp .eq (.bi .len [Y2]) N1,.bnot Y3]) [.ret (.sub Y2 N0)] [],.ret (.tup [.k S50,Y1,.bi .tup [Y2]])] }
noncomputable def NI:ah:={ np:=1,nl:=4,dfl:=[],body:=[.asg (.n 1) (.sub (.wm .expect Y0 [.k (.str [91])]) N2),.asg (.n 2) (.lst []),.whl (.bnot (.wm .looks Y0 [.k S8])) [.ex (.me .append Y2 [.call (.gl (.glob 399)) [Y0]]),.ifs (.band [.cmp .eq (.bi .len [Y2]) N1,.wm .looks Y0 [.k (.str [59])]]) [.ex (.wm .take Y0 []),.asg (.n 3) (.call (.gl (.glob 254)) [Y0]),.ex (.wm .expect Y0 [.k S8]),.ret (.tup [.k S41,Y1,.sub Y2 N0,Y3])] [],.ifs (.bnot (.wm .looks Y0 [.k S3])) [.brk] [],.ex (.wm .take Y0 [])],.ex (.wm .expect Y0 [.k S8]),.ret (.tup [.k S51,Y1,.bi .tup [Y2]])] }
noncomputable def NJ:ah:={ np:=1,nl:=2,dfl:=[],body:=[.asg (.n 1) (.wm .peek Y0 []),.ifs (.cmp .ne (.sub Y1 N0) (.k S28)) [.ret (.k .none)] [],.ifs (.cmp .inn (.slc (.sub Y1 N1) (some N1) none) (.gl KW0)) [.raise (.k (.str [110,111,32,110,97,109,101,32,111,102,32,97,32,108,97,98,101,108])) (.sub Y1 N2)] [],.ex (.wm .take Y0 []),.ret (.sub Y1 N1)] }
noncomputable def NK:ah:={ np:=2,nl:=3,dfl:=[],body:=[.asg (.n 2) (.wm .peek Y0 []),.ifs (.bor [.cmp .eq (.sub Y2 N0) (.k S38),.band [.cmp .eq (.sub Y2 N0) (.k S2),.cmp .inn (.sub Y2 N1) (.gl (.tup [.str [59],S6,S1,S8,S3,.str [61,62]]))]]) [.ret (.k (.bool false))] [],.ret (.bnot (.band [Y1,.cmp .eq (.sub Y2 N0) (.k S2),.cmp .eq (.sub Y2 N1) (.k S7)]))] }
noncomputable def NL:ah:={ np:=2,nl:=4,dfl:=[],body:=[.asg (.n 2) (.wm .take Y0 []),.ifs (.cmp .eq (.sub Y2 N1) (.k S40)) [.ret (.tup [.k S40,.sub Y2 N2,.ite (.call (.gl (.glob 560)) [Y0,Y1]) (.call (.gl (.glob 399)) [Y0,Y1]) (.k .none)])] [],.asg (.n 3) (.call (.gl (.glob 553)) [Y0]),.ifs (.cmp .eq (.sub Y2 N1) (.k S57)) [.ret (.tup [.k S57,.sub Y2 N2,Y3])] [],.ret (.tup [.k (.str [98,114,101,97,107]),.sub Y2 N2,Y3,.ite (.call (.gl (.glob 560)) [Y0,Y1]) (.call (.gl (.glob 399)) [Y0,Y1]) (.k .none)])] }
noncomputable def NN:ah:={ np:=1,nl:=4,dfl:=[],body:=[.ex (.wm .deeper Y0 []),.asg (.n 1) (.call (.gl (.glob 553)) [Y0]),.ifs (.cmp .isn Y1 (.k .none)) [.ex (.wm .expect Y0 [.k (.str [58])])] [],.asg (.n 2) (.wm .peek Y0 []),.ifs (.band [.cmp .inn (.sub Y2 N1) (.tup [.k S21,.k S33,.k (.str [102,111,114])]),.cmp .eq (.sub Y2 N0) (.k S5)]) [.asg (.n 3) (.call (.gl (.glob 581)) [Y0,Y1])] [.ifs (.cmp .isn Y1 (.k .none)) [.raise (.k (.str [97,32,108,97,98,101,108,32,115,116,97,110,100,115,32,97,104,101,97,100,32,111,102,32,97,32,108,111,111,112])) (.sub Y2 N2)] [.ifs (.cmp .eq (.sub Y2 N1) (.k S9)) [.asg (.n 3) (.call (.gl (.glob 588)) [Y0])] [.ifs (.cmp .eq (.sub Y2 N1) (.k S11)) [.asg (.n 3) (.call (.gl (.glob 595)) [Y0])] [.asg (.n 3) (.call (.gl (.glob 630)) [Y0])]]]],.ex (.wm .shallower Y0 []),.ret Y3] }
noncomputable def NO:ah:={ np:=2,nl:=8,dfl:=[],body:=[.asg (.n 2) (.wm .take Y0 []),.ifs (.cmp .eq (.sub Y2 N1) (.k S21)) [.ret (.tup [.k S21,.sub Y2 N2,Y1,.call (.gl (.glob 630)) [Y0]])] [],.ifs (.cmp .eq (.sub Y2 N1) (.k S33)) [.asg (.n 3) (.call (.gl (.glob 399)) [Y0,.k (.bool true)]),.ret (.tup [.k S33,.sub Y2 N2,Y1,Y3,.call (.gl (.glob 630)) [Y0]])] [],.asg (.n 4) (.call (.gl (.glob 302)) [Y0]),.ex (.wm .expect Y0 [.k (.str [105,110])]),.asg (.n 5) (.call (.gl (.glob 420)) [Y0,N1,.k (.bool true)]),.asg (.n 6) (.wm .looks Y0 [.k (.str [46,46,61])]),.ifs Y6 [.ex (.wm .take Y0 [])] [.ex (.wm .expect Y0 [.k (.str [46,46])])],.asg (.n 7) (.call (.gl (.glob 420)) [Y0,N1,.k (.bool true)]),.ret (.tup [.k (.str [102,111,114]),.sub Y2 N2,Y1,Y4,Y5,Y7,Y6,.call (.gl (.glob 630)) [Y0]])] }
noncomputable def NP:ah:={ np:=1,nl:=6,dfl:=[],body:=[.asg (.ns [1,2]) (.tup [.lst [],.k .none]),.whl (.k (.bool true)) [.asg (.n 3) (.sub (.wm .expect Y0 [.k S9]) N2),.asg (.n 4) (.call (.gl (.glob 399)) [Y0,.k (.bool true)]),.ex (.me .append Y1 [.tup [Y3,Y4,.call (.gl (.glob 630)) [Y0]]]),.ifs (.bnot (.wm .looks Y0 [.k (.str [101,108,115,101])])) [.brk] [],.ex (.wm .take Y0 []),.ifs (.bnot (.wm .looks Y0 [.k S9])) [.asg (.n 2) (.call (.gl (.glob 630)) [Y0]),.brk] []],.forv (.ns [3,4,5]) Y1 [.asg (.n 2) (.tup [.k S9,Y3,Y4,Y5,Y2])],.ret Y2] }
noncomputable def NQ:ah:={ np:=1,nl:=4,dfl:=[],body:=[.asg (.n 1) (.sub (.wm .expect Y0 [.k S11]) N2),.asg (.n 2) (.call (.gl (.glob 399)) [Y0,.k (.bool true)]),.ex (.wm .expect Y0 [.k S7]),.asg (.n 3) (.lst []),.whl (.bnot (.wm .looks Y0 [.k S6])) [.ex (.me .append Y3 [.call (.gl (.glob 602)) [Y0]])],.ex (.wm .expect Y0 [.k S6]),.ret (.tup [.k S11,Y1,Y2,.bi .tup [Y3]])] }
noncomputable def NR:ah:={ np:=1,nl:=5,dfl:=[],body:=[.asg (.ns [1,2]) (.tup [.call (.gl (.glob 302)) [Y0],.k .none]),.ifs (.wm .looks Y0 [.k S9]) [.ex (.wm .take Y0 []),.asg (.n 2) (.call (.gl (.glob 399)) [Y0])] [],.ex (.wm .expect Y0 [.k (.str [61,62])]),.asg (.ns [3,4]) (.call (.gl (.glob 623)) [Y0]),.ifs (.wm .looks Y0 [.k S3]) [.ex (.wm .take Y0 [])] [.ifs (.band [.bnot Y4,.bnot (.wm .looks Y0 [.k S6])]) [.raise (.k (.str [97,32,99,111,109,109,97,32,105,115,32,109,105,115,115,105,110,103,32,98,101,104,105,110,100,32,97,110,32,97,114,109])) (.sub (.wm .peek Y0 []) N2)] []],.ret (.tup [Y1,Y2,Y3])] }
noncomputable def NS:ah:={ np:=2,nl:=4,dfl:=[],body:=[.asg (.n 1) (.call (.gl (.glob 427)) [Y0,.call (.gl (.glob 441)) [Y0,.call (.gl (.glob 469)) [Y0,Y1]],N1,.k (.bool false)]),.asg (.n 2) (.wm .peek Y0 []),.ifs (.band [.cmp .eq (.sub Y2 N0) (.k S2),.bor [.cmp .eq (.sub Y2 N1) (.k (.str [61])),.cmp .inn (.sub Y2 N1) (.gl KW3)]]) [.ex (.wm .take Y0 []),.asg (.n 3) (.call (.gl (.glob 406)) [Y0,.k (.bool false)]),.ret (.ite (.cmp .eq (.sub Y2 N1) (.k (.str [61]))) (.tup [.k S52,.sub Y1 N1,Y1,Y3]) (.tup [.k (.str [117,112,100,97,116,101]),.sub Y1 N1,.slc (.sub Y2 N1) none (some (.neg N1)),Y1,Y3]))] [],.ret Y1] }
noncomputable def NT:ah:={ np:=1,nl:=5,dfl:=[],body:=[.asg (.n 1) (.sub (.wm .expect Y0 [.k S34]) N2),.asg (.ns [2,3,4]) (.tup [.call (.gl (.glob 309)) [Y0],.k .none,.k .none]),.ifs (.wm .looks Y0 [.k (.str [58])]) [.ex (.wm .take Y0 []),.asg (.n 3) (.call (.gl (.glob 219)) [Y0])] [],.ifs (.wm .looks Y0 [.k (.str [61])]) [.ex (.wm .take Y0 []),.asg (.n 4) (.call (.gl (.glob 399)) [Y0])] [],.ex (.wm .expect Y0 [.k (.str [59])]),.ret (.tup [.k S34,Y1,Y2,Y3,Y4])] }
noncomputable def NU:ah:={ np:=1,nl:=2,dfl:=[],body:=[.ifs (.bnot (.call (.gl (.glob 511)) [Y0])) [.ret (.tup [.call (.gl (.glob 399)) [Y0],.k (.bool false)])] [],.asg (.n 1) (.call (.gl (.glob 574)) [Y0]),.ifs (.wm .looks Y0 [.k (.str [46])]) [.ret (.tup [.call (.gl (.glob 609)) [Y0,Y1],.k (.bool false)])] [],.ret (.tup [Y1,.k (.bool true)])] }
noncomputable def NV:ah:={ np:=1,nl:=7,dfl:=[],body:=[.asg (.n 1) (.sub (.wm .expect Y0 [.k S7]) N2),.asg (.ns [2,3]) (.tup [.lst [],.k .none]),.whl (.bnot (.wm .looks Y0 [.k S6])) [.ifs (.wm .looks Y0 [.k (.str [59])]) [.ex (.wm .take Y0 [])] [.ifs (.wm .looks Y0 [.k S34]) [.ex (.me .append Y2 [.call (.gl (.glob 616)) [Y0]])] [.asg (.n 4) (.sub (.wm .peek Y0 []) N2),.asg (.ns [5,6]) (.call (.gl (.glob 623)) [Y0]),.ifs (.wm .looks Y0 [.k S6]) [.asg (.n 3) Y5] [.ifs (.wm .looks Y0 [.k (.str [59])]) [.ex (.wm .take Y0 []),.ex (.me .append Y2 [.tup [.k (.str [100,111]),Y4,Y5]])] [.ifs Y6 [.ex (.me .append Y2 [.tup [.k (.str [100,111]),Y4,Y5]])] [.raise (.k (.str [97,32,115,101,109,105,99,111,108,111,110,32,105,115,32,109,105,115,115,105,110,103])) (.sub (.wm .peek Y0 []) N2)]]]]]],.ex (.wm .expect Y0 [.k S6]),.ret (.tup [.k S35,Y1,.bi .tup [Y2],Y3])] }
noncomputable def NW:ah:={ np:=1,nl:=7,dfl:=[],body:=[.asg (.ns [1,2]) (.tup [.lst [.tup [Y0,.k (.bool false)]],.lst []]),.whl (.cmp .ne Y1 (.lst [])) [.asg (.ns [3,4]) (.me .pop Y1 []),.ifs (.bnot (.isi .isTup Y3)) [.ex (.me .append Y2 [Y3])] [.ifs (.bnot Y4) [.ex (.me .append Y1 [.tup [Y3,.k (.bool true)]]),.ex (.me .extend Y1 [.pairs (.rev Y3)])] [.asg (.n 5) (.bin .sub (.bi .len [Y2]) (.bi .len [Y3])),.asg (.n 6) (.slc Y2 (some Y5) none),.asg (.n 2) (.slc Y2 none (some Y5)),.ex (.me .append Y2 [.bi .tup [.call (.gl (.glob 642)) [Y3,Y6]]])]]],.ret (.sub Y2 N0)] }
noncomputable def NX:ah:={ np:=2,nl:=2,dfl:=[],body:=[.ifs (.band [.cmp .gt (.bi .len [Y0]) N1,.isi .isStr (.sub Y0 N0),.isi .isInt (.sub Y0 N1),.bnot (.isi .isBool (.sub Y0 N1))]) [.ret (.bin .add (.lst [.sub Y1 N0,N0]) (.slc Y1 (some N2) none))] [],.ret Y1] }
noncomputable def NY:ah:={ np:=1,nl:=3,dfl:=[],body:=[.asg (.n 1) (.ite (.cmp .gt (.bi .len [Y0]) N0) (.sub Y0 N0) N0),.asg (.n 2) (.ite (.cmp .ge Y1 N0) Y1 (.bin .sub (.k (.int 15)) Y1)),.ret (.lst [.ite (.cmp .ge Y2 (.bin .pow (.k (.int 10)) (.k (.int 15)))) Y2 N0,.bin .mod (.bin .add (.bin .mul (.bin .mod Y2 (.k (.int 999961))) (.k (.int 211))) (.k (.int 71))) (.k (.int 65371))])] }
noncomputable def NZ:ah:={ np:=2,nl:=3,dfl:=[],body:=[.ifs (.cmp .gt (.sub Y0 N0) N0) [.asg (.n 2) (.bin .mod (.sub Y0 N0) Y1),.asgS Y0 N0 (.bin .fdiv (.sub Y0 N0) Y1),.ret Y2] [],.asgS Y0 N1 (.bin .mod (.bin .add (.bin .mul (.sub Y0 N1) (.k (.int 173))) (.k (.int 4007))) (.k (.int 65371))),.ret (.bin .mod (.bin .fdiv (.sub Y0 N1) (.k (.int 7))) Y1)] }
noncomputable def O0:ah:={ np:=1,nl:=1,dfl:=[],body:=[.ret (.tup [.k S29,N0,.tup [.tup [Y0,.tup [],.tup []]]])] }
noncomputable def O1:ah:={ np:=1,nl:=1,dfl:=[],body:=[.ret (.tup [.k S35,N0,.tup [],Y0])] }
noncomputable def O2:ah:={ np:=2,nl:=8,dfl:=[],body:=[.asg (.ns [2,3,4,5]) Y1,.asg (.n 6) (.sub (.lst [.k (.str [45]),.k (.str [33]),.k (.str [42]),.k (.str [38,109,117,116,32]),.k S16]) (.call (.gl (.glob 656)) [Y0,.k (.int 5)])),.ifs (.cmp .eq Y6 (.k S16)) [.ret (.tup [.bin .add Y6 Y2,.tup [.k S32,N0,.k (.bool false),.tup [.k S32,N0,.k (.bool false),Y3]],.bin .add Y4 N1,.k (.bool false)])] [],.asg (.n 7) (.ite (.cmp .eq Y6 (.k (.str [38,109,117,116,32]))) (.tup [.k S32,N0,.k (.bool true),Y3]) (.tup [.k (.str [117,110,97,114,121]),N0,Y6,Y3])),.ret (.tup [.bin .add Y6 Y2,Y7,.bin .add Y4 N1,.k (.bool false)])] }
noncomputable def O3:ah:={ np:=2,nl:=9,dfl:=[],body:=[.asg (.ns [2,3,4,5]) Y1,.asg (.n 6) (.call (.gl (.glob 663)) [.k (.str [97])]),.asg (.n 7) (.lst [.tup [.bin .add (.bin .add (.k S0) Y2) (.k S1),Y3],.tup [.bin .add (.bin .add (.k (.str [91])) Y2) (.k S8),.tup [.k S51,N0,.tup [Y3]]],.tup [.bin .add (.bin .add (.k (.str [102,40])) Y2) (.k S1),.tup [.k S53,N0,.call (.gl (.glob 663)) [.k (.str [102])],.tup [Y3]]],.tup [.bin .add (.bin .add (.k (.str [97,91])) Y2) (.k S8),.tup [.k (.str [105,110,100,101,120]),N0,Y6,Y3]],.tup [.bin .add (.bin .add (.k (.str [97,46,109,40])) Y2) (.k S1),.tup [.k S55,N0,Y6,.k (.str [109]),.tup [],.tup [Y3]]],.tup [.bin .add (.bin .add (.k (.str [83,32,123,32,102,58,32])) Y2) (.k (.str [32,125])),.tup [.k S58,N0,.tup [.tup [.k (.str [83]),.tup [],.tup []]],.tup [.tup [.k (.str [102]),Y3]]]]]),.asg (.n 8) (.sub Y7 (.call (.gl (.glob 656)) [Y0,.k (.int 6)])),.ret (.tup [.sub Y8 N0,.sub Y8 N1,.bin .add Y4 N1,.k (.bool false)])] }
noncomputable def O4:ah:={ np:=2,nl:=10,dfl:=[],body:=[.asg (.ns [2,3,4,5]) Y1,.asg (.ns [6,7]) (.tup [.ite Y5 Y4 (.bin .add Y4 N1),.call (.gl (.glob 663)) [.k (.str [99])]]),.asg (.n 8) (.lst [.tup [.bin .add (.bin .add (.k (.str [123,32])) Y2) (.k (.str [32,125])),.call (.gl (.glob 670)) [Y3],.bin .add N1 Y6],.tup [.bin .add (.bin .add (.k (.str [105,102,32,99,32,123,32])) Y2) (.k (.str [32,125])),.tup [.k S9,N0,Y7,.call (.gl (.glob 670)) [Y3],.k .none],.bin .add N1 (.bi .mx [N1,Y6])],.tup [.bin .add (.bin .add (.k (.str [109,97,116,99,104,32,99,32,123,32,95,32,61,62,32])) Y2) (.k (.str [44,32,125])),.tup [.k S11,N0,Y7,.tup [.tup [.tup [.k (.str [119,105,108,100]),N0],.k .none,Y3]]],.bin .add N1 (.bi .mx [N1,Y6])],.tup [.bin .add (.bin .add (.k (.str [39,108,58,32,108,111,111,112,32,123,32])) Y2) (.k (.str [32,125])),.tup [.k S21,N0,.k (.str [39,108]),.call (.gl (.glob 670)) [Y3]],.bin .add N1 Y6],.tup [.bin .add (.bin .add (.k (.str [123,32,108,101,116,32,120,32,61,32])) Y2) (.k (.str [59,32,125])),.tup [.k S35,N0,.tup [.tup [.k S34,N0,.tup [.k S5,N0,.k (.str [120]),.k (.bool false),.k (.bool false),.k .none],.k .none,Y3]],.k .none],.bin .add N2 Y4]]),.asg (.n 9) (.sub Y8 (.call (.gl (.glob 656)) [Y0,.k (.int 5)])),.ret (.tup [.sub (.loc 9) N0,.sub (.loc 9) N1,.sub (.loc 9) N2,.k (.bool true)])] }
noncomputable def O5:ah:={ np:=2,nl:=8,dfl:=[],body:=[.asg (.ns [2,3,4,5]) Y1,.asg (.n 6) (.lst [.tup [.bin .add (.bin .add (.k (.str [40,114,101,116,117,114,110,32])) Y2) (.k S1),.tup [.k S40,N0,Y3],.bin .add N2 Y4],.tup [.bin .add (.bin .add (.k (.str [40,120,32,61,32])) Y2) (.k S1),.tup [.k S52,N0,.call (.gl (.glob 663)) [.k (.str [120])],Y3],.bin .add N2 Y4],.tup [.bin .add (.bin .add (.k (.str [40,97,32,43,32])) Y2) (.k S1),.tup [.k S20,N0,.k (.str [43]),.call (.gl (.glob 663)) [.k (.str [97])],Y3],.bin .add N2 Y4],.tup [.bin .add (.bin .add (.k S0) Y2) (.k (.str [32,97,115,32,117,56,41])),.tup [.k S31,N0,Y3,.call (.gl (.glob 663)) [.k (.str [117,56])]],.bin .add N1 (.bi .mx [N1,Y4])]]),.asg (.n 7) (.sub Y6 (.call (.gl (.glob 656)) [Y0,.k (.int 4)])),.ret (.tup [.sub Y7 N0,.sub Y7 N1,.sub Y7 N2,.k (.bool false)])] }
noncomputable def O6:ah:={ np:=1,nl:=2,dfl:=[],body:=[.try_ 1 (.call (.gl (.glob 399)) [Y0]),.ret (.ite (.cmp .eq (.sub (.wm .peek Y0 []) N0) (.k S38)) (.call (.gl (.glob 635)) [Y1]) (.k (.bool false)))] }
noncomputable def O7:ah:={ np:=1,nl:=8,dfl:=[],body:=[.asg (.n 1) (.tup [.k (.str [98]),.call (.gl (.glob 663)) [.k (.str [98])],N0,.k (.bool false)]),.forR 2 (.call (.gl (.glob 656)) [Y0,.k (.int 6)]) [.asg (.n 3) (.sub (.lst [.gl (.glob 677),.gl (.glob 684),.gl (.glob 691),.gl (.glob 691),.gl (.glob 698)]) (.call (.gl (.glob 656)) [Y0,.k (.int 5)])),.asg (.n 1) (.call Y3 [Y0,Y1])],.asg (.n 4) (.bin .add N1 (.sub Y1 N2)),.asg (.n 5) (.bin .add Y4 (.sub (.lst [.neg N1,N0,N1]) (.call (.gl (.glob 656)) [Y0,.k (.int 3)]))),.asg (.n 6) (.call (.gl (.glob 132)) [.sub Y1 N0]),.asgA Y6 .deep (.bin .sub (.gl (.int 60)) Y5),.asg (.n 7) (.call (.gl (.glob 705)) [Y6]),.ifs (.cmp .lt Y5 Y4) [.ret (.cmp .is Y7 (.k .none))] [],.ret (.band [.cmp .eq Y7 (.sub Y1 N1),.cmp .eq (.att Y6 .deep) (.bin .sub (.gl (.int 60)) Y5)])] }
noncomputable def O8:ah:={ np:=1,nl:=14,dfl:=[],body:=[.asg (.ns [1,2]) (.tup [.tup [.k S4,N0,.k (.int 7),.k .none],.call (.gl (.glob 663)) [.k (.str [99])]]),.asg (.n 3) (.lst [.tup [.k (.str [55]),Y1,.k (.bool false)],.tup [.k (.str [102,40,55,41]),.tup [.k S53,N0,.call (.gl (.glob 663)) [.k (.str [102])],.tup [Y1]],.k (.bool false)],.tup [.k (.str [123,32,55,32,125,46,109,40,41]),.tup [.k S55,N0,.call (.gl (.glob 670)) [Y1],.k (.str [109]),.tup [],.tup []],.k (.bool false)],.tup [.k (.str [123,32,55,32,125]),.call (.gl (.glob 670)) [Y1],.k (.bool true)],.tup [.k (.str [105,102,32,99,32,123,32,55,32,125,32,101,108,115,101,32,123,32,55,32,125]),.tup [.k S9,N0,Y2,.call (.gl (.glob 670)) [Y1],.call (.gl (.glob 670)) [Y1]],.k (.bool true)],.tup [.k (.str [39,108,58,32,108,111,111,112,32,123,32,55,32,125]),.tup [.k S21,N0,.k (.str [39,108]),.call (.gl (.glob 670)) [Y1]],.k (.bool true)],.tup [.k (.str [109,97,116,99,104,32,99,32,123,32,125]),.tup [.k S11,N0,Y2,.tup []],.k (.bool true)],.tup [.k (.str [119,104,105,108,101,32,99,32,123,32,125]),.tup [.k S33,N0,.k .none,Y2,.tup [.k S35,N0,.tup [],.k .none]],.k (.bool true)]]),.asg (.n 4) (.lst [.tup [.k (.str [48]),.tup [.k S10,N0,N0]],.tup [.k (.str [45,49]),.tup [.k S10,N0,.neg N1]],.tup [.k (.str [120]),.tup [.k S5,N0,.k (.str [120]),.k (.bool false),.k (.bool false),.k .none]]]),.asg (.ns [5,6,7,8]) (.tup [.k (.str [109,97,116,99,104,32,99,32,123]),.lst [],.k (.bool false),.k (.bool false)]),.forR 9 (.call (.gl (.glob 656)) [Y0,.k (.int 5)]) [.asg (.n 7) (.bor [Y7,Y8]),.asg (.ns [10,11]) (.tup [.sub Y4 (.call (.gl (.glob 656)) [Y0,.k (.int 3)]),.sub Y3 (.call (.gl (.glob 656)) [Y0,.k (.int 8)])]),.asg (.n 12) (.sub (.lst [.k (.str []),.k S3]) (.call (.gl (.glob 656)) [Y0,N2])),.asg (.n 8) (.band [.cmp .eq (.loc 12) (.k (.str [])),.bnot (.sub (.loc 11) N2)]),.ex (.me .append Y6 [.tup [.sub (.loc 10) N1,.k .none,.sub (.loc 11) N1]]),.asg (.n 5) (.bin .add (.bin .add (.bin .add (.bin .add (.bin .add Y5 (.k (.str [32]))) (.sub (.loc 10) N0)) (.k (.str [32,61,62,32]))) (.sub (.loc 11) N0)) (.loc 12))],.asg (.n 13) (.ite Y7 (.k .none) (.tup [.k S11,N0,Y2,.bi .tup [Y6]])),.ret (.cmp .eq (.call (.gl (.glob 705)) [.call (.gl (.glob 132)) [.bin .add Y5 (.k (.str [32,125]))]]) (.loc 13))] }
noncomputable def O9:ah:={ np:=0,nl:=5,dfl:=[],body:=[.asg (.ns [0,1]) (.tup [.call (.gl (.glob 663)) [.k (.str [97])],.tup [.k S4,N0,N2,.k .none]]),.asg (.ns [2,3]) (.tup [.tup [.k S31,N0,Y0,.call (.gl (.glob 663)) [.k (.str [117,56])]],.tup [.k (.str [111,114]),N0,.tup [.tup [.k S10,N0,N1],.tup [.k S10,N0,N2]]]]),.asg (.n 4) (.tup [.k S31,N0,Y0,.tup [.k S29,N0,.tup [.tup [.k (.str [86]),.tup [],.tup [.call (.gl (.glob 663)) [.k (.str [117,56])]]]]]]),.ret (.lst [.tup [.k (.str [91,97,59,32,52,48,57,54,93]),.tup [.k S41,N0,Y0,.k (.int 4096)]],.tup [.k (.str [91,97,59,32,52,48,57,55,93]),.k .none],.tup [.k (.str [91,97,59,32,51,117,56,93]),.k .none],.tup [.k (.str [91,97,59,32,51,117,115,105,122,101,93]),.tup [.k S41,N0,Y0,.k (.int 3)]],.tup [.k (.str [97,46,48,120,49]),.k .none],.tup [.k (.str [97,46,48,48]),.k .none],.tup [.k (.str [97,46,49,48]),.tup [.k S54,N0,Y0,.k (.str [49,48])]],.tup [.k (.str [83,32,123,32,48,120,48,58,32,97,32,125]),.k .none],.tup [.k (.str [83,32,123,32,48,58,32,97,32,125]),.tup [.k S58,N0,.tup [.tup [.k (.str [83]),.tup [],.tup []]],.tup [.tup [.k (.str [48]),Y0]]]],.tup [.k (.str [39,102,111,114,58,32,108,111,111,112,32,123,32,125]),.k .none],.tup [.k (.str [39,115,116,97,116,105,99,58,32,108,111,111,112,32,123,32,125]),.k .none],.tup [.k (.str [123,32,108,111,111,112,32,123,32,98,114,101,97,107,32,39,95,59,32,125,32,125]),.k .none],.tup [.k (.str [97,32,97,115,32,117,56,32,60,60,32,50]),.k .none],.tup [.k (.str [97,32,97,115,32,40,117,56,41,32,60,60,32,50]),.tup [.k S20,N0,.k S17,Y2,Y1]],.tup [.k (.str [40,97,32,97,115,32,117,56,41,32,60,60,32,50]),.tup [.k S20,N0,.k S17,Y2,Y1]],.tup [.k (.str [97,32,97,115,32,86,60,117,56,62,32,60,60,32,50]),.tup [.k S20,N0,.k S17,Y4,Y1]],.tup [.k (.str [97,32,97,115,32,95,32,60,60,32,50]),.tup [.k S20,N0,.k S17,.tup [.k S31,N0,Y0,.tup [.k (.str [105,110,102,101,114]),N0]],Y1]],.tup [.k (.str [123,32,108,101,116,32,49,32,124,32,50,32,61,32,97,59,32,125]),.k .none],.tup [.k (.str [123,32,108,101,116,32,40,49,32,124,32,50,41,32,61,32,97,59,32,125]),.tup [.k S35,N0,.tup [.tup [.k S34,N0,Y3,.k .none,Y0]],.k .none]],.tup [.k (.str [91,97,59,32,48,120,49,48,48,48,93]),.tup [.k S41,N0,Y0,.k (.int 4096)]]])] }
noncomputable def DK:ah:={ np:=1,nl:=10,dfl:=[],body:=[.asg (.ns [1,2]) (.tup [.call (.gl (.glob 649)) [Y0],.call (.gl (.glob 726)) []]),.asg (.ns [3,4,5]) (.tup [.tup [.k S4,N0,.k (.int 9),.k .none],.call (.gl (.glob 663)) [.k (.str [99])],.call (.gl (.glob 670)) [.tup [.k S4,N0,.k (.int 7),.k .none]]]),.asg (.n 6) (.tup [.k S11,N0,Y4,.tup [.tup [.tup [.k S10,N0,N0],.k .none,.tup [.k S9,N0,Y4,Y5,Y5]],.tup [.tup [.k S10,N0,N1],.k .none,Y3]]]),.ifs (.cmp .ne (.call (.gl (.glob 705)) [.call (.gl (.glob 132)) [.k (.str [109,97,116,99,104,32,99,32,123,32,48,32,61,62,32,105,102,32,99,32,123,32,55,32,125,32,101,108,115,101,32,123,32,55,32,125,32,49,32,61,62,32,57,32,125])]]) Y6) [.ret (.k (.bool false))] [],.ifs (.bor [.bnot (.call (.gl (.glob 712)) [Y1]),.bnot (.call (.gl (.glob 719)) [Y1])]) [.ret (.k (.bool false))] [],.forR 7 N2 [.asg (.ns [8,9]) (.sub Y2 (.call (.gl (.glob 656)) [Y1,.k (.int 20)])),.ifs (.cmp .ne (.call (.gl (.glob 705)) [.call (.gl (.glob 132)) [Y8]]) (.loc 9)) [.ret (.k (.bool false))] []],.ret (.k (.bool true))] }
noncomputable def look:List (Nat × ah)->Nat->Option ah
 | [],_=>none
 | p :: r,a=>if Nat.beq a p.1 then some p.2 else look r a
noncomputable def Ef:List (Nat × ah):=[(69,r69),(83,r83),(90,r90),(97,r97),(104,MB),(111,MC),(118,MD),(125,MF),(132,MG),(146,MH),(153,MI),(160,MJ),(168,I4),(175,MK),(183,I5),(190,ML),(197,MM),(204,MN),(219,MP),(226,MQ),(233,MR),(240,MT),(247,MU),(254,MV),(260,MW),(267,MX),(274,MY),(281,MZ),(288,N3),(295,N4),(302,N5),(309,N6),(316,N7),(323,N8),(330,N9),(337,Na),(344,Nb),(351,Nc),(358,Nd),(365,Nf),(372,Ng),(379,Nh),(386,Ni),(399,Nj),(406,Nk),(413,r413),(420,Nl),(427,Nm),(434,Nn),(441,Np),(448,Nq),(455,Nr),(462,Nt),(469,Nu),(476,Nv),(483,Nx),(490,Ny),(497,Nz),(504,NB),(511,NC),(518,ND),(525,NF),(532,NG),(539,NH),(546,NI),(553,NJ),(560,NK),(567,NL),(574,NN),(581,NO),(588,NP),(595,NQ),(602,NR),(609,NS),(616,NT),(623,NU),(630,NV),(635,NW),(642,NX),(649,NY),(656,NZ),(663,O0),(670,O1),(677,O2),(684,O3),(691,O4),(698,O5),(705,O6),(712,O7),(719,O8),(726,O9),(733,DK)]
noncomputable def tab (a:Nat):Option ah:=look Ef a
theorem LN:fnT 69=some r69:=by kernel_rfl
theorem Gy:fnT 83=some r83:=by kernel_rfl
theorem Gz:fnT 90=some r90:=by kernel_rfl
theorem GA:fnT 97=some r97:=by kernel_rfl
theorem z4:fnT 104=some MB:=by kernel_rfl
theorem F9:fnT 111=some MC:=by kernel_rfl
theorem qR:fnT 118=some MD:=by kernel_rfl
theorem Fb:fnT 125=some MF:=by kernel_rfl
theorem Fd:fnT 132=some MG:=by kernel_rfl
theorem Fe:fnT 146=some MH:=by kernel_rfl
theorem z5:fnT 153=some MI:=by kernel_rfl
theorem Ff:fnT 160=some MJ:=by kernel_rfl
theorem Fg:fnT 168=some I4:=by kernel_rfl
theorem z6:fnT 175=some MK:=by kernel_rfl
theorem z7:fnT 183=some I5:=by kernel_rfl
theorem z8:fnT 190=some ML:=by kernel_rfl
theorem uQ:fnT 197=some MM:=by kernel_rfl
theorem Fi:fnT 204=some MN:=by kernel_rfl
theorem KH:fnT 219=some MP:=by kernel_rfl
theorem KI:fnT 226=some MQ:=by kernel_rfl
theorem KJ:fnT 233=some MR:=by kernel_rfl
theorem KL:fnT 240=some MT:=by kernel_rfl
theorem KN:fnT 247=some MU:=by kernel_rfl
theorem KO:fnT 254=some MV:=by kernel_rfl
theorem KP:fnT 260=some MW:=by kernel_rfl
theorem KQ:fnT 267=some MX:=by kernel_rfl
theorem KR:fnT 274=some MY:=by kernel_rfl
theorem KS:fnT 281=some MZ:=by kernel_rfl
theorem KU:fnT 288=some N3:=by kernel_rfl
theorem KV:fnT 295=some N4:=by kernel_rfl
theorem KW:fnT 302=some N5:=by kernel_rfl
theorem KX:fnT 309=some N6:=by kernel_rfl
theorem KY:fnT 316=some N7:=by kernel_rfl
theorem KZ:fnT 323=some N8:=by kernel_rfl
theorem L1:fnT 330=some N9:=by kernel_rfl
theorem L3:fnT 337=some Na:=by kernel_rfl
theorem L4:fnT 344=some Nb:=by kernel_rfl
theorem L5:fnT 351=some Nc:=by kernel_rfl
theorem L6:fnT 358=some Nd:=by kernel_rfl
theorem L7:fnT 365=some Nf:=by kernel_rfl
theorem L8:fnT 372=some Ng:=by kernel_rfl
theorem La:fnT 379=some Nh:=by kernel_rfl
theorem Lb:fnT 386=some Ni:=by kernel_rfl
theorem Lc:fnT 399=some Nj:=by kernel_rfl
theorem Ld:fnT 406=some Nk:=by kernel_rfl
theorem Le:fnT 413=some r413:=by kernel_rfl
theorem Lf:fnT 420=some Nl:=by kernel_rfl
theorem Lh:fnT 427=some Nm:=by kernel_rfl
theorem Li:fnT 434=some Nn:=by kernel_rfl
theorem Lj:fnT 441=some Np:=by kernel_rfl
theorem Lk:fnT 448=some Nq:=by kernel_rfl
theorem Ll:fnT 455=some Nr:=by kernel_rfl
theorem Lm:fnT 462=some Nt:=by kernel_rfl
theorem Ln:fnT 469=some Nu:=by kernel_rfl
theorem Lo:fnT 476=some Nv:=by kernel_rfl
theorem Lp:fnT 483=some Nx:=by kernel_rfl
theorem Lq:fnT 490=some Ny:=by kernel_rfl
theorem Lr:fnT 497=some Nz:=by kernel_rfl
theorem Ls:fnT 504=some NB:=by kernel_rfl
theorem Lu:fnT 511=some NC:=by kernel_rfl
theorem Lv:fnT 518=some ND:=by kernel_rfl
theorem Lw:fnT 525=some NF:=by kernel_rfl
theorem Lx:fnT 532=some NG:=by kernel_rfl
theorem Ly:fnT 539=some NH:=by kernel_rfl
theorem Lz:fnT 546=some NI:=by kernel_rfl
theorem LA:fnT 553=some NJ:=by kernel_rfl
theorem LB:fnT 560=some NK:=by kernel_rfl
theorem LC:fnT 567=some NL:=by kernel_rfl
theorem LD:fnT 574=some NN:=by kernel_rfl
theorem LF:fnT 581=some NO:=by kernel_rfl
theorem LG:fnT 588=some NP:=by kernel_rfl
theorem LH:fnT 595=some NQ:=by kernel_rfl
theorem LI:fnT 602=some NR:=by kernel_rfl
theorem LJ:fnT 609=some NS:=by kernel_rfl
theorem LK:fnT 616=some NT:=by kernel_rfl
theorem LL:fnT 623=some NU:=by kernel_rfl
theorem LM:fnT 630=some NV:=by kernel_rfl
theorem Fj:fnT 635=some NW:=by kernel_rfl
theorem fP:fnT 642=some NX:=by kernel_rfl
theorem lI:fnT 649=some NY:=by kernel_rfl
theorem z9:fnT 656=some NZ:=by kernel_rfl
theorem Fo:fnT 663=some O0:=by kernel_rfl
theorem Fp:fnT 670=some O1:=by kernel_rfl
theorem uR:fnT 677=some O2:=by kernel_rfl
theorem Fq:fnT 684=some O3:=by kernel_rfl
theorem za:fnT 691=some O4:=by kernel_rfl
theorem Ft:fnT 698=some O5:=by kernel_rfl
theorem zb:fnT 705=some O6:=by kernel_rfl
theorem zc:fnT 712=some O7:=by kernel_rfl
theorem zd:fnT 719=some O8:=by kernel_rfl
theorem Fv:fnT 726=some O9:=by kernel_rfl
theorem Fw:fnT 733=some DK:=by kernel_rfl
inductive nu:List (Nat × ah)->Prop
 | nil:nu []
 | cons {a r l} (h:fnT a=some r) (t:nu l):nu ((a,r) :: l)
theorem nu.get {l:List (Nat × ah)} (t:nu l) {a:Nat} {r:ah} (h:look l a=some r):fnT a=some r:=by
 induction t with
 | nil=>cases h
 | @cons b q l e t ih =>
  unfold look at h
  cases k:Nat.beq a b <;> rw [k] at h
  ·exact ih h
  ·cases h;cases Nat.eq_of_beq_eq_true k;exact e
theorem qZ:∀ (l:List (Nat × ah)) (a:Nat) (r:ah),look l a=some r->(a,r) ∈ l
 | [],_,_,h=>by cases h
 | p :: t,a,r,h=>by
  unfold look at h
  cases k:Nat.beq a p.1 <;> rw [k] at h
  ·exact .tail _ (qZ t a r h)
  ·cases h;cases Nat.eq_of_beq_eq_true k;exact .head _
theorem mE {a:Nat} {r:ah} (h:tab a=some r):fnT a=some r :=
 nu.get (l:=Ef) (by unfold Ef;exact .cons LN <| .cons Gy <| .cons Gz <| .cons GA <| .cons z4 <| .cons F9 <| .cons qR <| .cons Fb <| .cons Fd <| .cons Fe <| .cons z5 <| .cons Ff <| .cons Fg <| .cons z6 <| .cons z7 <| .cons z8 <| .cons uQ <| .cons Fi <| .cons KH <| .cons KI <| .cons KJ <| .cons KL <| .cons KN <| .cons KO <| .cons KP <| .cons KQ <| .cons KR <| .cons KS <| .cons KU <| .cons KV <| .cons KW <| .cons KX <| .cons KY <| .cons KZ <| .cons L1 <| .cons L3 <| .cons L4 <| .cons L5 <| .cons L6 <| .cons L7 <| .cons L8 <| .cons La <| .cons Lb <| .cons Lc <| .cons Ld <| .cons Le <| .cons Lf <| .cons Lh <| .cons Li <| .cons Lj <| .cons Lk <| .cons Ll <| .cons Lm <| .cons Ln <| .cons Lo <| .cons Lp <| .cons Lq <| .cons Lr <| .cons Ls <| .cons Lu <| .cons Lv <| .cons Lw <| .cons Lx <| .cons Ly <| .cons Lz <| .cons LA <| .cons LB <| .cons LC <| .cons LD <| .cons LF <| .cons LG <| .cons LH <| .cons LI <| .cons LJ <| .cons LK <| .cons LL <| .cons LM <| .cons Fj <| .cons fP <| .cons lI <| .cons z9 <| .cons Fo <| .cons Fp <| .cons uR <| .cons Fq <| .cons za <| .cons Ft <| .cons zb <| .cons zc <| .cons zd <| .cons Fv <| .cons Fw <| .nil) h
end Mine.Internal.Q
end
section
namespace Mine.Internal.Q
open PySem
theorem QJ (z:Bool) (T:Nat->Option ah) (n:Nat):(evn z T (n+1)).x=aq z (evn z T n):=rfl
theorem QH (z:Bool) (T:Nat->Option ah) (n:Nat):(evn z T (n+1)).l=rF (evn z T n):=rfl
theorem QF (z:Bool) (T:Nat->Option ah) (n:Nat):(evn z T (n+1)).b=rE (evn z T n):=rfl
theorem QI (z:Bool) (T:Nat->Option ah) (n:Nat):(evn z T (n+1)).w=rG (evn z T n):=rfl
theorem QG (z:Bool) (T:Nat->Option ah) (n:Nat):(evn z T (n+1)).f=oq (evn z T n):=rfl
theorem KA (z:Bool) (T:Nat->Option ah) (n:Nat):(evn z T (n+1)).c=jO z T (evn z T n):=rfl
theorem R.bg {α β:Type} (a:α) (σ:Sto) (f:α->Sto->R β):(R.ok a σ).bind f=f a σ:=rfl
theorem R.bind_err {α β:Type} (σ:Sto) (f:α->Sto->R β):(R.err σ).bind f=.err σ:=rfl
theorem R.bind_no {α β:Type} (f:α->Sto->R β):(R.no).bind f=.no:=rfl
theorem Q9 {n dp a:Nat} {as ds:List D} {σ:Sto} {r:ah} (h:fnT a=some r) (ha:Nat.beq a aO=false) (hf:fill r as=some ds) :
  (evn false fnT (n+1)).c (dp+1) a as σ=((evn false fnT n).b dp (ds.map some++List.replicate (r.nl - r.np) Option.none) r.body σ).bind fun p σ=>.ok (flD p.1) σ:=by
 rw [KA]
 unfold jO
 simp only [ha,h,hf,Bool.false_eq_true,if_false]
noncomputable def br (j p:Nat) (d:Int):Cell:=.obj [(faN .rows,.cell j),(faN .at,.int (.ofNat p)),(faN .deep,.int d)]
structure AtW (σ:Sto) (i j:Nat) (rows:List D) (p:Nat) (d:Int):Prop where
 o:σ[i]?=some (br j p d)
 r:σ[j]?=some (.lst rows)
theorem yr {σ:Sto} {i:Nat} {f:Fa} {fs:List (List Nat × D)} (h:σ[i]?=some (.obj fs)):iH σ (.cell i) f=fs.lookup (faN f):=by
 show onJ none (·.lookup (faN f)) σ[i]?=_
 rw [h]
 rfl
theorem qz {σ:Sto} {i j p:Nat} {d:Int} (h:σ[i]?=some (br j p d)):iH σ (.cell i) .rows=some (.cell j):=yr h
theorem oQ {σ:Sto} {i j p:Nat} {d:Int} (h:σ[i]?=some (br j p d)):iH σ (.cell i) .at=some (.int (.ofNat p)):=yr h
theorem eK {σ:Sto} {i j p:Nat} {d:Int} (h:σ[i]?=some (br j p d)):iH σ (.cell i) .deep=some (.int d):=yr h
theorem AD {σ:Sto} {i:Nat} {f:Fa} {d:D} {fs:List (List Nat × D)} (h:σ[i]?=some (.obj fs)):bw σ (.cell i) f d=some (σ.set i (.obj (qb fs (faN f) d))):=by
 show onJ none (fun fs=>some (σ.set i (.obj (qb fs (faN f) d)))) σ[i]?=_
 rw [h]
 rfl
theorem u6 {σ:Sto} {i j p:Nat} {d:Int} {q:Nat} (h:σ[i]?=some (br j p d)):bw σ (.cell i) .at (.int (.ofNat q))=some (σ.set i (br j q d)):=AD h
theorem j5 {σ:Sto} {i j p:Nat} {d e:Int} (h:σ[i]?=some (br j p d)):bw σ (.cell i) .deep (.int e)=some (σ.set i (br j p e)):=AD h
theorem iY {σ:Sto} {i j p q:Nat} {d a:Int} {rows:List D} {t:D} (A:AtW σ i j rows p d) (hl:rows.length≤lim) (hq:rows[q]?=some t)
  (hm:(if (rows.length:Int) - 1 < Int.ofNat p+a then (rows.length:Int) - 1 else Int.ofNat p+a)=Int.ofNat q) {as:List D} (hf:fill I4 as=some [.cell i,.int a]) (n dp:Nat) :
  (evn false fnT (n+20)).c (dp+1) 168 as σ=.ok t σ:=by
 have hlt:q < rows.length:=fM hq
 have hlen:biD σ .len [.cell j]=.ok (.int (rows.length:Int)) σ:=by
  show onO .no (fun n:Nat=>if Nat.ble n lim=true then R.ok (D.int n) σ else .no) (onL none (fun ds=>some ds.length) σ[j]?)=_
  rw [A.r]
  exact if_pos (Nat.ble_eq.mpr hl)
 have hi:cU σ (.cell j) (.int (if (rows.length:Int) - 1 < Int.ofNat p+a then (rows.length:Int) - 1 else Int.ofNat p+a))=some t:=by
  rw [hm]
  show (if Nat.ble q lim=true then (match σ[j]? with | some (Cell.lst ds)=>ds[q]? | _=>none) else none)=_
  rw [A.r]
  exact (if_pos (Nat.ble_eq.mpr (Nat.le_trans (Nat.le_of_lt hlt) hl))).trans hq
 exact runC (m:=n) (j:=19) Fg rfl hf (fo (qz A.o) (fo (oQ A.o) (fn 1 (fo (qz A.o) (fd hlen (fn 2 (fo hi .z))))))) (by kernel_rfl)
theorem bI:∀ (x y:List Nat),eqN x y=true↔x=y
 | [],[]=>by simp [eqN]
 | [],_ :: _=>by simp [eqN]
 | _ :: _,[]=>by simp [eqN]
 | a :: r,b :: s=>by simp [eqN,bI r s,Nat.beq_eq]
theorem BN (x y:List Nat):eqN x y=(x == y):=by
 cases h:eqN x y with
 | true=>rw [(bI x y).mp h];simp
 | false=>symm;rw [beq_eq_false_iff_ne];intro e;rw [(bI x y).mpr e] at h;cases h
theorem jz {x:List Nat} (h:au x=true):PyData.strOk ⟨x.toArray⟩=true:=by
 unfold PyData.strOk
 simp only [List.all_toArray,List.all_eq_true,decide_eq_true_eq]
 unfold au at h
 simp only [List.all_eq_true] at h
 intro c hc
 exact Nat.lt_trans (Nat.blt_eq.mp (h c hc)) (by decide)
theorem str_beq (x y:List Nat):((⟨x.toArray⟩:Str) == (⟨y.toArray⟩:Str))=eqN x y:=by
 cases h:eqN x y with
 | true=>rw [(bI x y).mp h];exact beq_self_eq_true _
 | false =>
  refine beq_eq_false_iff_ne.mpr fun e=>?_
  have e2:x.toArray=y.toArray:=congrArg Str.cps e
  have e3:x=y:=by simpa using e2
  rw [(bI x y).mpr e3] at h;cases h
theorem cK {x:List Nat} (h:au x=true):aB (.str ⟨x.toArray⟩)=true:=by
 simp [aB,SeqAt.shaped,PyData.canLay0,PyData.depth,jz h]
theorem mw (x:Int):aB (.int x)=true:=by simp [aB,SeqAt.shaped,PyData.canLay0,PyData.depth]
theorem cS:aB .none=true:=by simp [aB,SeqAt.shaped,PyData.canLay0,PyData.depth]
theorem mz:aB (.tuple [])=true:=by simp [aB,SeqAt.shaped,PyData.canLay0,PyData.depth,PyData.canLayAll0,PyData.depthAll]
inductive EqV:D->D->Bool->Prop
 | str {x y:List Nat} (hx:au x=true) (hy:au y=true):EqV (.str x) (.str y) (eqN x y)
 | int (x y:Int):EqV (.int x) (.int y) (x == y)
 | none:EqV .none .none true
 | ns {y:List Nat} (hy:au y=true):EqV .none (.str y) false
 | sn {y:List Nat} (hy:au y=true):EqV (.str y) .none false
 | tup:EqV (.tup []) (.tup []) true
theorem F6 {a b:D} {r:Bool}:eqA a b=some r->EqV a b r:=by
 cases a with
 | str x=>cases b with
  | str y=>exact aN (G:=fun z=>z=some r->_) (fun e h=>Option.some.inj h ▸ .str (Bool.and_eq_true_iff.mp e).1 (Bool.and_eq_true_iff.mp e).2) fun _ h=>nn h
  | none=>exact aN (G:=fun z=>z=some r->_) (fun e h=>Option.some.inj h ▸ .sn e) fun _ h=>nn h
  | _=>exact fun h=>nn h
 | int x=>exact bK (G:=fun z=>z=some r->_) (fun h=>nn h) fun y e h=>e ▸ Option.some.inj h ▸ .int x y
 | none=>cases b with
  | none=>exact fun h=>Option.some.inj h ▸ .none
  | str y=>exact aN (G:=fun z=>z=some r->_) (fun e h=>Option.some.inj h ▸ .ns e) fun _ h=>nn h
  | _=>exact fun h=>nn h
 | tup x=>cases b with
  | tup y=>cases x with
   | nil=>cases y with
    | nil=>exact fun h=>Option.some.inj h ▸ .tup
    | cons _ _=>exact fun h=>nn h
   | cons _ _=>exact fun h=>nn h
  | _=>exact fun h=>nn h
 | _=>exact fun h=>nn h
theorem oV {a b:D} {r:Bool} (h:eqA a b=some r):∃ x y,a.py=some x∧b.py=some y∧aB x=true∧aB y=true∧PyData.eqv x y=r:=by
 cases F6 h with
 | str h1 h2=>exact ⟨_,_,by simp only [D.py],by simp only [D.py],cK h1,cK h2,by simp only [PyData.eqv];exact str_beq _ _⟩
 | int p q=>exact ⟨.int p,.int q,by simp only [D.py],by simp only [D.py],mw _,mw _,by simp only [PyData.eqv]⟩
 | none=>exact ⟨_,_,by simp only [D.py],by simp only [D.py],cS,cS,by simp only [PyData.eqv]⟩
 | ns e=>exact ⟨_,_,by simp only [D.py],by simp only [D.py],cS,cK e,by simp only [PyData.eqv]⟩
 | sn e=>exact ⟨_,_,by simp only [D.py],by simp only [D.py],cK e,cS,by simp only [PyData.eqv]⟩
 | tup=>exact ⟨_,_,by simp only [D.py,D.pys,Option.map],by simp only [D.py,D.pys,Option.map],mz,mz,by simp only [PyData.eqv,PyData.eqvAll]⟩
theorem vt {σ:Sto} {L:Nat} {ds:List D} {xs:List PyData} (h:σ[L]?=some (.lst ds)) (g:D.pys ds=some xs):D.pyC σ (.cell L)=some (.list xs):=by
 show onL none _ σ[L]?=_
 rw [h]
 exact congrArg (Option.map _) g
theorem gk {σ:Sto} {a:D} {x:PyData} (h:a.py=some x):a.pyC σ=some x:=by
 cases a with
 | cell i=>exact nn h
 | _=>exact h
theorem lF {σ:Sto} {f:Bool->Bool} {a b:D} {x y:PyData} (h1:a.pyC σ=some x) (h2:b.pyC σ=some y) (h3:aB x=true) (h4:aB y=true):yQ σ f a b=some (.bool (f (PyData.eqv x y))):=by
 unfold yQ
 rw [h1,h2]
 exact if_pos (Bool.and_eq_true_iff.mpr ⟨h3,h4⟩)
theorem jd {σ:Sto} {a b:D} {r:Bool} (h:eqA a b=some r):aV σ .eq a b=some (.bool r):=by
 obtain ⟨x,y,h1,h2,h3,h4,h5⟩:=oV h
 exact h5 ▸ lF (f:=fun b=>b) (gk h1) (gk h2) h3 h4
theorem yL {σ:Sto} {a b:D} {r:Bool} (h:eqA a b=some r):aV σ .ne a b=some (.bool (!r)):=by
 obtain ⟨x,y,h1,h2,h3,h4,h5⟩:=oV h
 exact h5 ▸ lF (f:=fun b=>!b) (gk h1) (gk h2) h3 h4
theorem mO {f:Bool->Bool} {a:D} {ds:List D} {x:PyData} {ys:List PyData} (h1:a.py=some x) (h2:D.pys ds=some ys) (h3:aB x=true) (h4:aB (.tuple ys)=true):jA f a ds=some (.bool (f (lM x ys))):=by
 unfold jA
 rw [h1,h2]
 exact if_pos (Bool.and_eq_true_iff.mpr ⟨h3,h4⟩)
theorem sU {d:D} {x:PyData} (hd:dG d=true) (h:d.py=some x):x.depth=0∨x.depth=1:=by
 cases d <;> simp [dG] at hd <;> simp only [D.py] at h <;> cases h <;> simp [PyData.depth]
theorem zv {a:D} {x:PyData} (hx:a.py=some x):∀ (ds:List D) (r:Bool),inA a ds=some r->ds.all dG=true->∃ ys,D.pys ds=some ys∧PyData.canLayAll0 ys=true∧PyData.depthAll ys≤1∧lM x ys=r:=by
 intro ds
 induction ds with
 | nil=>intro r h _;cases h;exact ⟨[],by simp only [D.pys],by simp [PyData.canLayAll0],by simp [PyData.depthAll],rfl⟩
 | cons d t ih =>
  intro r h hs
  simp only [List.all_cons,Bool.and_eq_true] at hs
  revert h
  refine cJ (G:=fun z=>z=some r->_) (fun h=>nn h) fun p h1=>cJ (G:=fun z=>z=some r->_) (fun h=>nn h) fun q h2 h=>?_
  ·cases h
   obtain ⟨ys,e1,e2,e3,e4⟩:=ih q h2 hs.2
   obtain ⟨y,x',f1,f2,f3,f4,f5⟩:=oV h1
   rw [hx] at f2;cases f2
   refine ⟨y :: ys,by simp only [D.pys,f1,e1],?_,?_,?_⟩
   ·simp only [PyData.canLayAll0,e2,Bool.and_true]
    exact SeqAt.canLay_of_shaped f3
   ·have:=sU hs.1 f1
    exact Nat.max_le.mpr ⟨this.elim (fun e=>Nat.le_trans (Nat.le_of_eq e) (Nat.zero_le _)) Nat.le_of_eq,e3⟩
   ·simp only [lM,List.any_cons,f5]
    simp only [lM] at e4
    rw [e4]
theorem Qd {d:D} (h:dG d=true) (ha:∀ x,d=.str x->au x=true):∃ x,d.py=some x∧aB x=true:=by
 cases d <;> simp [dG] at h
 ·exact ⟨_,by simp only [D.py],cS⟩
 ·exact ⟨_,by simp only [D.py],cK (ha _ rfl)⟩
end Mine.Internal.Q
end
section
namespace Mine.Internal.Q
open PySem
theorem bV {σ:Sto} {i j p:Nat} {d:Int} (h:σ[i]?=some (br j p d)):ig σ (.cell i)=true:=by
 show onJ false (fun _=>true) σ[i]?=true
 rw [h]
 rfl
structure Tok (t:D) (k x:List Nat) (p:Int):Prop where
 e:∃ v w,t=aI k x p v w
 k:au k=true
 x:au x=true
section
variable {σ:Sto} {i j p:Nat} {d:Int} {rows:List D} {t:D} {k y:List Nat} {sp:Int}
theorem vq {p L:Nat} (h:p < L):¬ ((L:Int) - 1 < (p:Int)):=Int.not_lt.mpr (Int.le_sub_one_of_lt (Int.ofNat_lt.mpr h))
theorem MA (p:Nat):((p+1:Nat):Int)+Int.negSucc 0=(p:Int):=Int.add_neg_cancel_right (p:Int) 1
theorem gE (A:AtW σ i j rows p d) (hl:rows.length≤lim) (hq:rows[p]?=some t) (n dp:Nat) :
  (evn false fnT (n+20)).c (dp+1) 168 [.cell i] σ=.ok t σ:=by
 have hlt:p < rows.length:=(List.getElem?_eq_some_iff.mp hq).1
 refine iY (a:=0) A hl hq ?_ rfl n dp
 exact if_neg (vq hlt)
theorem En (A:AtW σ i j rows p d) (hl:rows.length≤lim) (hq:rows[p]?=some t) (n dp:Nat) :
  (evn false fnT (n+20)).c (dp+1) 168 [.cell i,.int 0] σ=.ok t σ:=by
 have hlt:p < rows.length:=(List.getElem?_eq_some_iff.mp hq).1
 refine iY (a:=0) A hl hq ?_ rfl n dp
 exact if_neg (vq hlt)
theorem Eo (A:AtW σ i j rows p d) (hl:rows.length≤lim) (hq:rows[p+1]?=some t) (n dp:Nat) :
  (evn false fnT (n+20)).c (dp+1) 168 [.cell i,.int 1] σ=.ok t σ:=by
 have hlt:p+1 < rows.length:=(List.getElem?_eq_some_iff.mp hq).1
 refine iY (a:=1) (q:=p+1) A hl hq ?_ rfl n dp
 exact if_neg (vq hlt)
theorem Ep (A:AtW σ i j rows (p+1) d) (hl:rows.length≤lim) (hq:rows[p]?=some t) (n dp:Nat) :
  (evn false fnT (n+20)).c (dp+1) 168 [.cell i,.int (.negSucc 0)] σ=.ok t σ:=by
 have hlt:p < rows.length:=(List.getElem?_eq_some_iff.mp hq).1
 refine iY (a:=.negSucc 0) (q:=p) A hl hq ?_ rfl n dp
 rw [if_neg (by simp only [Int.ofNat_eq_natCast];rw [MA];exact vq hlt)]
 simp only [Int.ofNat_eq_natCast]
 exact MA p
theorem iO {y:List Nat} (hy:au y=true) (l:List (List Nat)) (hl:l.all au=true) (f:Bool->Bool):jA f (.str y) (l.map .str)=some (.bool (f (inN y l))):=by
 have a2:∀ (l:List (List Nat)),l.all au=true->inA (.str y) (l.map .str)=some (inN y l)∧(l.map D.str).all dG=true:=by
  intro l
  induction l with
  | nil=>exact fun _=>⟨rfl,rfl⟩
  | cons a r ih =>
   intro h
   obtain ⟨h1,h2⟩:=Bool.and_eq_true_iff.mp h
   obtain ⟨i1,i2⟩:=ih h2
   refine ⟨?_,i2⟩
   show onO none (fun a=>onO none (fun b=>some (a || b)) (inA (.str y) (r.map .str))) (if (au a && au y)=true then some (eqN a y) else none)=_
   rw [i1,if_pos (Bool.and_eq_true_iff.mpr ⟨h1,hy⟩)]
   rfl
 obtain ⟨i1,i2⟩:=a2 l hl
 obtain ⟨ys,e1,e2,e3,e4⟩:=zv (a:=.str y) (x:=.str ⟨y.toArray⟩) (by simp only [D.py]) _ _ i1 i2
 have hs:aB (.tuple ys)=true:=by
  simp only [aB,SeqAt.shaped,PyData.canLay0,PyData.depth,e2,Bool.true_and]
  exact decide_eq_true (Nat.le_trans (Nat.succ_le_succ e3) (by decide))
 exact e4 ▸ mO (by simp only [D.py]) e1 (cK hy) hs
theorem GN {k:List Nat} (hk:au k=true) (σ:Sto):aV σ .inn (.str k) (.tup [.str af,.str aj])=some (.bool (eqN af k || eqN aj k)):=by
 have h:=iO hk [af,aj] (by decide) fun b=>b
 rw [show inN k [af,aj]=(eqN af k || eqN aj k) from congrArg _ (Bool.or_false _)] at h
 exact h
theorem eq_str {k x:List Nat} (hk:au k=true) (hx:au x=true) (σ:Sto):aV σ .eq (.str k) (.str x)=some (.bool (eqN k x)) :=
 jd (if_pos (Bool.and_eq_true_iff.mpr ⟨hk,hx⟩))
theorem ne_str {k x:List Nat} (hk:au k=true) (hx:au x=true) (σ:Sto):aV σ .ne (.str k) (.str x)=some (.bool (!eqN k x)) :=
 yL (if_pos (Bool.and_eq_true_iff.mpr ⟨hk,hx⟩))
theorem nP {q:Nat} {a:Int} {x:List Nat} {as:List D} (A:AtW σ i j rows p d) (T:Tok t k y sp) (hx:au x=true)
  (hp:∀ n dp,(evn false fnT (n+20)).c (dp+1) 168 [.cell i,.int a] σ=.ok t σ) (hf:fill I5 as=some [.cell i,.str x,.int a]) (n dp:Nat) :
  (evn false fnT (n+40)).c (dp+2) 183 as σ=.ok (.bool ((eqN af k || eqN aj k) && eqN y x)) σ:=by
 obtain ⟨⟨v,w,rfl⟩,hk,hy⟩:=T
 have h1:=GN hk σ
 have h3:=eq_str hy hx σ
 generalize (eqN af k || eqN aj k)=b at h1 ⊢
 cases b with
 | false=>exact runC (m:=n) (j:=39) z7 rfl hf (fb (bV A.o) (fd (hp (n+17) dp) (fn 1 (fo h1 .z)))) (by kernel_rfl)
 | true=>exact runC (m:=n) (j:=39) z7 rfl hf (fb (bV A.o) (fd (hp (n+17) dp) (fn 1 (fo h1 (fn 1 (fo h3 .z)))))) (by kernel_rfl)
end
end Mine.Internal.Q
end
section
namespace Mine.Internal.Q
open PySem
section
variable {σ:Sto} {i j p:Nat} {d:Int} {rows:List D} {t:D} {k y:List Nat} {sp:Int}
theorem vU {x:List Nat} (A:AtW σ i j rows p d) (hl:rows.length≤lim) (hq:rows[p]?=some t) (T:Tok t k y sp) (hx:au x=true) (n dp:Nat) :
  (evn false fnT (n+40)).c (dp+2) 183 [.cell i,.str x] σ=.ok (.bool ((eqN af k || eqN aj k) && eqN y x)) σ :=
 nP (q:=p) (a:=0) A T hx (fun n dp=>En A hl hq n dp) rfl n dp
theorem Bj {x:List Nat} (A:AtW σ i j rows p d) (hl:rows.length≤lim) (hq:rows[p+1]?=some t) (T:Tok t k y sp) (hx:au x=true) (n dp:Nat) :
  (evn false fnT (n+40)).c (dp+2) 183 [.cell i,.str x,.int 1] σ=.ok (.bool ((eqN af k || eqN aj k) && eqN y x)) σ :=
 nP (q:=p) (a:=1) A T hx (fun n dp=>Eo A hl hq n dp) rfl n dp
theorem vV (A:AtW σ i j rows p d) (hl:rows.length≤lim) (hq:rows[p]?=some t) (he:∃ y sp v w,t=aI k y sp v w) (hk:au k=true) (n dp:Nat) :
  (evn false fnT (n+40)).c (dp+2) 175 [.cell i] σ=.ok t (if eqN k fS then σ else σ.set i (br j (p+1) d)):=by
 obtain ⟨y,sp,v,w,rfl⟩:=he
 have h1:=ne_str hk (x:=fS) (by decide) σ
 have h3:bw σ (.cell i) .at (.int (↑p+1))=some (σ.set i (br j (p+1) d)):=u6 (q:=p+1) A.o
 generalize eqN k fS=b at h1 ⊢
 cases b with
 | true=>exact runC (m:=n) (j:=39) z6 rfl rfl (fb (bV A.o) (fd (gE A hl hq (n+17) dp) (fn 1 (fo h1 .z)))) (by kernel_rfl)
 | false=>exact runC (m:=n) (j:=39) z6 rfl rfl (fb (bV A.o) (fd (gE A hl hq (n+17) dp) (fn 1 (fo h1 (fo (oQ A.o) (fs h3 .z)))))) (by kernel_rfl)
theorem J0 (A:AtW σ i j rows p d) (hl:rows.length≤lim) (hq:rows[p]?=some t) (T:Tok t k y sp) (n dp:Nat) :
  (evn false fnT (n+40)).c (dp+2) 175 [.cell i] σ=.ok t (if eqN k fS then σ else σ.set i (br j (p+1) d)):=by
 obtain ⟨v,w,e⟩:=T.e
 exact vV A hl hq ⟨y,sp,v,w,e⟩ T.k n dp
theorem CE {k:List Nat} (h:(eqN af k || eqN aj k)=true):eqN k fS=false:=by
 simp only [Bool.or_eq_true] at h
 rcases h with h | h <;> rw [← (bI _ _).mp h] <;> rfl
theorem Bh {x:List Nat} (A:AtW σ i j rows p d) (hl:rows.length≤lim) (hq:rows[p]?=some t) (T:Tok t k y sp) (hx:au x=true) (hxl:Nat.ble x.length 100=true) (n dp:Nat) :
  (evn false fnT (n+70)).c (dp+3) 190 [.cell i,.str x] σ=if ((eqN af k || eqN aj k) && eqN y x) then .ok t (σ.set i (br j (p+1) d)) else .err σ:=by
 have h1:∀ n dp,(evn false fnT (n+40)).c (dp+2) 183 [.cell i,.str x] σ=.ok (.bool ((eqN af k || eqN aj k) && eqN y x)) σ:=vU A hl hq T hx
 have h2:=J0 A hl hq T
 have h3:bx σ .add (.str x) (.str [32,105,115,32,109,105,115,115,105,110,103])=.ok (.str (x++[32,105,115,32,109,105,115,115,105,110,103])) σ :=
  if_pos (Nat.ble_eq.mpr (Nat.le_trans (Nat.add_le_add_right (Nat.ble_eq.mp hxl) 11) (by decide)))
 cases hh:((eqN af k || eqN aj k) && eqN y x) with
 | true =>
  rw [hh] at h1
  rw [CE (Bool.and_eq_true_iff.mp hh).1] at h2
  exact runC (m:=n) (j:=69) z8 rfl rfl (fb (bV A.o) (fd (h1 (n+26) dp) (fb (bV A.o) (fd (h2 (n+26) dp) .z)))) (by kernel_rfl)
 | false =>
  rw [hh] at h1
  obtain ⟨⟨v,w,rfl⟩,hk,hy⟩:=T
  exact runC (m:=n) (j:=69) z8 rfl rfl (fb (bV A.o) (fd (h1 (n+26) dp) (fd h3 (fb (bV A.o) (fd (gE A hl hq (n+45) (dp+1)) (fn 1 .z)))))) (by kernel_rfl)
theorem M3 {y:List Nat} (hy:au y=true) (σ:Sto):aV σ .inn (.str y) (.tup (kwL.map .str))=some (.bool (inN y kwL)):=iO hy kwL (by decide) fun b=>b
theorem IZ (A:AtW σ i j rows p d) (hl:rows.length≤lim) (hq:rows[p]?=some t) (T:Tok t k y sp) (n dp:Nat) :
  (evn false fnT (n+70)).c (dp+3) 197 [.cell i] σ=if (eqN k aj && !inN y kwL) then .ok (.tup [.str y,.int sp]) (σ.set i (br j (p+1) d)) else .err σ:=by
 obtain ⟨⟨v,w,rfl⟩,hk,hy⟩:=T
 have h1:=ne_str hk (x:=aj) (by decide) σ
 have h2:=M3 hy σ
 have h3:bw σ (.cell i) .at (.int (↑p+1))=some (σ.set i (br j (p+1) d)):=u6 (q:=p+1) A.o
 have h0:=gE A hl hq (n+47) (dp+1)
 generalize eqN k aj=b at h1 ⊢
 generalize inN y kwL=b' at h2 ⊢
 cases b with
 | false=>exact runC (m:=n) (j:=69) uQ rfl rfl (fb (bV A.o) (fd h0 (fn 1 (fo h1 (fn 1 .z))))) (by kernel_rfl)
 | true=>cases b' with
  | true=>exact runC (m:=n) (j:=69) uQ rfl rfl (fb (bV A.o) (fd h0 (fn 1 (fo h1 (fn 1 (fo h2 (fn 1 .z))))))) (by kernel_rfl)
  | false=>exact runC (m:=n) (j:=69) uQ rfl rfl (fb (bV A.o) (fd h0 (fn 1 (fo h1 (fn 1 (fo h2 (fo (oQ A.o) (fs h3 (fn 2 .z))))))))) (by kernel_rfl)
theorem Er (A:AtW σ i j rows p d) (hl:rows.length≤lim) (hq:rows[p]?=some t) (T:Tok t af [62] sp) (n dp:Nat) :
  (evn false fnT (n+70)).c (dp+3) 204 [.cell i] σ=.ok (.tup [.str af,.str [62],.int sp,.none,.none]) (σ.set i (br j (p+1) d)):=by
 obtain ⟨⟨v,w,rfl⟩,hk,hy⟩:=T
 have h1:=ne_str hk (x:=af) (by decide) σ
 have h2:=ne_str (k:=[62]) (x:=[62]) (by decide) (by decide) σ
 have h4:=eq_str (k:=[62]) (x:=[62]) (by decide) (by decide) σ
 have h3:bw σ (.cell i) .at (.int (↑p+1))=some (σ.set i (br j (p+1) d)):=u6 (q:=p+1) A.o
 exact runC (m:=n) (j:=69) Fi rfl rfl (fb (bV A.o) (fd (gE A hl hq (n+47) (dp+1)) (fn 1 (fo h1 (fn 2 (fo h2 (fn 1 (fo h4 (fo (oQ A.o) (fs h3 (fn 1 .z))))))))))) (by kernel_rfl)
theorem rW (A:AtW σ i j rows p d) (n dp:Nat) :
  (evn false fnT (n+40)).c (dp+2) 160 [.cell i] σ=.ok .none (σ.set i (br j p (d - 1))) :=
 runC (m:=n) (j:=39) Ff rfl rfl (fo (eK A.o) (fs (j5 (e:=d - 1) A.o) .z)) (by kernel_rfl)
theorem Bg (A:AtW σ i j rows p d) (hl:rows.length≤lim) (hq:rows[p]?=some t) (T:∃ k y sp v w,t=aI k y sp v w) (n dp:Nat) :
  (evn false fnT (n+70)).c (dp+3) 153 [.cell i] σ=if d+1≤60 then .ok .none (σ.set i (br j p (d+1))) else .err (σ.set i (br j p (d+1))):=by
 obtain ⟨k,y,sp,v,w,rfl⟩:=T
 have hij:i ≠ j:=fun e=>by have h1:=A.o;rw [e,A.r] at h1;cases h1
 have A2:AtW (σ.set i (br j p (d+1))) i j rows p (d+1):=⟨dU A.o,jI hij A.r⟩
 refine aN (G:=fun r=>_=r) (fun h=>?_) fun h=>?_
 ·have h5:aV (σ.set i (br j p (d+1))) .gt (.int (d+1)) (.int 60)=some (.bool false):=congrArg (fun b=>some (D.bool b)) (decide_eq_false (Int.not_lt.mpr h))
  exact runC (m:=n) (j:=69) z5 rfl rfl (fo (eK A.o) (fs (j5 (e:=d+1) A.o) (fo (eK A2.o) (fo h5 .z)))) (by kernel_rfl)
 ·have h5:aV (σ.set i (br j p (d+1))) .gt (.int (d+1)) (.int 60)=some (.bool true):=congrArg (fun b=>some (D.bool b)) (decide_eq_true (Int.not_le.mp h))
  exact runC (m:=n) (j:=69) z5 rfl rfl (fo (eK A.o) (fs (j5 (e:=d+1) A.o) (fo (eK A2.o) (fo h5 (fb (bV A2.o) (fd (gE A2 hl hq (n+44) (dp+1)) (fn 1 .z))))))) (by kernel_rfl)
end
end Mine.Internal.Q
end
section
namespace Mine.Internal.Q
open PySem
mutual
inductive DR (i:Nat) (μ:List Nat):D->D->Prop
 | none:DR i μ .none .none
 | bool (b:Bool):DR i μ (.bool b) (.bool b)
 | int (n:Int):DR i μ (.int n) (.int n)
 | str (s:List Nat):DR i μ (.str s) (.str s)
 | dct (kvs:List (List Nat × D)):DR i μ (.dct kvs) (.dct kvs)
 | glob (a:Nat):DR i μ (.glob a) (.glob a)
 | tup {as cs:List D}:DRL i μ as cs->DR i μ (.tup as) (.tup cs)
 | cell {k q:Nat}:μ[k]?=some q->DR i μ (.cell k) (.cell q)
 | words:DR i μ (.fl []) (.cell i)
inductive DRL (i:Nat) (μ:List Nat):List D->List D->Prop
 | nil:DRL i μ [] []
 | cons {a c:D} {as cs:List D}:DR i μ a c->DRL i μ as cs->DRL i μ (a :: as) (c :: cs)
end
theorem pn {μ ν:List Nat} {k q:Nat} (h:μ[k]?=some q):(μ++ν)[k]?=some q:=by
 have hk:k < μ.length:=by
  rcases Nat.lt_or_ge k μ.length with h' | h'
  ·exact h'
  ·rw [List.getElem?_eq_none h'] at h;cases h
 rw [List.getElem?_append_left hk];exact h
theorem drm {i:Nat} {μ:List Nat} (ν:List Nat):(∀ a c,DR i μ a c->DR i (μ++ν) a c)∧∀ a c,DRL i μ a c->DRL i (μ++ν) a c :=
 ⟨fun _ _ h=>DR.rec (motive_1:=fun a c _=>DR i (μ++ν) a c) (motive_2:=fun a c _=>DRL i (μ++ν) a c) .none .bool .int .str .dct .glob (fun _ h=>.tup h) (fun h=>.cell (pn h)) .words .nil (fun _ _ h t=>.cons h t) h,
 fun _ _ h=>DRL.rec (motive_1:=fun a c _=>DR i (μ++ν) a c) (motive_2:=fun a c _=>DRL i (μ++ν) a c) .none .bool .int .str .dct .glob (fun _ h=>.tup h) (fun h=>.cell (pn h)) .words .nil (fun _ _ h t=>.cons h t) h⟩
theorem DR.mono {i:Nat} {μ:List Nat} (ν:List Nat) {a c:D} (h:DR i μ a c):DR i (μ++ν) a c:=(drm ν).1 a c h
theorem DRL.mono {i:Nat} {μ:List Nat} (ν:List Nat) {a c:List D} (h:DRL i μ a c):DRL i (μ++ν) a c:=(drm ν).2 a c h
theorem DRL.ind {i:Nat} {μ:List Nat} {P:List D->List D->Prop} (n:P [] []) (k:∀ a b as bs,DR i μ a b->DRL i μ as bs->P as bs->P (a :: as) (b :: bs)) {as bs:List D} (h:DRL i μ as bs):P as bs :=
 DRL.rec (motive_1:=fun _ _ _=>True) (motive_2:=fun as bs _=>P as bs) trivial (fun _=>trivial) (fun _=>trivial) (fun _=>trivial) (fun _=>trivial) (fun _=>trivial) (fun _ _=>trivial) (fun _=>trivial) trivial n (fun d l _ ih=>k _ _ _ _ d l ih) h
theorem DRL.length {i:Nat} {μ:List Nat} {as cs:List D} (h:DRL i μ as cs):as.length=cs.length:=h.ind (P:=fun as cs=>as.length=cs.length) rfl fun _ _ _ _ _ _ e=>congrArg (·+1) e
theorem DRL.get {i:Nat} {μ:List Nat} {as cs:List D} {k:Nat} {a:D} (h:DRL i μ as cs):as[k]?=some a->∃ c,cs[k]?=some c∧DR i μ a c :=
 h.ind (P:=fun as cs=>∀ k,as[k]?=some a->∃ c,cs[k]?=some c∧DR i μ a c) (fun _ e=>nn (List.getElem?_nil.symm.trans e)) (fun _ b _ _ d _ ih k e=>match k with
  | 0=>⟨b,rfl,Option.some.inj e ▸ d⟩
  | k+1=>ih k e) k
theorem DRL.append {i:Nat} {μ:List Nat} {as cs bs es:List D} (h:DRL i μ as cs) (h2:DRL i μ bs es):DRL i μ (as++bs) (cs++es):=h.ind (P:=fun as cs=>DRL i μ (as++bs) (cs++es)) h2 fun _ _ _ _ d _ t=>.cons d t
theorem DRL.reverse {i:Nat} {μ:List Nat} {as cs:List D} (h:DRL i μ as cs):DRL i μ as.reverse cs.reverse:=h.ind (P:=fun as cs=>DRL i μ as.reverse cs.reverse) .nil fun _ _ _ _ d _ t=>by rw [List.reverse_cons,List.reverse_cons];exact t.append (.cons d .nil)
theorem DRL.drop {i:Nat} {μ:List Nat} {as cs:List D} (n:Nat) (h:DRL i μ as cs):DRL i μ (as.drop n) (cs.drop n) :=
 h.ind (P:=fun as cs=>∀ n,DRL i μ (as.drop n) (cs.drop n)) (fun n=>by rw [List.drop_nil];exact .nil) (fun _ _ _ _ d t ih n=>match n with
  | 0=>.cons d t
  | n+1=>ih n) n
noncomputable def Clo (d:D):Prop:=∀ i μ,DR i μ d d
noncomputable def oF (d:List D):Prop:=∀ i μ,DRL i μ d d
theorem jc {d:D} (h:dX d=true):Clo d:=by
 intro i μ
 cases d with
 | none=>exact .none
 | bool b=>exact .bool b
 | int n=>exact .int n
 | str s=>exact .str s
 | dct k=>exact .dct k
 | glob a=>exact .glob a
 | tup ds =>
  refine .tup ?_
  simp only [dX] at h
  induction ds with
  | nil=>exact .nil
  | cons d r ih =>
   simp only [List.all_cons,Bool.and_eq_true] at h
   refine .cons ?_ (ih h.2)
   have h1:=h.1
   cases d <;> simp [dG] at h1
   ·exact .none
   ·exact .str _
 | fl _=>simp [dX] at h
 | cell _=>simp [dX] at h
inductive LR (i:Nat) (μ:List Nat):Loc->Loc->Prop
 | nil:LR i μ [] []
 | skip {r t:Loc}:LR i μ r t->LR i μ (none :: r) (none :: t)
 | keep {a c:D} {r t:Loc}:DR i μ a c->LR i μ r t->LR i μ (some a :: r) (some c :: t)
theorem LR.mono {i:Nat} {μ:List Nat} (ν:List Nat) {r t:Loc} (h:LR i μ r t):LR i (μ++ν) r t:=LR.rec (motive:=fun r t _=>LR i (μ++ν) r t) .nil (fun _ h=>.skip h) (fun d _ h=>.keep (d.mono ν) h) h
theorem LR.get {i:Nat} {μ:List Nat} {r t:Loc} {k:Nat} {a:D} (h:LR i μ r t):r[k]?=some (some a)->∃ c,t[k]?=some (some c)∧DR i μ a c :=
 LR.rec (motive:=fun r t _=>∀ k,r[k]?=some (some a)->∃ c,t[k]?=some (some c)∧DR i μ a c) (fun _ e=>nn (List.getElem?_nil.symm.trans e)) (fun _ ih k e=>match k with
  | 0=>nn (Option.some.inj e)
  | k+1=>ih k e) (fun {_ c _ _} d _ ih k e=>match k with
  | 0=>⟨c,rfl,Option.some.inj (Option.some.inj e) ▸ d⟩
  | k+1=>ih k e) h k
theorem LR.put {i:Nat} {μ:List Nat} {a c:D} (d:DR i μ a c) {r t:Loc} (k:Nat) (h:LR i μ r t):LR i μ (put r k a) (put t k c) :=
 LR.rec (motive:=fun r t _=>∀ k,LR i μ (Mine.Internal.put r k a) (Mine.Internal.put t k c)) (fun _=>.nil) (fun t ih k=>match k with
  | 0=>.keep d t
  | k+1=>.skip (ih k)) (fun e t ih k=>match k with
  | 0=>.keep d t
  | k+1=>.keep e (ih k)) h k
theorem LR.eW {i:Nat} {μ:List Nat}:∀ (is:List Nat) {r t r2:Loc} {as cs:List D},LR i μ r t->DRL i μ as cs->eW r is as=some r2->∃ t2,Mine.Internal.eW t is cs=some t2∧LR i μ r2 t2:=by
 intro is
 induction is with
 | nil =>
  intro r t r2 as cs h l e
  cases l with
  | nil=>exact ⟨t,rfl,Option.some.inj e ▸ h⟩
  | cons=>exact nn e
 | cons k is ih =>
  intro r t r2 as cs h l e
  cases l with
  | nil=>exact nn e
  | cons d l=>exact ih (h.put d k) l e
theorem LR.bW {i:Nat} {μ:List Nat} {r t r2:Loc} {a c:D} {g:Tg} (h:LR i μ r t) (d:DR i μ a c) (e:bW r g a=some r2):∃ t2,Mine.Internal.bW t g c=some t2∧LR i μ r2 t2:=by
 cases g with
 | n k=>exact ⟨_,rfl,Option.some.inj e ▸ h.put d k⟩
 | ns is =>
  cases d with
  | tup l =>
   by_cases hn:decide is.Nodup=true
   ·obtain ⟨t2,e2,q⟩:=LR.eW is h l ((if_pos hn).symm.trans e)
    exact ⟨t2,(if_pos hn).trans e2,q⟩
   ·exact nn ((if_neg hn).symm.trans e)
  | _=>exact nn e
noncomputable def Fr1 (i:Nat) (σ σ':Sto):Prop:=σ.length≤σ'.length∧∀ k,k < σ.length->k ≠ i->σ'[k]?=σ[k]?
noncomputable def Claim (N e:Nat) (rows:List D) (p n a:Nat) (as:List D) (need:Nat) (res:Option D):Prop :=
 ∀ (σ:Sto) (i j:Nat) (d:Int) (m dp:Nat),AtW σ i j rows p d->d≤60->N≤m->e≤dp ->
  match res with
  | none=>∃ σ',(evn false fnT m).c dp a (.cell i :: as) σ=.err σ'∧Fr1 i σ σ'
  | some t=>(d+need≤60->∃ σ',(evn false fnT m).c dp a (.cell i :: as) σ=.ok t σ'∧Fr1 i σ σ'∧σ'[i]?=some (br j (p+n) d)) ∧
    (60 < d+need->∃ σ',(evn false fnT m).c dp a (.cell i :: as) σ=.err σ'∧Fr1 i σ σ')
noncomputable def i9 (N e:Nat) (rows:List D) (p a:Nat) (as:List D) (t:D):Prop :=
 ∀ (σ:Sto) (i j:Nat) (d:Int) (m dp:Nat),AtW σ i j rows p d->d≤60->N≤m->e≤dp ->
  ∃ σ',(evn false fnT m).c dp a (.cell i :: as) σ=.ok t σ'∧Fr1 i σ σ'∧σ'[i]?=some (br j p d)
structure dP (N e:Nat) (rows:List D) (p n:Nat) (H:bD):Prop where
 first:∃ k x q v w,H.fst=aI k x q v w∧rows[p]?=some H.fst∧au k=true∧au x=true∧∀ y,inN y notFirst=true->((eqN af k || eqN aj k) && eqN x y)=false
 cloF:Clo H.fst
 clo:Clo H.tree
 u:H.arm=false->Claim N e rows p n 448 [.bool false] H.need (some H.tree)∧i9 N e rows p 511 [] (.bool H.isb)∧i9 N e rows p 560 [.bool false] (.bool true)∧(H.isb=true->Claim N e rows p n 574 [] H.needB (some H.tree))
 a:H.arm=true->Claim N e rows p n 602 [] H.need (if H.bad then none else some H.tree)
inductive aH (N e:Nat) (rows:List D) (pe:Nat):List TK->Nat->Prop
 | nil:aH N e rows pe [] pe
 | tok {k x:List Nat} {q:Int} {v w:D} {r:List TK} {p:Nat}:rows[p]?=some (aI k x q v w)->Clo (aI k x q v w)->aH N e rows pe r (p+1)->aH N e rows pe (.t k x q v w :: r) p
 | hole {H:bD} {r:List TK} {p n:Nat}:dP N e rows p n H->aH N e rows pe r (p+n)->aH N e rows pe (.h H :: r) p
noncomputable def Jg (N e:Nat) (rows:List D) (pe:Nat):List TK->Nat->Prop
 | [],p=>p=pe
 | .t k x q v w :: r,p=>rows[p]?=some (aI k x q v w)∧Clo (aI k x q v w)∧aH N e rows pe r (p+1)
 | .h H :: r,p=>∃ n,dP N e rows p n H∧aH N e rows pe r (p+n)
theorem aH.inv {N e:Nat} {rows:List D} {pe:Nat} {l:List TK} {p:Nat} (h:aH N e rows pe l p):Jg N e rows pe l p :=
 aH.rec (motive:=fun l p _=>Jg N e rows pe l p) rfl (fun a b c _=>⟨a,b,c⟩) (fun H t _=>⟨_,H,t⟩) h
structure Gx where
 N:Nat
 e:Nat
 i:Nat
 j:Nat
 D0:Int
 rows:List D
 pe:Nat
 ok:D0≤60
 hl:rows.length≤lim
structure Rel (G:Gx) (μ:List Nat) (s:AS) (σ:Sto):Prop where
 w:∃ p,σ[G.i]?=some (br G.j p (G.D0+s.off))∧aH G.N G.e G.rows G.pe s.toks p∧(s.prev=.none∨∃ p',p=p'+1∧G.rows[p']?=some s.prev∧Clo s.prev)
 r:σ[G.j]?=some (.lst G.rows)
 ni:G.i ∉ μ
 nj:G.j ∉ μ
 nd:μ.Nodup
 lt:∀ k ∈ μ,k < σ.length
 len:μ.length=s.ls.length
 dk:G.D0+s.off≤60
 ls:∀ (k:Nat) (ds:List D),s.ls[k]?=some ds->∃ (q:Nat) (cs:List D),μ[k]?=some q∧σ[q]?=some (Cell.lst cs)∧DRL G.i μ ds cs
noncomputable def Frm (i:Nat) (μ:List Nat) (σ σ':Sto):Prop:=σ.length≤σ'.length∧∀ k,k < σ.length->k ≠ i->k ∉ μ->σ'[k]?=σ[k]?
theorem Frm.refl {i:Nat} {μ:List Nat} {σ:Sto}:Frm i μ σ σ:=⟨Nat.le_refl _,fun _ _ _ _=>rfl⟩
noncomputable def Ext (μ μ':List Nat) (σ:Sto):Prop:=∃ ν,μ'=μ++ν∧∀ k ∈ ν,σ.length≤k
theorem Ext.refl {μ:List Nat} {σ:Sto}:Ext μ μ σ:=⟨[],by simp,by simp⟩
theorem Frm.trans {i:Nat} {μ μ':List Nat} {σ σ' σ'':Sto} (h:Frm i μ σ σ') (x:Ext μ μ' σ) (h':Frm i μ' σ' σ''):Frm i μ σ σ'':=by
 obtain ⟨ν,rfl,hν⟩:=x
 refine ⟨Nat.le_trans h.1 h'.1,fun k hk hi hm=>?_⟩
 rw [h'.2 k (Nat.lt_of_lt_of_le hk h.1) hi ?_,h.2 k hk hi hm]
 intro hq
 rcases List.mem_append.mp hq with hq | hq
 ·exact hm hq
 ·exact absurd hk (Nat.not_lt.mpr (hν k hq))
theorem Ext.trans {μ μ' μ'':List Nat} {σ σ':Sto} (h:Ext μ μ' σ) (h':Ext μ' μ'' σ') (hl:σ.length≤σ'.length):Ext μ μ'' σ:=by
 obtain ⟨ν,rfl,hν⟩:=h
 obtain ⟨ν',rfl,hν'⟩:=h'
 refine ⟨ν++ν',by simp,fun k hk=>?_⟩
 rcases List.mem_append.mp hk with hk | hk
 ·exact hν k hk
 ·exact Nat.le_trans hl (hν' k hk)
noncomputable def Fits (D0:Int) (m:Nat) (o:List Nat):Prop:=D0+m≤60∧∀ x ∈ o,D0+x≤60
theorem zZ {D0:Int} {a b:Nat}:D0+mxN a b≤60↔D0+a≤60∧D0+b≤60:=by
 unfold mxN
 split
 ·next h=>exact ⟨fun z=>⟨Int.le_trans (Int.add_le_add_left (Int.ofNat_le.mpr (Nat.ble_eq.mp h)) D0) z,z⟩,And.right⟩
 ·next h =>
  have:¬ a≤b:=fun q=>h (Nat.ble_eq.mpr q)
  exact ⟨fun z=>⟨z,Int.le_trans (Int.add_le_add_left (Int.ofNat_le.mpr (Nat.le_of_not_le this)) D0) z⟩,And.left⟩
theorem Fits.merge {D0:Int} {m m':Nat} {o o':List Nat}:Fits D0 (mxN m m') (o++o')↔Fits D0 m o∧Fits D0 m' o':=by
 unfold Fits
 rw [zZ]
 simp only [List.mem_append]
 constructor
 ·intro h;exact ⟨⟨h.1.1,fun x hx=>h.2 x (.inl hx)⟩,⟨h.1.2,fun x hx=>h.2 x (.inr hx)⟩⟩
 ·intro h;exact ⟨⟨h.1.1,h.2.1⟩,fun x hx=>hx.elim (h.1.2 x) (h.2.2 x)⟩
noncomputable def ai {α β:Type} (G:Gx) (P:List Nat->α->β->Prop) (μ:List Nat) (σ:Sto) (ra:RA α) (rc:R β):Prop:=match ra with
 | .no=>True
 | .err=>∃ σ',rc=.err σ'∧Frm G.i μ σ σ'
 | .ok a s' m o=>(Fits G.D0 m o->∃ b σ' μ',rc=.ok b σ'∧Ext μ μ' σ∧Frm G.i μ σ σ'∧Rel G μ' s' σ'∧P μ' a b)∧(¬ Fits G.D0 m o->∃ σ',rc=.err σ'∧Frm G.i μ σ σ')
section
variable {G:Gx} {α β γ δ:Type} {P:List Nat->α->β->Prop} {Q:List Nat->γ->δ->Prop} {μ μ':List Nat} {s:AS} {σ σ':Sto}
theorem ai.moved {ra:RA α} {rc:R β} (h:ai G P μ' σ' ra rc) (x:Ext μ μ' σ) (f:Frm G.i μ σ σ'):ai G P μ σ ra rc:=by
 cases ra with
 | no=>trivial
 | err=>obtain ⟨t,e,f'⟩:=h;exact ⟨t,e,f.trans x f'⟩
 | ok a s' m o =>
  refine ⟨fun q=>?_,fun q=>?_⟩
  ·obtain ⟨b,t,ν,e,x',f',r,p⟩:=h.1 q
   exact ⟨b,t,ν,e,x.trans x' f.1,f.trans x f',r,p⟩
  ·obtain ⟨t,e,f'⟩:=h.2 q
   exact ⟨t,e,f.trans x f'⟩
theorem ai.bind {ra:RA α} {rc:R β} {f:α->AS->RA γ} {g:β->Sto->R δ} (h:ai G P μ σ ra rc)
  (hf:∀ μ' a b s' σ',(∃ ν,μ'=μ++ν)->Rel G μ' s' σ'->P μ' a b->ai G Q μ' σ' (f a s') (g b σ')):ai G Q μ σ (ra.bind f) (rc.bind g):=by
 cases ra with
 | no=>trivial
 | err=>obtain ⟨t,rfl,f'⟩:=h;exact ⟨t,rfl,f'⟩
 | ok a s' m o =>
  show ai G Q μ σ (match f a s' with | .ok b s' m' o'=>.ok b s' (mxN m m') (o++o') | .err=>.err | .no=>.no) (rc.bind g)
  by_cases q:Fits G.D0 m o
  ·obtain ⟨b,t,ν,rfl,x,f',r,p⟩:=h.1 q
   have h2:=ai.moved (hf ν a b s' t (by obtain ⟨n,e,_⟩:=x;exact ⟨n,e⟩) r p) x f'
   show ai G Q μ σ _ (g b t)
   cases hr:f a s' with
   | no=>trivial
   | err=>rw [hr] at h2;exact h2
   | ok c s'' m' o' =>
    rw [hr] at h2
    refine ⟨fun q'=>h2.1 (Fits.merge.mp q').2,fun q'=>h2.2 fun q''=>q' (Fits.merge.mpr ⟨q,q''⟩)⟩
  ·obtain ⟨t,rfl,f'⟩:=h.2 q
   cases hr:f a s' with
   | no=>trivial
   | err=>exact ⟨t,rfl,f'⟩
   | ok c s'' m' o' =>
    refine ⟨fun q'=>(q (Fits.merge.mp q').1).elim,fun _=>⟨t,rfl,f'⟩⟩
theorem nK (G:Gx):Fits G.D0 0 []:=⟨Int.le_trans (Int.le_of_eq (Int.add_zero _)) G.ok,fun _ h=>by cases h⟩
theorem ai.here {a:α} {b:β} (r:Rel G μ s σ) (p:P μ a b):ai G P μ σ (.ret a s) (.ok b σ) :=
 ⟨fun _=>⟨b,σ,μ,rfl,.refl,.refl,r,p⟩,fun q=>(q (nK G)).elim⟩
theorem ai.opt {oa:Option α} {ob:Option β} (r:Rel G μ s σ) (p:∀ a,oa=some a->∃ b,ob=some b∧P μ a b):ai G P μ σ (DM s oa) (ofO σ ob):=by
 cases oa with
 | none=>trivial
 | some a=>obtain ⟨b,rfl,h⟩:=p a rfl;exact ai.here r h
end
end Mine.Internal.Q
end
section
namespace Mine.Internal.Q
open PySem
theorem ao {α:Type} {l:List α} {k:Nat} {a:α} (h:l[k]?=some a):k < l.length:=by
 rcases Nat.lt_or_ge k l.length with h' | h'
 ·exact h'
 ·rw [List.getElem?_eq_none h'] at h;cases h
theorem xB {l:List Nat} (h:l.Nodup) {a b q:Nat} (ha:l[a]?=some q) (hb:l[b]?=some q):a=b:=by
 have h1:=ao ha
 have h2:=ao hb
 rw [List.getElem?_eq_getElem h1] at ha
 rw [List.getElem?_eq_getElem h2] at hb
 exact (List.getElem_inj h).mp ((Option.some.inj ha).trans (Option.some.inj hb).symm)
section
variable {G:Gx} {μ:List Nat} {s:AS} {σ:Sto}
theorem Rel.ij (R:Rel G μ s σ):G.i ≠ G.j:=fun e=>by
 obtain ⟨p,h,_⟩:=R.w
 have:=R.r
 rw [← e,h] at this;cases this
theorem Rel.alloc (R:Rel G μ s σ) {ds cs:List D} (h:DRL G.i μ ds cs) :
  Rel G (μ++[σ.length]) { s with ls:=s.ls++[ds] } (σ++[.lst cs]):=by
 obtain ⟨p,h1,h2,h3⟩:=R.w
 have hi:=ao h1
 have hj:=ao R.r
 refine ⟨⟨p,by rw [List.getElem?_append_left hi];exact h1,h2,h3⟩,by rw [List.getElem?_append_left hj];exact R.r,?_,?_,?_,?_,?_,?_,?_⟩
 ·intro q;rcases List.mem_append.mp q with q | q
  ·exact R.ni q
  ·exact absurd (List.mem_singleton.mp q) (Nat.ne_of_lt hi)
 ·intro q;rcases List.mem_append.mp q with q | q
  ·exact R.nj q
  ·exact absurd (List.mem_singleton.mp q) (Nat.ne_of_lt hj)
 ·rw [List.nodup_append]
  refine ⟨R.nd,by simp,fun a ha b hb e=>?_⟩
  exact absurd (e.trans (List.mem_singleton.mp hb)) (Nat.ne_of_lt (R.lt a ha))
 ·intro k q;rcases List.mem_append.mp q with q | q
  ·exact Nat.lt_of_lt_of_le (R.lt k q) (by rw [List.length_append];exact Nat.le_add_right _ _)
  ·rw [List.mem_singleton.mp q,List.length_append];exact Nat.lt_succ_self _
 ·simp [R.len]
 ·exact R.dk
 ·intro k ds' e
  have e:(s.ls++[ds])[k]?=some ds':=e
  rcases Nat.lt_or_ge k s.ls.length with hk | hk
  ·rw [List.getElem?_append_left hk] at e
   obtain ⟨q,cs',a1,a2,a3⟩:=R.ls k ds' e
   exact ⟨q,cs',pn a1,by rw [List.getElem?_append_left (ao a2)];exact a2,a3.mono _⟩
  ·rw [List.getElem?_append_right hk] at e
   have hz:k - s.ls.length=0:=Nat.lt_one_iff.mp (ao e)
   rw [hz] at e;simp at e;subst e
   have hk2:k=μ.length:=R.len.symm ▸ Nat.le_antisymm (Nat.le_of_sub_eq_zero hz) hk
   refine ⟨σ.length,cs,?_,?_,h.mono _⟩
   ·rw [hk2];simp
   ·simp
theorem Rel.setl (R:Rel G μ s σ) {k q:Nat} {ds cs:List D} (hq:μ[k]?=some q) (h:DRL G.i μ ds cs) :
  Rel G μ { s with ls:=s.ls.set k ds } (σ.set q (.lst cs)):=by
 obtain ⟨p,h1,h2,h3⟩:=R.w
 have hm:q ∈ μ:=List.mem_of_getElem? hq
 have n1:q ≠ G.i:=fun e=>R.ni (e ▸ hm)
 have n2:q ≠ G.j:=fun e=>R.nj (e ▸ hm)
 have hql:=R.lt q hm
 refine ⟨⟨p,by rw [List.getElem?_set_ne n1];exact h1,h2,h3⟩,by rw [List.getElem?_set_ne n2];exact R.r,R.ni,R.nj,R.nd,by simpa using R.lt,by simp [R.len],R.dk,?_⟩
 intro k' ds' e
 have e:(s.ls.set k ds)[k']?=some ds':=e
 by_cases hk:k=k'
 ·subst hk
  have hk:=ao e
  simp at hk
  rw [List.getElem?_set_self hk] at e
  cases e
  exact ⟨q,cs,hq,by rw [List.getElem?_set_self hql],h⟩
 ·rw [List.getElem?_set_ne hk] at e
  obtain ⟨q',cs',a1,a2,a3⟩:=R.ls k' ds' e
  refine ⟨q',cs',a1,?_,a3⟩
  rw [List.getElem?_set_ne];exact a2
  intro e;subst e;exact hk (xB R.nd hq a1)
theorem Rel.wmove (R:Rel G μ s σ) {p:Nat} {toks:List TK} {prev:D} {off:Nat} (h2:aH G.N G.e G.rows G.pe toks p) (h3:prev=.none∨∃ p',p=p'+1∧G.rows[p']?=some prev∧Clo prev) (hk:G.D0+off≤60) :
  Rel G μ { s with toks:=toks,prev:=prev,off:=off } (σ.set G.i (br G.j p (G.D0+off))):=by
 obtain ⟨p0,h1,_,_⟩:=R.w
 have hi:=ao h1
 refine ⟨⟨p,by rw [List.getElem?_set_self hi],h2,h3⟩,by rw [List.getElem?_set_ne R.ij];exact R.r,R.ni,R.nj,R.nd,by simpa using R.lt,R.len,hk,?_⟩
 intro k ds e
 obtain ⟨q,cs,a1,a2,a3⟩:=R.ls k ds e
 refine ⟨q,cs,a1,?_,a3⟩
 rw [List.getElem?_set_ne];exact a2
 intro e;exact R.ni (e ▸ List.mem_of_getElem? a1)
theorem uS {μ:List Nat} {i:Nat} {c:Cell}:Frm i μ σ (σ.set i c):=⟨by simp,fun k _ hk _=>by rw [List.getElem?_set_ne (Ne.symm hk)]⟩
theorem LS {i q:Nat} {c:Cell} (h:q ∈ μ):Frm i μ σ (σ.set q c):=⟨by simp,fun k _ _ hk=>by rw [List.getElem?_set_ne (fun (e:q=k)=>hk (e ▸ h))]⟩
theorem BW {i:Nat} {c:Sto}:Frm i μ σ (σ++c):=⟨by simp,fun k hk _ _=>by rw [List.getElem?_append_left hk]⟩
theorem kD {i:Nat} {σ':Sto} (h:Fr1 i σ σ'):Frm i μ σ σ':=⟨h.1,fun k hk hi _=>h.2 k hk hi⟩
theorem GJ (R:Rel G μ s σ) {a a' i i' r:D} (ha:DR G.i μ a a') (hi:DR G.i μ i i') (h:GH s a i=some r):∃ r',cU σ a' i'=some r'∧DR G.i μ r r':=by
 unfold GH at h
 split at h
 ·next k =>
  cases hi
  split at h
  ·next hk =>
   split at h
   ·next ds =>
    cases ha with
    | tup l =>
    obtain ⟨c,e,d⟩:=l.get h
    exact ⟨c,by simp only [cU,hk,if_true,e],d⟩
   ·next t =>
    cases ha
    refine ⟨r,by simp only [cU,hk,if_true,h],?_⟩
    cases ht:t[k]? with
    | none=>rw [ht] at h;cases h
    | some c=>rw [ht] at h;cases h;exact .str _
   ·next j =>
    cases ha with
    | cell hj =>
    split at h
    ·next ds e =>
     obtain ⟨q,cs,a1,a2,a3⟩:=R.ls _ _ e
     rw [hj] at a1;cases a1
     obtain ⟨c,e2,d⟩:=a3.get h
     exact ⟨c,by simp only [cU,hk,if_true,a2,e2],d⟩
    ·cases h
   ·cases h
  ·cases h
 ·cases h
theorem aT {a a':D} {i:Nat} {μ:List Nat} (h:dG a=true) (ha:DR i μ a a'):a'=a:=by
 cases ha <;> first | rfl | simp [dG] at h
theorem bf {x:Int} {a':D} {i:Nat} {μ:List Nat} (ha:DR i μ (.int x) a'):a'=.int x:=by cases ha;rfl
theorem j9 {x:List D} {a':D} {i:Nat} {μ:List Nat} (ha:DR i μ (.tup x) a'):∃ y,a'=.tup y∧DRL i μ x y:=by
 cases ha with
 | tup l=>exact ⟨_,rfl,l⟩
theorem nU {a':D} {i:Nat} {μ:List Nat} (ha:DR i μ (.tup []) a'):a'=.tup []:=by
 obtain ⟨y,rfl,l⟩:=j9 ha
 cases l
 rfl
theorem nH {a b:D} {r:Bool} (h:eqA a b=some r) {i:Nat} {μ:List Nat} {a' b':D} (ha:DR i μ a a') (hb:DR i μ b b'):a'=a∧b'=b:=by
 cases F6 h with
 | int=>exact ⟨bf ha,bf hb⟩
 | tup=>exact ⟨nU ha,nU hb⟩
 | _=>exact ⟨aT rfl ha,aT rfl hb⟩
theorem jP {i:Nat} {μ:List Nat}:∀ {ds ds':List D},ds.all dG=true->DRL i μ ds ds'->ds'=ds
 | _,_,_,.nil=>rfl
 | _,_,h,.cons d l=>by
  simp only [List.all_cons,Bool.and_eq_true] at h
  rw [aT h.1 d,jP h.2 l]
theorem C9:∀ {ds:List D} {x:D} {r:Bool},dG x=true->ds.all dG=true->ds ≠ []->inA x ds=some r->∃ y,x.py=some y∧aB y=true
 | [],_,_,_,_,h,_=>(h rfl).elim
 | d :: t,x,r,hx,hs,_,h=>by
  revert h
  exact cJ (G:=fun z=>z=some r->_) (fun h=>nn h) fun p h1 _=>(by
   obtain ⟨a,b,f1,f2,f3,f4,f5⟩:=oV h1
   exact ⟨b,f2,f4⟩)
theorem zw {a:D} {ds:List D} {r:Bool} (hs:dG a=true) (hd:ds.all dG=true) (hne:ds ≠ []) (h:inA a ds=some r) (σ:Sto) :
  aV σ .inn a (.tup ds)=some (.bool r)∧aV σ .notin a (.tup ds)=some (.bool (!r)):=by
 obtain ⟨x,hx,hxs⟩:=C9 hs hd hne h
 obtain ⟨ys,e1,e2,e3,e4⟩:=zv hx ds r h hd
 have hs2:aB (.tuple ys)=true:=by
  simp only [aB,SeqAt.shaped,PyData.canLay0,PyData.depth,e2,Bool.true_and]
  exact decide_eq_true (Nat.le_trans (Nat.succ_le_succ e3) (by decide))
 exact ⟨e4 ▸ mO (f:=fun b=>b) hx e1 hxs hs2,e4 ▸ mO (f:=fun b=>!b) hx e1 hxs hs2⟩
theorem lX {a a':D} {i:Nat} {μ:List Nat} (ha:DR i μ a a'):fy a'=fy a:=by
 cases ha <;> rfl
theorem kH {f:Int->Int->Bool} {a a' b b' r:D} {i:Nat} {μ:List Nat} (ha:DR i μ a a') (hb:DR i μ b b'):eS f a b=some r->∃ r',eS f a' b'=some r'∧DR i μ r r':=by
 refine bK (G:=fun z=>z=some r->_) (fun h=>nn h) fun x e=>bK (G:=fun z=>z=some r->_) (fun h=>nn h) fun y e' h=>?_
 subst e e'
 rw [bf ha,bf hb]
 exact ⟨_,rfl,Option.some.inj h ▸ .bool _⟩
theorem zB {f:Bool->Bool} {a a' b b' r:D} {i:Nat} {μ:List Nat} (ha:DR i μ a a') (hb:DR i μ b b') {g:D->D->Option D} (hg:∀ {x ds c},dG x=true->ds.all dG=true->ds ≠ []->inA x ds=some c->g x (.tup ds)=some (.bool (f c))) :
  onT none (fun ds=>if dG a && ds.all dG && Nat.blt 0 ds.length then (inA a ds).map (fun c=>.bool (f c)) else none) b=some r->∃ r',g a' b'=some r'∧DR i μ r r':=by
 refine jq (G:=fun z=>z=some r->_) (fun h=>nn h) fun ds e=>aN (G:=fun z=>z=some r->_) (fun hc h=>?_) fun _ h=>nn h
 subst e
 obtain ⟨hc,hn⟩:=Bool.and_eq_true_iff.mp hc
 obtain ⟨h1,h2⟩:=Bool.and_eq_true_iff.mp hc
 obtain ⟨c,e,rfl⟩:=Option.map_eq_some_iff.mp h
 obtain ⟨y,rfl,l⟩:=j9 hb
 rw [aT h1 ha,jP h2 l]
 exact ⟨_,hg h1 h2 (fun q=>by rw [q] at hn;cases hn) e,.bool _⟩
theorem oU {c:Cm} {a a' b b' r:D} (ha:DR G.i μ a a') (hb:DR G.i μ b b'):Kw c a b=some r->∃ r',aV σ c a' b'=some r'∧DR G.i μ r r':=by
 cases c with
 | eq =>
  intro h
  obtain ⟨x,e,rfl⟩:=Option.map_eq_some_iff.mp h
  obtain ⟨rfl,rfl⟩:=nH e ha hb
  exact ⟨_,jd e,.bool _⟩
 | ne =>
  intro h
  obtain ⟨x,e,rfl⟩:=Option.map_eq_some_iff.mp h
  obtain ⟨rfl,rfl⟩:=nH e ha hb
  exact ⟨_,yL e,.bool _⟩
 | lt=>exact kH ha hb
 | le=>exact kH ha hb
 | gt=>exact kH ha hb
 | ge=>exact kH ha hb
 | is=>cases b with
  | none=>exact fun h=>aT rfl hb ▸ ⟨_,rfl,Option.some.inj h ▸ lX ha ▸ .bool _⟩
  | _=>exact fun h=>nn h
 | isn=>cases b with
  | none=>exact fun h=>aT rfl hb ▸ ⟨_,rfl,Option.some.inj h ▸ lX ha ▸ .bool _⟩
  | _=>exact fun h=>nn h
 | inn=>exact zB (f:=fun b=>b) (g:=aV σ .inn) ha hb fun h1 h2 h3 h4=>(zw h1 h2 h3 h4 σ).1
 | notin=>exact zB (f:=fun b=>!b) (g:=aV σ .notin) ha hb fun h1 h2 h3 h4=>(zw h1 h2 h3 h4 σ).2
theorem sH (R:Rel G μ s σ) {o:Op} {a a' b b':D} (ha:DR G.i μ a a') (hb:DR G.i μ b b'):ai G (fun ν x y=>DR G.i ν x y) μ σ (Kg s o a b) (bx σ o a' b'):=by
 cases o with
 | add=>cases a with
  | int x =>
   rw [bf ha]
   refine bK (G:=fun r=>ai G (fun ν x y=>DR G.i ν x y) μ σ r (bx σ .add (.int x) b')) trivial fun y e=>?_
   subst e
   rw [bf hb]
   exact ai.here R (.int _)
  | str x =>
   rw [aT rfl ha]
   refine cX (G:=fun r=>ai G (fun ν x y=>DR G.i ν x y) μ σ r (bx σ .add (.str x) b')) trivial fun y e=>aN (G:=fun r=>ai G (fun ν x y=>DR G.i ν x y) μ σ r (bx σ .add (.str x) b')) (fun hc=>?_) fun _=>trivial
   subst e
   rw [aT rfl hb,show bx σ .add (.str x) (.str y)=.ok (.str (x++y)) σ from if_pos hc]
   exact ai.here R (.str _)
  | tup x =>
   obtain ⟨x',rfl,l⟩:=j9 ha
   refine jq (G:=fun r=>ai G (fun ν x y=>DR G.i ν x y) μ σ r (bx σ .add (.tup x') b')) trivial fun y e=>aN (G:=fun r=>ai G (fun ν x y=>DR G.i ν x y) μ σ r (bx σ .add (.tup x') b')) (fun hc=>?_) fun _=>trivial
   subst e
   obtain ⟨y',rfl,l'⟩:=j9 hb
   rw [l.length,l'.length] at hc
   rw [show bx σ .add (.tup x') (.tup y')=.ok (.tup (x'++y')) σ from if_pos hc]
   exact ai.here R (.tup (l.append l'))
  | _=>trivial
 | sub =>
  refine bK (G:=fun r=>ai G (fun ν x y=>DR G.i ν x y) μ σ r (bx σ .sub a' b')) trivial fun x e=>bK (G:=fun r=>ai G (fun ν x y=>DR G.i ν x y) μ σ r (bx σ .sub a' b')) trivial fun y e'=>?_
  subst e e'
  rw [bf ha,bf hb]
  exact ai.here R (.int _)
 | _=>trivial
end
end Mine.Internal.Q
end
section
namespace Mine.Internal.Q
open PySem
theorem E8 {i:Int} {t:List Nat} (h:Iw i=some t):i.natAbs < 10 ^ 100∧sl (toString i)=t:=by
 unfold Iw at h
 split at h
 ·cases h;exact ⟨by decide,by decide +kernel⟩
 ·cases h;exact ⟨by decide,by decide +kernel⟩
 ·cases h;exact ⟨by decide,by decide +kernel⟩
 ·cases h;exact ⟨by decide,by decide +kernel⟩
 ·cases h
theorem iV (k:List Nat):∀ kvs:List (List Nat × D),kvs.lookup k=gf k kvs
 | []=>rfl
 | (a,b) :: r=>by
  simp only [List.lookup,gf,iV k r]
  rw [BN]
  cases k == a <;> rfl
section
variable {G:Gx} {μ:List Nat} {s:AS} {σ:Sto}
theorem Rel.cellGet (R:Rel G μ s σ) {k:Nat} {ds:List D} {a':D} (h:DR G.i μ (.cell k) a') (e:s.ls[k]?=some ds):∃ q cs,a'=.cell q∧μ[k]?=some q∧σ[q]?=some (.lst cs)∧DRL G.i μ ds cs:=by
 cases h with
 | cell hq =>
 obtain ⟨q,cs,a1,a2,a3⟩:=R.ls _ _ e
 rw [hq] at a1;cases a1
 exact ⟨_,cs,rfl,hq,a2,a3⟩
abbrev OD (G:Gx) (μ:List Nat) (σ:Sto) (r:RA D) (c:R D):Prop:=ai G (fun ν x y=>DR G.i ν x y) μ σ r c
section
variable {as cs:List D} {r:R D} {a:D} {f:List D->R D}
theorem dZ {c:Prop} [Decidable c] {x:RA D} (k:c->OD G μ σ x r):OD G μ σ (if c then x else .no) r:=aN (G:=fun z=>OD G μ σ z r) k fun _=>trivial
theorem xD {β:Type} {g:β->RA D} {o:Option β} (k:∀ b,o=some b->OD G μ σ (g b) r):OD G μ σ (onO .no g o) r:=cJ (G:=fun z=>OD G μ σ z r) trivial k
theorem CJ {g:Int->RA D} (k:∀ b,a=.int b->OD G μ σ (g b) r):OD G μ σ (onI .no g a) r:=bK (G:=fun z=>OD G μ σ z r) trivial k
theorem HM {g:List Nat->RA D} (k:∀ b,a=.str b->OD G μ σ (g b) r):OD G μ σ (onS .no g a) r:=cX (G:=fun z=>OD G μ σ z r) trivial k
theorem Qs {g:List D->RA D} (k:∀ b,a=.tup b->OD G μ σ (g b) r):OD G μ σ (onT .no g a) r:=jq (G:=fun z=>OD G μ σ z r) trivial k
theorem Mr {g:Nat->RA D} (k:∀ b,a=.cell b->OD G μ σ (g b) r):OD G μ σ (onC .no g a) r:=cW (G:=fun z=>OD G μ σ z r) trivial k
theorem Qq {g:List (List Nat × D)->RA D} (k:∀ b,a=.dct b->OD G μ σ (g b) r):OD G μ σ (onM .no g a) r:=tQ (G:=fun z=>OD G μ σ z r) trivial k
theorem vm {g:TK->RA D} {l:List TK} (k:∀ t r',l=t :: r'->OD G μ σ (g t) r):OD G μ σ (A7 .no g l) r:=DE (G:=fun z=>OD G μ σ z r) trivial k
theorem rj {g:List Nat->List Nat->Int->D->D->List TK->RA D} {l:List TK} (h:∀ k x p v w r',l=.t k x p v w :: r'->OD G μ σ (g k x p v w r') r):OD G μ σ (tR .no g l) r:=DF (G:=fun z=>OD G μ σ z r) trivial h
theorem DRL.nil_i {i:Nat} (h:DRL i μ [] cs):cs=[]:=by cases h;rfl
theorem DRL.cons_i {i:Nat} (h:DRL i μ (a :: as) cs):∃ c r,cs=c :: r∧DR i μ a c∧DRL i μ as r:=by
 cases h with
 | cons d t=>exact ⟨_,_,rfl,d,t⟩
theorem iD {x:RA D} (h:DRL G.i μ as cs) (k:OD G μ σ x (f [])):OD G μ σ (zer .no x as) (f cs) :=
 uy (n:=RA.no) (G:=fun as r=>DRL G.i μ as cs->OD G μ σ r (f cs)) (fun _ _=>trivial) (fun d=>by rw [d.nil_i];exact k) as h
theorem m8 {x:D->RA D} (h:DRL G.i μ as cs) (k:∀ a c,DR G.i μ a c->OD G μ σ (x a) (f [c])):OD G μ σ (one .no x as) (f cs) :=
 jr (n:=RA.no) (G:=fun as r=>DRL G.i μ as cs->OD G μ σ r (f cs)) (fun _ _=>trivial) (fun a l=>by
  obtain ⟨c,r,rfl,d,t⟩:=l.cons_i
  rw [t.nil_i]
  exact k a c d) as h
theorem IX {x:D->D->RA D} (h:DRL G.i μ as cs) (k:∀ a b c d,DR G.i μ a c->DR G.i μ b d->OD G μ σ (x a b) (f [c,d])):OD G μ σ (two .no x as) (f cs) :=
 uh (n:=RA.no) (G:=fun as r=>DRL G.i μ as cs->OD G μ σ r (f cs)) (fun _ _=>trivial) (fun a b l=>by
  obtain ⟨c,r,rfl,d,t⟩:=l.cons_i
  obtain ⟨c',r',rfl,d',t'⟩:=t.cons_i
  rw [t'.nil_i]
  exact k a b c c' d d') as h
end
theorem Cu (R:Rel G μ s σ) {a c:D} {n:Nat} (d:DR G.i μ a c):M7 s a=some n->tD σ c=some n:=by
 cases a with
 | str t=>exact fun e=>aT rfl d ▸ e
 | tup t =>
  obtain ⟨y,rfl,l⟩:=j9 d
  exact fun e=>congrArg some l.length.symm |>.trans e
 | cell k =>
  intro e
  obtain ⟨ds,e1,rfl⟩:=Option.map_eq_some_iff.mp e
  obtain ⟨q,cs,rfl,a1,a2,a3⟩:=R.cellGet d e1
  show onL none (fun ds=>some ds.length) σ[q]?=_
  rw [a2,a3.length]
  rfl
 | _=>exact fun e=>nomatch e
theorem yz (R:Rel G μ s σ) {b:Bi} {as cs:List D} (h:DRL G.i μ as cs):OD G μ σ (biA s b as) (biD σ b cs):=by
 cases b with
 | len=>exact m8 h fun a c d=>xD fun n e=>dZ fun hc=>(by
   have e':biD σ .len [c]=.ok (.int n) σ:=by
    show onO .no (fun n:Nat=>if Nat.ble n lim=true then Mine.Internal.R.ok (D.int n) σ else .no) (tD σ c)=_
    rw [Cu R d e]
    exact if_pos hc
   rw [e']
   exact ai.here R (.int _))
 | str=>exact m8 h fun a c d=>CJ fun i ei=>xD fun t e=>(by
   subst ei
   obtain ⟨h1,h2⟩:=E8 e
   rw [bf d,show biD σ .str [.int i]=.ok (.str (sl (toString i))) σ from if_pos h1,h2]
   exact ai.here R (.str _))
 | tup=>exact m8 h fun a c d=>Mr fun i ei=>xD fun ds e=>dZ fun hc=>(by
   subst ei
   obtain ⟨q,cs,rfl,a1,a2,a3⟩:=R.cellGet d e
   have e':biD σ .tup [.cell q]=.ok (.tup cs) σ:=by
    show onL .no (fun ds=>if ds.length≤lim then Mine.Internal.R.ok (D.tup ds) σ else .no) σ[q]?=_
    rw [a2]
    exact if_pos (a3.length ▸ Nat.ble_eq.mp hc)
   rw [e']
   exact ai.here R (.tup a3))
 | _=>trivial
theorem zY (R:Rel G μ s σ) {m:Me} {a a':D} {as cs:List D} (ha:DR G.i μ a a') (h:DRL G.i μ as cs):OD G μ σ (meA s m a as) (meD σ m a' cs):=by
 cases m with
 | append=>exact Mr fun i ei=>m8 h fun x c d=>xD fun ds e=>dZ fun hc=>(by
   subst ei
   obtain ⟨q,cs,rfl,a1,a2,a3⟩:=R.cellGet ha e
   have e':meD σ .append (.cell q) [c]=.ok .none (σ.set q (.lst (cs++[c]))):=by
    show onL .no (fun ds=>if ds.length≤lim then Mine.Internal.R.ok D.none (σ.set q (.lst (ds++[c]))) else .no) σ[q]?=_
    rw [a2]
    exact if_pos (a3.length ▸ Nat.ble_eq.mp hc)
   exact ⟨fun _=>⟨_,_,μ,e',.refl,LS (List.mem_of_getElem? a1),R.setl a1 (a3.append (.cons d .nil)),.none⟩,fun q=>(q (nK G)).elim⟩)
 | get=>exact Qq fun kvs ek=>IX h fun x y c d hx hy=>HM fun k e1=>CJ fun n e2=>dZ fun hi=>(by
   subst ek e1 e2
   rw [bf hy,aT rfl hx,show a'=.dct kvs by cases ha;rfl]
   show OD G μ σ (.ret ((gf k kvs).getD (.int n)) s) (.ok ((kvs.lookup k).getD (.int n)) σ)
   rw [iV]
   generalize (gf k kvs).getD (.int n)=z at hi ⊢
   cases z with
   | int _=>exact ai.here R (.int _)
   | _=>cases hi)
 | _=>trivial
theorem xw (R:Rel G μ s σ) {m:Me} {a a':D} (ha:DR G.i μ a a') (h:vc s m a=true):cV σ m a'=true:=by
 cases m with
 | append =>
  cases a with
  | cell k =>
   obtain ⟨ds,e⟩:=Option.isSome_iff_exists.mp h
   obtain ⟨q,cs,rfl,a1,a2,a3⟩:=R.cellGet ha e
   show onL false (fun _=>true) σ[_]?=true
   rw [a2]
   rfl
  | _=>exact nb h
 | get =>
  cases a with
  | dct k =>
  cases ha;rfl
  | _=>exact nb h
 | _=>exact nb h
theorem Iq (R:Rel G μ s σ) {a a':D} {lo hi:Option Nat} (ha:DR G.i μ a a'):ai G (fun ν x y=>DR G.i ν x y) μ σ (Ip s a lo hi) (gm σ a' lo hi):=by
 unfold Ip
 split
 ·cases ha
  split
  ·next e=>simp only [gm,e,if_true];exact ai.here R (.str _)
  ·trivial
 ·trivial
theorem aH.head {N e pe:Nat} {rows:List D} {t:TK} {r:List TK} {p:Nat} (h:aH N e rows pe (t :: r) p):rows[p]?=some t.d∧Clo t.d∧∃ k x q v w,t.d=aI k x q v w:=by
 cases t with
 | t k x q v w=>exact ⟨h.inv.1,h.inv.2.1,k,x,q,v,w,rfl⟩
 | h H =>
  obtain ⟨n,O,_⟩:=h.inv
  obtain ⟨k,x,q,v,w,e1,e2,_⟩:=O.first
  exact ⟨e2,O.cloF,k,x,q,v,w,e1⟩
theorem r8 {N e pe:Nat} {rows:List D} {t:TK} {r:List TK} {p:Nat} {x:List Nat} {b:Bool} (h:aH N e rows pe (t :: r) p) (hb:lT t x=some b) :
  ∃ k y q,Tok t.d k y q∧((eqN af k || eqN aj k) && eqN y x)=b:=by
 cases t with
 | t k y q v w =>
  obtain ⟨hc,hb⟩:=cM hb
  obtain ⟨hc,_⟩:=ak hc
  exact ⟨_,_,_,⟨⟨_,_,rfl⟩,(ak hc).1,(ak hc).2⟩,Option.some.inj hb⟩
 | h H =>
  obtain ⟨n,O,_⟩:=h.inv
  obtain ⟨k,x',q,v,w,e1,e2,e3,e4,e5⟩:=O.first
  obtain ⟨hc,hb⟩:=cM hb
  exact ⟨k,x',q,⟨⟨v,w,e1⟩,e3,e4⟩,(e5 _ hc).trans (Option.some.inj hb)⟩
theorem GK {x:List Nat} {l:List (List Nat)}:l.all au=true->inN x l=true->au x=true:=by
 induction l with
 | nil=>exact fun _ h=>nb h
 | cons y r ih=>exact fun ha h=>((Bool.or_eq_true ..).mp h).elim (fun h=>(bI y x).mp h ▸ (ak ha).1) (ih (ak ha).2)
theorem nO {t:TK} {x:List Nat} {b:Bool} (hb:lT t x=some b):au x=true:=by
 cases t with
 | t k y q v w=>exact (ak (cM hb).1).2
 | h H=>exact GK (l:=notFirst) (by decide) (cM hb).1
theorem kP (R:Rel G μ s σ) {p:Nat} {k x:List Nat} {q:Int} {v w:D} {r:List TK} {d d':D} (h1:σ[G.i]?=some (br G.j p (G.D0+s.off))) (g1:G.rows[p]?=some (aI k x q v w)) (g2:Clo (aI k x q v w)) (g3:aH G.N G.e G.rows G.pe r (p+1)) (hd:DR G.i μ d d') :
  OD G μ σ (.ret d { s with toks:=r,prev:=aI k x q v w }) (.ok d' (σ.set G.i (br G.j (p+1) (G.D0+s.off)))) :=
 ⟨fun _=>⟨_,_,μ,rfl,.refl,uS,R.wmove (off:=s.off) g3 (.inr ⟨p,rfl,g1,g2⟩) R.dk,hd⟩,fun q=>(q (nK G)).elim⟩
theorem aH.tok_i {N e pe:Nat} {rows:List D} {k x:List Nat} {q:Int} {v w:D} {r:List TK} {p:Nat} (h:aH N e rows pe (.t k x q v w :: r) p):rows[p]?=some (aI k x q v w)∧Clo (aI k x q v w)∧aH N e rows pe r (p+1):=h.inv
theorem OD.at {ra:RA D} {rc rc':R D} (e:rc'=rc) (h:OD G μ σ ra rc):OD G μ σ ra rc':=e ▸ h
theorem zR {i j p:Nat} {d:Int} {N e pe:Nat} {rows:List D} {t:TK} {r:List TK} {x:List Nat} {b:Bool} (A:AtW σ i j rows p d) (hl:rows.length≤lim) (h:aH N e rows pe (t :: r) p) (hb:lT t x=some b) (n dp:Nat) :
  (evn false fnT (n+100)).c (dp+4) (wmA .looks) [.cell i,.str x] σ=.ok (.bool b) σ:=by
 obtain ⟨k,y,q,T,e5⟩:=r8 h hb
 exact e5 ▸ vU A hl h.head.1 T (nO hb) (n+60) (dp+2)
theorem xq {i j p:Nat} {d:Int} {N e pe:Nat} {rows:List D} {t:TK} {r:List TK} {x:List Nat} {b:Bool} (A:AtW σ i j rows p d) (hl:rows.length≤lim) (h:aH N e rows pe (t :: r) (p+1)) (hb:lT t x=some b) (n dp:Nat) :
  (evn false fnT (n+100)).c (dp+4) (wmA .looks) [.cell i,.str x,.int (.ofNat 1)] σ=.ok (.bool b) σ:=by
 obtain ⟨k,y,q,T,e5⟩:=r8 h hb
 exact e5 ▸ Bj A hl h.head.1 T (nO hb) (n+60) (dp+2)
theorem PG (R:Rel G μ s σ) {m:Wm} {as cs:List D} (h:DRL G.i μ as cs) (n dp:Nat) :
  OD G μ σ (wmP m as s) ((evn false fnT (n+100)).c (dp+4) (wmA m) (.cell G.i :: cs) σ):=by
 obtain ⟨p,h1,h2,h3⟩:=R.w
 have A:AtW σ G.i G.j G.rows p (G.D0+s.off):=⟨h1,R.r⟩
 cases m with
 | peek=>cases as with
  | nil =>
   rw [h.nil_i]
   exact vm fun t r e=>(by
    have H:=(e ▸ h2:aH G.N G.e G.rows G.pe (t :: r) p).head
    exact .at (gE A G.hl H.1 (n+80) (dp+3)) (ai.here R (H.2.1 _ _)))
  | cons a r =>
   obtain ⟨c,cs,rfl,d,t⟩:=h.cons_i
   exact iD (f:=fun cs=>(evn false fnT (n+100)).c (dp+4) (wmA .peek) (.cell G.i :: c :: cs) σ) t (CJ fun i ei=>dZ fun hi=>Qs fun ds e=>(by
    subst ei
    rw [bf d,beq_iff_eq.mp hi]
    rw [e] at h3
    rcases h3 with h3 | ⟨p',e1,e2,e3⟩
    ·cases h3
    ·subst e1
     exact .at (Ep A G.hl e2 (n+80) (dp+3)) (ai.here R (e3 _ _))))
 | take=>exact iD (f:=fun cs=>(evn false fnT (n+100)).c (dp+4) (wmA .take) (.cell G.i :: cs) σ) h (rj fun k x q v w r e=>dZ fun hk=>(by
   obtain ⟨g1,g2,g3⟩:=(e ▸ h2:aH G.N G.e G.rows G.pe (.t k x q v w :: r) p).tok_i
   refine .at (vV A G.hl g1 ⟨x,q,v,w,rfl⟩ hk (n+60) (dp+2)) ?_
   cases eqN k fS with
   | true=>exact ai.here R (g2 _ _)
   | false=>exact kP R h1 g1 g2 g3 (g2 _ _)))
 | looks=>cases as with
  | nil=>trivial
  | cons a r =>
   obtain ⟨c,cs,rfl,d,t⟩:=h.cons_i
   refine HM fun x ex=>?_
   subst ex
   rw [aT rfl d]
   cases r with
   | nil =>
    rw [t.nil_i]
    exact vm fun t r e=>xD fun b hb=>(by
     exact .at (zR A G.hl (e ▸ h2) hb n dp) (ai.here R (.bool _)))
   | cons b r =>
    obtain ⟨c',cs,rfl,d',t⟩:=t.cons_i
    exact iD (f:=fun cs=>(evn false fnT (n+100)).c (dp+4) (wmA .looks) (.cell G.i :: .str x :: c' :: cs) σ) t (CJ fun i ei=>dZ fun hi=>rj fun k0 x0 q0 v0 w0 r0 e=>vm fun t r e'=>xD fun b hb=>(by
     subst ei
     rw [bf d',beq_iff_eq.mp hi]
     exact .at (xq A G.hl (e' ▸ (e ▸ h2:aH G.N G.e G.rows G.pe (.t k0 x0 q0 v0 w0 :: r0) p).tok_i.2.2) hb n dp) (ai.here R (.bool _))))
 | expect=>exact m8 (f:=fun cs=>(evn false fnT (n+100)).c (dp+4) (wmA .expect) (.cell G.i :: cs) σ) h fun a c d=>HM fun x ex=>rj fun k y q v w r e=>dZ fun hc=>(by
   subst ex
   rw [aT rfl d]
   obtain ⟨g1,g2,g3⟩:=(e ▸ h2).tok_i
   obtain ⟨hc,hc4⟩:=ak hc
   obtain ⟨hc,hc3⟩:=ak hc
   refine .at (Bh A G.hl g1 (⟨⟨v,w,rfl⟩,(ak hc).1,(ak hc).2⟩:Tok (aI k y q v w) k y q) hc3 hc4 (n+30) (dp+1)) ?_
   cases ((eqN af k || eqN aj k) && eqN y x) with
   | true=>exact kP R h1 g1 g2 g3 (g2 _ _)
   | false=>exact ⟨_,rfl,.refl⟩)
 | name=>exact iD (f:=fun cs=>(evn false fnT (n+100)).c (dp+4) (wmA .name) (.cell G.i :: cs) σ) h (rj fun k x q v w r e=>dZ fun hc=>(by
   obtain ⟨g1,g2,g3⟩:=(e ▸ h2).tok_i
   refine .at (IZ A G.hl g1 (⟨⟨v,w,rfl⟩,(ak hc).1,(ak hc).2⟩:Tok (aI k x q v w) k x q) (n+30) (dp+1)) ?_
   cases (eqN k aj && !inN x kwL) with
   | true=>exact kP R h1 g1 g2 g3 (.tup (.cons (.str _) (.cons (.int _) .nil)))
   | false=>exact ⟨_,rfl,.refl⟩))
 | deeper=>exact iD (f:=fun cs=>(evn false fnT (n+100)).c (dp+4) (wmA .deeper) (.cell G.i :: cs) σ) h (vm fun t r e=>(by
   have H:=(e ▸ h2:aH G.N G.e G.rows G.pe (t :: r) p).head
   refine .at (Bg A G.hl H.1 H.2.2 (n+30) (dp+1)) ?_
   rw [show G.D0+s.off+1=G.D0+((s.off+1:Nat):Int) from Int.add_assoc ..]
   exact ⟨fun q=>⟨_,_,μ,if_pos q.1,.refl,uS,R.wmove (toks:=s.toks) h2 h3 q.1,.none⟩,fun q=>⟨_,if_neg fun z=>q ⟨z,fun _ h=>absurd h List.not_mem_nil⟩,uS⟩⟩))
 | shallower =>
  refine iD (f:=fun cs=>(evn false fnT (n+100)).c (dp+4) (wmA .shallower) (.cell G.i :: cs) σ) h ?_
  cases e:s.off with
  | zero=>trivial
  | succ o =>
   have e1:G.D0+s.off - 1=G.D0+(o:Int):=by rw [e];exact (Int.add_sub_assoc G.D0 ((o:Int)+1) 1).trans (congrArg (G.D0+·) (Int.add_sub_cancel (o:Int) 1))
   refine .at (e1 ▸ rW A (n+60) (dp+2)) ?_
   exact ⟨fun q=>⟨_,_,μ,rfl,.refl,uS,R.wmove (toks:=s.toks) h2 h3 (by have:=R.dk;rw [e] at this;exact Int.le_trans (Int.add_le_add_left (Int.ofNat_le.mpr (Nat.le_succ o)) G.D0) this),.none⟩,fun q=>(q (nK G)).elim⟩
 | splitClose=>exact iD (f:=fun cs=>(evn false fnT (n+100)).c (dp+4) (wmA .splitClose) (.cell G.i :: cs) σ) h (rj fun k x q v w r e=>dZ fun hc=>(by
   obtain ⟨g1,g2,g3⟩:=(e ▸ h2).tok_i
   obtain ⟨hc,hc4⟩:=ak hc
   obtain ⟨hc,hc3⟩:=ak hc
   obtain rfl:=(bI _ _).mp hc3
   obtain rfl:=(bI _ _).mp hc4
   exact .at (Er A G.hl g1 (⟨⟨v,w,rfl⟩,(ak hc).1,(ak hc).2⟩:Tok (aI af [62] q v w) af [62] q) (n+30) (dp+1)) (kP R h1 g1 g2 g3 (.tup (.cons (.str _) (.cons (.str _) (.cons (.int _) (.cons .none (.cons .none .nil)))))))))
end
end Mine.Internal.Q
end
section
namespace Mine.Internal.Q
open PySem
inductive FlR (i:Nat) (μ:List Nat):Fl->Fl->Prop
 | next:FlR i μ .next .next
 | brk:FlR i μ .brk .brk
 | ret {a c:D}:DR i μ a c->FlR i μ (.ret a) (.ret c)
theorem FlR.mono {i:Nat} {μ:List Nat} (ν:List Nat) {a c:Fl}:FlR i μ a c->FlR i (μ++ν) a c
 | .next=>.next
 | .brk=>.brk
 | .ret h=>.ret (h.mono ν)
noncomputable def PD (G:Gx) (ν:List Nat) (a b:D):Prop:=DR G.i ν a b
noncomputable def PL (G:Gx) (ν:List Nat) (a b:List D):Prop:=DRL G.i ν a b
noncomputable def PF (G:Gx) (ν:List Nat) (a b:Fl × Loc):Prop:=FlR G.i ν a.1 b.1∧LR G.i ν a.2 b.2
noncomputable def PB (ν:List Nat) (a b:Bool):Prop:=a=b
noncomputable def PO (G:Gx) (ν:List Nat) (a b:Option D):Prop:=cD a=cD b
structure ja (G:Gx) (A:EvA) (E:Ev):Prop where
 x:∀ {μ:List Nat} {s:AS} {σ:Sto} (dp:Nat) {ρ ρ':Loc} (X:X),Rel G μ s σ->LR G.i μ ρ ρ'->ai G (PD G) μ σ (A.x dp ρ X s) (E.x (dp+G.e) ρ' X σ)
 l:∀ {μ:List Nat} {s:AS} {σ:Sto} (dp:Nat) {ρ ρ':Loc} (X:List X),Rel G μ s σ->LR G.i μ ρ ρ'->ai G (PL G) μ σ (A.l dp ρ X s) (E.l (dp+G.e) ρ' X σ)
 b:∀ {μ:List Nat} {s:AS} {σ:Sto} (dp:Nat) {ρ ρ':Loc} (b:List SS),Rel G μ s σ->LR G.i μ ρ ρ'->ai G (PF G) μ σ (A.b dp ρ b s) (E.b (dp+G.e) ρ' b σ)
 w:∀ {μ:List Nat} {s:AS} {σ:Sto} (dp:Nat) {ρ ρ':Loc} (c:Mine.Internal.X) (b:List SS),Rel G μ s σ->LR G.i μ ρ ρ'->ai G (PF G) μ σ (A.w dp ρ c b s) (E.w (dp+G.e) ρ' c b σ)
 f:∀ {μ:List Nat} {s:AS} {σ:Sto} (dp:Nat) {ρ ρ':Loc} (t:Tg) {ds cs:List D} (b:List SS),Rel G μ s σ->LR G.i μ ρ ρ'->DRL G.i μ ds cs->ai G (PF G) μ σ (A.f dp ρ t ds b s) (E.f (dp+G.e) ρ' t cs b σ)
 c:∀ {μ:List Nat} {s:AS} {σ:Sto} (dp:Nat) (a:Nat) {as cs:List D},Rel G μ s σ->DRL G.i μ as cs->ai G (PD G) μ σ (A.c dp a as s) (E.c (dp+G.e) a cs σ)
section
variable {G:Gx} {A:EvA} {E:Ev} {μ:List Nat} {s:AS} {σ:Sto} {ρ ρ':Loc}
theorem gy {a a':D} {b:Bool} (h:DR G.i μ a a') (e:aL a=some b):aL a'=some b:=by
 cases h <;> first | exact e | simp [aL] at e
theorem ja.t (S:ja G A E) (dp:Nat) (X:X) (R:Rel G μ s σ) (L:LR G.i μ ρ ρ'):ai G PB μ σ (A.t dp ρ X s) (E.t (dp+G.e) ρ' X σ) :=
 ai.bind (S.x dp X R L) fun ν a b s' σ' _ R' d=>ai.opt R' fun t e=>⟨t,gy d e,rfl⟩
theorem Qc {a:Option D} {x:Option Nat} {c:Option D} (h:cD a=some x) (hn:cD a=cD c):cD c=some x:=by rw [← hn];exact h
theorem ja.o (S:ja G A E) (dp:Nat) (X:Option X) (R:Rel G μ s σ) (L:LR G.i μ ρ ρ') :
  ai G (fun ν a b=>∀ x,cD a=some x->cD b=some x) μ σ (Ab A dp ρ X s) (Aa E (dp+G.e) ρ' X σ):=by
 cases X with
 | none=>exact ai.here R fun _ e=>e
 | some X =>
  refine ai.bind (S.x dp X R L) fun ν a b s' σ' _ R' d=>ai.here R' fun x e=>?_
  cases d <;> first | exact e | simp [cD] at e
theorem ai.bnd {α β γ δ:Type} {P:List Nat->α->β->Prop} {Q:List Nat->γ->δ->Prop} {x:RA α} {y:R β} {f:α->AS->RA γ} {g:β->Sto->R δ} (h:ai G P μ σ x y) (k:∀ n a b s' σ',Rel G (μ++n) s' σ'->P (μ++n) a b->ai G Q (μ++n) σ' (f a s') (g b σ')):ai G Q μ σ (x.bind f) (y.bind g) :=
 ai.bind h fun ν a b s' σ' hν R' d=>by
  obtain ⟨n,rfl⟩:=hν
  exact k n a b s' σ' R' d
theorem ai.only {α β:Type} {P:List Nat->α->β->Prop} {x:RA α} {y:R β} {b:Bool} (h:b=true->ai G P μ σ x y):ai G P μ σ (if b then x else .no) y:=by
 cases b with
 | true=>exact h rfl
 | false=>trivial
theorem ai.fit {α β:Type} {P:List Nat->α->β->Prop} {x:RA α} {y:R β} {m n:Nat} (e:m=n) (h:ai G P μ σ x y):ai G P μ σ (if Nat.ble m lim then x else .no) (if Nat.ble n lim then y else .no):=by
 subst e
 cases Nat.ble m lim with
 | true=>exact h
 | false=>trivial
theorem ai.same {α β:Type} {P:List Nat->α->β->Prop} {x x':RA α} {y y':R β} {b c:Bool} (e:b=c) (h:ai G P μ σ x y) (h':ai G P μ σ x' y'):ai G P μ σ (if b then x else x') (if c then y else y'):=by
 subst e
 cases b with
 | true=>exact h
 | false=>exact h'
noncomputable def Ql (o:Option (Option D)) (s:AS):RA D:=match o with | some (some d)=>.ret d s | _=>.no
noncomputable def Qm (o:Option (Option D)) (σ:Sto):R D:=match o with | some (some d)=>.ok d σ | _=>.no
theorem H8 {o o':Option (Option D)} (R:Rel G μ s σ) (h:∀ d,o=some (some d)->∃ c,o'=some (some c)∧DR G.i μ d c):ai G (PD G) μ σ (Ql o s) (Qm o' σ):=by
 cases o with
 | none=>trivial
 | some o=>cases o with
  | none=>trivial
  | some d =>
   obtain ⟨c,rfl,q⟩:=h d rfl
   exact ai.here R q
theorem Pe {a b:D} {x x':RA D} {y y':R D} (d:DR G.i μ a b) (h:ai G (PD G) μ σ x y) (h':ai G (PD G) μ σ x' y'):ai G (PD G) μ σ (match aL a with | some true=>x | some false=>x' | Option.none=>.no) (match aL b with | some true=>y | some false=>y' | Option.none=>.no):=by
 cases e:aL a with
 | none=>trivial
 | some t =>
  rw [gy d e]
  cases t with
  | true=>exact h
  | false=>exact h'
theorem ES {a b:D} (R:Rel G μ s σ) (d:DR G.i μ a b) (h:isWord a=true):b=.cell G.i∧ig σ b=true:=by
 have hb:b=.cell G.i:=by
  cases d with
  | words=>rfl
  | _=>exact nb h
 obtain ⟨p,hw,_⟩:=R.w
 exact ⟨hb,hb ▸ bV hw⟩
theorem Oz (S:ja G A E) (hwm:∀ {μ:List Nat} {s:AS} {σ:Sto} {m:Wm} {as cs:List D} (dp:Nat),Rel G μ s σ->DRL G.i μ as cs->ai G (PD G) μ σ (wmP m as s) (E.c (dp+G.e) (wmA m) (.cell G.i :: cs) σ))
  (dp:Nat) (X:X) (R:Rel G μ s σ) (L:LR G.i μ ρ ρ'):ai G (PD G) μ σ (B0 A dp ρ X s) (aq false E (dp+G.e) ρ' X σ):=by
 cases X with
 | k d =>
  exact ai.only fun h=>ai.here R (jc h _ _)
 | gl d =>
  exact ai.only fun h=>ai.here R (jc h _ _)
 | loc i =>
  exact H8 R fun d e=>L.get e
 | tup xs =>
  refine ai.bind (S.l dp xs R L) fun ν a b s' σ' _ R' d=>?_
  exact ai.fit (DRL.length d) (ai.here R' (.tup d))
 | lst xs =>
  refine ai.bind (S.l dp xs R L) fun ν a b s' σ' _ R' d=>?_
  refine ai.fit (DRL.length d) ⟨fun _=>⟨_,_,ν++[σ'.length],rfl,⟨[σ'.length],rfl,by simp⟩,BW,R'.alloc d,?_⟩,fun q=>(q (nK G)).elim⟩
  refine .cell ?_
  rw [← R'.len]
  simp
 | dsp _=>trivial
 | sub x i =>
  refine ai.bnd (S.x dp x R L) fun n a b s' σ' R' d=>?_
  refine ai.bnd (S.x dp i R' (L.mono n)) fun n' a' b' s'' σ'' R'' d'=>?_
  exact ai.opt R'' fun r e=>GJ R'' (d.mono n') d' e
 | slc x lo hi =>
  refine ai.bnd (S.x dp x R L) fun n a b s' σ' R' d=>?_
  refine ai.bnd (S.o dp lo R' (L.mono n)) fun n' a' b' s'' σ'' R'' d'=>?_
  refine ai.bnd (S.o dp hi R'' ((L.mono n).mono n')) fun n'' a'' b'' s'' σ'' R'' d''=>?_
  cases h1:cD a' with
  | none=>trivial
  | some l =>
   cases h2:cD a'' with
   | none=>trivial
   | some h =>
    rw [d' l h1,d'' h h2]
    exact Iq R'' ((DR.mono n' d).mono n'')
 | rev _=>trivial
 | bin o x y =>
  refine ai.bnd (S.x dp x R L) fun n a b s' σ' R' d=>?_
  refine ai.bnd (S.x dp y R' (L.mono n)) fun n' a' b' s'' σ'' R'' d'=>?_
  exact sH R'' (d.mono n') d'
 | cmp c x y =>
  refine ai.bnd (S.x dp x R L) fun n a b s' σ' R' d=>?_
  refine ai.bnd (S.x dp y R' (L.mono n)) fun n' a' b' s'' σ'' R'' d'=>?_
  exact ai.opt R'' fun r e=>oU (d.mono n') d' e
 | band xs =>
  match xs with
  | []=>trivial
  | [x]=>exact S.x dp x R L
  | x :: y :: r =>
   refine ai.bnd (S.x dp x R L) fun n a b s' σ' R' d=>?_
   exact Pe d (S.x dp (.band (y :: r)) R' (L.mono n)) (ai.here R' d)
 | bor xs =>
  match xs with
  | []=>trivial
  | [x]=>exact S.x dp x R L
  | x :: y :: r =>
   refine ai.bnd (S.x dp x R L) fun n a b s' σ' R' d=>?_
   cases h:aL a with
   | none=>trivial
   | some t =>
    rw [gy d h]
    cases t with
    | true=>exact ai.here R' d
    | false=>exact S.x dp (.bor (y :: r)) R' (L.mono n)
 | bnot x =>
  show ai G (PD G) μ σ ((A.t dp ρ x s).bind fun b s=>.ret (.bool (!b)) s) ((E.t (dp+G.e) ρ' x σ).bind fun b σ=>.ok (.bool (!b)) σ)
  refine ai.bind (S.t dp x R L) fun ν a b s' σ' hν R' d=>?_
  cases d
  exact ai.here R' (.bool _)
 | neg x =>
  refine ai.bind (S.x dp x R L) fun ν a b s' σ' hν R' d=>?_
  cases d <;> first | trivial | exact ai.here R' (.int _)
 | ite c x y =>
  refine ai.bnd (S.t dp c R L) fun n a b s' σ' R' d=>?_
  exact ai.same d (S.x dp x R' (L.mono n)) (S.x dp y R' (L.mono n))
 | call f xs =>
  refine ai.bnd (S.x dp f R L) fun n a b s' σ' R' d=>?_
  refine ai.bind (S.l dp xs R' (L.mono n)) fun ν' a' b' s'' σ'' hν' R'' d'=>?_
  cases d <;> first | trivial | exact S.c dp _ R'' d'
 | wm m x xs =>
  refine ai.bnd (S.x dp x R L) fun n a b s' σ' R' d=>?_
  refine ai.only fun h=>?_
  obtain ⟨rfl,ho⟩:=ES R' d h
  rw [if_pos ho]
  exact ai.bind (S.l dp xs R' (L.mono n)) fun ν' a' b' s'' σ'' hν' R'' d'=>hwm dp R'' d'
 | me m x xs =>
  refine ai.bnd (S.x dp x R L) fun n a b s' σ' R' d=>?_
  refine ai.only fun h=>?_
  rw [if_pos (xw R' d h)]
  exact ai.bnd (S.l dp xs R' (L.mono n)) fun n' a' b' s'' σ'' R'' d'=>zY R'' (d.mono n') d'
 | bi b xs =>
  refine ai.bind (S.l dp xs R L) fun ν a b s' σ' hν R' d=>?_
  exact yz R' d
 | isi _ _=>trivial
 | att _ _=>trivial
 | pairs _=>trivial
 | un=>trivial
theorem Ow (S:ja G A E) (dp:Nat) (xs:List X) (R:Rel G μ s σ) (L:LR G.i μ ρ ρ'):ai G (PL G) μ σ (AW A dp ρ xs s) (rF E (dp+G.e) ρ' xs σ):=by
 cases xs with
 | nil=>exact ai.here R .nil
 | cons x r =>
  refine ai.bnd (S.x dp x R L) fun n a b s' σ' R' d=>?_
  refine ai.bnd (S.l dp r R' (L.mono n)) fun n' a' b' s'' σ'' R'' d'=>?_
  exact ai.here R'' (.cons (d.mono n') d')
theorem Ot (S:ja G A E) (dp:Nat) (c:SS) (R:Rel G μ s σ) (L:LR G.i μ ρ ρ'):ai G (PF G) μ σ (AR A dp ρ c s) (aG E (dp+G.e) ρ' c σ):=by
 cases c with
 | ret x =>
  show ai G (PF G) μ σ ((A.x dp ρ x s).bind fun d s=>.ret (.ret d,ρ) s) ((E.x (dp+G.e) ρ' x σ).bind fun d σ=>.ok (.ret d,ρ') σ)
  refine ai.bnd (S.x dp x R L) fun n a b s' σ' R' d=>?_
  exact ai.here R' ⟨.ret d,L.mono n⟩
 | ex x =>
  show ai G (PF G) μ σ ((A.x dp ρ x s).bind fun d s=>.ret (.next,ρ) s) ((E.x (dp+G.e) ρ' x σ).bind fun d σ=>.ok (.next,ρ') σ)
  refine ai.bnd (S.x dp x R L) fun n a b s' σ' R' d=>?_
  exact ai.here R' ⟨.next,L.mono n⟩
 | asg t x =>
  refine ai.bnd (S.x dp x R L) fun n a b s' σ' R' d=>?_
  cases h:bW ρ t a with
  | none=>trivial
  | some r2 =>
   obtain ⟨t2,e,l⟩:=(L.mono n).bW d h
   rw [e]
   exact ai.here R' ⟨.next,l⟩
 | ifs c x y =>
  refine ai.bnd (S.t dp c R L) fun n a b s' σ' R' d=>?_
  exact ai.same d (S.b dp x R' (L.mono n)) (S.b dp y R' (L.mono n))
 | whl c b=>exact S.w dp c b R L
 | for_ t x b =>
  refine ai.bnd (S.x dp x R L) fun n a b' s' σ' R' d=>?_
  cases d <;> first | trivial | skip
  next l=>exact S.f dp t b R' (L.mono n) l
 | forv t x b =>
  refine ai.bnd (S.x dp x R L) fun n a b' s' σ' R' d=>?_
  cases a with
  | cell k =>
   show ai G (PF G) _ _ (match s'.ls[k]? with | some ds=>if Nat.ble ds.length lim then A.f dp ρ t ds.reverse b s' else .no | _=>.no) _
   cases h:s'.ls[k]? with
   | none=>trivial
   | some ds =>
    obtain ⟨q,cs,rfl,a1,a2,a3⟩:=R'.cellGet d h
    simp only [a2]
    split
    ·next hl =>
     rw [DRL.length a3] at hl
     rw [if_pos hl]
     exact S.f dp t b R' (L.mono n) a3.reverse
    ·trivial
  | _=>trivial
 | raise m p =>
  refine ai.bnd (S.x dp m R L) fun n a b s' σ' R' d=>?_
  refine ai.bind (S.x dp p R' (L.mono n)) fun ν' a' b' s'' σ'' hν' R'' d'=>?_
  exact ⟨_,rfl,.refl⟩
 | brk=>exact ai.here R ⟨.brk,L⟩
 | _=>trivial
theorem Ou (S:ja G A E) (dp:Nat) (b:List SS) (R:Rel G μ s σ) (L:LR G.i μ ρ ρ'):ai G (PF G) μ σ (AU A dp ρ b s) (rE E (dp+G.e) ρ' b σ):=by
 cases b with
 | nil=>exact ai.here R ⟨.next,L⟩
 | cons c r =>
  refine ai.bind (Ot S dp c R L) fun ν a b s' σ' hν R' d=>?_
  obtain ⟨a1,a2⟩:=a
  obtain ⟨b1,b2⟩:=b
  obtain ⟨d1,d2⟩:=d
  cases d1 with
  | next=>exact S.b dp r R' d2
  | brk=>exact ai.here R' ⟨.brk,d2⟩
  | ret d=>exact ai.here R' ⟨.ret d,d2⟩
theorem Ox (S:ja G A E) (dp:Nat) (c:X) (b:List SS) (R:Rel G μ s σ) (L:LR G.i μ ρ ρ'):ai G (PF G) μ σ (AZ A dp ρ c b s) (rG E (dp+G.e) ρ' c b σ):=by
 refine ai.bnd (S.t dp c R L) fun n a a' s' σ' R' d=>?_
 cases d
 split
 ·refine ai.bind (S.b dp b R' (L.mono n)) fun ν' a b' s' σ' hν R' d=>?_
  obtain ⟨a1,a2⟩:=a
  obtain ⟨b1,b2⟩:=b'
  obtain ⟨d1,d2⟩:=d
  cases d1 with
  | next=>exact S.w dp c b R' d2
  | brk=>exact ai.here R' ⟨.next,d2⟩
  | ret d=>exact ai.here R' ⟨.ret d,d2⟩
 ·exact ai.here R' ⟨.next,L.mono n⟩
theorem Ov (S:ja G A E) (dp:Nat) (t:Tg) {ds cs:List D} (b:List SS) (R:Rel G μ s σ) (L:LR G.i μ ρ ρ') (l:DRL G.i μ ds cs):ai G (PF G) μ σ (uc A dp ρ t ds b s) (oq E (dp+G.e) ρ' t cs b σ):=by
 cases l with
 | nil=>exact ai.here R ⟨.next,L⟩
 | cons d l =>
  next a c as cs =>
  simp only [uc,oq]
  cases h:bW ρ t a with
  | none=>trivial
  | some r2 =>
   obtain ⟨t2,e,L2⟩:=L.bW d h
   rw [e]
   refine ai.bnd (S.b dp b R L2) fun n a b' s' σ' R' d=>?_
   obtain ⟨a1,a2⟩:=a
   obtain ⟨b1,b2⟩:=b'
   obtain ⟨d1,d2⟩:=d
   cases d1 with
   | next=>exact S.f dp t b R' d2 (l.mono n)
   | brk=>exact ai.here R' ⟨.next,d2⟩
   | ret d=>exact ai.here R' ⟨.ret d,d2⟩
theorem oF.all:∀ {ds:List D},ds.all dX=true->∀ i μ,DRL i μ ds ds
 | [],_,_,_=>.nil
 | d :: r,h,i,μ=>by
  simp only [List.all_cons,Bool.and_eq_true] at h
  exact .cons (jc h.1 i μ) (oF.all h.2 i μ)
theorem BP {r:ah} {as cs ds:List D} (hd:r.dfl.all dX=true) (h:DRL G.i μ as cs) (e:fill r as=some ds):∃ es,fill r cs=some es∧DRL G.i μ ds es:=by
 unfold fill at e ⊢
 simp only [← h.length]
 simp only at e
 split at e
 ·next hc =>
  rw [if_pos hc]
  cases e
  exact ⟨_,rfl,h.append ((oF.all hd G.i μ).drop _)⟩
 ·cases e
theorem LR.ofL {i:Nat} {μ:List Nat}:∀ {as cs:List D} (n:Nat),DRL i μ as cs->LR i μ (as.map some++List.replicate n none) (cs.map some++List.replicate n none)
 | _,_,n,.cons d t=>.keep d (LR.ofL n t)
 | _,_,0,.nil=>.nil
 | _,_,n+1,.nil=>.skip (LR.ofL n .nil)
theorem Eg {a:Nat} {r:ah} (h:tab a=some r):r.dfl.all dX=true:=by
 have h1:Ef.all (fun p=>p.2.dfl.all dX)=true:=by kernel_rfl
 exact List.all_eq_true.mp h1 _ (qZ _ _ _ h)
theorem IS {a:Nat} {r:ah} (h:tab a=some r):Nat.beq a aO=false:=by
 cases e:Nat.beq a aO with
 | false=>rfl
 | true =>
  have:=Nat.eq_of_beq_eq_true e
  subst this
  have h1:tab aO=none:=by kernel_rfl
  rw [h1] at h;cases h
theorem DZ (S:ja G A E) (dp:Nat) (a:Nat) {as cs:List D} (R:Rel G μ s σ) (l:DRL G.i μ as cs):ai G (PD G) μ σ (I9 tab A dp a as s) (jO false fnT E (dp+1+G.e) a cs σ):=by
 have e:dp+1+G.e=(dp+G.e)+1:=Nat.add_right_comm dp 1 G.e
 rw [e]
 unfold I9
 split
 ·next r h =>
  simp only [jO,IS h,mE h,Bool.false_eq_true,if_false]
  split
  ·next ds hf =>
   obtain ⟨es,hf2,l2⟩:=BP (Eg h) l hf
   rw [hf2]
   refine ai.bind (S.b dp r.body R (LR.ofL _ l2)) fun ν a b s' σ' hν R' d=>ai.here R' ?_
   obtain ⟨a1,a2⟩:=a
   obtain ⟨b1,b2⟩:=b
   obtain ⟨d1,d2⟩:=d
   cases d1 with
   | next=>exact .none
   | brk=>exact .none
   | ret d=>exact d
  ·trivial
 ·trivial
theorem Bb {N e pe:Nat} {rows:List D} {H:bD} {r:List TK} {p:Nat} (h:aH N e rows pe (.h H :: r) p):∃ n,dP N e rows p n H∧aH N e rows pe r (p+n):=h.inv
theorem jb {a n p need:Nat} {as:List D} {tree:D} {r:List TK} (R:Rel G μ s σ) (hw:σ[G.i]?=some (br G.j p (G.D0+s.off))) (C:Claim G.N G.e G.rows p n a as need (some tree)) (ct:Clo tree) (T:aH G.N G.e G.rows G.pe r (p+n)) (m dp:Nat) (hm:G.N≤m) (hd:G.e≤dp) :
  ai G (PD G) μ σ (.ok tree { s with toks:=r,prev:=.none } 0 [s.off+need]) ((evn false fnT m).c dp a (.cell G.i :: as) σ):=by
 have h:=C σ G.i G.j _ m dp ⟨hw,R.r⟩ R.dk hm hd
 have hok:=G.ok
 refine ⟨fun q=>?_,fun q=>?_⟩
 ·have q2:=q.2 (s.off+need) (List.mem_singleton.mpr rfl)
  obtain ⟨σ',e,f,hw'⟩:=h.1 (Int.le_trans (Int.le_of_eq (Int.add_assoc G.D0 s.off need)) q2)
  refine ⟨_,σ',μ,e,.refl,kD f,?_,ct _ _⟩
  have hj:=ao R.r
  refine ⟨⟨p+n,hw',T,.inl rfl⟩,by rw [f.2 G.j hj R.ij.symm];exact R.r,R.ni,R.nj,R.nd,fun k hk=>Nat.lt_of_lt_of_le (R.lt k hk) f.1,R.len,R.dk,?_⟩
  intro k ds e
  obtain ⟨q',cs,a1,a2,a3⟩:=R.ls k ds e
  refine ⟨q',cs,a1,?_,a3⟩
  rw [f.2 q' (ao a2) (fun e=>R.ni (e ▸ List.mem_of_getElem? a1))]
  exact a2
 ·have:60 < G.D0+s.off+need:=by
   rcases Int.lt_or_le 60 (G.D0+s.off+need) with h | h
   ·exact h
   ·exact (q ⟨Int.le_trans (Int.le_of_eq (Int.add_zero _)) hok,fun x hx=>by rw [List.mem_singleton.mp hx];exact Int.le_trans (Int.le_of_eq (Int.add_assoc G.D0 s.off need).symm) h⟩).elim
  obtain ⟨σ',e,f⟩:=h.2 this
  exact ⟨σ',e,kD f⟩
theorem lg {a p:Nat} {as:List D} {t:D} (R:Rel G μ s σ) (hw:σ[G.i]?=some (br G.j p (G.D0+s.off))) (T:aH G.N G.e G.rows G.pe s.toks p) (hp:s.prev=.none∨∃ p',p=p'+1∧G.rows[p']?=some s.prev∧Clo s.prev)
  (C:i9 G.N G.e G.rows p a as t) (ct:Clo t) (m dp:Nat) (hm:G.N≤m) (hd:G.e≤dp) :
  ai G (PD G) μ σ (.ret t s) ((evn false fnT m).c dp a (.cell G.i :: as) σ):=by
 obtain ⟨σ',e,f,hw'⟩:=C σ G.i G.j _ m dp ⟨hw,R.r⟩ R.dk hm hd
 refine ⟨fun q=>⟨_,σ',μ,e,.refl,kD f,?_,ct _ _⟩,fun q=>(q (nK G)).elim⟩
 have hj:=ao R.r
 refine ⟨⟨p,hw',T,hp⟩,by rw [f.2 G.j hj R.ij.symm];exact R.r,R.ni,R.nj,R.nd,fun k hk=>Nat.lt_of_lt_of_le (R.lt k hk) f.1,R.len,R.dk,?_⟩
 intro k ds e
 obtain ⟨q',cs,a1,a2,a3⟩:=R.ls k ds e
 refine ⟨q',cs,a1,?_,a3⟩
 rw [f.2 q' (ao a2) (fun e=>R.ni (e ▸ List.mem_of_getElem? a1))]
 exact a2
theorem fY {α:Type} {b:Bool} {x r:α} {o:Option α} (h:elS b x o=some r):(b=true∧x=r)∨(b=false∧o=some r):=by
 cases b with
 | true=>exact .inl ⟨rfl,Option.some.inj h⟩
 | false=>exact .inr ⟨rfl,h⟩
theorem yX {i:Nat} {a c:D} (d:DR i μ a c) (h:fl0 a=true):c=.cell i:=by
 cases d with
 | words=>rfl
 | _=>exact nb h
theorem Gh {i:Nat} {a c:D} (d:DR i μ a c) (h:boF a=true):c=.bool false:=by
 cases d with
 | bool b=>cases b with
  | false=>rfl
  | true=>exact nb h
 | _=>exact nb h
theorem A0 {i:Nat} {as cs:List D} (l:DRL i μ as cs) (h:as.isEmpty=true):cs=[]:=by
 cases l with
 | nil=>rfl
 | cons=>exact nb h
theorem pI {i:Nat} {as cs:List D} (l:DRL i μ as cs) (h:Cg as=true):cs=[.cell i]:=by
 cases l with
 | nil=>exact nb h
 | cons d l =>
  obtain ⟨h1,h2⟩:=Bool.and_eq_true_iff.mp h
  rw [yX d h1,A0 l h2]
theorem uY {i:Nat} {as cs:List D} (l:DRL i μ as cs) (h:GQ as=true):cs=[.cell i,.bool false]:=by
 cases l with
 | nil=>exact nb h
 | cons d l =>
  obtain ⟨h1,h2⟩:=Bool.and_eq_true_iff.mp h
  cases l with
  | nil=>exact nb h2
  | cons d' l =>
   obtain ⟨h2,h3⟩:=Bool.and_eq_true_iff.mp h2
   rw [yX d h1,Gh d' h2,A0 l h3]
theorem Gd {a n p need:Nat} {as:List D} {tree:D} {r:List TK} {bad:Bool} (R:Rel G μ s σ) (hw:σ[G.i]?=some (br G.j p (G.D0+s.off))) (C:Claim G.N G.e G.rows p n a as need (if bad then none else some tree)) (ct:Clo tree) (T:aH G.N G.e G.rows G.pe r (p+n)) (m dp:Nat) (hm:G.N≤m) (hd:G.e≤dp) :
  ai G (PD G) μ σ (if bad then .err else .ok tree { s with toks:=r,prev:=.none } 0 [s.off+need]) ((evn false fnT m).c dp a (.cell G.i :: as) σ):=by
 cases bad with
 | true =>
  obtain ⟨σ',e,f⟩:=C σ G.i G.j _ m dp ⟨hw,R.r⟩ R.dk hm hd
  exact ⟨σ',e,kD f⟩
 | false=>exact jb R hw C ct T m dp hm hd
theorem C8 {a:Nat} {as cs:List D} {r:RA D} {H:bD} {t:List TK} {p n:Nat} (R:Rel G μ s σ) (l:DRL G.i μ as cs) (hw:σ[G.i]?=some (br G.j p (G.D0+s.off))) (T0:aH G.N G.e G.rows G.pe s.toks p) (hp:s.prev=.none∨∃ p',p=p'+1∧G.rows[p']?=some s.prev∧Clo s.prev) (HO:dP G.N G.e G.rows p n H) (T:aH G.N G.e G.rows G.pe t (p+n)) (m dp:Nat) (hm:G.N≤m) (hd:G.e≤dp) (h:zo a as H t s=some r) :
  ai G (PD G) μ σ r ((evn false fnT m).c dp a cs σ):=by
 unfold zo at h
 cases ha:H.arm with
 | true =>
  rw [ha] at h
  obtain ⟨q,rfl⟩:=(fY h).resolve_right fun q=>nn q.2
  obtain ⟨h1,h2⟩:=Bool.and_eq_true_iff.mp q
  rw [pI l h1,Nat.eq_of_beq_eq_true h2]
  exact Gd R hw (HO.a ha) HO.clo T m dp hm hd
 | false =>
  rw [ha] at h
  obtain ⟨C1,C2,C3,C4⟩:=HO.u ha
  rcases fY h with ⟨q,rfl⟩ | ⟨_,h⟩
  ·obtain ⟨h1,h2⟩:=Bool.and_eq_true_iff.mp q
   rw [uY l h1,Nat.eq_of_beq_eq_true h2]
   exact jb R hw C1 HO.clo T m dp hm hd
  rcases fY h with ⟨q,rfl⟩ | ⟨_,h⟩
  ·obtain ⟨h1,h2⟩:=Bool.and_eq_true_iff.mp q
   rw [uY l h1,Nat.eq_of_beq_eq_true h2]
   exact lg R hw T0 hp C3 (fun _ _=>.bool _) m dp hm hd
  rcases fY h with ⟨q,rfl⟩ | ⟨_,h⟩
  ·obtain ⟨h1,h2⟩:=Bool.and_eq_true_iff.mp q
   rw [pI l h1,Nat.eq_of_beq_eq_true h2]
   exact lg R hw T0 hp C2 (fun _ _=>.bool _) m dp hm hd
  ·obtain ⟨q,rfl⟩:=(fY h).resolve_right fun q=>nn q.2
   obtain ⟨h1,h2⟩:=Bool.and_eq_true_iff.mp q
   obtain ⟨h2,h3⟩:=Bool.and_eq_true_iff.mp h2
   rw [pI l h1,Nat.eq_of_beq_eq_true h2]
   exact jb R hw (C4 h3) HO.clo T m dp hm hd
theorem DG {a:Nat} {as cs:List D} {r:RA D} (R:Rel G μ s σ) (l:DRL G.i μ as cs) (h:Ae a as s=some r) (m dp:Nat) (hm:G.N≤m) (hd:G.e≤dp) :
  ai G (PD G) μ σ r ((evn false fnT m).c dp a cs σ):=by
 obtain ⟨p,hw,T,hp⟩:=R.w
 have T0:=T
 unfold Ae at h
 cases e:s.toks with
 | nil=>rw [e] at h;exact nn h
 | cons k t =>
  cases k with
  | h H =>
   rw [e] at h T
   obtain ⟨n,HO,T'⟩:=Bb T
   exact C8 R l hw T0 hp HO T' m dp hm hd h
  | t=>rw [e] at h;exact nn h
end
theorem AJ (G:Gx) (E:Ev):ja G .zero E:=by
 constructor <;> (intros;trivial)
theorem vH (G:Gx) (he:4≤G.e) (K:Nat) (h1:G.N≤K) (h2:100≤K):∀ n,ja G (evA tab n) (evn false fnT (n+K))
 | 0=>AJ G _
 | n+1=>by
  have S:=vH G he K h1 h2 n
  have e1:n+1+K=(n+K)+1:=Nat.add_right_comm n 1 K
  rw [e1]
  refine ⟨fun dp _ _ X R L=>Oz S ?_ dp X R L,fun dp _ _ X R L=>Ow S dp X R L,fun dp _ _ b R L=>Ou S dp b R L,fun dp _ _ c b R L=>Ox S dp c b R L,fun dp _ _ t _ _ b R L l=>Ov S dp t b R L l,?_⟩
  ·intro μ s σ m as cs dp R l
   have e2:n+K=(n+K - 100)+100:=(Nat.sub_add_cancel (Nat.le_trans h2 (Nat.le_add_left K n))).symm
   have e3:dp+G.e=(dp+G.e - 4)+4:=(Nat.sub_add_cancel (Nat.le_trans he (Nat.le_add_left _ dp))).symm
   rw [e2,e3]
   exact PG R l _ _
  ·intro μ s σ dp a as cs R l
   show ai G (PD G) μ σ (ua tab (evA tab n) dp a as s) _
   cases dp with
   | zero=>trivial
   | succ dp =>
    simp only [ua]
    split
    ·next r h=>exact DG R l h _ _ (Nat.le_trans h1 (Nat.le_trans (Nat.le_add_left K n) (Nat.le_succ _))) (Nat.le_add_left _ _)
    ·exact DZ S dp a R l
end Mine.Internal.Q
end
section
namespace Mine.Internal.Q
open PySem
noncomputable def d7 (r:RA D):Option (D × List TK × Nat × Nat × List Nat):=match r with
 | .ok t s m o=>some (t,s.toks,s.off,m,o)
 | _=>none
noncomputable def ie (r:RA D):Bool:=match r with
 | .err=>true
 | _=>false
noncomputable def gh (m:Nat) (o:List Nat):Nat:=o.foldl mxN m
theorem jm {D0:Int}:∀ (o:List Nat) (m:Nat),D0+gh m o≤60↔Fits D0 m o:=by
 intro o
 induction o with
 | nil=>intro m;exact ⟨fun h=>⟨h,fun _ q=>by cases q⟩,fun h=>h.1⟩
 | cons x r ih =>
  intro m
  have h:=ih (mxN m x)
  show D0+gh (mxN m x) r≤60↔_
  rw [h]
  unfold Fits
  rw [zZ]
  simp only [List.mem_cons,forall_eq_or_imp,and_assoc]
theorem Claim.mono {N N' e e':Nat} {rows:List D} {p n a:Nat} {as:List D} {need:Nat} {res:Option D} (C:Claim N e rows p n a as need res) (hN:N≤N') (he:e≤e'):Claim N' e' rows p n a as need res :=
 fun σ i j d m dp A hd hm hp=>C σ i j d m dp A hd (Nat.le_trans hN hm) (Nat.le_trans he hp)
theorem i9.mono {N N' e e':Nat} {rows:List D} {p a:Nat} {as:List D} {t:D} (C:i9 N e rows p a as t) (hN:N≤N') (he:e≤e'):i9 N' e' rows p a as t :=
 fun σ i j d m dp A hd hm hp=>C σ i j d m dp A hd (Nat.le_trans hN hm) (Nat.le_trans he hp)
theorem dP.mono {N N' e e':Nat} {rows:List D} {p n:Nat} {H:bD} (C:dP N e rows p n H) (hN:N≤N') (he:e≤e'):dP N' e' rows p n H :=
 ⟨C.first,C.cloF,C.clo,fun h=>let ⟨a,b,c,d⟩:=C.u h;⟨a.mono hN he,b.mono hN he,c.mono hN he,fun q=>(d q).mono hN he⟩,fun h=>(C.a h).mono hN he⟩
theorem aH.mono {N N' e e' pe:Nat} {rows:List D} {toks:List TK} {p:Nat} (C:aH N e rows pe toks p) (hN:N≤N') (he:e≤e'):aH N' e' rows pe toks p:=by
 induction C with
 | nil=>exact .nil
 | tok h c _ ih=>exact .tok h c ih
 | hole h _ ih=>exact .hole (h.mono hN he) ih
theorem DR.clo_eq {t:D} {i:Nat} {μ:List Nat} {b:D} (hc:Clo t) (h:DR i μ t b):b=t:=by
 refine DR.rec (motive_1:=fun t b _=>DR i [] t t->b=t) (motive_2:=fun t b _=>DRL i [] t t->b=t)
  (fun _=>rfl) (fun _ _=>rfl) (fun _ _=>rfl) (fun _ _=>rfl) (fun _ _=>rfl) (fun _ _=>rfl)
  (fun _ ih h=>by cases h with | tup l=>rw [ih l])
  (fun _ h=>by cases h with | cell h=>exact nn h)
  (fun h=>by cases h)
  (fun _=>rfl)
  (fun _ _ ih1 ih2 h=>by cases h with | cons a b=>rw [ih1 a,ih2 b])
  h (hc i [])
theorem p8 {i:Nat} {σ σ':Sto} (h:Frm i [] σ σ'):Fr1 i σ σ':=⟨h.1,fun k hk hi=>h.2 k hk hi (by simp)⟩
section
variable {N e:Nat} {rows:List D} {p len n dp0 a:Nat} {as:List D} {toks:List TK} {k x:List Nat} {q:Int} {v w t:D} {m:Nat} {o:List Nat}
noncomputable def s0 (toks:List TK):AS:={ toks:=toks,prev:=.none,off:=0,ls:=[] }
noncomputable def gx (N e i j:Nat) (d:Int) (rows:List D) (pe:Nat) (hd:d≤60) (hl:rows.length≤lim):Gx:={ N:=N,e:=e,i:=i,j:=j,D0:=d,rows:=rows,pe:=pe,ok:=hd,hl:=hl }
theorem Qy {i j:Nat} {d:Int} {σ:Sto} {pe:Nat} {e2 N2:Nat} (A:AtW σ i j rows p d) (hd:d≤60) (hl:rows.length≤lim) (T:aH N2 e2 rows pe toks p):Rel (gx N2 e2 i j d rows pe hd hl) [] (s0 toks) σ :=
 ⟨⟨p,A.o.trans (congrArg (fun z=>some (br j p z)) (Int.add_zero d).symm),T,.inl rfl⟩,A.r,List.not_mem_nil,List.not_mem_nil,.nil,fun _ q=>absurd q List.not_mem_nil,rfl,Int.le_trans (Int.le_of_eq (Int.add_zero d)) hd,fun k ds h=>nn h⟩
theorem AI {pe:Nat} (he:4≤e) (hl:rows.length≤lim) (T:aH N e rows pe toks p) (ha:oF as) {σ:Sto} {i j:Nat} {d:Int} {m' dp:Nat} (A:AtW σ i j rows p d) (hd:d≤60) (hm:N+n+100≤m') (hdp:e+dp0≤dp) :
  ∃ e2,ai (gx N e2 i j d rows pe hd hl) (PD (gx N e2 i j d rows pe hd hl)) [] σ ((evA tab n).c dp0 a (.fl [] :: as) (s0 toks)) ((evn false fnT m').c dp a (.cell i :: as) σ):=by
 obtain ⟨e2,rfl⟩:=Nat.exists_eq_add_of_le' (Nat.le_trans (Nat.le_add_left _ _) hdp)
 obtain ⟨m,rfl⟩:=Nat.exists_eq_add_of_le (Nat.le_trans (Nat.le_add_left n N) (Nat.le_trans (Nat.le_add_right _ 100) hm))
 have he2:e≤e2:=Nat.le_of_add_le_add_right hdp
 have hm2:N+100≤m:=Nat.le_of_add_le_add_left (a:=n) (by rw [← Nat.add_assoc,Nat.add_comm n N];exact hm)
 refine ⟨e2,?_⟩
 rw [Nat.add_comm e2 dp0]
 exact (vH (gx N e2 i j d rows pe hd hl) (Nat.le_trans he he2) m (Nat.le_trans (Nat.le_add_right _ _) hm2) (Nat.le_trans (Nat.le_add_left _ _) hm2) n).c dp0 a (Qy A hd hl (T.mono (Nat.le_refl N) he2)) (.cons .words (ha i []))
theorem HW {r:RA D} {l:List TK} {f:Nat} (h:d7 r=some (t,l,f,m,o)):∃ s,r=.ok t s m o∧s.toks=l∧s.off=f:=by
 cases r with
 | ok t' s' m' o' =>
  cases h
  exact ⟨s',rfl,rfl,rfl⟩
 | _=>exact nn h
theorem Gr {r:RA D} (h:ie r=true):r=.err:=by
 cases r with
 | err=>rfl
 | _=>exact nb h
theorem zL {p':Nat} (T:aH N e rows (p+len+1) [.t k x q v w] p'):p'=p+len:=Nat.succ.inj T.inv.2.2.inv
theorem Cn {i j:Nat} {d:Int} {hd:d≤60} {hl:rows.length≤lim} {e2:Nat} {μ:List Nat} {s:AS} {σ:Sto} (R:Rel (gx N e2 i j d rows (p+len+1) hd hl) μ s σ) (h2:s.toks=[.t k x q v w]) (h3:s.off=0):σ[i]?=some (br j (p+len) d):=by
 obtain ⟨p',w1,w2,_⟩:=R.w
 rw [h2] at w2
 rw [h3] at w1
 exact zL w2 ▸ w1.trans (congrArg (fun z=>some (br j p' z)) (Int.add_zero d))
theorem c8 (he:4≤e) (hl:rows.length≤lim) (T:aH N e rows (p+len+1) toks p)
  (run:d7 ((evA tab n).c dp0 a (.fl [] :: as) { toks:=toks,prev:=.none,off:=0,ls:=[] })=some (t,[.t k x q v w],0,m,o))
  (ha:oF as) (ct:Clo t):Claim (N+n+100) (e+dp0) rows p len a as (gh m o) (some t):=by
 intro σ i j d m' dp A hd hm hdp
 obtain ⟨e2,S⟩:=AI (n:=n) (dp0:=dp0) (a:=a) he hl T ha A hd hm hdp
 obtain ⟨s',hr,h2,h3⟩:=HW run
 rw [show (evA tab n).c dp0 a (.fl [] :: as) (s0 toks)=_ from hr] at S
 refine ⟨fun hf=>?_,fun hf=>?_⟩
 ·obtain ⟨b,σ',μ',e3,_,f,R',pb⟩:=S.1 ((jm o m).mp hf)
  exact ⟨σ',DR.clo_eq ct pb ▸ e3,p8 f,Cn R' h2 h3⟩
 ·obtain ⟨σ',e3,f⟩:=S.2 fun q=>Int.not_le.mpr hf ((jm o m).mpr q)
  exact ⟨σ',e3,p8 f⟩
theorem ef (he:4≤e) (hl:rows.length≤lim) {pe need:Nat} (T:aH N e rows pe toks p)
  (run:ie ((evA tab n).c dp0 a (.fl [] :: as) { toks:=toks,prev:=.none,off:=0,ls:=[] })=true)
  (ha:oF as):Claim (N+n+100) (e+dp0) rows p len a as need none:=by
 intro σ i j d m' dp A hd hm hdp
 obtain ⟨e2,S⟩:=AI (n:=n) (dp0:=dp0) (a:=a) he hl T ha A hd hm hdp
 rw [show (evA tab n).c dp0 a (.fl [] :: as) (s0 toks)=_ from Gr run] at S
 obtain ⟨σ',e3,f⟩:=S
 exact ⟨σ',e3,p8 f⟩
theorem fH (he:4≤e) (hl:rows.length≤lim) (T:aH N e rows (p+1) [.t k x q v w] p)
  (run:d7 ((evA tab n).c dp0 a (.fl [] :: as) { toks:=[.t k x q v w],prev:=.none,off:=0,ls:=[] })=some (t,[.t k x q v w],0,0,[]))
  (ha:oF as) (ct:Clo t):i9 (N+n+100) (e+dp0) rows p a as t:=by
 intro σ i j d m' dp A hd hm hdp
 obtain ⟨C1,_⟩:=c8 (len:=0) he hl T run ha ct σ i j d m' dp A hd hm hdp
 exact C1 (Int.le_trans (Int.le_of_eq (Int.add_zero d)) hd)
end
noncomputable def gQ:List D->Bool
 | .str _ :: .int _ :: _=>true
 | _=>false
noncomputable def n5 (here parts:List D):List D:=if gQ here then (match parts with | a :: _ :: r=>a :: .int 0 :: r | l=>l) else parts
mutual
noncomputable def bF:D->D
 | .tup ds=>.tup (n5 ds (bR ds))
 | .none=>.none
 | .bool b=>.bool b
 | .int b=>.int b
 | .str b=>.str b
 | .fl b=>.fl b
 | .dct b=>.dct b
 | .cell b=>.cell b
 | .glob b=>.glob b
noncomputable def bR:List D->List D
 | []=>[]
 | d :: r=>bF d :: bR r
end
end Mine.Internal.Q
end
section
namespace Mine.Internal.Q
open PySem
noncomputable def iQ:List Nat:=[114,101,103,105,111,110]
structure WR where
 pt:List Nat
 pre:List (List Nat × List Nat)
 qt:List Nat
 post:List (List Nat × List Nat)
 tree:(Nat->Int)->Int->D->D
 law:D->D
 isb:Bool
 m:Bool->Nat
 o:Bool->Nat
noncomputable def tkL (q:Nat->Int):Nat->List (List Nat × List Nat)->List TK
 | _,[]=>[]
 | i,a :: r=>.t a.1 a.2 (q i) .none .none :: tkL q (i+1) r
noncomputable def wN:List (List Nat × List Nat):=[(af,[41]),(af,[93]),(af,[125]),(af,[44]),(af,[59]),(aj,[97,115]),(fS,[])]
noncomputable def WR.toks (w:WR) (q:Nat->Int) (H:bD) (f:List Nat × List Nat) (qf:Int):List TK :=
 tkL q 0 w.pre++(.h H :: (tkL q w.pre.length w.post++[.t f.1 f.2 qf .none .none]))
noncomputable def tr0 (h:List Nat) (qi:Int) (us:List D):D:=.tup (.str h :: .int qi :: us)
noncomputable def lK (isb:Bool) (k x h:List Nat) (qp qi:Int) (v z:D) (us:List D) (need:Nat):bD :=
 { fst:=aI k x qp v z,tree:=tr0 h qi us,arm:=false,bad:=false,isb:=isb,need:=need,needB:=need }
noncomputable def cO (w:WR) (isb:Bool):Prop:=∀ (k x h:List Nat) (us:List D) (q:Nat->Int) (qp qi qf:Int) (v z:D) (need:Nat),∀ f ∈ wN,
 d7 ((evA tab 200).c 13 448 [.fl [],.bool false] { toks:=w.toks q (lK isb k x h qp qi v z us need) f qf,prev:=.none,off:=0,ls:=[] })
  = some (w.tree q qi (tr0 h qi us),[.t f.1 f.2 qf .none .none],0,w.m isb,[w.o isb+need])
noncomputable def kX (w:WR) (isb:Bool):Prop:=∀ (k x h:List Nat) (us:List D) (q:Nat->Int) (qp qi qf:Int) (v z:D) (need:Nat),∀ f ∈ wN,
 d7 ((evA tab 200).c 13 574 [.fl []] { toks:=w.toks q (lK isb k x h qp qi v z us need) f qf,prev:=.none,off:=0,ls:=[] })
  = some (w.tree q qi (tr0 h qi us),[.t f.1 f.2 qf .none .none],0,w.m isb,[w.o isb+need])
noncomputable def dQ (w:WR):Prop:=∀ (qp:Int),
 d7 ((evA tab 200).c 13 511 [.fl []] { toks:=(tkL (fun _=>qp) 0 (w.pre.take 1)),prev:=.none,off:=0,ls:=[] })=some (.bool w.isb,tkL (fun _=>qp) 0 (w.pre.take 1),0,0,[])
 ∧ d7 ((evA tab 200).c 13 560 [.fl [],.bool false] { toks:=(tkL (fun _=>qp) 0 (w.pre.take 1)),prev:=.none,off:=0,ls:=[] })=some (.bool true,tkL (fun _=>qp) 0 (w.pre.take 1),0,0,[])
noncomputable def dR (w:WR):Prop:=∀ (q:Nat->Int) (qi:Int) (h:List Nat) (us:List D),
 bF (w.tree q qi (tr0 h qi us))=w.law (bF (tr0 h qi us))∧(∃ h' q' us',w.tree q qi (tr0 h qi us)=tr0 h' q' us')∧(Clo (tr0 h qi us)->Clo (w.tree q qi (tr0 h qi us)))
structure WOK (w:WR):Prop where
 u:∀ isb,cO w isb
 b:w.isb=true->∀ isb,kX w isb
 z:dQ w
 t:dR w
 f:w.pre.length ≥ 1
 p:∀ a,w.post.head?=some a->a ∈ wN
 g:(w.pre.all fun a=>au a.1 && au a.2)=true
 n:(w.pre.take 1).all (fun a=>notFirst.all fun y=>!((eqN af a.1 || eqN aj a.1) && eqN a.2 y))=true
noncomputable def mS:WR:={ pt:=[45],pre:=[(af,[45])],qt:=[],post:=[],tree:=fun q qi t=>.tup [.str [117,110,97,114,121],.int (q 0),.str [45],t],law:=fun t=>.tup [.str [117,110,97,114,121],.int 0,.str [45],t],isb:=false,m:=fun _=>1,o:=fun _=>1 }
theorem Pu (isb:Bool):cO mS isb:=by
 intro k x h us q qp qi qf v z need
 exact List.map_inj_left.mp (by kernel_rfl)
theorem Q3:dQ mS:=fun qp=>⟨by kernel_rfl,by kernel_rfl⟩
theorem P5:dR mS:=fun q qi h us=>⟨by kernel_rfl,⟨_,_,_,rfl⟩,fun c i μ=>by simp only [mS];repeat (first | exact c i μ | constructor)⟩
theorem EM:WOK mS:=⟨Pu,(fun h=>nb h),Q3,P5,by decide,(fun a h=>by cases h <;> decide),by decide,by decide⟩
noncomputable def w_not:WR:={ pt:=[33],pre:=[(af,[33])],qt:=[],post:=[],tree:=fun q qi t=>.tup [.str [117,110,97,114,121],.int (q 0),.str [33],t],law:=fun t=>.tup [.str [117,110,97,114,121],.int 0,.str [33],t],isb:=false,m:=fun _=>1,o:=fun _=>1 }
theorem Pw (isb:Bool):cO w_not isb:=by
 intro k x h us q qp qi qf v z need
 exact List.map_inj_left.mp (by kernel_rfl)
theorem Q4:dQ w_not:=fun qp=>⟨by kernel_rfl,by kernel_rfl⟩
theorem P6:dR w_not:=fun q qi h us=>⟨by kernel_rfl,⟨_,_,_,rfl⟩,fun c i μ=>by simp only [w_not];repeat (first | exact c i μ | constructor)⟩
theorem EN:WOK w_not:=⟨Pw,(fun h=>nb h),Q4,P6,by decide,(fun a h=>by cases h <;> decide),by decide,by decide⟩
noncomputable def mQ:WR:={ pt:=[42],pre:=[(af,[42])],qt:=[],post:=[],tree:=fun q qi t=>.tup [.str [117,110,97,114,121],.int (q 0),.str [42],t],law:=fun t=>.tup [.str [117,110,97,114,121],.int 0,.str [42],t],isb:=false,m:=fun _=>1,o:=fun _=>1 }
theorem Po (isb:Bool):cO mQ isb:=by
 intro k x h us q qp qi qf v z need
 exact List.map_inj_left.mp (by kernel_rfl)
theorem PU:dQ mQ:=fun qp=>⟨by kernel_rfl,by kernel_rfl⟩
theorem OV:dR mQ:=fun q qi h us=>⟨by kernel_rfl,⟨_,_,_,rfl⟩,fun c i μ=>by simp only [mQ];repeat (first | exact c i μ | constructor)⟩
theorem EE:WOK mQ:=⟨Po,(fun h=>nb h),PU,OV,by decide,(fun a h=>by cases h <;> decide),by decide,by decide⟩
noncomputable def mR:WR:={ pt:=[38,109,117,116,32],pre:=[(af,[38]),(aj,[109,117,116])],qt:=[],post:=[],tree:=fun q qi t=>.tup [.str [98,111,114,114,111,119],.int (q 0+1 - 1),.bool true,t],law:=fun t=>.tup [.str [98,111,114,114,111,119],.int 0,.bool true,t],isb:=false,m:=fun _=>1,o:=fun _=>1 }
theorem Pr (isb:Bool):cO mR isb:=by
 intro k x h us q qp qi qf v z need
 exact List.map_inj_left.mp (by kernel_rfl)
theorem Q2:dQ mR:=fun qp=>⟨by kernel_rfl,by kernel_rfl⟩
theorem P4:dR mR:=fun q qi h us=>⟨by kernel_rfl,⟨_,_,_,rfl⟩,fun c i μ=>by simp only [mR];repeat (first | exact c i μ | constructor)⟩
theorem EL:WOK mR:=⟨Pr,(fun h=>nb h),Q2,P4,by decide,(fun a h=>by cases h <;> decide),by decide,by decide⟩
noncomputable def mP:WR:={ pt:=[38,38],pre:=[(af,[38,38])],qt:=[],post:=[],tree:=fun q qi t=>.tup [.str [98,111,114,114,111,119],.int (q 0),.bool false,.tup [.str [98,111,114,114,111,119],.int (q 0+2 - 1),.bool false,t]],law:=fun t=>.tup [.str [98,111,114,114,111,119],.int 0,.bool false,.tup [.str [98,111,114,114,111,119],.int 0,.bool false,t]],isb:=false,m:=fun _=>1,o:=fun _=>1 }
theorem Pg (isb:Bool):cO mP isb:=by
 intro k x h us q qp qi qf v z need
 exact List.map_inj_left.mp (by kernel_rfl)
theorem PJ:dQ mP:=fun qp=>⟨by kernel_rfl,by kernel_rfl⟩
theorem OP:dR mP:=fun q qi h us=>⟨by kernel_rfl,⟨_,_,_,rfl⟩,fun c i μ=>by simp only [mP];repeat (first | exact c i μ | constructor)⟩
theorem Ey:WOK mP:=⟨Pg,(fun h=>nb h),PJ,OP,by decide,(fun a h=>by cases h <;> decide),by decide,by decide⟩
noncomputable def mT:WR:={ pt:=[40],pre:=[(af,[40])],qt:=[41],post:=[(af,[41])],tree:=fun q qi t=>t,law:=fun t=>t,isb:=false,m:=fun _=>1,o:=fun _=>1 }
theorem Px (isb:Bool):cO mT isb:=by
 intro k x h us q qp qi qf v z need
 exact List.map_inj_left.mp (by kernel_rfl)
theorem Q5:dQ mT:=fun qp=>⟨by kernel_rfl,by kernel_rfl⟩
theorem P7:dR mT:=fun q qi h us=>⟨by kernel_rfl,⟨_,_,_,rfl⟩,fun c i μ=>by simp only [mT];repeat (first | exact c i μ | constructor)⟩
theorem EO:WOK mT:=⟨Px,(fun h=>nb h),Q5,P7,by decide,(fun a h=>by cases h <;> decide),by decide,by decide⟩
noncomputable def jS:WR:={ pt:=[91],pre:=[(af,[91])],qt:=[93],post:=[(af,[93])],tree:=fun q qi t=>.tup [.str [97,114,114,97,121],.int (q 0),.tup [t]],law:=fun t=>.tup [.str [97,114,114,97,121],.int 0,.tup [t]],isb:=false,m:=fun _=>1,o:=fun _=>1 }
theorem Ph (isb:Bool):cO jS isb:=by
 intro k x h us q qp qi qf v z need
 exact List.map_inj_left.mp (by kernel_rfl)
theorem PK:dQ jS:=fun qp=>⟨by kernel_rfl,by kernel_rfl⟩
theorem OQ:dR jS:=fun q qi h us=>⟨by kernel_rfl,⟨_,_,_,rfl⟩,fun c i μ=>by simp only [jS];repeat (first | exact c i μ | constructor)⟩
theorem Ez:WOK jS:=⟨Ph,(fun h=>nb h),PK,OQ,by decide,(fun a h=>by cases h <;> decide),by decide,by decide⟩
noncomputable def jU:WR:={ pt:=[102,40],pre:=[(aj,[102]),(af,[40])],qt:=[41],post:=[(af,[41])],tree:=fun q qi t=>.tup [.str [99,97,108,108],.int (q 0),.tup [.str [112,97,116,104],.int (q 0),.tup [.tup [.str [102],.tup [],.tup []]]],.tup [t]],law:=fun t=>.tup [.str [99,97,108,108],.int 0,.tup [.str [112,97,116,104],.int 0,.tup [.tup [.str [102],.tup [],.tup []]]],.tup [t]],isb:=false,m:=fun _=>1,o:=fun _=>1 }
theorem Pk (isb:Bool):cO jU isb:=by
 intro k x h us q qp qi qf v z need
 exact List.map_inj_left.mp (by kernel_rfl)
theorem PR:dQ jU:=fun qp=>⟨by kernel_rfl,by kernel_rfl⟩
theorem OT:dR jU:=fun q qi h us=>⟨by kernel_rfl,⟨_,_,_,rfl⟩,fun c i μ=>by simp only [jU];repeat (first | exact c i μ | constructor)⟩
theorem EC:WOK jU:=⟨Pk,(fun h=>nb h),PR,OT,by decide,(fun a h=>by cases h <;> decide),by decide,by decide⟩
noncomputable def jW:WR:={ pt:=[97,91],pre:=[(aj,[97]),(af,[91])],qt:=[93],post:=[(af,[93])],tree:=fun q qi t=>.tup [.str [105,110,100,101,120],.int (q 0),.tup [.str [112,97,116,104],.int (q 0),.tup [.tup [.str [97],.tup [],.tup []]]],t],law:=fun t=>.tup [.str [105,110,100,101,120],.int 0,.tup [.str [112,97,116,104],.int 0,.tup [.tup [.str [97],.tup [],.tup []]]],t],isb:=false,m:=fun _=>1,o:=fun _=>1 }
theorem Pp (isb:Bool):cO jW isb:=by
 intro k x h us q qp qi qf v z need
 exact List.map_inj_left.mp (by kernel_rfl)
theorem PW:dQ jW:=fun qp=>⟨by kernel_rfl,by kernel_rfl⟩
theorem OX:dR jW:=fun q qi h us=>⟨by kernel_rfl,⟨_,_,_,rfl⟩,fun c i μ=>by simp only [jW];repeat (first | exact c i μ | constructor)⟩
theorem EG:WOK jW:=⟨Pp,(fun h=>nb h),PW,OX,by decide,(fun a h=>by cases h <;> decide),by decide,by decide⟩
noncomputable def jX:WR:={ pt:=[97,46,109,40],pre:=[(aj,[97]),(af,[46]),(aj,[109]),(af,[40])],qt:=[41],post:=[(af,[41])],tree:=fun q qi t=>.tup [.str [109,101,116,104,111,100],.int (q 0),.tup [.str [112,97,116,104],.int (q 0),.tup [.tup [.str [97],.tup [],.tup []]]],.str [109],.tup [],.tup [t]],law:=fun t=>.tup [.str [109,101,116,104,111,100],.int 0,.tup [.str [112,97,116,104],.int 0,.tup [.tup [.str [97],.tup [],.tup []]]],.str [109],.tup [],.tup [t]],isb:=false,m:=fun _=>1,o:=fun _=>1 }
theorem Pq (isb:Bool):cO jX isb:=by
 intro k x h us q qp qi qf v z need
 exact List.map_inj_left.mp (by kernel_rfl)
theorem Q0:dQ jX:=fun qp=>⟨by kernel_rfl,by kernel_rfl⟩
theorem P1:dR jX:=fun q qi h us=>⟨by kernel_rfl,⟨_,_,_,rfl⟩,fun c i μ=>by simp only [jX];repeat (first | exact c i μ | constructor)⟩
theorem EK:WOK jX:=⟨Pq,(fun h=>nb h),Q0,P1,by decide,(fun a h=>by cases h <;> decide),by decide,by decide⟩
noncomputable def jZ:WR:={ pt:=[83,32,123,32,102,58,32],pre:=[(aj,[83]),(af,[123]),(aj,[102]),(af,[58])],qt:=[32,125],post:=[(af,[125])],tree:=fun q qi t=>.tup [.str [115,116,114,117,99,116],.int (q 0),.tup [.tup [.str [83],.tup [],.tup []]],.tup [.tup [.str [102],t]]],law:=fun t=>.tup [.str [115,116,114,117,99,116],.int 0,.tup [.tup [.str [83],.tup [],.tup []]],.tup [.tup [.str [102],t]]],isb:=false,m:=fun _=>1,o:=fun _=>1 }
theorem Pz (isb:Bool):cO jZ isb:=by
 intro k x h us q qp qi qf v z need
 exact List.map_inj_left.mp (by kernel_rfl)
theorem Q7:dQ jZ:=fun qp=>⟨by kernel_rfl,by kernel_rfl⟩
theorem P9:dR jZ:=fun q qi h us=>⟨by kernel_rfl,⟨_,_,_,rfl⟩,fun c i μ=>by simp only [jZ];repeat (first | exact c i μ | constructor)⟩
theorem ER:WOK jZ:=⟨Pz,(fun h=>nb h),Q7,P9,by decide,(fun a h=>by cases h <;> decide),by decide,by decide⟩
noncomputable def gz:WR:={ pt:=[123,32],pre:=[(af,[123])],qt:=[32,125],post:=[(af,[125])],tree:=fun q qi t=>.tup [.str [98,108,111,99,107],.int (q 0),.tup [],t],law:=fun t=>.tup [.str [98,108,111,99,107],.int 0,.tup [],t],isb:=true,m:=fun b=>bif b then 1 else 2,o:=fun b=>bif b then 1 else 2 }
theorem um:cO gz true:=by
 intro k x h us q qp qi qf v z need
 exact List.map_inj_left.mp (by kernel_rfl)
theorem rP:cO gz false:=by
 intro k x h us q qp qi qf v z need
 exact List.map_inj_left.mp (by kernel_rfl)
theorem sA:kX gz true:=by
 intro k x h us q qp qi qf v z need
 exact List.map_inj_left.mp (by kernel_rfl)
theorem qA:kX gz false:=by
 intro k x h us q qp qi qf v z need
 exact List.map_inj_left.mp (by kernel_rfl)
theorem PN:dQ gz:=fun qp=>⟨by kernel_rfl,by kernel_rfl⟩
theorem OS:dR gz:=fun q qi h us=>⟨by kernel_rfl,⟨_,_,_,rfl⟩,fun c i μ=>by simp only [gz];repeat (first | exact c i μ | constructor)⟩
theorem EB:WOK gz:=⟨fun b=>by cases b;exact rP;exact um,(fun _ b=>by cases b;exact qA;exact sA),PN,OS,by decide,(fun a h=>by cases h <;> decide),by decide,by decide⟩
noncomputable def gA:WR:={ pt:=[105,102,32,99,32,123,32],pre:=[(aj,[105,102]),(aj,[99]),(af,[123])],qt:=[32,125],post:=[(af,[125])],tree:=fun q qi t=>.tup [.str [105,102],.int (q 0),.tup [.str [112,97,116,104],.int (q 1),.tup [.tup [.str [99],.tup [],.tup []]]],.tup [.str [98,108,111,99,107],.int (q 2),.tup [],t],.none],law:=fun t=>.tup [.str [105,102],.int 0,.tup [.str [112,97,116,104],.int 0,.tup [.tup [.str [99],.tup [],.tup []]]],.tup [.str [98,108,111,99,107],.int 0,.tup [],t],.none],isb:=true,m:=fun b=>bif b then 2 else 2,o:=fun b=>bif b then 1 else 2 }
theorem uo:cO gA true:=by
 intro k x h us q qp qi qf v z need
 exact List.map_inj_left.mp (by kernel_rfl)
theorem rQ:cO gA false:=by
 intro k x h us q qp qi qf v z need
 exact List.map_inj_left.mp (by kernel_rfl)
theorem sC:kX gA true:=by
 intro k x h us q qp qi qf v z need
 exact List.map_inj_left.mp (by kernel_rfl)
theorem qB:kX gA false:=by
 intro k x h us q qp qi qf v z need
 exact List.map_inj_left.mp (by kernel_rfl)
theorem PV:dQ gA:=fun qp=>⟨by kernel_rfl,by kernel_rfl⟩
theorem OW:dR gA:=fun q qi h us=>⟨by kernel_rfl,⟨_,_,_,rfl⟩,fun c i μ=>by simp only [gA];repeat (first | exact c i μ | constructor)⟩
theorem EF:WOK gA:=⟨fun b=>by cases b;exact rQ;exact uo,(fun _ b=>by cases b;exact qB;exact sC),PV,OW,by decide,(fun a h=>by cases h <;> decide),by decide,by decide⟩
noncomputable def gD:WR:={ pt:=[109,97,116,99,104,32,99,32,123,32,95,32,61,62,32],pre:=[(aj,[109,97,116,99,104]),(aj,[99]),(af,[123]),(aj,[95]),(af,[61,62])],qt:=[44,32,125],post:=[(af,[44]),(af,[125])],tree:=fun q qi t=>.tup [.str [109,97,116,99,104],.int (q 0),.tup [.str [112,97,116,104],.int (q 1),.tup [.tup [.str [99],.tup [],.tup []]]],.tup [.tup [.tup [.str [119,105,108,100],.int (q 3)],.none,t]]],law:=fun t=>.tup [.str [109,97,116,99,104],.int 0,.tup [.str [112,97,116,104],.int 0,.tup [.tup [.str [99],.tup [],.tup []]]],.tup [.tup [.tup [.str [119,105,108,100],.int 0],.none,t]]],isb:=true,m:=fun b=>bif b then 2 else 2,o:=fun b=>bif b then 1 else 2 }
theorem uu:cO gD true:=by
 intro k x h us q qp qi qf v z need
 exact List.map_inj_left.mp (by kernel_rfl)
theorem rT:cO gD false:=by
 intro k x h us q qp qi qf v z need
 exact List.map_inj_left.mp (by kernel_rfl)
theorem sG:kX gD true:=by
 intro k x h us q qp qi qf v z need
 exact List.map_inj_left.mp (by kernel_rfl)
theorem qE:kX gD false:=by
 intro k x h us q qp qi qf v z need
 exact List.map_inj_left.mp (by kernel_rfl)
theorem PZ:dQ gD:=fun qp=>⟨by kernel_rfl,by kernel_rfl⟩
theorem P0:dR gD:=fun q qi h us=>⟨by kernel_rfl,⟨_,_,_,rfl⟩,fun c i μ=>by simp only [gD];repeat (first | exact c i μ | constructor)⟩
theorem EJ:WOK gD:=⟨fun b=>by cases b;exact rT;exact uu,(fun _ b=>by cases b;exact qE;exact sG),PZ,P0,by decide,(fun a h=>by cases h <;> decide),by decide,by decide⟩
noncomputable def gC:WR:={ pt:=[39,108,58,32,108,111,111,112,32,123,32],pre:=[(iQ,[39,108]),(af,[58]),(aj,[108,111,111,112]),(af,[123])],qt:=[32,125],post:=[(af,[125])],tree:=fun q qi t=>.tup [.str [108,111,111,112],.int (q 2),.str [39,108],.tup [.str [98,108,111,99,107],.int (q 3),.tup [],t]],law:=fun t=>.tup [.str [108,111,111,112],.int 0,.str [39,108],.tup [.str [98,108,111,99,107],.int 0,.tup [],t]],isb:=true,m:=fun b=>bif b then 1 else 2,o:=fun b=>bif b then 1 else 2 }
theorem ur:cO gC true:=by
 intro k x h us q qp qi qf v z need
 exact List.map_inj_left.mp (by kernel_rfl)
theorem rS:cO gC false:=by
 intro k x h us q qp qi qf v z need
 exact List.map_inj_left.mp (by kernel_rfl)
theorem sF:kX gC true:=by
 intro k x h us q qp qi qf v z need
 exact List.map_inj_left.mp (by kernel_rfl)
theorem qD:kX gC false:=by
 intro k x h us q qp qi qf v z need
 exact List.map_inj_left.mp (by kernel_rfl)
theorem PY:dQ gC:=fun qp=>⟨by kernel_rfl,by kernel_rfl⟩
theorem OZ:dR gC:=fun q qi h us=>⟨by kernel_rfl,⟨_,_,_,rfl⟩,fun c i μ=>by simp only [gC];repeat (first | exact c i μ | constructor)⟩
theorem EI:WOK gC:=⟨fun b=>by cases b;exact rS;exact ur,(fun _ b=>by cases b;exact qD;exact sF),PY,OZ,by decide,(fun a h=>by cases h <;> decide),by decide,by decide⟩
noncomputable def gB:WR:={ pt:=[123,32,108,101,116,32,120,32,61,32],pre:=[(af,[123]),(aj,[108,101,116]),(aj,[120]),(af,[61])],qt:=[59,32,125],post:=[(af,[59]),(af,[125])],tree:=fun q qi t=>.tup [.str [98,108,111,99,107],.int (q 0),.tup [.tup [.str [108,101,116],.int (q 1),.tup [.str [110,97,109,101],.int (q 2),.str [120],.bool false,.bool false,.none],.none,t]],.none],law:=fun t=>.tup [.str [98,108,111,99,107],.int 0,.tup [.tup [.str [108,101,116],.int 0,.tup [.str [110,97,109,101],.int 0,.str [120],.bool false,.bool false,.none],.none,t]],.none],isb:=true,m:=fun b=>bif b then 2 else 2,o:=fun b=>bif b then 2 else 2 }
theorem uq:cO gB true:=by
 intro k x h us q qp qi qf v z need
 exact List.map_inj_left.mp (by kernel_rfl)
theorem rR:cO gB false:=by
 intro k x h us q qp qi qf v z need
 exact List.map_inj_left.mp (by kernel_rfl)
theorem sD:kX gB true:=by
 intro k x h us q qp qi qf v z need
 exact List.map_inj_left.mp (by kernel_rfl)
theorem qC:kX gB false:=by
 intro k x h us q qp qi qf v z need
 exact List.map_inj_left.mp (by kernel_rfl)
theorem PX:dQ gB:=fun qp=>⟨by kernel_rfl,by kernel_rfl⟩
theorem OY:dR gB:=fun q qi h us=>⟨by kernel_rfl,⟨_,_,_,rfl⟩,fun c i μ=>by simp only [gB];repeat (first | exact c i μ | constructor)⟩
theorem EH:WOK gB:=⟨fun b=>by cases b;exact rR;exact uq,(fun _ b=>by cases b;exact qC;exact sD),PX,OY,by decide,(fun a h=>by cases h <;> decide),by decide,by decide⟩
noncomputable def jY:WR:={ pt:=[40,114,101,116,117,114,110,32],pre:=[(af,[40]),(aj,[114,101,116,117,114,110])],qt:=[41],post:=[(af,[41])],tree:=fun q qi t=>.tup [.str [114,101,116,117,114,110],.int (q 1),t],law:=fun t=>.tup [.str [114,101,116,117,114,110],.int 0,t],isb:=false,m:=fun _=>2,o:=fun _=>2 }
theorem Py (isb:Bool):cO jY isb:=by
 intro k x h us q qp qi qf v z need
 exact List.map_inj_left.mp (by kernel_rfl)
theorem Q6:dQ jY:=fun qp=>⟨by kernel_rfl,by kernel_rfl⟩
theorem P8:dR jY:=fun q qi h us=>⟨by kernel_rfl,⟨_,_,_,rfl⟩,fun c i μ=>by simp only [jY];repeat (first | exact c i μ | constructor)⟩
theorem EP:WOK jY:=⟨Py,(fun h=>nb h),Q6,P8,by decide,(fun a h=>by cases h <;> decide),by decide,by decide⟩
noncomputable def jT:WR:={ pt:=[40,120,32,61,32],pre:=[(af,[40]),(aj,[120]),(af,[61])],qt:=[41],post:=[(af,[41])],tree:=fun q qi t=>.tup [.str [97,115,115,105,103,110],.int (q 1),.tup [.str [112,97,116,104],.int (q 1),.tup [.tup [.str [120],.tup [],.tup []]]],t],law:=fun t=>.tup [.str [97,115,115,105,103,110],.int 0,.tup [.str [112,97,116,104],.int 0,.tup [.tup [.str [120],.tup [],.tup []]]],t],isb:=false,m:=fun _=>2,o:=fun _=>2 }
theorem Pj (isb:Bool):cO jT isb:=by
 intro k x h us q qp qi qf v z need
 exact List.map_inj_left.mp (by kernel_rfl)
theorem PM:dQ jT:=fun qp=>⟨by kernel_rfl,by kernel_rfl⟩
theorem OR:dR jT:=fun q qi h us=>⟨by kernel_rfl,⟨_,_,_,rfl⟩,fun c i μ=>by simp only [jT];repeat (first | exact c i μ | constructor)⟩
theorem EA:WOK jT:=⟨Pj,(fun h=>nb h),PM,OR,by decide,(fun a h=>by cases h <;> decide),by decide,by decide⟩
noncomputable def w_add:WR:={ pt:=[40,97,32,43,32],pre:=[(af,[40]),(aj,[97]),(af,[43])],qt:=[41],post:=[(af,[41])],tree:=fun q qi t=>.tup [.str [98,105,110,97,114,121],.int (q 1),.str [43],.tup [.str [112,97,116,104],.int (q 1),.tup [.tup [.str [97],.tup [],.tup []]]],t],law:=fun t=>.tup [.str [98,105,110,97,114,121],.int 0,.str [43],.tup [.str [112,97,116,104],.int 0,.tup [.tup [.str [97],.tup [],.tup []]]],t],isb:=false,m:=fun _=>2,o:=fun _=>2 }
theorem Pf (isb:Bool):cO w_add isb:=by
 intro k x h us q qp qi qf v z need
 exact List.map_inj_left.mp (by kernel_rfl)
theorem PI:dQ w_add:=fun qp=>⟨by kernel_rfl,by kernel_rfl⟩
theorem OO:dR w_add:=fun q qi h us=>⟨by kernel_rfl,⟨_,_,_,rfl⟩,fun c i μ=>by simp only [w_add];repeat (first | exact c i μ | constructor)⟩
theorem Ex:WOK w_add:=⟨Pf,(fun h=>nb h),PI,OO,by decide,(fun a h=>by cases h <;> decide),by decide,by decide⟩
noncomputable def jV:WR:={ pt:=[40],pre:=[(af,[40])],qt:=[32,97,115,32,117,56,41],post:=[(aj,[97,115]),(aj,[117,56]),(af,[41])],tree:=fun q qi t=>.tup [.str [99,97,115,116],.int qi,t,.tup [.str [112,97,116,104],.int (q 2),.tup [.tup [.str [117,56],.tup [],.tup []]]]],law:=fun t=>.tup [.str [99,97,115,116],.int 0,t,.tup [.str [112,97,116,104],.int 0,.tup [.tup [.str [117,56],.tup [],.tup []]]]],isb:=false,m:=fun _=>2,o:=fun _=>1 }
theorem Pn (isb:Bool):cO jV isb:=by
 intro k x h us q qp qi qf v z need
 exact List.map_inj_left.mp (by kernel_rfl)
theorem PT:dQ jV:=fun qp=>⟨by kernel_rfl,by kernel_rfl⟩
theorem OU:dR jV:=fun q qi h us=>⟨by kernel_rfl,⟨_,_,_,rfl⟩,fun c i μ=>by simp only [jV];repeat (first | exact c i μ | constructor)⟩
theorem ED:WOK jV:=⟨Pn,(fun h=>nb h),PT,OU,by decide,(fun a h=>by cases h <;> decide),by decide,by decide⟩
end Mine.Internal.Q
end
section
namespace Mine.Internal.Q
open PySem
noncomputable def cC (rows:List D) (p:Nat) (ts:List D):Prop:=∀ m,m < ts.length->rows[p+m]?=ts[m]?
theorem cC.app {rows:List D} {p:Nat} {a b:List D} (h:cC rows p (a++b)):cC rows p a∧cC rows (p+a.length) b:=by
 refine ⟨fun m hm=>?_,fun m hm=>?_⟩
 ·rw [h m (by rw [List.length_append];exact Nat.lt_of_lt_of_le hm (Nat.le_add_right _ _)),List.getElem?_append_left hm]
 ·rw [Nat.add_assoc,h (a.length+m) (by rw [List.length_append];exact Nat.add_lt_add_left hm _),List.getElem?_append_right (Nat.le_add_right _ _),Nat.add_sub_cancel_left]
theorem cC.head {rows:List D} {p:Nat} {a:D} {b:List D} (h:cC rows p (a :: b)):rows[p]?=some a∧cC rows (p+1) b:=by
 refine ⟨by simpa using h 0 (by simp),fun m hm=>?_⟩
 have:=h (m+1) (Nat.succ_lt_succ hm)
 rw [show p+1+m=p+(m+1) from Nat.add_right_comm p 1 m,this]
 simp
noncomputable def tkD (q:Nat->Int) (i:Nat) (l:List (List Nat × List Nat)):List D:=(tkL q i l).map TK.d
theorem mJ (q:Nat->Int):∀ (l:List (List Nat × List Nat)) (i:Nat),(tkL q i l).length=l.length
 | [],_=>rfl
 | a :: r,i=>by simp only [tkL,List.length_cons,mJ q r]
theorem mH (q:Nat->Int) (l:List (List Nat × List Nat)) (i:Nat):(tkD q i l).length=l.length:=by simp [tkD,mJ]
theorem bE (k x:List Nat) (p:Int):Clo (aI k x p .none .none):=fun _ _=>.tup (.cons (.str _) (.cons (.str _) (.cons (.int _) (.cons .none (.cons .none .nil)))))
theorem aH.tks {N e pe:Nat} {rows:List D} (q:Nat->Int) {rest:List TK}:∀ (l:List (List Nat × List Nat)) (i p:Nat),cC rows p (tkD q i l)->aH N e rows pe rest (p+l.length)->aH N e rows pe (tkL q i l++rest) p
 | [],_,_,_,h=>h
 | a :: r,i,p,s,h=>by
  obtain ⟨s1,s2⟩:=cC.head (a:=aI a.1 a.2 (q i) .none .none) (b:=tkD q (i+1) r) s
  refine .tok s1 (bE _ _ _) (aH.tks q r (i+1) (p+1) s2 ?_)
  rw [show p+1+r.length=p+(a :: r).length from Nat.add_right_comm p 1 r.length]
  exact h
structure jF (ts:List D) (tree:D) (k:Nat) (isb:Bool) (N e:Nat):Prop where
 tr:∃ h q us,tree=tr0 h q us
 clo:Clo tree
 hole:∀ (rows:List D) (p:Nat) (f:List Nat × List Nat) (qf:Int),f ∈ wN->rows.length≤lim->cC rows p ts->rows[p+ts.length]?=some (aI f.1 f.2 qf .none .none) ->
  ∃ kk x qp v z,dP N e rows p ts.length { fst:=aI kk x qp v z,tree:=tree,arm:=false,bad:=false,isb:=isb,need:=k,needB:=k }
theorem oS:oF [D.bool false]:=fun _ _=>.cons (.bool _) .nil
theorem dW:oF []:=fun _ _=>.nil
theorem jF.wrap {w:WR} (W:WOK w) {ts:List D} {h:List Nat} {qi:Int} {us:List D} {k:Nat} {isb:Bool} {N e:Nat} (P:jF ts (tr0 h qi us) k isb N e) (he:4≤e) (q:Nat->Int) :
  jF (tkD q 0 w.pre++(ts++tkD q w.pre.length w.post)) (w.tree q qi (tr0 h qi us)) (gh (w.m isb) [w.o isb+k]) w.isb (N+300) (e+13):=by
 obtain ⟨t1,t2,t3⟩:=W.t q qi h us
 refine ⟨t2,t3 P.clo,?_⟩
 intro rows p f qf hf hl S hF
 obtain ⟨S1,S2⟩:=S.app
 rw [mH] at S2
 obtain ⟨S2,S3⟩:=S2.app
 have hlen:(tkD q 0 w.pre++(ts++tkD q w.pre.length w.post)).length=w.pre.length+ts.length+w.post.length:=by
  simp only [List.length_append,mH];exact (Nat.add_assoc ..).symm
 rw [hlen] at hF ⊢
 obtain ⟨f2,qf2,hf2,hF2⟩:∃ f2 qf2,f2 ∈ wN∧rows[p+w.pre.length+ts.length]?=some (aI f2.1 f2.2 qf2 .none .none):=by
  cases hp:w.post with
  | nil=>rw [hp] at hF;exact ⟨f,qf,hf,by simpa [Nat.add_assoc] using hF⟩
  | cons a r =>
   rw [hp] at S3
   refine ⟨a,q w.pre.length,?_,(cC.head (a:=aI a.1 a.2 (q w.pre.length) .none .none) (b:=tkD q (w.pre.length+1) r) S3).1⟩
   exact W.p a (by rw [hp];rfl)
 obtain ⟨kk,x,qp,v,z,HO⟩:=P.hole rows (p+w.pre.length) f2 qf2 hf2 hl S2 hF2
 have T:aH N e rows (p+(w.pre.length+ts.length+w.post.length)+1) (w.toks q (lK isb kk x h qp qi v z us k) f qf) p:=by
  refine aH.tks q w.pre 0 p S1 (.hole HO ?_)
  refine aH.tks q w.post w.pre.length _ S3 ?_
  have e1:p+w.pre.length+ts.length+w.post.length=p+(w.pre.length+ts.length+w.post.length):=by rw [Nat.add_assoc p,Nat.add_assoc p]
  rw [e1]
  exact .tok hF (bE _ _ _) .nil
 have C1:=c8 he hl T (W.u isb kk x h us q qp qi qf v z k f hf) oS (t3 P.clo)
 have hpre:∃ a r,w.pre=a :: r:=by
  cases hp:w.pre with
  | nil=>have:=W.f;rw [hp] at this;simp at this
  | cons a r=>exact ⟨a,r,rfl⟩
 obtain ⟨a,r,hp⟩:=hpre
 have s1:rows[p]?=some (aI a.1 a.2 (q 0) .none .none):=by
  rw [hp] at S1
  exact (cC.head (a:=aI a.1 a.2 (q 0) .none .none) (b:=tkD q 1 r) S1).1
 have T0:aH N e rows (p+1) [.t a.1 a.2 (q 0) .none .none] p:=.tok s1 (bE _ _ _) .nil
 have z0:=W.z (q 0)
 rw [hp] at z0
 have C2:=fH he hl T0 z0.1 dW (fun _ _=>.bool _)
 have C3:=fH he hl T0 z0.2 oS (fun _ _=>.bool _)
 have g:=W.g
 have n:=W.n
 rw [hp] at g n
 simp only [List.all_cons,Bool.and_eq_true] at g
 refine ⟨a.1,a.2,q 0,.none,.none,⟨⟨a.1,a.2,q 0,.none,.none,rfl,s1,g.1.1,g.1.2,?_⟩,bE _ _ _,t3 P.clo,fun _=>⟨C1,C2,C3,fun hb=>?_⟩,fun h=>nomatch h⟩⟩
 ·intro y hy
  simp only [List.take,List.all_cons,List.all_nil,Bool.and_true] at n
  have:∀ l:List (List Nat),(l.all fun y=>!((eqN af a.1 || eqN aj a.1) && eqN a.2 y))=true->inN y l=true->((eqN af a.1 || eqN aj a.1) && eqN a.2 y)=false:=by
   intro l
   induction l with
   | nil=>intro _ h;cases h
   | cons b t ih =>
    intro h1 h2
    simp only [List.all_cons,Bool.and_eq_true] at h1
    simp only [inN,Bool.or_eq_true] at h2
    rcases h2 with h2 | h2
    ·rw [← (bI _ _).mp h2]
     have:=h1.1
     simpa only [Bool.not_eq_true'] using this
    ·exact ih h1.2 h2
  exact this _ n hy
 ·have C4:=c8 he hl T (W.b hb isb kk x h us q qp qi qf v z k f hf) dW (t3 P.clo)
  exact C4
end Mine.Internal.Q
end
section
namespace Mine.Internal.Q
open PySem
noncomputable def inC (c:Nat):List Nat->Bool
 | []=>false
 | d :: r=>Nat.beq c d || inC c r
theorem fq (c:Nat):∀ l:List Nat,l.contains c=inC c l
 | []=>rfl
 | d :: r=>by
  simp only [List.contains_cons,inC,fq c r]
  congr 1
  cases h:Nat.beq c d with
  | true=>rw [Nat.eq_of_beq_eq_true h];simp
  | false=>rw [beq_eq_false_iff_ne];intro e;subst e;simp at h
noncomputable def az (g:List Nat):List Nat->List Nat × List Nat
 | []=>([],[])
 | c :: r=>if inC c g then (c :: (az g r).1,(az g r).2) else ([],c :: r)
noncomputable def bG (c:Nat):List Nat->Bool
 | []=>false
 | d :: _=>Nat.beq d c
noncomputable def gNB:List Nat:=[97,98,99,100,101,102,103,104,105,106,107,108,109,110,111,112,113,114,115,116,117,118,119,120,121,122,65,66,67,68,69,70,71,72,73,74,75,76,77,78,79,80,81,82,83,84,85,86,87,88,89,90,95]
noncomputable def sZ:List Nat:=[48,49,50,51,52,53,54,55,56,57]
noncomputable def gNS:List Nat:=[97,98,99,100,101,102,103,104,105,106,107,108,109,110,111,112,113,114,115,116,117,118,119,120,121,122,65,66,67,68,69,70,71,72,73,74,75,76,77,78,79,80,81,82,83,84,85,86,87,88,89,90,95,48,49,50,51,52,53,54,55,56,57]
noncomputable def gBl:List Nat:=[32,9,13,10,11,12,133,8206,8207,8232,8233]
noncomputable def ic:List (List Nat):=[[60,60,61],[62,62,61],[46,46,61],[58,58],[45,62],[61,62],[61,61],[33,61],[60,61],[62,61],[38,38],[124,124],[60,60],[62,62],[46,46],[43,61],[45,61],[42,61],[47,61],[37,61],[38,61],[124,61],[94,61],[40],[41],[123],[125],[91],[93],[44],[59],[58],[46],[61],[60],[62],[43],[45],[42],[47],[37],[38],[124],[94],[33],[64]]
noncomputable def p9:List (List Nat):=[[105,56],[105,49,54],[105,51,50],[105,54,52],[117,56],[117,49,54],[117,51,50],[117,54,52],[117,115,105,122,101]]
noncomputable def firstSign:List (List Nat)->List Nat->Option (List Nat)
 | [],_=>none
 | x :: r,s=>if eqN (s.take x.length) x then some x else firstSign r s
theorem cB (g:List Nat):∀ s:List Nat,s=(az g s).1++(az g s).2
 | []=>rfl
 | c :: r=>by
  have ih:=cB g r
  show c :: r=(if inC c g then (c :: (az g r).1,(az g r).2) else ([],c :: r)).1++(if inC c g then (c :: (az g r).1,(az g r).2) else ([],c :: r)).2
  cases inC c g with
  | true=>exact congrArg (c :: ·) ih
  | false=>rfl
theorem mC (g:List Nat):∀ (s:List Nat),∀ c ∈ (az g s).1,inC c g=true
 | [],_,h=>nomatch h
 | d :: r,c,h=>by
  have ih:=mC g r c
  replace h:c ∈ (if inC d g then (d :: (az g r).1,(az g r).2) else ([],d :: r)).1:=h
  cases e:inC d g with
  | true=>rw [e] at h;exact (List.mem_cons.mp h).elim (fun q=>q ▸ e) ih
  | false=>rw [e] at h;exact nomatch h
noncomputable def vL (g:List Nat):List Nat->Prop
 | []=>True
 | c :: _=>inC c g=false
theorem iB (g:List Nat):∀ s:List Nat,vL g (az g s).2
 | []=>trivial
 | c :: r=>by
  have ih:=iB g r
  show vL g (if inC c g then (c :: (az g r).1,(az g r).2) else ([],c :: r)).2
  cases e:inC c g with
  | true=>exact ih
  | false=>exact e
theorem Qn (P:Nat):((P:Int)+1)=((P+1:Nat):Int):=rfl
theorem Qo (P:Nat):((P:Int)+2)=((P+2:Nat):Int):=rfl
theorem Qp (P k:Nat):((P:Int)+(k:Int))=((P+k:Nat):Int):=rfl
theorem J5 (P:Nat):cD (some (.int (P:Int)))=some (some P):=rfl
theorem aR {σ:Sto} {t:List Nat} {P c:Nat} (h:t[P]?=some c) (hl:t.length≤lim):cU σ (.str t) (.int (P:Int))=some (.str [c]):=by
 have hp:=ao h
 show (if Nat.ble P lim then (t[P]?).map (fun c=>D.str [c]) else none)=_
 rw [if_pos (Nat.ble_eq.mpr (Nat.le_trans (Nat.le_of_lt hp) hl)),h];rfl
theorem pP (σ:Sto) (a b:Nat):aV σ .lt (.int (a:Int)) (.int (b:Int))=some (.bool (Nat.blt a b)):=by
 show some (D.bool (decide ((a:Int) < (b:Int))))=_
 refine congrArg (fun x=>some (D.bool x)) ?_
 cases h:Nat.blt a b with
 | true=>exact decide_eq_true (Int.ofNat_lt.mpr (Nat.blt_eq.mp h))
 | false=>exact decide_eq_false fun q=>by rw [Nat.blt_eq.mpr (Int.ofNat_lt.mp q)] at h;cases h
theorem in_str (σ:Sto) (c:Nat) (g:List Nat):aV σ .inn (.str [c]) (.str g)=some (.bool (inC c g)):=by
 rw [← fq];rfl
theorem aD {t:List Nat} {P c:Nat} {r:List Nat} (h:t.drop P=c :: r):t[P]?=some c:=by
 have:=congrArg (·[0]?) h
 exact List.getElem?_drop.symm.trans this
theorem jf {t:List Nat} {P c:Nat} {r:List Nat} (h:t.drop P=c :: r):t.drop (P+1)=r:=by
 exact List.drop_drop.symm.trans (congrArg (List.drop 1) h)
theorem lB {t:List Nat} {P:Nat} {a b:List Nat} (h:t.drop P=a++b):t.drop (P+a.length)=b:=by
 have:=congrArg (List.drop a.length) h
 rw [List.drop_drop] at this
 rw [this,List.drop_left]
theorem lC {t:List Nat} {P:Nat} {s:List Nat} (h:t.drop P=s) (hp:P≤t.length):t.length=P+s.length:=by
 rw [← h,List.length_drop,Nat.add_sub_cancel' hp]
theorem len_str {σ:Sto} {t:List Nat} (hl:t.length≤lim):biD σ .len [.str t]=.ok (.int (t.length:Int)) σ:=by
 exact if_pos (Nat.ble_eq.mpr hl)
theorem dM {σ:Sto} {t:List Nat} (hl:t.length≤lim) (lo hi:Option Nat):gm σ (.str t) lo hi=.ok (.str (bU t lo hi)) σ:=by
 exact if_pos (Nat.ble_eq.mpr hl)
theorem fX (t:List Nat) (P k:Nat):bU t (some P) (some (P+k))=(t.drop P).take k:=by
 show (t.take (P+k)).drop P=_
 rw [List.drop_take,Nat.add_sub_cancel_left]
theorem gG {t:List Nat} (h:au t=true) (n:Nat):au (t.drop n)=true:=by
 unfold au at *
 rw [List.all_eq_true] at *
 exact fun x hx=>h x (List.mem_of_mem_drop hx)
theorem gH {t:List Nat} (h:au t=true) (n:Nat):au (t.take n)=true:=by
 unfold au at *
 rw [List.all_eq_true] at *
 exact fun x hx=>h x (List.mem_of_mem_take hx)
theorem Nat.blt_t {a b:Nat} (h:a < b):Nat.blt a b=true:=Nat.blt_eq.mpr h
theorem Nat.blt_f {a b:Nat} (h:¬ a < b):Nat.blt a b=false:=by
 cases e:Nat.blt a b with
 | false=>rfl
 | true=>exact (h (Nat.blt_eq.mp e)).elim
theorem iS (g s:List Nat):(az g s).1.length≤s.length:=by
 have:=congrArg List.length (cB g s)
 rw [List.length_append] at this
 exact this ▸ Nat.le_add_right _ _
theorem bX {n m:Nat} (h:n≤m):∃ k,m=k+n:=⟨m - n,(Nat.sub_add_cancel h).symm⟩
theorem eG {s n m:Nat} (h:s+n≤m):∃ z,m=z+s+n:=let ⟨k,e⟩:=bX h;⟨k,e.trans (Nat.add_assoc ..).symm⟩
theorem lv {z s c d:Nat} (h:c≤d):s+c≤z+s+d:=by rw [Nat.add_assoc];exact Nat.le_trans (Nat.add_le_add_left h s) (Nat.le_add_left _ _)
theorem lv2 {z s c d:Nat} {t:Nat} (ht:t≤s) (h:c≤d):t+c≤z+s+d:=Nat.le_trans (Nat.add_le_add_right ht c) (lv h)
theorem uV {α:Type} {b:Bool} {x:Option α} {y:α} (h:(if b then none else x)=some y):b=false∧x=some y:=by
 cases b with
 | true=>cases h
 | false=>exact ⟨rfl,h⟩
theorem uW {α:Type} {b:Bool} {x z:Option α} {y:α} (h:(if b then x else z)=some y):(b=true∧x=some y)∨(b=false∧z=some y):=by
 cases b with
 | true=>exact .inl ⟨rfl,h⟩
 | false=>exact .inr ⟨rfl,h⟩
theorem tri {α β γ:Type} {M:α->β->γ->Prop} {a x:α} {b y:β} {c z:γ} (h:some (a,b,c)=some (x,y,z)) (k:M a b c):M x y z:=by cases h;exact k
theorem DJ {α β γ δ:Type} {M:α->β->γ->δ->Prop} {a x:α} {b y:β} {c z:γ} {d w:δ} (h:some (a,b,c,d)=some (x,y,z,w)) (k:M a b c d):M x y z w:=by cases h;exact k
theorem iu {σ:Sto} {a b:Nat} (h:a < b):aV σ .lt (.int (a:Int)) (.int (b:Int))=some (.bool true):=(pP σ a b).trans (congrArg (fun x=>some (D.bool x)) (Nat.blt_eq.mpr h))
theorem v8 {σ:Sto} {a b:Nat} (h:b≤a):aV σ .lt (.int (a:Int)) (.int (b:Int))=some (.bool false):=(pP σ a b).trans (congrArg (fun x=>some (D.bool x)) (Nat.blt_f (Nat.not_lt.mpr h)))
theorem pF {σ:Sto} {c:Nat} {g:List Nat} (h:inC c g=true):aV σ .inn (.str [c]) (.str g)=some (.bool true):=(in_str σ c g).trans (congrArg (fun x=>some (D.bool x)) h)
theorem jJ {σ:Sto} {c:Nat} {g:List Nat} (h:inC c g=false):aV σ .inn (.str [c]) (.str g)=some (.bool false):=(in_str σ c g).trans (congrArg (fun x=>some (D.bool x)) h)
theorem Ew {n dp:Nat} {ρ ρ':Loc} {c:X} {b:List SS} {σ σ₁ σ₂:Sto} {d:D} (h:(evn false fnT n).t dp ρ c σ=.ok true σ₁) (hb:(evn false fnT n).b dp ρ b σ₁=.ok (.ret d,ρ') σ₂):(evn false fnT (n+1)).w dp ρ c b σ=.ok (.ret d,ρ') σ₂:=by
 show ((evn false fnT n).t dp ρ c σ).bind _=_
 rw [h]
 show ((evn false fnT n).b dp ρ b σ₁).bind _=_
 rw [hb]
 rfl
theorem BV {n dp:Nat} {ρ ρ₁ ρ₂:Loc} {t:Tg} {d v:D} {r:List D} {b:List SS} {σ σ':Sto} (h:bW ρ t d=some ρ₁) (hb:(evn false fnT n).b dp ρ₁ b σ=.ok (.ret v,ρ₂) σ'):(evn false fnT (n+1)).f dp ρ t (d :: r) b σ=.ok (.ret v,ρ₂) σ':=by
 show (match bW ρ t d with | some ρ=>_ | none=>_)=_
 rw [h]
 show ((evn false fnT n).b dp ρ₁ b σ).bind _=_
 rw [hb]
 rfl
theorem kG {t:List Nat} {P:Nat} (h:t.drop P=[]):t.length≤P:=List.drop_eq_nil_iff.mp h
theorem fB {t:List Nat} {P c:Nat} {r:List Nat} (h:t.drop P=c :: r):P < t.length:=ao (aD h)
noncomputable def c69:X:=X.band [X.cmp Cm.lt (X.loc 1) (X.bi Bi.len [X.loc 0]),X.cmp Cm.inn (X.sub (X.loc 0) (X.loc 1)) (X.loc 2)]
noncomputable def b69:List SS:=[SS.aug 1 (X.k (D.int 1))]
section
variable {text:List Nat} (hl:text.length≤lim)
include hl
theorem xP (g:List Nat) (dp:Nat) (σ:Sto):∀ (a:List Nat) (P Q:Nat) (b:List Nat),text.drop P=a++b->(∀ c ∈ a,inC c g=true)->vL g b->Q=P+a.length->∀ (n:Nat),a.length+11≤n ->
  (evn false fnT n).w dp [some (.str text),some (.int (P:Int)),some (.str g)] c69 b69 σ=.ok (.next,[some (.str text),some (.int (Q:Int)),some (.str g)]) σ:=by
 intro a
 induction a with
 | nil =>
  intro P Q b h _ hs hQ n hn
  obtain ⟨n,rfl⟩:=bX hn
  subst hQ
  refine f9 ?_
  cases b with
  | nil=>exact fG (m:=n) (j:=10) (fd (len_str (σ:=σ) hl) (fo (v8 (σ:=σ) (kG h)) .z)) (by kernel_rfl)
  | cons c r=>exact fG (m:=n) (j:=10) (fd (len_str (σ:=σ) hl) (fo (iu (σ:=σ) (fB h)) (fo (aR (σ:=σ) (aD h) hl) (fo (jJ (σ:=σ) hs) .z)))) (by kernel_rfl)
 | cons c a ih =>
  intro P Q b h ha hs hQ n hn
  obtain ⟨n,rfl⟩:=bX hn
  have hm:a.length+11≤n+(a.length+11):=Nat.le_add_left _ _
  refine (dH (n:=n+(a.length+11)) (σ₁:=σ) (σ₂:=σ) (ρ':=[some (.str text),some (.int ((P+1:Nat):Int)),some (.str g)]) ?_ ?_).trans (ih (P+1) Q b (jf h) (fun d m=>ha d (.tail _ m)) hs (hQ.trans (Nat.succ_add_eq_add_succ _ _).symm) _ hm)
  ·exact fG (m:=n+a.length+1) (j:=10) (fd (len_str (σ:=σ) hl) (fo (iu (σ:=σ) (fB h)) (fo (aR (σ:=σ) (aD h) hl) (fo (pF (σ:=σ) (ha c (.head _))) .z)))) (by kernel_rfl)
  ·exact fT (m:=n+a.length+1) (j:=10) .z (by kernel_rfl)
theorem kK (g:List Nat) {P:Nat} {s:List Nat} (hp:P≤text.length) (h:text.drop P=s) (m dp:Nat) (σ:Sto) (hm:s.length+40≤m) :
  (evn false fnT m).c (dp+1) 69 [.str text,.int (P:Int),.str g] σ=.ok (.int ((P+(az g s).1.length:Nat):Int)) σ:=by
 obtain ⟨k,rfl⟩:=eG hm
 have h2:=xP hl g dp σ (az g s).1 P _ (az g s).2 (h.trans (cB g s)) (mC g s) (iB g s) rfl (k+s.length+38) (lv2 (iS g s) (by decide))
 exact runC (m:=k+s.length) (j:=39) LN rfl rfl (ff h2 .z) (by kernel_rfl)
noncomputable def c83:X:=X.cmp Cm.lt (X.loc 1) (X.bi Bi.len [X.loc 0])
noncomputable def b83:List SS:=[SS.ifs (X.cmp Cm.inn (X.sub (X.loc 0) (X.loc 1)) (X.gl (D.str gBl))) [SS.asg (Tg.n 1) (X.call (X.gl (D.glob 69)) [X.loc 0,X.loc 1,X.gl (D.str gBl)])] [SS.ifs (X.cmp Cm.eq (X.slc (X.loc 0) (some (X.loc 1)) (some (X.bin Op.add (X.loc 1) (X.k (D.int 2))))) (X.k (D.str [47,47]))) [SS.asg (Tg.n 2) (X.me Me.find (X.loc 0) [X.k (D.str [10]),X.loc 1]),SS.asg (Tg.n 1) (X.ite (X.cmp Cm.lt (X.loc 2) (X.k (D.int 0))) (X.bi Bi.len [X.loc 0]) (X.loc 2))] [SS.ifs (X.cmp Cm.eq (X.slc (X.loc 0) (some (X.loc 1)) (some (X.bin Op.add (X.loc 1) (X.k (D.int 2))))) (X.k (D.str [47,42]))) [SS.asg (Tg.n 1) (X.call (X.gl (D.glob 76)) [X.loc 0,X.loc 1])] [SS.ret (X.loc 1)]]]]
omit hl in
theorem head_take {b:List Nat} {x y:Nat} (h:bG x b=false):eqN (b.take 2) [x,y]=false:=by
 cases b with
 | nil=>rfl
 | cons c r=>exact congrArg (· && eqN (r.take 1) [y]) h
noncomputable def Ky (P:Nat):List Nat->Fl
 | []=>.next
 | _ :: _=>.ret (.int (P:Int))
theorem vM (ha:au text=true) {P:Nat} {b:List Nat} (h:text.drop P=b) (hs:vL gBl b) (h47:bG 47 b=false) (dp n:Nat) (σ:Sto) (x:Option D) :
  (evn false fnT (n+20)).w (dp+1) [some (.str text),some (.int (P:Int)),x] c83 b83 σ=.ok (Ky P b,[some (.str text),some (.int (P:Int)),x]) σ:=by
 cases b with
 | nil=>exact f9 (fG (m:=n) (j:=19) (fd (len_str (σ:=σ) hl) (fo (v8 (σ:=σ) (kG h)) .z)) (by kernel_rfl))
 | cons c r =>
  refine Ew (σ₁:=σ) (fG (m:=n) (j:=19) (fd (len_str (σ:=σ) hl) (fo (iu (σ:=σ) (fB h)) .z)) (by kernel_rfl)) ?_
  have a1:au ((c :: r).take 2)=true:=by rw [← h];exact gH (gG ha _) _
  have q0:=dM (σ:=σ) hl (some P) (some (P+2))
  rw [fX,h] at q0
  have q1:=(eq_str a1 (x:=[47,47]) rfl σ).trans (congrArg (fun x=>some (D.bool x)) (head_take h47))
  have q2:=(eq_str a1 (x:=[47,42]) rfl σ).trans (congrArg (fun x=>some (D.bool x)) (head_take h47))
  exact fT (m:=n) (j:=19) (fo (aR (σ:=σ) (aD h) hl) (fo (jJ (σ:=σ) hs) (fn 1 (fd q0 (fo q1 (fn 1 (fd q0 (fo q2 .z)))))))) (by kernel_rfl)
theorem nC (ha:au text=true) {P:Nat} {s:List Nat} (hp:P≤text.length) (h:text.drop P=s) (hs:bG 47 (az gBl s).2=false) (m dp:Nat) (σ:Sto) (hm:s.length+80≤m) :
  (evn false fnT m).c (dp+2) 83 [.str text,.int (P:Int)] σ=.ok (.int ((P+(az gBl s).1.length:Nat):Int)) σ:=by
 obtain ⟨k,rfl⟩:=eG hm
 have e1:=cB gBl s
 have hst:=iB gBl s
 have r1:=kK hl gBl hp h (k+s.length+74) dp σ (lv (by decide))
 have hin:=mC gBl s
 generalize (az gBl s).1=a at *
 generalize (az gBl s).2=b at *
 suffices w:(evn false fnT (k+s.length+78)).w (dp+1) [some (.str text),some (.int (P:Int)),none] c83 b83 σ=.ok (Ky (P+a.length) b,[some (.str text),some (.int ((P+a.length:Nat):Int)),none]) σ by
  cases b with
  | nil=>exact runC (m:=k+s.length) (j:=79) Gy rfl rfl (ff w .z) (by kernel_rfl)
  | cons=>exact runC (m:=k+s.length) (j:=79) Gy rfl rfl (ff w .z) (by kernel_rfl)
 cases a with
 | nil=>exact vM hl ha (P:=P) (b:=b) (h.trans e1) hst hs dp (k+s.length+58) σ none
 | cons c a =>
  have h0:=h.trans e1
  refine (dH (n:=k+s.length+77) (σ₁:=σ) (fG (m:=k+s.length) (j:=77) (fd (len_str (σ:=σ) hl) (fo (iu (σ:=σ) (fB h0)) .z)) (by kernel_rfl)) (fT (m:=k+s.length) (j:=77) (fo (aR (σ:=σ) (aD h0) hl) (fo (pF (σ:=σ) (hin c (.head _))) (fd r1 .z))) (by kernel_rfl))).trans (vM hl ha (lB h0) hst hs dp (k+s.length+57) σ none)
end
end Mine.Internal.Q
end
section
namespace Mine.Internal.Q
open PySem
noncomputable def Kc:List SS:=[SS.ifs (X.cmp Cm.eq (X.slc (X.loc 0) (some (X.loc 1)) (some (X.bin Op.add (X.loc 1) (X.bi Bi.len [X.loc 2])))) (X.loc 2)) [SS.ret (X.tup [X.tup [X.k (D.str [115,105,103,110]),X.loc 2,X.loc 1,X.k D.none,X.k D.none],X.bin Op.add (X.loc 1) (X.bi Bi.len [X.loc 2])])] []]
noncomputable def AG (P:Nat) (y:List Nat):D:=.tup [aI af y (P:Int) .none .none,.int ((P+y.length:Nat):Int)]
theorem yP {s z:List Nat} (h:eqN (s.take z.length) z=true):∃ r,s=z++r:=by
 have:=(bI _ _).mp h
 exact ⟨s.drop z.length,by conv=>lhs;rw [← List.take_append_drop z.length s,this]⟩
noncomputable def Oq (text:List Nat) (P:Nat) (z:List Nat) (b:Bool):Fl × Loc:=(if b then .ret (AG P z) else .next,[some (.str text),some (.int (P:Int)),some (.str z)])
noncomputable def AF (z:List Nat):Bool:=au z && Nat.ble z.length 10
section
variable {text:List Nat} (hl:text.length≤lim) (ha:au text=true) {P:Nat} {s:List Nat} (h:text.drop P=s) (dp:Nat) (σ:Sto)
include hl ha h
theorem Ik {z:List Nat} (hz:AF z=true) (n:Nat):(evn false fnT (n+20)).b dp [some (.str text),some (.int (P:Int)),some (.str z)] Kc σ=.ok (Oq text P z (eqN (s.take z.length) z)) σ:=by
 have z1:au z=true:=(Bool.and_eq_true_iff.mp hz).1
 have zl:z.length≤lim:=Nat.le_trans (Nat.ble_eq.mp (Bool.and_eq_true_iff.mp hz).2) (by decide)
 have a1:au (s.take z.length)=true:=by rw [← h];exact gH (gG ha _) _
 have q1:=eq_str a1 z1 σ
 have q0:=dM (σ:=σ) hl (some P) (some (P+z.length))
 rw [fX,h] at q0
 cases hq:eqN (s.take z.length) z with
 | true =>
  rw [hq] at q1
  exact fT (m:=n) (j:=20) (fd (len_str (σ:=σ) zl) (fn 1 (fd q0 (fo q1 (fd (len_str (σ:=σ) zl) .z))))) (by kernel_rfl)
 | false =>
  rw [hq] at q1
  exact fT (m:=n) (j:=20) (fd (len_str (σ:=σ) zl) (fn 1 (fd q0 (fo q1 .z)))) (by kernel_rfl)
theorem Il:∀ (l:List (List Nat)) (x:Option D) (y:List Nat),l.all AF=true->firstSign l s=some y->∀ n,l.length+20≤n->∃ ρ',
  (evn false fnT n).f dp [some (.str text),some (.int (P:Int)),x] (.n 2) (l.map .str) Kc σ=.ok (.ret (AG P y),ρ') σ:=by
 intro l
 induction l with
 | nil=>intro x y _ e;cases e
 | cons z l ih =>
  intro x y hz e n hn
  obtain ⟨n,rfl⟩:=bX hn
  have r1:=Ik hl ha h dp σ (Bool.and_eq_true_iff.mp hz).1 (n+l.length)
  unfold firstSign at e
  cases hq:eqN (s.take z.length) z with
  | true =>
   rw [hq,if_pos rfl] at e
   cases e
   rw [hq] at r1
   exact ⟨_,BV (n:=n+l.length+20) rfl r1⟩
  | false =>
   rw [hq,if_neg Bool.false_ne_true] at e
   rw [hq] at r1
   obtain ⟨ρ',ih⟩:=ih (some (.str z)) y (Bool.and_eq_true_iff.mp hz).2 e (n+l.length+20) (by rw [Nat.add_assoc];exact Nat.le_add_left _ _)
   exact ⟨ρ',(iL (n:=n+l.length+20) rfl r1).trans ih⟩
theorem AH {y:List Nat} (e:firstSign ic s=some y) (k:Nat) :
  (evn false fnT (k+100)).c (dp+1) 111 [.str text,.int (P:Int)] σ=.ok (AG P y) σ:=by
 obtain ⟨ρ',h1⟩:=Il hl ha h dp σ ic none y (by decide) e (k+98) (Nat.le_trans (by decide:46+20≤98) (Nat.le_add_left _ _))
 exact runC (m:=k) (j:=99) F9 rfl rfl (ff h1 .z) (by kernel_rfl)
end
noncomputable def fw (c:Nat):Nat:=if Nat.ble 48 (cQ c) && Nat.ble (cQ c) 57 then cQ c - 48 else if Nat.ble 97 (cQ c) && Nat.ble (cQ c) 102 then cQ c - 87 else 99
theorem H9 {c:Nat} (hc:Nat.blt c 128=true):Nat.blt (cQ c) 128=true:=by
 have:=Nat.blt_eq.mp hc
 unfold cQ
 split
 ·next h=>simp only [Bool.and_eq_true,decide_eq_true_eq] at h;exact Nat.blt_eq.mpr (Nat.lt_of_le_of_lt (Nat.add_le_add_right h.2 32) (by decide))
 ·exact hc
theorem Gv (c:Nat):(0≤fO (cQ c)∧fO (cQ c)=(fw c:Int))∨(fO (cQ c) < 0∧fw c=99):=by
 unfold fO fw
 generalize cQ c=x
 split
 ·exact .inl ⟨Int.natCast_nonneg _,rfl⟩
 ·split
  ·exact .inl ⟨Int.natCast_nonneg _,rfl⟩
  ·exact .inr ⟨by decide,rfl⟩
theorem zj {c:Nat} (hc:Nat.blt c 128=true) (k dp:Nat) (σ:Sto):(evn false fnT (k+40)).c (dp+1) 90 [.str [c]] σ=.ok (.int (fw c:Int)) σ:=by
 have e1:meD σ .find (.str [48,49,50,51,52,53,54,55,56,57,97,98,99,100,101,102]) [.str [cQ c]]=.ok (.int (fO (cQ c))) σ:=by
  show (if (wR == wR && Nat.blt (cQ c) 128)=true then R.ok (D.int (fO (cQ c))) σ else R.no)=_
  rw [H9 hc];rfl
 have e2:meD σ .lower (.str [c]) []=.ok (.str [cQ c]) σ:=by
  show (if ((Nat.blt c 128 && true) && Nat.ble 1 lim)=true then R.ok (D.str ([c].map cQ)) σ else R.no)=_
  rw [hc];rfl
 have g1:aV σ .ge (.int (fO (cQ c))) (.int 0)=some (.bool (decide (0≤fO (cQ c)))):=rfl
 rcases Gv c with ⟨h1,h2⟩ | ⟨h1,h2⟩
 ·rw [decide_eq_true h1] at g1
  rw [h2] at e1 g1
  exact runC (m:=k) (j:=39) Gz rfl rfl (fn 2 (fd e2 (fd e1 (fo g1 .z)))) (by kernel_rfl)
 ·rw [decide_eq_false (Int.not_le.mpr h1)] at g1
  rw [h2]
  exact runC (m:=k) (j:=39) Gz rfl rfl (fn 2 (fd e2 (fd e1 (fo g1 .z)))) (by kernel_rfl)
end Mine.Internal.Q
end
section
namespace Mine.Internal.Q
open PySem
noncomputable def rK:Nat:=10000000000000000000000000000000000000000
noncomputable def i7 (base c v:Nat):Nat:=if Nat.beq c 95 then v else v * base+fw c
noncomputable def stepK (c k:Nat):Nat:=if Nat.beq c 95 then k else k+1
noncomputable def cu (base:Nat):List Nat->Nat->Nat->Option (Nat × Nat × Nat × List Nat)
 | [],v,k=>some (v,k,0,[])
 | c :: r,v,k=>if Nat.beq c 95 || Nat.blt (fw c) base then
   (if Nat.blt (i7 base c v) rK then (match cu base r (i7 base c v) (stepK c k) with | some (v',k',n,t)=>some (v',k',n+1,t) | none=>none) else none)
  else some (v,k,0,c :: r)
noncomputable def Km:X:=X.band [X.cmp Cm.lt (X.loc 3) (X.bi Bi.len [X.loc 0]),X.bor [X.cmp Cm.eq (X.sub (X.loc 0) (X.loc 3)) (X.k (D.str [95])),X.cmp Cm.lt (X.call (X.gl (D.glob 90)) [X.sub (X.loc 0) (X.loc 3)]) (X.loc 2)]]
noncomputable def Ka:List SS:=[SS.ifs (X.cmp Cm.ne (X.sub (X.loc 0) (X.loc 3)) (X.k (D.str [95]))) [SS.asg (Tg.ns [4,5]) (X.tup [X.bin Op.add (X.bin Op.mul (X.loc 4) (X.loc 2)) (X.call (X.gl (D.glob 90)) [X.sub (X.loc 0) (X.loc 3)]),X.bin Op.add (X.loc 5) (X.k (D.int 1))])] [],SS.ifs (X.cmp Cm.ge (X.loc 4) (X.gl (D.int 10000000000000000000000000000000000000000))) [SS.un] [],SS.aug 3 (X.k (D.int 1))]
theorem kq {t:List Nat} (ha:au t=true) {P c:Nat} (h:t[P]?=some c):Nat.blt c 128=true:=by
 unfold au at ha
 rw [List.all_eq_true] at ha
 exact ha c (List.mem_of_getElem? h)
theorem BA (ρ:Loc) (a b:Nat) (x y:D) (h:a ≠ b):bW ρ (.ns [a,b]) (.tup [x,y])=some (put (put ρ a x) b y):=by
 unfold bW
 simp only
 rw [if_pos (by simp [h])]
 rfl
inductive yi (base c:Nat) (r:List Nat) (v k:Nat):Nat->Nat->Nat->List Nat->Prop where
 | stop (h1:Nat.beq c 95=false) (h2:Nat.blt (fw c) base=false):yi base c r v k v k 0 (c :: r)
 | step {v' k' n:Nat} {t:List Nat} (h1:(Nat.beq c 95 || Nat.blt (fw c) base)=true) (h2:i7 base c v < rK) (e:cu base r (i7 base c v) (stepK c k)=some (v',k',n,t)):yi base c r v k v' k' (n+1) t
theorem GP {base c:Nat} {r:List Nat} {v k v' k' n:Nat} {t:List Nat} (e:cu base (c :: r) v k=some (v',k',n,t)):yi base c r v k v' k' n t:=by
 rcases uW (show (if Nat.beq c 95 || Nat.blt (fw c) base then (if Nat.blt (i7 base c v) rK then (match cu base r (i7 base c v) (stepK c k) with | some (v',k',n,t)=>some (v',k',n+1,t) | none=>none) else none) else some (v,k,0,c :: r))=some (v',k',n,t) from e) with ⟨h,e⟩ | ⟨h,e⟩
 ·obtain ⟨h2,e⟩:=cM e
  cases h3:cu base r (i7 base c v) (stepK c k) with
  | none=>rw [h3] at e;cases e
  | some q=>rw [h3] at e;exact DJ (M:=yi base c r v k) e (.step h (Nat.blt_eq.mp h2) h3)
 ·exact DJ (M:=yi base c r v k) e (.stop (Bool.or_eq_false_iff.mp h).1 (Bool.or_eq_false_iff.mp h).2)
noncomputable def lR (text:List Nat) (beg x y:Option D) (base P v k:Nat):Loc:=[some (.str text),beg,some (.int (base:Int)),some (.int (P:Int)),some (.int (v:Int)),some (.int (k:Int)),x,y]
theorem Fy {σ:Sto} {v:Nat} (h:v < rK):aV σ .ge (.int (v:Int)) (.int 10000000000000000000000000000000000000000)=some (.bool false):=congrArg (fun b=>some (D.bool b)) (decide_eq_false (Int.not_le.mpr (Int.ofNat_lt.mpr h)))
theorem Cz {σ:Sto} {v b:Nat} (h1:v < rK) (h2:b≤16):bx σ .mul (.int (v:Int)) (.int (b:Int))=.ok (.int ((v * b:Nat):Int)) σ:=by
 show (if (Nat.ble v (10 ^ 60) && Nat.ble b (10 ^ 6))=true then R.ok (D.int ((v:Int) * (b:Int))) σ else R.no)=_
 rw [Nat.ble_eq.mpr (Nat.le_trans (Nat.le_of_lt h1) (by decide)),Nat.ble_eq.mpr (Nat.le_trans h2 (by decide))]
 rfl
section
variable {text:List Nat} (hl:text.length≤lim) (base:Nat) (beg x y:Option D) {P v k c:Nat} {r:List Nat} (h:text.drop P=c :: r) (dp:Nat) (σ:Sto) (ha:au text=true)
include hl h ha
theorem pH (q:Bool) (hq:Nat.beq c 95=q):aV σ .eq (.str [c]) (.str [95])=some (.bool q)∧aV σ .ne (.str [c]) (.str [95])=some (.bool (!q)):=by
 have ac:au [c]=true:=congrArg (· && true) (kq ha (aD h))
 have e9:eqN [c] [95]=q:=(Bool.and_true _).trans hq
 rw [← e9]
 exact ⟨eq_str ac (x:=[95]) rfl σ,ne_str ac (x:=[95]) rfl σ⟩
theorem LX (n:Nat):(evn false fnT (n+46)).t (dp+1) (lR text beg x y base P v k) Km σ=.ok (Nat.beq c 95 || Nat.blt (fw c) base) σ:=by
 cases hu:Nat.beq c 95 with
 | true=>exact fG (m:=n) (j:=46) (fd (len_str (σ:=σ) hl) (fo (iu (σ:=σ) (fB h)) (fo (aR (σ:=σ) (aD h) hl) (fo (pH hl h σ ha true hu).1 .z)))) (by kernel_rfl)
 | false=>exact fG (m:=n) (j:=46) (fd (len_str (σ:=σ) hl) (fo (iu (σ:=σ) (fB h)) (fo (aR (σ:=σ) (aD h) hl) (fo (pH hl h σ ha false hu).1 (fo (aR (σ:=σ) (aD h) hl) (fd (zj (kq ha (aD h)) n dp σ) (fo (pP σ (fw c) base) .z))))))) (by kernel_rfl)
theorem LW (n:Nat) (hb:base≤16) (hv:v < rK) (h2:i7 base c v < rK):(evn false fnT (n+46)).b (dp+1) (lR text beg x y base P v k) Ka σ=.ok (.next,lR text beg x y base (P+1) (i7 base c v) (stepK c k)) σ:=by
 unfold i7 stepK at *
 cases hu:Nat.beq c 95 with
 | true =>
  exact fT (m:=n) (j:=46) (fo (aR (σ:=σ) (aD h) hl) (fo (pH hl h σ ha true hu).2 (fo (Fy (σ:=σ) hv) .z))) (by kernel_rfl)
 | false =>
  rw [hu] at h2
  exact fT (m:=n) (j:=46) (fo (aR (σ:=σ) (aD h) hl) (fo (pH hl h σ ha false hu).2 (fd (Cz (σ:=σ) hv hb) (fo (aR (σ:=σ) (aD h) hl) (fd (zj (kq ha (aD h)) n dp σ) (fn 2 (fo (Fy (σ:=σ) h2) .z))))))) (by kernel_rfl)
end
theorem LY {text:List Nat} (hl:text.length≤lim) (ha:au text=true) (base:Nat) (hb:base≤16) (beg x y:Option D) (dp:Nat) (σ:Sto):∀ (s:List Nat) (P v k v' k' n Q:Nat) (t:List Nat),text.drop P=s->v < rK->cu base s v k=some (v',k',n,t)->Q=P+n->∀ (m:Nat),s.length+47≤m ->
  (evn false fnT m).w (dp+1) (lR text beg x y base P v k) Km Ka σ=.ok (.next,lR text beg x y base Q v' k') σ:=by
 intro s
 induction s with
 | nil =>
  intro P v k v' k' n Q t h hv e hQ m hm
  obtain ⟨m,rfl⟩:=bX hm
  cases e
  subst hQ
  exact f9 (n:=m+46) (fG (m:=m) (j:=46) (fd (len_str (σ:=σ) hl) (fo (v8 (σ:=σ) (kG h)) .z)) (by kernel_rfl))
 | cons c r ih =>
  intro P v k v' k' n Q t h hv e hQ m hm
  obtain ⟨m,rfl⟩:=bX hm
  have ht:=LX hl base beg x y (v:=v) (k:=k) h dp σ ha (m+r.length+1)
  cases GP e with
  | stop h1 h2 =>
   rw [h1,h2] at ht
   subst hQ
   exact f9 (n:=m+r.length+1+46) ht
  | step h1 h2 e2 =>
   rw [h1] at ht
   exact (dH (n:=m+r.length+1+46) ht (LW hl base beg x y h dp σ ha _ hb hv h2)).trans (ih (P+1) _ _ v' k' _ Q t (jf h) h2 e2 (hQ.trans (Nat.succ_add_eq_add_succ _ _).symm) _ (by rw [Nat.add_assoc,Nat.add_assoc];exact Nat.le_add_left _ _))
end Mine.Internal.Q
end
section
namespace Mine.Internal.Q
open PySem
noncomputable def baseOf (k:List Nat):Nat × Nat:=if eqN k [48,120] then (16,2) else if eqN k [48,111] then (8,2) else if eqN k [48,98] then (2,2) else (10,0)
noncomputable def nA:List (List Nat × D):=[([48,120],D.int 16),([48,111],D.int 8),([48,98],D.int 2)]
theorem Gf (z:List Nat):(∃ b:Nat,gf z nA=some (.int (b:Int))∧baseOf z=(b,2))∨(gf z nA=none∧baseOf z=(10,0)):=by
 unfold baseOf
 show (∃ b:Nat,(if eqN z [48,120]=true then some (D.int 16) else if eqN z [48,111]=true then some (.int 8) else if eqN z [48,98]=true then some (.int 2) else none)=_∧_)∨(if eqN z [48,120]=true then some (D.int 16) else if eqN z [48,111]=true then some (.int 8) else if eqN z [48,98]=true then some (.int 2) else none)=_∧_
 cases eqN z [48,120] with
 | true=>exact .inl ⟨16,rfl,rfl⟩
 | false=>cases eqN z [48,111] with
  | true=>exact .inl ⟨8,rfl,rfl⟩
  | false=>cases eqN z [48,98] with
   | true=>exact .inl ⟨2,rfl,rfl⟩
   | false=>exact .inr ⟨rfl,rfl⟩
theorem yx {text:List Nat} (hl:text.length≤lim) (ha:au text=true) {P:Nat} {s:List Nat} (h:text.drop P=s) (m dp:Nat) (σ:Sto) (hm:40≤m) :
  (evn false fnT m).c (dp+1) 97 [.str text,.int (P:Int)] σ=.ok (.tup [.int ((baseOf (s.take 2)).1:Int),.int ((P+(baseOf (s.take 2)).2:Nat):Int)]) σ:=by
 obtain ⟨k,rfl⟩:∃ k,m=k+40:=⟨m - 40,(Nat.sub_add_cancel hm).symm⟩
 have q0:=dM (σ:=σ) hl (some P) (some (P+2))
 rw [fX,h] at q0
 have c1:aV σ .inn (.str (s.take 2)) (.dct nA)=some (.bool (gf (s.take 2) nA).isSome):=congrArg (fun o=>some (D.bool (Option.isSome o))) (iV _ _)
 have c2:cU σ (.dct nA) (.str (s.take 2))=gf (s.take 2) nA:=iV _ _
 generalize s.take 2=z at q0 c1 c2 ⊢
 rcases Gf z with ⟨b,h1,h2⟩ | ⟨h1,h2⟩
 ·rw [h1] at c1 c2
  rw [h2]
  exact runC (m:=k) (j:=39) GA rfl rfl (fn 1 (fd q0 (fo c1 (fo c2 (fn 1 .z))))) (by kernel_rfl)
 ·rw [h1] at c1
  rw [h2]
  exact runC (m:=k) (j:=39) GA rfl rfl (fn 1 (fd q0 (fo c1 .z))) (by kernel_rfl)
theorem iP (base:Nat):∀ (s:List Nat) (v k v' k' n:Nat) (t:List Nat),cu base s v k=some (v',k',n,t)->s.drop n=t∧n≤s.length:=by
 intro s
 induction s with
 | nil=>intro v k v' k' n t h;exact DJ (M:=fun _ _ n t=>[].drop n=t∧n≤0) h ⟨rfl,Nat.le_refl _⟩
 | cons c r ih =>
  intro v k v' k' n t h
  exact (GP h).rec (motive:=fun v' k' n t _=>(c :: r).drop n=t∧n≤r.length+1) (fun _ _=>⟨rfl,Nat.zero_le _⟩) fun _ _ e=>(ih _ _ _ _ _ _ e).imp id Nat.succ_le_succ
theorem J6 {y:List Nat} (hy:au y=true) (l:List (List Nat)) (hl:l.all au=true) (σ:Sto):aV σ .inn (.str y) (.tup (l.map .str))=some (.bool (inN y l))∧aV σ .notin (.str y) (.tup (l.map .str))=some (.bool (!inN y l)) :=
 ⟨iO hy l hl fun b=>b,iO hy l hl fun b=>!b⟩
noncomputable def gS:List Nat:=[105,110,116]
noncomputable def FJ (kd:List Nat):D:=if eqN kd [] then .none else .str kd
noncomputable def GV (kd:List Nat):Bool:=eqN kd [] || inN kd p9
noncomputable def tu (P o v n:Nat) (s kd:List Nat):D:=aI gS (s.take (o+n+kd.length)) (P:Int) (.int (v:Int)) (FJ kd)
noncomputable def gR (P:Nat) (s:List Nat):Option (D × Nat × List Nat) :=
 match cu (baseOf (s.take 2)).1 (s.drop (baseOf (s.take 2)).2) 0 0 with
 | some (v,k,n,t)=>if Nat.beq k 0 then none else if GV (az gNS t).1 then
   some (tu P (baseOf (s.take 2)).2 v n s (az gNS t).1,(baseOf (s.take 2)).2+n+(az gNS t).1.length,(az gNS t).2) else none
 | none=>none
inductive yj (P:Nat) (s:List Nat):D->Nat->List Nat->Prop where
 | mk (b o v k n:Nat) (t kd r:List Nat) (hb:baseOf (s.take 2)=(b,o)) (e:cu b (s.drop o) 0 0=some (v,k,n,t)) (hk:Nat.beq k 0=false) (hs:t=kd++r) (h1:(az gNS t).1=kd) (h2:(az gNS t).2=r) (hkd:GV kd=true) :
   yj P s (tu P o v n s kd) (o+n+kd.length) r
theorem Bk {P:Nat} {s:List Nat} {tok:D} {len:Nat} {t':List Nat} (e:gR P s=some (tok,len,t')):yj P s tok len t':=by
 unfold gR at e
 cases e2:cu (baseOf (s.take 2)).1 (s.drop (baseOf (s.take 2)).2) 0 0 with
 | none=>rw [e2] at e;cases e
 | some q =>
  obtain ⟨v,k,n,t⟩:=q
  rw [e2] at e
  obtain ⟨hk,e⟩:=uV e
  obtain ⟨hkd,e⟩:=cM e
  exact tri (M:=yj P s) e (.mk _ _ v k n t _ _ rfl e2 hk (cB gNS t) rfl rfl hkd)
theorem BE (k:List Nat):(baseOf k).1≤16:=by unfold baseOf;split;decide;split;decide;split;decide;decide
theorem mF {s z:List Nat} (h:eqN (s.take 2) z=true) (hz:z.length=2):2≤s.length:=by
 have:=congrArg List.length ((bI _ _).mp h)
 rw [List.length_take,hz] at this
 exact Nat.le_trans (Nat.le_of_eq this.symm) (Nat.min_le_right _ _)
theorem put2 {o n l:Nat} (ho:o≤l) (g:n≤l - o):o+n≤l:=by
 rw [Nat.add_comm]
 exact (Nat.le_sub_iff_add_le ho).mp g
theorem qF (s:List Nat):(baseOf (s.take 2)).2≤s.length:=by
 unfold baseOf
 cases h1:eqN (s.take 2) [48,120] with
 | true=>exact mF h1 rfl
 | false=>cases h2:eqN (s.take 2) [48,111] with
  | true=>exact mF h2 rfl
  | false=>cases h3:eqN (s.take 2) [48,98] with
   | true=>exact mF h3 rfl
   | false=>exact Nat.zero_le _
theorem CG {kd:List Nat} (hk:au kd=true) (h:inN kd p9=true) (σ:Sto):aV σ .notin (.str kd) (.tup (p9.map .str))=some (.bool false):=(iO hk p9 rfl fun b=>!b).trans (congrArg (fun b=>some (D.bool (!b))) h)
section
variable {text:List Nat} (hl:text.length≤lim) (ha:au text=true) {P:Nat} {s:List Nat} (hp:P≤text.length) (h:text.drop P=s)
include hl ha hp h
theorem Ce {tok:D} {len:Nat} {t':List Nat} (e₀:gR P s=some (tok,len,t')) (m dp:Nat) (σ:Sto) (hm:s.length+140≤m) :
  (evn false fnT m).c (dp+2) 104 [.str text,.int (P:Int)] σ=.ok (.tup [tok,.int ((P+len:Nat):Int)]) σ:=by
 obtain ⟨z,rfl⟩:∃ z,m=z+s.length+140:=eG hm
 cases Bk e₀ with
 | mk b o v k n t kd _ hb e hk hs h1 h2 hkd =>
 obtain ⟨g1,g2⟩:=iP _ _ _ _ _ _ _ _ e
 have b1:=yx hl ha h (z+s.length+137) dp σ (Nat.le_trans (by decide:40≤137) (Nat.le_add_left _ _))
 have hb16:=BE (s.take 2)
 have ho:=qF s
 rw [hb] at b1 hb16 ho
 have hlen:=lC h hp
 have hd2:text.drop (P+o)=s.drop o:=by rw [← h,List.drop_drop]
 have hd3:text.drop (P+o+n)=t:=by rw [← g1,← hd2,List.drop_drop]
 rw [List.length_drop] at g2
 have w1:=LY hl ha b hb16 (some (.int (P:Int))) none none dp σ (s.drop o) (P+o) 0 0 v k n (P+o+n) t hd2 (by decide) e rfl (z+s.length+136) (by rw [List.length_drop];exact Nat.add_le_add (Nat.le_trans (Nat.sub_le _ _) (Nat.le_add_left _ z)) (by decide))
 have r1:=kK hl gNS (by rw [hlen,Nat.add_assoc];exact Nat.add_le_add_left (put2 ho g2) P) hd3 (z+s.length+133) dp σ (by rw [← g1,List.length_drop,List.length_drop];exact Nat.add_le_add (Nat.le_trans (Nat.le_trans (Nat.sub_le _ _) (Nat.sub_le _ _)) (Nat.le_add_left _ z)) (by decide))
 rw [h1] at r1
 have s1:gm σ (.str text) (some (P+o+n)) (some (P+o+n+kd.length))=.ok (.str kd) σ:=by rw [dM hl,fX,hd3,hs,List.take_left]
 have s2:gm σ (.str text) (some P) (some (P+o+n+kd.length))=.ok (.str (s.take (o+n+kd.length))) σ:=by rw [dM hl,Nat.add_assoc P,Nat.add_assoc P,fX,h]
 have akd:au kd=true:=by
  have:=gH (gG ha (P+o+n)) kd.length
  rw [hd3,hs,List.take_left] at this
  exact this
 have n1:=ne_str akd (x:=[]) rfl σ
 have n3:=eq_str akd (x:=[]) rfl σ
 have k0:aV σ .eq (.int (k:Int)) (.int 0)=some (.bool false):=jd (congrArg some (beq_eq_false_iff_ne.mpr fun q=>by rw [Int.ofNat_inj.mp q] at hk;cases hk))
 have ep:P+(o+n+kd.length)=P+o+n+kd.length:=by rw [Nat.add_assoc P,Nat.add_assoc P]
 rw [ep]
 unfold GV at hkd
 unfold tu FJ
 cases hz:eqN kd [] with
 | true =>
  rw [hz] at n1 n3
  exact runC (m:=z+s.length) (j:=139) z4 rfl rfl (fd b1 (fn 0 (ff w1 (fo k0 (fd r1 (fd s1 (fo n1 (fd s2 (fo n3 .z))))))))) (by kernel_rfl)
 | false =>
  rw [hz] at n1 n3 hkd
  exact runC (m:=z+s.length) (j:=139) z4 rfl rfl (fd b1 (fn 0 (ff w1 (fo k0 (fd r1 (fd s1 (fo n1 (fo (CG akd hkd σ) (fd s2 (fo n3 .z)))))))))) (by kernel_rfl)
end
end Mine.Internal.Q
end
section
namespace Mine.Internal.Q
open PySem
noncomputable def uU:List Nat->Bool
 | []=>false
 | c :: _=>inC c sZ
noncomputable def i8 (P:Nat) (s:List Nat):Option (D × Nat × List Nat):=match s with
 | []=>none
 | c :: r=>if inC c gNB then (if bG 39 (az gNS (c :: r)).2 then none else some (aI aj (az gNS (c :: r)).1 (P:Int) .none .none,(az gNS (c :: r)).1.length,(az gNS (c :: r)).2))
  else if inC c sZ then gR P (c :: r)
  else if Nat.beq c 39 then (if eqN (az gNS r).1 [] || uU (az gNS r).1 then none else some (aI iQ (39 :: (az gNS r).1) (P:Int) .none .none,1+(az gNS r).1.length,(az gNS r).2))
  else match firstSign ic (c :: r) with
   | some y=>some (aI af y (P:Int) .none .none,y.length,(c :: r).drop y.length)
   | none=>none
theorem gW {s y:List Nat}:∀ {l:List (List Nat)},firstSign l s=some y->y ∈ l∧∃ t,s=y++t
 | [],h=>by cases h
 | z :: l,h=>by
  replace h:(if eqN (s.take z.length) z then some z else firstSign l s)=some y:=h
  cases e:eqN (s.take z.length) z with
  | true=>rw [e] at h;cases h;exact ⟨.head _,yP e⟩
  | false=>rw [e] at h;exact (gW h).imp (.tail _) id
inductive jG (P:Nat):List Nat->D->Nat->List Nat->Prop where
 | name (c:Nat) (r w t:List Nat) (h1:inC c gNB=true) (e1:(az gNS (c :: r)).1=w) (e2:(az gNS (c :: r)).2=t) (h39:bG 39 t=false):jG P (c :: r) (aI aj w (P:Int) .none .none) w.length t
 | int (c:Nat) (r:List Nat) (tok:D) (len:Nat) (t:List Nat) (h1:inC c gNB=false) (h2:inC c sZ=true) (e:gR P (c :: r)=some (tok,len,t)):jG P (c :: r) tok len t
 | region (r:List Nat) (a:Nat) (w t:List Nat) (e1:(az gNS r).1=a :: w) (e2:(az gNS r).2=t) (h2:inC a sZ=false):jG P (39 :: r) (aI iQ (39 :: a :: w) (P:Int) .none .none) (1+(a :: w).length) t
 | sign (c:Nat) (r y:List Nat) (h1:inC c gNB=false) (h2:inC c sZ=false) (h3:Nat.beq c 39=false) (e:firstSign ic (c :: r)=some y):jG P (c :: r) (aI af y (P:Int) .none .none) y.length ((c :: r).drop y.length)
theorem Bm {P:Nat} {s:List Nat} {tok:D} {len:Nat} {t:List Nat} (e:i8 P s=some (tok,len,t)):jG P s tok len t:=by
 cases s with
 | nil=>cases e
 | cons c r =>
  replace e:(if inC c gNB then (if bG 39 (az gNS (c :: r)).2 then none else some (aI aj (az gNS (c :: r)).1 (P:Int) .none .none,(az gNS (c :: r)).1.length,(az gNS (c :: r)).2))
   else if inC c sZ then gR P (c :: r)
   else if Nat.beq c 39 then (if eqN (az gNS r).1 [] || uU (az gNS r).1 then none else some (aI iQ (39 :: (az gNS r).1) (P:Int) .none .none,1+(az gNS r).1.length,(az gNS r).2))
   else match firstSign ic (c :: r) with
    | some y=>some (aI af y (P:Int) .none .none,y.length,(c :: r).drop y.length)
    | none=>none)=some (tok,len,t):=e
  rcases uW e with ⟨h1,e⟩ | ⟨h1,e⟩
  ·obtain ⟨h2,e⟩:=uV e
   exact tri (M:=jG P (c :: r)) e (.name c r _ _ h1 rfl rfl h2)
  rcases uW e with ⟨h2,e⟩ | ⟨h2,e⟩
  ·exact .int c r _ _ _ h1 h2 e
  rcases uW e with ⟨h3,e⟩ | ⟨h3,e⟩
  ·obtain rfl:=Nat.eq_of_beq_eq_true h3
   obtain ⟨h4,e⟩:=uV e
   cases hw:(az gNS r).1 with
   | nil=>rw [hw] at h4;cases h4
   | cons a w =>
    rw [hw] at e h4
    exact tri (M:=jG P (39 :: r)) e (.region r a w _ hw rfl h4)
  ·cases h4:firstSign ic (c :: r) with
   | none=>rw [h4] at e;cases e
   | some y=>rw [h4] at e;exact tri (M:=jG P (c :: r)) e (.sign c r y h1 h2 h3 h4)
theorem gJ (g s:List Nat):s.drop (az g s).1.length=(az g s).2:=by
 have h:=cB g s
 generalize (az g s).1=a at h ⊢
 generalize (az g s).2=b at h ⊢
 subst h
 exact List.drop_left
theorem Mq {c:Nat} (h:inC c gNB=true):inC c gNS=true:=by
 rw [← fq,List.contains_iff_mem] at h ⊢
 exact (by decide:∀ x ∈ gNB,x ∈ gNS) c h
theorem Cd {b:Nat} {s:List Nat} {v k n:Nat} {t:List Nat} (h:cu b s 0 0=some (v,k,n,t)):Nat.beq k 0=false->0 < n:=by
 cases s with
 | nil=>exact DJ (M:=fun _ k n _=>Nat.beq k 0=false->0 < n) h fun h=>Bool.noConfusion h
 | cons c r=>exact (GP h).rec (motive:=fun _ k n _ _=>Nat.beq k 0=false->0 < n) (fun _ _ h=>Bool.noConfusion h) fun _ _ _ _=>Nat.succ_pos _
theorem oB {P:Nat} {s:List Nat} {tok:D} {len:Nat} {t:List Nat} (e:i8 P s=some (tok,len,t)):s.drop len=t∧len≤s.length∧0 < len:=by
 cases Bm e with
 | name c r w t h1 e1 e2 =>
  subst e1 e2
  refine ⟨gJ _ _,iS _ _,?_⟩
  show 0 < (if inC c gNS then (c :: (az gNS r).1,(az gNS r).2) else ([],c :: r)).1.length
  rw [Mq h1]
  exact Nat.succ_pos _
 | int c r tok len t h1 h2 e =>
  cases Bk e with
  | mk b o v k n t kd _ hb e' hk hs h1 h2 hkd =>
   obtain ⟨g1,g2⟩:=iP _ _ _ _ _ _ _ _ e'
   have ho:=qF (c :: r)
   rw [hb] at ho
   have h8:=iS gNS t
   rw [h1] at h8
   have h7:=congrArg List.length g1
   rw [List.length_drop] at g2 h7
   rw [List.length_drop] at h7
   have hn:=Cd e' hk
   refine ⟨?_,put2 (put2 ho g2) (by rw [← Nat.sub_sub,h7];exact h8),Nat.lt_of_lt_of_le hn (Nat.le_trans (Nat.le_add_left n o) (Nat.le_add_right _ _))⟩
   rw [Nat.add_assoc,← List.drop_drop,← List.drop_drop,g1,← h1,← h2]
   exact gJ _ _
 | region r a w t e1 e2 =>
  have h8:=gJ gNS r
  have h7:=iS gNS r
  rw [e1] at h7 h8
  rw [Nat.add_comm]
  exact ⟨h8.trans e2,Nat.succ_le_succ h7,Nat.succ_pos _⟩
 | sign c r y h1 h2 h3 h =>
  obtain ⟨h1,t,h2⟩:=gW h
  refine ⟨rfl,?_,(by decide:∀ z ∈ ic,0 < z.length) y h1⟩
  rw [h2,List.length_append]
  exact Nat.le_add_right _ _
theorem GG (t:List Nat):eqN (t.take 1) [39]=bG 39 t:=by
 cases t with
 | nil=>rfl
 | cons c r=>exact Bool.and_true _
section
variable {text:List Nat} (hl:text.length≤lim) (ha:au text=true) {P:Nat} {s:List Nat} (hp:P≤text.length) (h:text.drop P=s)
include hl ha hp h
theorem Bl {tok:D} {len:Nat} {t:List Nat} (e:i8 P s=some (tok,len,t)) (m dp:Nat) (σ:Sto) (hm:s.length+240≤m) :
  (evn false fnT m).c (dp+3) 118 [.str text,.int (P:Int)] σ=.ok (.tup [tok,.int ((P+len:Nat):Int)]) σ:=by
 obtain ⟨z,rfl⟩:∃ z,m=z+s.length+240:=eG hm
 cases Bm e with
 | name c r w t h1 e1 e2 h39 =>
  have r1:=kK hl gNS hp h (z+(c :: r).length+236) (dp+1) σ (lv (by decide))
  have hs:=cB gNS (c :: r)
  rw [e1] at r1 hs
  rw [e2] at hs
  have s1:gm σ (.str text) (some P) (some (P+w.length))=.ok (.str w) σ:=by rw [dM hl,fX,h,hs,List.take_left]
  have s2:gm σ (.str text) (some (P+w.length)) (some (P+w.length+1))=.ok (.str (t.take 1)) σ:=by rw [dM hl,fX,lB (h.trans hs)]
  have a39:au (t.take 1)=true:=by rw [← lB (h.trans hs)];exact gH (gG ha _) _
  have q2:=eq_str a39 (x:=[39]) rfl σ
  rw [GG,h39] at q2
  exact runC (m:=z+(c :: r).length) (j:=239) qR rfl rfl (fo (aR (σ:=σ) (aD h) hl) (fo (pF (σ:=σ) h1) (fd r1 (fn 1 (fd s2 (fo q2 (fd s1 .z))))))) (by kernel_rfl)
 | int c r tok len t h1 h2 e =>
  exact runC (m:=z+(c :: r).length) (j:=239) qR rfl rfl (fo (aR (σ:=σ) (aD h) hl) (fo (jJ (σ:=σ) h1) (fo (aR (σ:=σ) (aD h) hl) (fo (pF (σ:=σ) h2) (fd (Ce hl ha hp h e (z+(c :: r).length+235) dp σ (lv (by decide))) .z))))) (by kernel_rfl)
 | region r a w t e1 e2 h2 =>
  have hp1:P+1≤text.length:=fB h
  have hd1:=jf h
  have r1:=kK hl gNS hp1 hd1 (z+(39 :: r).length+234) (dp+1) σ (lv2 (Nat.le_succ _) (by decide))
  have hs:=cB gNS r
  rw [e1] at r1 hs
  have s1:gm σ (.str text) (some P) (some (P+1+(a :: w).length))=.ok (.str (39 :: a :: w)) σ:=by
   rw [dM hl,Nat.add_assoc P,Nat.add_comm 1,fX,h,List.take_succ_cons,hs,List.take_left]
  have k0:aV σ .eq (.int ((P+1+(a :: w).length:Nat):Int)) (.int ((P+1:Nat):Int))=some (.bool false) :=
   jd (congrArg some (beq_eq_false_iff_ne.mpr fun q=>absurd (Int.ofNat_inj.mp q) (Nat.ne_of_gt (Nat.lt_add_of_pos_right (Nat.succ_pos _)))))
  have i1:=aR (σ:=σ) (aD (hd1.trans hs)) hl
  rw [← Nat.add_assoc]
  exact runC (m:=z+(39 :: r).length) (j:=239) qR rfl rfl (fo (aR (σ:=σ) (aD h) hl) (fo (jJ (σ:=σ) (c:=39) (g:=gNB) rfl) (fo (aR (σ:=σ) (aD h) hl) (fo (jJ (σ:=σ) (c:=39) (g:=sZ) rfl)
   (fo (aR (σ:=σ) (aD h) hl) (fn 2 (fd r1 (fn 1 (fo k0 (fn 1 (fo i1 (fo (jJ (σ:=σ) h2) (fd s1 .z))))))))))))) (by kernel_rfl)
 | sign c r y h1 h2 h3 e' =>
  have ac:au [c]=true:=congrArg (· && true) (kq ha (aD h))
  have q39:=eq_str ac (x:=[39]) rfl σ
  rw [show eqN [c] [39]=false from (Bool.and_true _).trans h3] at q39
  exact runC (m:=z+(c :: r).length) (j:=239) qR rfl rfl (fo (aR (σ:=σ) (aD h) hl) (fo (jJ (σ:=σ) h1) (fo (aR (σ:=σ) (aD h) hl) (fo (jJ (σ:=σ) h2)
   (fo (aR (σ:=σ) (aD h) hl) (fo q39 (fd (AH hl ha h (dp+1) σ e' (z+(c :: r).length+134)) .z))))))) (by kernel_rfl)
end
end Mine.Internal.Q
end
section
namespace Mine.Internal.Q
open PySem
noncomputable def b7 (s:List Nat):Nat:=(az gBl s).1.length
noncomputable def aM (s:List Nat):List Nat:=(az gBl s).2
noncomputable def bH:Nat->Nat->List Nat->Option (List D × Nat × List Nat)
 | 0,P,s=>some ([],P,s)
 | n+1,P,s=>match i8 P s with
  | none=>none
  | some (tok,len,t)=>if bG 47 (aM t) then none else match bH n (P+len+b7 t) (aM t) with
   | some (ts,P',s')=>some (tok :: ts,P',s')
   | none=>none
inductive FZ (n P:Nat) (s:List Nat):List D->Nat->List Nat->Prop where
 | mk (tok:D) (len:Nat) (t:List Nat) (ts:List D) (P':Nat) (s':List Nat) (e:i8 P s=some (tok,len,t)) (h:bG 47 (aM t)=false) (r:bH n (P+len+b7 t) (aM t)=some (ts,P',s')):FZ n P s (tok :: ts) P' s'
theorem zQ {n P:Nat} {s:List Nat} {ts:List D} {P':Nat} {s':List Nat} (e:bH (n+1) P s=some (ts,P',s')):FZ n P s ts P' s':=by
 replace e:(match i8 P s with | none=>none | some (tok,len,t)=>if bG 47 (aM t) then none else match bH n (P+len+b7 t) (aM t) with | some (ts,P',s')=>some (tok :: ts,P',s') | none=>none)=some (ts,P',s'):=e
 cases h1:i8 P s with
 | none=>rw [h1] at e;cases e
 | some q =>
  rw [h1] at e
  obtain ⟨h2,e⟩:=uV e
  cases h3:bH n (P+q.2.1+b7 q.2.2) (aM q.2.2) with
  | none=>rw [h3] at e;cases e
  | some p=>rw [h3] at e;exact tri (M:=FZ n P s) e (.mk _ _ _ _ _ _ h1 h2 h3)
theorem H6 {n P:Nat} {s:List Nat} {tok:D} {len:Nat} {t:List Nat} {ts:List D} {P':Nat} {s':List Nat} (e:i8 P s=some (tok,len,t)) (h:bG 47 (aM t)=false) (r:bH n (P+len+b7 t) (aM t)=some (ts,P',s')):bH (n+1) P s=some (tok :: ts,P',s'):=by
 show (match i8 P s with | none=>none | some (tok,len,t)=>if bG 47 (aM t) then none else match bH n (P+len+b7 t) (aM t) with | some (ts,P',s')=>some (tok :: ts,P',s') | none=>none)=_
 rw [e]
 show (if bG 47 (aM t) then none else match bH n (P+len+b7 t) (aM t) with | some (ts,P',s')=>some (tok :: ts,P',s') | none=>none)=_
 rw [h,r]
 rfl
theorem iT (k:Nat) {ts':List D} {P'':Nat} {s'':List Nat}:∀ (n P:Nat) (s:List Nat) (ts:List D) (P':Nat) (s':List Nat),bH n P s=some (ts,P',s')->bH k P' s'=some (ts',P'',s'')->bH (n+k) P s=some (ts++ts',P'',s''):=by
 intro n
 induction n with
 | zero=>intro P s ts P' s' h1;exact tri (M:=fun ts P' s'=>bH k P' s'=some (ts',P'',s'')->bH (0+k) P s=some (ts++ts',P'',s'')) h1 fun h=>by rw [Nat.zero_add];exact h
 | succ n ih =>
  intro P s ts P' s' h1
  exact (zQ h1).rec (motive:=fun ts P' s' _=>bH k P' s'=some (ts',P'',s'')->bH (n+1+k) P s=some (ts++ts',P'',s'')) fun tok len t ts P' s' e h r h2=>by
   rw [Nat.succ_add]
   exact H6 e h (ih _ _ _ _ _ r h2)
theorem iU:∀ (n P:Nat) (s:List Nat) (ts:List D) (P':Nat) (s':List Nat),bH n P s=some (ts,P',s')->ts.length=n:=by
 intro n
 induction n with
 | zero=>intro P s ts P' s' h;exact tri (M:=fun ts _ _=>ts.length=0) h rfl
 | succ n ih=>intro P s ts P' s' h;exact (zQ h).rec (motive:=fun ts _ _ _=>ts.length=n+1) fun _ _ _ _ _ _ _ _ r=>congrArg (·+1) (ih _ _ _ _ _ r)
noncomputable def Kn:X:=X.cmp Cm.lt (X.loc 2) (X.bi Bi.len [X.loc 0])
noncomputable def Ga:List SS:=[SS.asg (Tg.ns [3,2]) (X.call (X.gl (D.glob 118)) [X.loc 0,X.loc 2]),SS.ex (X.me Me.append (X.loc 1) [X.loc 3]),SS.asg (Tg.n 2) (X.call (X.gl (D.glob 83)) [X.loc 0,X.loc 2])]
theorem vI (t:List Nat):t.drop (b7 t)=aM t:=gJ gBl t
theorem vJ (t:List Nat):b7 t≤t.length:=by
 have:=congrArg List.length (cB gBl t)
 rw [List.length_append] at this
 exact Nat.le_trans (Nat.le_add_right _ _) (Nat.le_of_eq this.symm)
theorem dm {σ:Sto} {q:Nat} {acc:List D} (h:σ[q]?=some (.lst acc)):cV σ .append (.cell q)=true:=by
 show onL false (fun _=>true) σ[q]?=true
 rw [h]
 rfl
theorem oN {σ:Sto} {q:Nat} {acc:List D} {d:D} (h:σ[q]?=some (.lst acc)) (hl:acc.length≤lim):meD σ .append (.cell q) [d]=.ok .none (σ.set q (.lst (acc++[d]))):=by
 show onL .no (fun ds=>if ds.length≤lim then R.ok D.none (σ.set q (.lst (ds++[d]))) else .no) σ[q]?=_
 rw [h]
 exact if_pos hl
theorem fj {σ:Sto} {q:Nat} {acc:List D} {d:D} (h:σ[q]?=some (.lst acc)) (hl:acc.length≤lim):cV σ .append (.cell q)=true∧meD σ .append (.cell q) [d]=.ok .none (σ.set q (.lst (acc++[d]))):=⟨dm h,oN h hl⟩
theorem set_same {σ:Sto} {q:Nat} {c:Cell} (h:σ[q]?=some c):σ.set q c=σ:=by
 apply List.ext_getElem?
 intro i
 by_cases hi:q=i
 ·subst hi;exact (dU h).trans h.symm
 ·exact List.getElem?_set_ne hi
noncomputable def jk (text:List Nat) (q P:Nat) (x:Option D):Loc:=[some (.str text),some (.cell q),some (.int (P:Int)),x]
section
variable {text:List Nat} (hl:text.length≤lim) (ha:au text=true)
include hl ha
theorem I7 {P len q:Nat} {s t:List Nat} {tok:D} {acc:List D} {σ:Sto} (hp:P≤text.length) (h:text.drop P=s) (ew:i8 P s=some (tok,len,t)) (h47:bG 47 (aM t)=false) (hq:σ[q]?=some (.lst acc)) (hn:acc.length≤lim) (z dp:Nat) (x:Option D) :
  (evn false fnT (z+text.length+260)).b (dp+4) (jk text q P x) Ga σ=.ok (.next,jk text q (P+len+b7 t) (some tok)) (σ.set q (.lst (acc++[tok]))):=by
 obtain ⟨w1,w2,w3⟩:=oB ew
 have h1:=lC h hp
 have hd:text.drop (P+len)=t:=by rw [← w1,← h,List.drop_drop]
 have hs:s.length≤text.length:=h1 ▸ Nat.le_add_left _ _
 have ht:t.length≤text.length:=by rw [← hd,List.length_drop];exact Nat.sub_le _ _
 have hp2:P+len≤text.length:=h1 ▸ Nat.add_le_add_left w2 P
 exact fT (m:=z+text.length) (j:=260) (fd (Bl hl ha hp h ew (z+text.length+258) (dp+1) σ (lv2 hs (by decide))) (fb (dm hq) (fd (oN (d:=tok) hq hn) (fd (nC hl ha hp2 hd h47 (z+text.length+256) (dp+2) (σ.set q (.lst (acc++[tok]))) (lv2 ht (by decide))) .z)))) (by kernel_rfl)
theorem I8 (q dp:Nat):∀ (n P:Nat) (s:List Nat) (acc ts:List D) (P':Nat) (s':List Nat) (σ:Sto) (x:Option D),P≤text.length->text.drop P=s->bH n P s=some (ts,P',s')->s'=[]->σ[q]?=some (.lst acc)->acc.length+n≤lim->∀ (m:Nat),n+(text.length+260)≤m ->
  ∃ y,(evn false fnT m).w (dp+4) (jk text q P x) Kn Ga σ=.ok (.next,jk text q text.length y) (σ.set q (.lst (acc++ts))):=by
 intro n
 induction n with
 | zero =>
  intro P s acc ts P' s' σ x hp h e hs' hq hn m hm
  obtain ⟨m,rfl⟩:=bX hm
  refine tri (M:=fun ts _ s'=>s'=[]->∃ y,(evn false fnT (m+(0+(text.length+260)))).w (dp+4) (jk text q P x) Kn Ga σ=.ok (.next,jk text q text.length y) (σ.set q (.lst (acc++ts)))) e (fun hs=>⟨x,?_⟩) hs'
  subst hs
  have h0:=Nat.le_antisymm hp (kG h)
  subst h0
  rw [List.append_nil,set_same hq]
  exact f9 (fG (m:=m+(0+text.length)) (j:=259) (fd (len_str (σ:=σ) hl) (fo (v8 (σ:=σ) (Nat.le_refl text.length)) .z)) (by kernel_rfl))
 | succ n ih =>
  intro P s acc ts P' s' σ x hp h e hs' hq hn m hm
  obtain ⟨m,rfl⟩:=bX hm
  cases zQ e with
  | mk tok len t ts2 _ _ ew h47 e2 =>
  obtain ⟨w1,w2,w3⟩:=oB ew
  have h1:=lC h hp
  have hlt:P < text.length:=by rw [h1];exact Nat.lt_add_of_pos_right (Nat.lt_of_lt_of_le w3 w2)
  have hd2:text.drop (P+len+b7 t)=aM t:=by rw [← vI t,← w1,← h,List.drop_drop,List.drop_drop]
  have hp2:P+len+b7 t≤text.length:=by
   have:=vJ t
   rw [← w1,List.length_drop] at this
   rw [← w1,h1,Nat.add_assoc]
   exact Nat.add_le_add_left (put2 w2 this) P
  obtain ⟨y,ih⟩:=ih (P+len+b7 t) (aM t) (acc++[tok]) ts2 _ _ (σ.set q (.lst (acc++[tok]))) (some tok) hp2 hd2 e2 hs' (dU hq) (by rw [List.length_append,Nat.add_assoc,Nat.add_comm [tok].length];exact hn) (m+n+text.length+260) (by rw [Nat.add_assoc,Nat.add_assoc];exact Nat.le_add_left _ _)
  rw [List.set_set,List.append_assoc] at ih
  have e9:m+(n+1+(text.length+260))=m+n+text.length+260+1:=by rw [Nat.add_right_comm n 1,← Nat.add_assoc m,← Nat.add_assoc m,← Nat.add_assoc (m+n)]
  rw [e9]
  exact ⟨y,(dH (n:=m+n+text.length+260) (fG (m:=m+n+text.length) (j:=260) (fd (len_str (σ:=σ) hl) (fo (iu (σ:=σ) hlt) .z)) (by kernel_rfl)) (I7 hl ha hp h ew h47 hq (Nat.le_trans (Nat.le_add_right _ _) hn) (m+n) dp x)).trans ih⟩
end
noncomputable def ay (L:Nat):D:=aI fS [] (L:Int) .none .none
theorem Au {text:List Nat} (hl:text.length≤lim) (ha:au text=true) {n P':Nat} {ts:List D} (h0:bG 47 (aM text)=false) (hn:n≤100000) (e:bH n (b7 text) (aM text)=some (ts,P',[])) (m dp:Nat) (σ:Sto) (hm:n+text.length+400≤m) :
  (evn false fnT m).c (dp+5) 125 [.str text] σ=.ok (.cell σ.length) (σ++[Cell.lst (ts++[ay text.length])]):=by
 obtain ⟨z,rfl⟩:=bX hm
 have hq:(σ++[Cell.lst []])[σ.length]?=some (Cell.lst []):=dS
 have hlim:100001≤lim:=by decide
 have tl:=iU _ _ _ _ _ _ e
 have r2:=nC hl ha (P:=0) (s:=text) (Nat.zero_le _) rfl h0 (z+(n+text.length)+396) (dp+2) (σ++[Cell.lst []]) (Nat.add_le_add (Nat.le_trans (Nat.le_add_left _ n) (Nat.le_add_left _ z)) (by decide))
 rw [Nat.zero_add] at r2
 obtain ⟨y,hw⟩:=I8 hl ha σ.length dp n (b7 text) (aM text) [] ts P' [] (σ++[Cell.lst []]) none (vJ text) (vI text) e rfl hq (by rw [List.length_nil,Nat.zero_add];exact Nat.le_trans hn (by decide)) (z+(n+text.length)+396) (by rw [← Nat.add_assoc n];exact Nat.add_le_add (Nat.le_add_left _ z) (by decide))
 rw [List.set_append_right _ _ (Nat.le_refl _),Nat.sub_self] at hw
 have hq2:(σ++[Cell.lst ts])[σ.length]?=some (Cell.lst ts):=dS
 have a2:=oN (d:=ay text.length) hq2 (by rw [tl];exact Nat.le_trans hn (by decide))
 rw [List.set_append_right _ _ (Nat.le_refl _),Nat.sub_self] at a2
 exact runC (m:=z+(n+text.length)) (j:=399) Fb rfl rfl (fn 0 (fd r2 (ff hw (fb (dm hq2) (fd (len_str (σ:=σ++[Cell.lst ts]) hl) (fd a2 .z)))))) (by kernel_rfl)
end Mine.Internal.Q
end
section
namespace Mine.Internal.Q
open PySem
section
theorem BI {n dp a:Nat} {σ σ':Sto} (h:(evn false fnT n).c dp 146 [.cell σ.length,.cell a] (σ++[.obj []])=.ok .none σ'):(evn false fnT (n+1)).c (dp+1) 207 [.cell a] σ=.ok (.cell σ.length) σ':=by
 show ((evn false fnT n).c dp 146 [.cell σ.length,.cell a] (σ++[.obj []])).bind _=_
 rw [h]
 rfl
theorem Cw {T:Sto} {x:Nat} (hx:T.length=x) (a b:Cell):(T++[a,b])[x]?=some a:=by rw [← hx,List.getElem?_append_right (Nat.le_refl _),Nat.sub_self];rfl
theorem Cy {T:Sto} {x:Nat} (hx:T.length=x) (a b c:Cell):(T++[a,b]).set x c=T++[c,b]:=by rw [← hx,List.set_append_right _ _ (Nat.le_refl _),Nat.sub_self];rfl
theorem pQ {T:Sto} {x:Nat} (hx:T.length=x) (fs:List (List Nat × D)) (b:Cell) (f:Fa) (d:D):bw (T++[Cell.obj fs,b]) (.cell x) f d=some (T++[.obj (qb fs (faN f) d),b]):=(AD (Cw hx ..)).trans (congrArg some (Cy hx ..))
theorem Cv {σ:Sto} {a:Nat} {ds:List D} (h:σ[a]?=some (.lst ds)) (hl:ds.length≤lim):biD σ .lst [.cell a]=.ok (.cell σ.length) (σ++[.lst ds]):=by
 show onL .no (fun ds=>if ds.length≤lim then R.ok (D.cell σ.length) (σ++[.lst ds]) else .no) σ[a]?=_
 rw [h]
 exact if_pos hl
theorem zA {T:Sto} {x a y:Nat} {rows:List D} (hx:T.length=x) (hy:x+1=y) (ha:T[a]?=some (.lst rows)) (hl:rows.length≤lim) (n dp:Nat) :
  (evn false fnT (n+60)).c (dp+1) 146 [.cell x,.cell a] (T++[.obj []])=.ok .none (T++[br y 0 0,.lst rows]):=by
 have g1:=Cv (bA (e:=[Cell.obj []]) ha) hl
 rw [List.append_assoc,List.length_append] at g1
 have e:T.length+[Cell.obj []].length=y:=(congrArg (·+1) hx).trans hy
 rw [e] at g1
 exact runC (m:=n) (j:=59) Fe rfl rfl (fd g1 (fs (pQ hx [] (.lst rows) .rows (.cell y)) (fs (pQ hx [(faN .rows,.cell y)] (.lst rows) .at (.int 0)) (fs (pQ hx [(faN .rows,.cell y),(faN .at,.int 0)] (.lst rows) .deep (.int 0)) .z)))) (by kernel_rfl)
theorem jB {text:List Nat} (hl:text.length≤100000) (ha:au text=true) {n P':Nat} {ts:List D} (h0:bG 47 (aM text)=false) (hn:n≤100000) (e:bH n (b7 text) (aM text)=some (ts,P',[])) (m dp:Nat) (σ:Sto) (hm:n+text.length+500≤m) :
  (evn false fnT m).c (dp+8) 132 [.str text] σ=.ok (.cell (σ.length+1)) (σ++[Cell.lst (ts++[ay text.length]),br (σ.length+2) 0 0,Cell.lst (ts++[ay text.length])]):=by
 obtain ⟨z,rfl⟩:=bX hm
 have r1:=Au (Nat.le_trans hl (by decide)) ha h0 hn e (z+(n+text.length)+495) (dp+2) σ (Nat.add_le_add (Nat.le_add_left _ z) (by decide))
 have tl:=iU _ _ _ _ _ _ e
 have hrl:(ts++[ay text.length]).length≤lim:=by rw [List.length_append,tl];exact Nat.le_trans (Nat.succ_le_succ hn) (by decide)
 generalize ts++[ay text.length]=rows at r1 hrl ⊢
 have hT:(σ++[Cell.lst rows]).length=σ.length+1:=List.length_append
 have r2:=BI (σ:=σ++[Cell.lst rows]) (a:=σ.length) (by rw [hT];exact zA (dp:=dp+5) hT rfl dS hrl (z+(n+text.length)+436))
 rw [hT,List.append_assoc] at r2
 exact runC (m:=z+(n+text.length)) (j:=499) Fd rfl rfl (fd r1 (fd r2 .z)) (by kernel_rfl)
end
noncomputable def GDb:Nat->D->Bool
 | _,.none=>true
 | _,.bool _=>true
 | _,.int _=>true
 | _,.str s=>au s
 | n+1,.tup ds=>ds.all (GDb n)
 | _,_=>false
theorem c9:∀ {n m:Nat} {d:D},n≤m->GDb n d=true->GDb m d=true
 | n,m,.none,_,_=>by cases m <;> rfl
 | n,m,.bool _,_,_=>by cases m <;> rfl
 | n,m,.int _,_,_=>by cases m <;> rfl
 | n,m,.str s,_,h=>by cases n <;> cases m <;> exact h
 | n+1,m+1,.tup ds,hm,h=>by
  simp only [GDb,List.all_eq_true] at h ⊢
  exact fun d hd=>c9 (Nat.le_of_succ_le_succ hm) (h d hd)
 | 0,_,.tup _,_,h=>by simp [GDb] at h
 | n+1,0,.tup _,hm,_=>absurd hm (Nat.not_succ_le_zero _)
 | n,_,.fl _,_,h=>by cases n <;> simp [GDb] at h
 | n,_,.dct _,_,h=>by cases n <;> simp [GDb] at h
 | n,_,.cell _,_,h=>by cases n <;> simp [GDb] at h
 | n,_,.glob _,_,h=>by cases n <;> simp [GDb] at h
theorem mh {n:Nat} (ih:∀ d,GDb n d=true->∃ x,d.py=some x∧x.canLay0=true∧x.depth≤n+1∧PyData.eqv x x=true):∀ ds:List D,ds.all (GDb n)=true->∃ xs,D.pys ds=some xs∧PyData.canLayAll0 xs=true∧PyData.depthAll xs≤n+1∧PyData.eqvAll xs xs=true∧(xs=[]↔ds=[])
 | [],_=>⟨[],by simp only [D.pys],by simp [PyData.canLayAll0],by simp [PyData.depthAll],by simp [PyData.eqvAll],by simp⟩
 | d :: r,h=>by
  simp only [List.all_cons,Bool.and_eq_true] at h
  obtain ⟨x,h1,h2,h3,h4⟩:=ih d h.1
  obtain ⟨xs,g1,g2,g3,g4,_⟩:=mh ih r h.2
  exact ⟨x :: xs,by simp only [D.pys,h1,g1],by simp only [PyData.canLayAll0,h2,g2,Bool.and_self],by simp only [PyData.depthAll];exact Nat.max_le.mpr ⟨h3,g3⟩,by simp only [PyData.eqvAll,h4,g4,Bool.and_self],by simp⟩
theorem vz:∀ (n:Nat) (d:D),GDb n d=true->∃ x,d.py=some x∧x.canLay0=true∧x.depth≤n+1∧PyData.eqv x x=true:=by
 intro n
 induction n with
 | zero =>
  intro d h
  cases d <;> simp [GDb] at h
  ·exact ⟨.none,by simp only [D.py],by simp [PyData.canLay0],by simp [PyData.depth],by simp [PyData.eqv]⟩
  ·next b=>exact ⟨.bool b,by simp only [D.py],by simp [PyData.canLay0],by simp [PyData.depth],by simp [PyData.eqv]⟩
  ·next b=>exact ⟨.int b,by simp only [D.py],by simp [PyData.canLay0],by simp [PyData.depth],by simp [PyData.eqv]⟩
  ·next s=>exact ⟨.str ⟨s.toArray⟩,by simp only [D.py],by simp [PyData.canLay0,jz h],by simp [PyData.depth],by simp [PyData.eqv]⟩
 | succ n ih =>
  intro d h
  cases d with
  | none=>exact ⟨.none,by simp only [D.py],by simp [PyData.canLay0],by simp [PyData.depth],by simp [PyData.eqv]⟩
  | bool b=>exact ⟨.bool b,by simp only [D.py],by simp [PyData.canLay0],by simp [PyData.depth],by simp [PyData.eqv]⟩
  | int b=>exact ⟨.int b,by simp only [D.py],by simp [PyData.canLay0],by simp [PyData.depth],by simp [PyData.eqv]⟩
  | str s=>exact ⟨.str ⟨s.toArray⟩,by simp only [D.py],by simp only [GDb] at h;simp [PyData.canLay0,jz h],by simp [PyData.depth],by simp [PyData.eqv]⟩
  | tup ds =>
   simp only [GDb] at h
   obtain ⟨xs,g1,g2,g3,g4,_⟩:=mh ih ds h
   exact ⟨.tuple xs,by simp only [D.py,g1,Option.map],by simpa only [PyData.canLay0] using g2,by simp only [PyData.depth];exact Nat.succ_le_succ g3,by simpa only [PyData.eqv] using g4⟩
  | _=>simp [GDb] at h
theorem oG {n:Nat} (hn:n≤62) {d:D} (h:GDb n d=true) (σ:Sto):aV σ .eq d d=some (.bool true)∧aV σ .ne d d=some (.bool false):=by
 obtain ⟨x,h1,h2,h3,h4⟩:=vz n d h
 have hs:aB x=true:=by
  simp only [aB,SeqAt.shaped,h2,Bool.true_and]
  exact decide_eq_true (Nat.le_trans h3 (Nat.succ_le_succ (Nat.le_trans hn (by decide))))
 exact ⟨h4 ▸ lF (f:=fun b=>b) (gk h1) (gk h1) hs hs,(lF (f:=fun b=>!b) (gk h1) (gk h1) hs hs).trans (congrArg (fun b=>some (D.bool (!b))) h4)⟩
end Mine.Internal.Q
end
section
namespace Mine.Internal.Q
open PySem
section
theorem pg {n:Nat} {d:D} (h:GDb n d=true):(match d with | .fl _=>False | .dct _=>False | .cell _=>False | .glob _=>False | _=>True):=by
 cases d <;> first | trivial | (cases n <;> cases h)
inductive Spot (ds parts:List D) (σ:Sto) (q:Nat):Prop
 | mk (q':Nat) (ext:Sto) (at_:(σ++ext)[q']?=some (Cell.lst (n5 ds parts))) (run:∀ k dp,(evn false fnT (k+60)).c (dp+1) 642 [.tup ds,.cell q] σ=.ok (.cell q') (σ++ext)):Spot ds parts σ q
theorem cN {ds parts:List D} {σ:Sto} {q:Nat} (hq:σ[q]?=some (.lst parts)) (h:gQ ds=false) (run:∀ k dp,(evn false fnT (k+60)).c (dp+1) 642 [.tup ds,.cell q] σ=.ok (.cell q) σ):Spot ds parts σ q :=
 ⟨q,[],by rw [List.append_nil,hq];unfold n5;rw [h];rfl,fun k dp=>by rw [List.append_nil];exact run k dp⟩
theorem pN {σ:Sto} {ds:List D} (h:ds.length≤lim):biD σ .len [.tup ds]=.ok (.int (ds.length:Int)) σ:=if_pos (Nat.ble_eq.mpr h)
theorem gt1 {σ:Sto} {n:Nat} (h:1 < n):aV σ .gt (.int (n:Int)) (.int 1)=some (.bool true):=congrArg (fun b=>some (D.bool b)) (decide_eq_true (Int.ofNat_lt.mpr h))
theorem AN {s:List Nat} {i:Int} {r:List D} {x y:D} {z:List D} {σ:Sto} {q:Nat} (hq:σ[q]?=some (.lst (x :: y :: z))) (hl:(D.str s :: D.int i :: r).length≤100000) (hz:z.length=r.length):Spot (.str s :: .int i :: r) (x :: y :: z) σ q:=by
 have hql:=ao hq
 have hz1:z.length+2≤100000:=by rw [hz];exact hl
 have old:∀ e:Sto,(σ++e)[q]?=some (Cell.lst (x :: y :: z)):=fun e=>(List.getElem?_append_left hql).trans hq
 have j0:cU σ (.cell q) (.int 0)=some x:=gK hq (by decide) rfl
 have s2:gm (σ++[Cell.lst [x,.int 0]]) (.cell q) (some 2) none=.ok (.cell (σ++[Cell.lst [x,.int 0]]).length) (σ++[Cell.lst [x,.int 0]]++[Cell.lst z]):=by
  show (match (σ++[Cell.lst [x,.int 0]])[q]? with | some (.lst ds)=>_ | _=>_)=_
  rw [old]
  exact if_pos (Nat.ble_eq.mpr (Nat.le_trans hz1 (by decide)))
 have l1:(σ++[Cell.lst [x,.int 0]]).length=σ.length+1:=List.length_append
 have b2:bx (σ++[Cell.lst [x,.int 0]]++[Cell.lst z]) .add (.cell σ.length) (.cell (σ++[Cell.lst [x,.int 0]]).length)=.ok (.cell (σ.length+2)) (σ++[Cell.lst [x,.int 0],Cell.lst z,Cell.lst (x :: .int 0 :: z)]):=by
  have e1:(σ++[Cell.lst [x,.int 0]]++[Cell.lst z])[σ.length]?=some (Cell.lst [x,.int 0]):=(List.getElem?_append_left (by rw [l1];exact Nat.lt_succ_self _)).trans (by rw [List.getElem?_append_right (Nat.le_refl _),Nat.sub_self];rfl)
  have e2:(σ++[Cell.lst [x,.int 0]]++[Cell.lst z])[(σ++[Cell.lst [x,.int 0]]).length]?=some (Cell.lst z):=by rw [List.getElem?_append_right (Nat.le_refl _),Nat.sub_self];rfl
  show onL _ (fun x=>onL _ _ (σ++[Cell.lst [_,.int 0]]++[Cell.lst z])[(σ++[Cell.lst [_,.int 0]]).length]?) (σ++[Cell.lst [x,.int 0]]++[Cell.lst z])[σ.length]?=_
  rw [e1,e2]
  refine (if_pos (Nat.ble_eq.mpr ?_)).trans ?_
  ·exact Nat.le_trans (Nat.le_of_eq (Nat.add_comm 2 z.length)) (Nat.le_trans hz1 (by decide))
  ·rw [List.length_append,l1,List.append_assoc,List.append_assoc];rfl
 have hlen:=pN (σ:=σ) (Nat.le_trans hl (by decide))
 refine ⟨σ.length+2,[Cell.lst [x,.int 0],Cell.lst z,Cell.lst (x :: .int 0 :: z)],?_,fun k dp=>?_⟩
 ·rw [List.getElem?_append_right (Nat.le_add_right _ _),Nat.add_sub_cancel_left];rfl
 ·exact runC (m:=k) (j:=59) fP rfl rfl (fd hlen (fo (gt1 (σ:=σ) (n:=(D.str s :: D.int i :: r).length) (Nat.succ_lt_succ (Nat.succ_pos _))) (fn 6 (fo j0 (fd s2 (fd b2 .z)))))) (by kernel_rfl)
theorem AL {ds parts:List D} {n0:Nat} (hg:ds.all (GDb n0)=true) (hlen:parts.length=ds.length) (hl:ds.length≤100000) {σ:Sto} {q:Nat} (hq:σ[q]?=some (.lst parts)):Spot ds parts σ q:=by
 have h0:=pN (σ:=σ) (Nat.le_trans hl (by decide))
 cases ds with
 | nil=>exact cN hq rfl fun k dp=>runC (m:=k) (j:=59) fP rfl rfl (fn 2 .z) (by kernel_rfl)
 | cons a ds=>cases ds with
  | nil=>exact cN hq (by cases a <;> rfl) fun k dp=>runC (m:=k) (j:=59) fP rfl rfl (fn 2 .z) (by kernel_rfl)
  | cons b r =>
   rw [List.all_cons,List.all_cons,Bool.and_eq_true,Bool.and_eq_true] at hg
   have ga:=pg hg.1
   have gb:=pg hg.2.1
   have g1:=gt1 (σ:=σ) (n:=(a :: b :: r).length) (Nat.succ_lt_succ (Nat.succ_pos _))
   cases a with
   | fl | dct | cell | glob=>exact ga.elim
   | none=>exact cN hq rfl fun k dp=>runC (m:=k) (j:=59) fP rfl rfl (fd h0 (fo g1 (fn 2 .z))) (by kernel_rfl)
   | bool=>exact cN hq rfl fun k dp=>runC (m:=k) (j:=59) fP rfl rfl (fd h0 (fo g1 (fn 2 .z))) (by kernel_rfl)
   | int=>exact cN hq rfl fun k dp=>runC (m:=k) (j:=59) fP rfl rfl (fd h0 (fo g1 (fn 2 .z))) (by kernel_rfl)
   | tup=>exact cN hq rfl fun k dp=>runC (m:=k) (j:=59) fP rfl rfl (fd h0 (fo g1 (fn 2 .z))) (by kernel_rfl)
   | str s=>cases b with
    | fl | dct | cell | glob=>exact gb.elim
    | none=>exact cN hq rfl fun k dp=>runC (m:=k) (j:=59) fP rfl rfl (fd h0 (fo g1 (fn 4 .z))) (by kernel_rfl)
    | bool=>exact cN hq rfl fun k dp=>runC (m:=k) (j:=59) fP rfl rfl (fd h0 (fo g1 (fn 6 .z))) (by kernel_rfl)
    | str=>exact cN hq rfl fun k dp=>runC (m:=k) (j:=59) fP rfl rfl (fd h0 (fo g1 (fn 4 .z))) (by kernel_rfl)
    | tup=>exact cN hq rfl fun k dp=>runC (m:=k) (j:=59) fP rfl rfl (fd h0 (fo g1 (fn 4 .z))) (by kernel_rfl)
    | int i=>cases parts with
     | nil=>cases hlen
     | cons x parts=>cases parts with
      | nil=>cases hlen
      | cons y z=>exact AN hq hl (Nat.succ.inj (Nat.succ.inj hlen))
noncomputable def Gi:X:=X.cmp Cm.ne (X.loc 1) (X.lst [])
noncomputable def Kd:List SS:=[SS.asg (Tg.ns [3,4]) (X.me Me.pop (X.loc 1) []),SS.ifs (X.bnot (X.isi Bi.isTup (X.loc 3))) [SS.ex (X.me Me.append (X.loc 2) [X.loc 3])] [SS.ifs (X.bnot (X.loc 4)) [SS.ex (X.me Me.append (X.loc 1) [X.tup [X.loc 3,X.k (D.bool true)]]),SS.ex (X.me Me.extend (X.loc 1) [X.pairs (X.rev (X.loc 3))])] [SS.asg (Tg.n 5) (X.bin Op.sub (X.bi Bi.len [X.loc 2]) (X.bi Bi.len [X.loc 3])),SS.asg (Tg.n 6) (X.slc (X.loc 2) (some (X.loc 5)) none),SS.asg (Tg.n 2) (X.slc (X.loc 2) none (some (X.loc 5))),SS.ex (X.me Me.append (X.loc 2) [X.bi Bi.tup [X.call (X.gl (D.glob 642)) [X.loc 3,X.loc 6]]])]]]
noncomputable def item (p:D × Bool):D:=.tup [p.1,.bool p.2]
noncomputable def FrB (B:Nat) (σ σ':Sto):Prop:=σ.length≤σ'.length∧∀ k,k < B->σ'[k]?=σ[k]?
theorem FrB.trans {B:Nat} {a b c:Sto} (h:FrB B a b) (h':FrB B b c):FrB B a c:=⟨Nat.le_trans h.1 h'.1,fun k hk=>by rw [h'.2 k hk,h.2 k hk]⟩
noncomputable def Cfg (B L:Nat) (S:List (D × Bool)) (Md:List D) (ρ:Loc) (σ:Sto):Prop :=
 ∃ (t:Option D) (M:Nat) (x3 x4 x5 x6:Option D),ρ=[t,some (.cell L),some (.cell M),x3,x4,x5,x6]∧L ≠ M∧σ[L]?=some (Cell.lst (S.map item))∧σ[M]?=some (Cell.lst Md)∧B≤L∧B≤M
noncomputable def Reach (B L k:Nat) (S:List (D × Bool)) (Md:List D) (S':List (D × Bool)) (Md':List D):Prop :=
 ∀ (dp:Nat) (ρ:Loc) (σ:Sto),Cfg B L S Md ρ σ->∃ ρ' σ',Cfg B L S' Md' ρ' σ'∧FrB B σ σ'∧∀ n,100≤n->(evn false fnT (n+k)).w (dp+1) ρ Gi Kd σ=(evn false fnT n).w (dp+1) ρ' Gi Kd σ'
theorem Reach.trans {B L k k':Nat} {S S' S'':List (D × Bool)} {Md Md' Md'':List D} (h:Reach B L k S Md S' Md') (h':Reach B L k' S' Md' S'' Md''):Reach B L (k'+k) S Md S'' Md'':=by
 intro dp ρ σ C
 obtain ⟨ρ1,σ1,C1,f1,e1⟩:=h dp ρ σ C
 obtain ⟨ρ2,σ2,C2,f2,e2⟩:=h' dp ρ1 σ1 C1
 refine ⟨ρ2,σ2,C2,f1.trans f2,fun n hn=>?_⟩
 rw [show n+(k'+k)=(n+k')+k from (Nat.add_assoc ..).symm,e1 (n+k') (Nat.le_trans hn (Nat.le_add_right _ _)),e2 n hn]
noncomputable def fV (S:List (D × Bool)):Prop:=∀ p ∈ S,GDb 60 p.1=true
theorem xe {p:D × Bool} (h:GDb 60 p.1=true):GDb 61 (item p)=true:=by
 simp only [item,GDb,List.all_cons,h,List.all_nil,Bool.and_self]
theorem rD {σ:Sto} {L E:Nat} {S:List (D × Bool)} (hL:σ[L]?=some (Cell.lst (S.map item))) (hE:σ[E]?=some (Cell.lst [])) (g:fV S):aV σ .ne (.cell L) (.cell E)=some (.bool (!S.isEmpty)):=by
 have hg:(S.map item).all (GDb 61)=true:=by
  rw [List.all_eq_true]
  intro x hx
  obtain ⟨p,hp,rfl⟩:=List.mem_map.mp hx
  exact xe (g p hp)
 obtain ⟨xs,g1,g2,g3,g4,g5⟩:=mh (vz 61) _ hg
 have s1:aB (.list xs)=true:=by
  simp only [aB,SeqAt.shaped,PyData.canLay0,PyData.depth,g2,Bool.true_and]
  exact decide_eq_true (Nat.succ_le_succ (Nat.le_trans g3 (by decide)))
 have s2:aB (.list [])=true:=by simp [aB,SeqAt.shaped,PyData.canLay0,PyData.depth,PyData.canLayAll0,PyData.depthAll]
 have e0:D.pys []=some []:=by simp only [D.pys]
 refine (lF (σ:=σ) (f:=fun b=>!b) (x:=.list xs) (y:=.list []) (vt hL g1) (vt hE e0) s1 s2).trans ?_
 congr 2
 cases S with
 | nil =>
  have:xs=[]:=g5.mpr rfl
  subst this
  simp [PyData.eqv,PyData.eqvAll]
 | cons p r =>
  cases xs with
  | nil=>have:=g5.mp rfl;simp at this
  | cons y ys=>simp [PyData.eqv,PyData.eqvAll]
end
end Mine.Internal.Q
end
section
namespace Mine.Internal.Q
open PySem
section
theorem qa {σ:Sto} {L:Nat} {S:List (D × Bool)} {p:D × Bool} (h:σ[L]?=some (Cell.lst ((S++[p]).map item))) (hl:S.length+1≤lim):cV σ .pop (.cell L)=true∧meD σ .pop (.cell L) []=.ok (item p) (σ.set L (Cell.lst (S.map item))):=by
 constructor
 ·exact dm h
 ·have e:(S++[p]).map item=S.map item++[item p]:=List.map_append
  rw [e] at h
  have r:(S.map item++[item p]).reverse=item p :: (S.map item).reverse:=List.reverse_append
  show (match σ[L]? with | some (.lst ds)=>(match ds.reverse with | d :: r=>if Nat.ble ds.length lim=true then R.ok d (σ.set L (.lst r.reverse)) else .no | []=>.no) | _=>.no)=_
  rw [h]
  dsimp only
  rw [r]
  dsimp only
  rw [List.reverse_reverse]
  exact if_pos (Nat.ble_eq.mpr (by rw [List.length_append,List.length_map];exact hl))
theorem BO {σ:Sto} {L j:Nat} {x y:List D} (h:σ[L]?=some (Cell.lst x)) (hj:σ[j]?=some (Cell.lst y)) (hn:L ≠ j) (hl:x.length+y.length≤lim):cV σ .extend (.cell L)=true∧meD σ .extend (.cell L) [.cell j]=.ok .none (σ.set L (Cell.lst (x++y))):=by
 constructor
 ·exact dm h
 ·simp only [meD,onC,one,onL,onS,zer,h,hj]
  have:Nat.beq L j=false:=by
   cases e:Nat.beq L j with
   | false=>rfl
   | true=>exact (hn (Nat.eq_of_beq_eq_true e)).elim
  rw [this]
  simp only [Bool.false_eq_true,if_false]
  rw [if_pos (Nat.ble_eq.mpr hl)]
theorem lS {L:Nat} {S:List (D × Bool)} {p:D × Bool} (g:fV (S++[p])) {t:Option D} {M:Nat} {x3 x4 x5 x6:Option D} {σ:Sto} (hL:σ[L]?=some (Cell.lst ((S++[p]).map item))) (n dp:Nat) :
  (evn false fnT (n+100)).t (dp+1) [t,some (.cell L),some (.cell M),x3,x4,x5,x6] Gi σ=.ok true (σ++[Cell.lst []]):=by
 have h2:=rD (bA (e:=[Cell.lst []]) hL) (E:=σ.length) dS g
 have h3:(S++[p]).isEmpty=false:=by cases S <;> rfl
 rw [h3] at h2
 exact fG (m:=n) (j:=100) (fo h2 .z) (by kernel_rfl)
theorem FrB.app {B:Nat} {σ e:Sto} (h:B≤σ.length):FrB B σ (σ++e):=⟨by rw [List.length_append];exact Nat.le_add_right _ _,fun k hk=>List.getElem?_append_left (Nat.lt_of_lt_of_le hk h)⟩
theorem FrB.put {B j:Nat} {σ:Sto} {y:Cell} (h:B≤j):FrB B σ (σ.set j y):=⟨Nat.le_of_eq List.length_set.symm,fun k hk=>List.getElem?_set_ne (Nat.ne_of_gt (Nat.lt_of_lt_of_le hk h))⟩
theorem pD {n:Nat} (h:100≤n):∃ n',n=n'+100:=⟨n - 100,(Nat.sub_add_cancel h).symm⟩
theorem zX {S:List (D × Bool)} {p:D × Bool}:(S++[p]).map item=S.map item++[item p]:=List.map_append
theorem xV {B L:Nat} {S:List (D × Bool)} {Md:List D} {d:D} (g:fV (S++[(d,false)])) (hd:∀ ds,d ≠ .tup ds) (hs:S.length+1≤lim) (hm:Md.length+1≤lim) :
  Reach B L 1 (S++[(d,false)]) Md S (Md++[d]):=by
 intro dp ρ σ C
 obtain ⟨t,M,x3,x4,x5,x6,rfl,hLM,hL,hM,bL,bM⟩:=C
 have h1:=bA (e:=[Cell.lst []]) hL
 have h2:=bA (e:=[Cell.lst []]) hM
 have ht:=fun n=>lS (t:=t) (M:=M) (x3:=x3) (x4:=x4) (x5:=x5) (x6:=x6) g hL n dp
 have f0:FrB B σ (σ++[Cell.lst []]):=.app (Nat.le_trans bL (Nat.le_of_lt (fM hL)))
 generalize σ++[Cell.lst []]=σ1 at h1 h2 ht f0
 obtain ⟨p1,p2⟩:=qa h1 hs
 have h3:=jI (y:=Cell.lst (S.map item)) hLM h2
 have h4:=dU (y:=Cell.lst (S.map item)) h1
 have f1:=f0.trans (.put (y:=Cell.lst (S.map item)) bL)
 generalize σ1.set L (Cell.lst (S.map item))=σ2 at p2 h3 h4 f1
 obtain ⟨a1,a2⟩:=fj (d:=d) h3 (Nat.le_of_succ_le hm)
 refine ⟨[t,some (.cell L),some (.cell M),some d,some (.bool false),x5,x6],_,⟨t,M,_,_,_,_,rfl,hLM,jI hLM.symm h4,dU h3,bL,bM⟩,f1.trans (.put bM),fun n hn=>?_⟩
 obtain ⟨n,rfl⟩:=pD hn
 have gd:=pg (g (d,false) (List.mem_append_right _ (.head _)))
 have it:biD σ2 .isTup [d]=.ok (.bool false) σ2:=by
  cases d with
  | tup ds=>exact (hd ds rfl).elim
  | none=>rfl
  | bool _=>rfl
  | int _=>rfl
  | str _=>rfl
  | fl | dct | cell | glob=>exact gd.elim
 exact dH (ht n) (fT (m:=n) (j:=100) (fb p1 (fd p2 (fd it (fb a1 (fd a2 .z))))) (by kernel_rfl))
theorem xW {B L:Nat} {S:List (D × Bool)} {Md ds:List D} (g:fV (S++[(D.tup ds,false)])) (hs:S.length+2+ds.length≤lim) :
  Reach B L 1 (S++[(D.tup ds,false)]) Md (S++[(D.tup ds,true)]++ds.reverse.map (fun d=>(d,false))) Md:=by
 intro dp ρ σ C
 obtain ⟨t,M,x3,x4,x5,x6,rfl,hLM,hL,hM,bL,bM⟩:=C
 have h1:=bA (e:=[Cell.lst []]) hL
 have h2:=bA (e:=[Cell.lst []]) hM
 have ht:=fun n=>lS (t:=t) (M:=M) (x3:=x3) (x4:=x4) (x5:=x5) (x6:=x6) g hL n dp
 have f0:FrB B σ (σ++[Cell.lst []]):=.app (Nat.le_trans bL (Nat.le_of_lt (fM hL)))
 generalize σ++[Cell.lst []]=σ1 at h1 h2 ht f0
 have hs1:S.length+1≤lim:=Nat.le_of_succ_le (Nat.le_trans (Nat.le_add_right _ _) hs)
 obtain ⟨p1,p2⟩:=qa h1 hs1
 have h3:=jI (y:=Cell.lst (S.map item)) hLM h2
 have h4:=dU (y:=Cell.lst (S.map item)) h1
 have f1:=f0.trans (.put (y:=Cell.lst (S.map item)) bL)
 generalize σ1.set L (Cell.lst (S.map item))=σ2 at p2 h3 h4 f1
 obtain ⟨a1,a2⟩:=fj (d:=.tup [.tup ds,.bool true]) h4 (by rw [List.length_map];exact Nat.le_of_succ_le hs1)
 rw [show S.map item++[D.tup [.tup ds,.bool true]]=(S++[(D.tup ds,true)]).map item from (zX (p:=(D.tup ds,true))).symm] at a2
 have h5:=dU (y:=Cell.lst ((S++[(D.tup ds,true)]).map item)) h4
 have h6:=jI (y:=Cell.lst ((S++[(D.tup ds,true)]).map item)) hLM h3
 have f2:=f1.trans (.put (y:=Cell.lst ((S++[(D.tup ds,true)]).map item)) bL)
 generalize σ2.set L (Cell.lst ((S++[(D.tup ds,true)]).map item))=σ3 at a2 h5 h6 f2
 have lm:(ds.reverse.map fun d=>D.tup [d,.bool false]).length=ds.length:=by rw [List.length_map,List.length_reverse]
 obtain ⟨e1,e2⟩:=BO (bA (e:=[Cell.lst (ds.reverse.map fun d=>.tup [d,.bool false])]) h5) (dS (σ:=σ3) (x:=Cell.lst (ds.reverse.map fun d=>.tup [d,.bool false]))) (Nat.ne_of_lt (fM h5)) (by rw [lm,List.length_map,List.length_append];exact Nat.le_trans (Nat.add_le_add_right (Nat.le_succ _) _) hs)
 have e1':cV σ3 .extend (.cell L)=true:=dm h5
 have rv:DN σ3 (.tup ds)=.ok (.tup ds.reverse) σ3:=if_pos (Nat.ble_eq.mpr (Nat.le_trans (Nat.le_add_left _ _) hs))
 have pr:(if Nat.ble ds.reverse.length lim=true then R.ok (D.cell σ3.length) (σ3++[Cell.lst (ds.reverse.map fun d=>.tup [d,.bool false])]) else .no)=_:=if_pos (Nat.ble_eq.mpr (by rw [List.length_reverse];exact Nat.le_trans (Nat.le_add_left _ _) hs))
 have h7:=bA (e:=[Cell.lst (ds.reverse.map fun d=>.tup [d,.bool false])]) h5
 have h8:=bA (e:=[Cell.lst (ds.reverse.map fun d=>.tup [d,.bool false])]) h6
 have f3:=f2.trans (.app (e:=[Cell.lst (ds.reverse.map fun d=>.tup [d,.bool false])]) (Nat.le_trans bL (Nat.le_of_lt (fM h5))))
 refine ⟨[t,some (.cell L),some (.cell M),some (.tup ds),some (.bool false),x5,x6],(σ3++[Cell.lst (ds.reverse.map fun d=>.tup [d,.bool false])]).set L (Cell.lst ((S++[(D.tup ds,true)]).map item++ds.reverse.map fun d=>.tup [d,.bool false])),⟨t,M,_,_,_,_,rfl,hLM,(dU h7).trans ?_,jI hLM h8,bL,bM⟩,f3.trans (.put bL),fun n hn=>?_⟩
 ·rw [List.map_append (l₁:=S++[(D.tup ds,true)]),List.map_map];rfl
 ·obtain ⟨n,rfl⟩:=pD hn
  exact dH (ht n) (fT (m:=n) (j:=100) (fb p1 (fd p2 (fn 1 (fb a1 (fd a2 (fb e1' (fd rv (fd pr (fd e2 .z))))))))) (by kernel_rfl))
theorem BR {ds parts:List D}:(n5 ds parts).length=parts.length:=by
 unfold n5
 cases gQ ds with
 | false=>rfl
 | true=>cases parts with
  | nil=>rfl
  | cons a r=>cases r <;> rfl
theorem ud {B L:Nat} {S:List (D × Bool)} {Md ds parts:List D} (g:fV (S++[(D.tup ds,true)])) (hlen:parts.length=ds.length) (hd:ds.length≤100000) (hs:S.length+1≤lim) (hm:Md.length+parts.length+1≤lim) :
  Reach B L 1 (S++[(D.tup ds,true)]) (Md++parts) S (Md++[.tup (n5 ds parts)]):=by
 intro dp ρ σ C
 obtain ⟨t,M,x3,x4,x5,x6,rfl,hLM,hL,hM,bL,bM⟩:=C
 have h1:=bA (e:=[Cell.lst []]) hL
 have h2:=bA (e:=[Cell.lst []]) hM
 have ht:=fun n=>lS (t:=t) (M:=M) (x3:=x3) (x4:=x4) (x5:=x5) (x6:=x6) g hL n dp
 have f0:FrB B σ (σ++[Cell.lst []]):=.app (Nat.le_trans bL (Nat.le_of_lt (fM hL)))
 generalize σ++[Cell.lst []]=σ1 at h1 h2 ht f0
 obtain ⟨p1,p2⟩:=qa h1 hs
 have h3:=jI (y:=Cell.lst (S.map item)) hLM h2
 have h4:=dU (y:=Cell.lst (S.map item)) h1
 have f1:=f0.trans (.put (y:=Cell.lst (S.map item)) bL)
 generalize σ1.set L (Cell.lst (S.map item))=σ2 at p2 h3 h4 f1
 have hml:(Md++parts).length≤lim:=by rw [List.length_append];exact Nat.le_of_succ_le hm
 have b2:B≤σ2.length:=Nat.le_trans bL (Nat.le_of_lt (fM h4))
 have bl1:biD σ2 .len [.cell M]=.ok (.int ((Md++parts).length:Int)) σ2:=by
  show onO _ (fun n:Nat=>if Nat.ble n lim=true then _ else _) (onL none (fun ds=>some ds.length) σ2[M]?)=_
  rw [h3]
  exact if_pos (Nat.ble_eq.mpr hml)
 have bl2:=pN (σ:=σ2) (ds:=ds) (Nat.le_trans hd (by decide))
 have sb:bx σ2 .sub (.int ((Md++parts).length:Int)) (.int (ds.length:Int))=.ok (.int (Md.length:Int)) σ2:=by
  have:((Md++parts).length:Int) - (ds.length:Int)=(Md.length:Int):=by rw [List.length_append,hlen,Int.natCast_add,Int.add_sub_cancel]
  rw [← this];rfl
 have s1:gm σ2 (.cell M) (some Md.length) none=.ok (.cell σ2.length) (σ2++[Cell.lst parts]):=by
  show (match σ2[M]? with | some (Cell.lst ds)=>if Nat.ble ds.length lim=true then R.ok (D.cell σ2.length) (σ2++[Cell.lst (bU ds (some Md.length) none)]) else .no | _=>.no)=_
  rw [h3]
  refine (if_pos (Nat.ble_eq.mpr hml)).trans ?_
  rw [show bU (Md++parts) (some Md.length) none=parts from List.drop_left]
 have h5:=bA (e:=[Cell.lst parts]) h3
 have h6:=bA (e:=[Cell.lst parts]) h4
 have h7:=dS (σ:=σ2) (x:=Cell.lst parts)
 have f2:=f1.trans (.app (e:=[Cell.lst parts]) b2)
 have k2:L < (σ2++[Cell.lst parts]).length:=fM h6
 have b3:B≤(σ2++[Cell.lst parts]).length:=Nat.le_trans bL (Nat.le_of_lt k2)
 generalize hq:σ2.length=q at s1 h7
 generalize σ2++[Cell.lst parts]=σ3 at s1 h5 h6 h7 f2 k2 b3
 have s2:gm σ3 (.cell M) none (some Md.length)=.ok (.cell σ3.length) (σ3++[Cell.lst Md]):=by
  show (match σ3[M]? with | some (Cell.lst ds)=>if Nat.ble ds.length lim=true then R.ok (D.cell σ3.length) (σ3++[Cell.lst (bU ds none (some Md.length))]) else .no | _=>.no)=_
  rw [h5]
  refine (if_pos (Nat.ble_eq.mpr hml)).trans ?_
  rw [show bU (Md++parts) none (some Md.length)=Md from List.take_left]
 have h8:=bA (e:=[Cell.lst Md]) h6
 have h9:=bA (e:=[Cell.lst Md]) h7
 have h10:=dS (σ:=σ3) (x:=Cell.lst Md)
 have f3:=f2.trans (.app (e:=[Cell.lst Md]) b3)
 generalize hM2:σ3.length=M2 at s2 h10 k2 b3
 generalize σ3++[Cell.lst Md]=σ4 at s2 h8 h9 h10 f3
 have gds:ds.all (GDb 59)=true:=g (.tup ds,true) (List.mem_append_right _ (.head _))
 obtain ⟨q',ext,ws1,ws2⟩:=AL gds hlen hd h9
 have a1':cV σ4 .append (.cell M2)=true:=dm h10
 have h11:=bA (e:=ext) h8
 have h12:=bA (e:=ext) h10
 have f4:=f3.trans (.app (e:=ext) (Nat.le_trans bL (Nat.le_of_lt (fM h8))))
 generalize σ4++ext=σ5 at ws1 ws2 h11 h12 f4
 obtain ⟨a1,a2⟩:=fj (d:=.tup (n5 ds parts)) h12 (Nat.le_trans (Nat.le_trans (Nat.le_add_right _ _) (Nat.le_succ _)) hm)
 have tp:biD σ5 .tup [.cell q']=.ok (.tup (n5 ds parts)) σ5:=by
  show onL _ (fun ds=>if ds.length≤lim then _ else _) σ5[q']?=_
  rw [ws1]
  exact if_pos (by rw [BR,hlen];exact Nat.le_trans hd (by decide))
 refine ⟨[t,some (.cell L),some (.cell M2),some (.tup ds),some (.bool true),some (.int (Md.length:Int)),some (.cell q)],_,⟨t,M2,_,_,_,_,rfl,Nat.ne_of_lt k2,jI (Nat.ne_of_gt k2) h11,dU h12,bL,b3⟩,f4.trans (.put b3),fun n hn=>?_⟩
 obtain ⟨n,rfl⟩:=pD hn
 exact dH (ht n) (fT (m:=n) (j:=100) (fb p1 (fd p2 (fn 1 (fd bl1 (fd bl2 (fd sb (fd s1 (fd s2 (fb a1' (fd (ws2 (n+28) dp) (fd tp (fd a2 .z)))))))))))) (by kernel_rfl))
mutual
noncomputable def szD:D->Nat
 | .tup ds=>2+dJ ds
 | _=>1
noncomputable def dJ:List D->Nat
 | []=>0
 | d :: r=>szD d+dJ r
end
theorem kN (d:D):1≤szD d:=by
 cases d with
 | tup ds=>exact Nat.le_trans (by decide) (Nat.le_add_right 2 _)
 | _=>exact Nat.le_refl 1
theorem rJ:∀ ds:List D,ds.length≤dJ ds
 | []=>by simp [dJ]
 | d :: r=>by
  have:=rJ r
  show r.length+1≤szD d+dJ r
  rw [Nat.add_comm (szD d)]
  exact Nat.add_le_add this (kN d)
theorem gj:∀ ds:List D,(bR ds).length=ds.length
 | []=>by simp [bR]
 | d :: r=>by simp [bR,gj r]
noncomputable def wtS:List (D × Bool)->Nat
 | []=>0
 | p :: r=>(if p.2 then 1 else szD p.1)+wtS r
theorem kQ:∀ (a b:List (D × Bool)),wtS (a++b)=wtS a+wtS b
 | [],b=>by simp [wtS]
 | p :: r,b=>by simp only [List.cons_append,wtS,kQ r b];exact (Nat.add_assoc ..).symm
theorem qq:∀ S:List (D × Bool),S.length≤wtS S
 | []=>by simp [wtS]
 | p :: r=>by
  have:=qq r
  show r.length+1≤(if p.2 then 1 else szD p.1)+wtS r
  rw [Nat.add_comm]
  refine Nat.add_le_add ?_ this
  split
  ·exact Nat.le_refl 1
  ·exact kN _
theorem vX:∀ ds:List D,wtS (ds.reverse.map fun d=>(d,false))=dJ ds
 | []=>by simp [wtS,dJ]
 | d :: r=>by
  simp only [List.reverse_cons,List.map_append,kQ,vX r,dJ,List.map_cons,List.map_nil,wtS]
  exact Nat.add_comm (dJ r) (szD d)
theorem Reach.refl {B L:Nat} {S:List (D × Bool)} {Md:List D}:Reach B L 0 S Md S Md:=fun dp ρ σ C=>⟨ρ,σ,C,⟨Nat.le_refl _,fun _ _=>rfl⟩,fun _ _=>rfl⟩
theorem fF {B L:Nat} {d:D} {S:List (D × Bool)} {Md:List D} (g:fV S) (gd:GDb 60 d=true) (hd:∀ ds,d ≠ .tup ds) (hs:szD d=1) (hp:bF d=d) (hw:wtS S+szD d+Md.length≤100000):Reach B L (szD d) (S++[(d,false)]) Md S (Md++[bF d]):=by
 have gl:=qq S
 rw [hs] at hw ⊢
 rw [hp]
 have q:Md.length+1≤wtS S+1+Md.length:=by rw [Nat.add_comm];exact Nat.add_le_add_right (Nat.le_add_left 1 _) _
 refine xV ?_ hd (Nat.le_trans (Nat.add_le_add_right gl 1) (Nat.le_trans (Nat.le_add_right _ _) (Nat.le_trans hw (by decide)))) (Nat.le_trans q (Nat.le_trans hw (by decide)))
 intro p hp
 rcases List.mem_append.mp hp with hp | hp
 ·exact g p hp
 ·simp at hp;subst hp;exact gd
mutual
theorem mq (B L:Nat):∀ (d:D) (n:Nat) (S:List (D × Bool)) (Md:List D),n≤60->GDb n d=true->fV S->wtS S+szD d+Md.length≤100000->Reach B L (szD d) (S++[(d,false)]) Md S (Md++[bF d])
 | .tup ds,0,S,Md,_,hd,_,_=>by simp [GDb] at hd
 | .tup ds,n+1,S,Md,hn,hd,g,hw=>by
  have gl:=qq S
  have dl:=rJ ds
  have gd:GDb 60 (D.tup ds)=true:=c9 hn hd
  have hds:ds.all (GDb n)=true:=by simpa only [GDb] using hd
  simp only [szD] at hw ⊢
  have g1:fV (S++[(D.tup ds,false)]):=by
   intro p hp
   rcases List.mem_append.mp hp with hp | hp
   ·exact g p hp
   ·simp at hp;subst hp;exact gd
  have g2:fV (S++[(D.tup ds,true)]):=by
   intro p hp
   rcases List.mem_append.mp hp with hp | hp
   ·exact g p hp
   ·simp at hp;subst hp;exact gd
  have s1:=xW (B:=B) (L:=L) (Md:=Md) g1 (Nat.le_trans (Nat.add_le_add (Nat.add_le_add_right gl 2) dl) (Nat.le_trans (by rw [Nat.add_assoc];exact Nat.le_add_right _ _) (Nat.le_trans hw (by decide))))
  have s2:=mj B L ds n (S++[(D.tup ds,true)]) Md (Nat.le_of_succ_le hn) hds g2 (by rw [kQ];exact Nat.le_trans (Nat.add_le_add_right (by rw [Nat.add_assoc];exact Nat.add_le_add_left (Nat.add_le_add_right (by decide:1≤2) _) _) _) hw)
  have q:ds.length+1≤2+dJ ds:=by rw [Nat.add_comm];exact Nat.add_le_add (by decide) dl
  have s3:=ud (B:=B) (L:=L) (Md:=Md) (parts:=bR ds) g2 (gj ds) (Nat.le_trans (Nat.le_trans (Nat.le_trans (Nat.le_succ _) q) (Nat.le_trans (Nat.le_add_left _ _) (Nat.le_add_right _ _))) hw) (Nat.le_trans (Nat.add_le_add gl (Nat.le_trans (by decide) (Nat.le_add_right 2 _))) (Nat.le_trans (Nat.le_add_right _ _) (Nat.le_trans hw (by decide)))) (by rw [gj,Nat.add_assoc,Nat.add_comm];exact Nat.le_trans (Nat.add_le_add_right (Nat.le_trans q (Nat.le_add_left _ (wtS S))) _) (Nat.le_trans hw (by decide)))
  have:=(s1.trans s2).trans s3
  simp only [bF]
  rw [show 2+dJ ds=1+(dJ ds+1) by rw [Nat.add_comm (dJ ds) 1,← Nat.add_assoc]]
  exact this
 | .none,n,S,Md,hn,hd,g,hw=>fF g (by decide) (fun _ h=>by cases h) (by rfl) (by rfl) hw
 | .bool b,n,S,Md,hn,hd,g,hw=>fF g (by rfl) (fun _ h=>by cases h) (by rfl) (by rfl) hw
 | .int b,n,S,Md,hn,hd,g,hw=>fF g (by rfl) (fun _ h=>by cases h) (by rfl) (by rfl) hw
 | .str b,n,S,Md,hn,hd,g,hw=>fF g (c9 hn hd) (fun _ h=>by cases h) (by rfl) (by rfl) hw
 | .fl b,n,S,Md,hn,hd,g,hw=>by cases n <;> simp [GDb] at hd
 | .dct b,n,S,Md,hn,hd,g,hw=>by cases n <;> simp [GDb] at hd
 | .cell b,n,S,Md,hn,hd,g,hw=>by cases n <;> simp [GDb] at hd
 | .glob b,n,S,Md,hn,hd,g,hw=>by cases n <;> simp [GDb] at hd
theorem mj (B L:Nat):∀ (ds:List D) (n:Nat) (S:List (D × Bool)) (Md:List D),n≤60->ds.all (GDb n)=true->fV S->wtS S+dJ ds+Md.length≤100000->Reach B L (dJ ds) (S++ds.reverse.map (fun d=>(d,false))) Md S (Md++bR ds)
 | [],n,S,Md,_,_,_,_=>by
  have:=Reach.refl (B:=B) (L:=L) (S:=S) (Md:=Md)
  simpa [dJ,bR] using this
 | d :: r,n,S,Md,hn,hd,g,hw=>by
  simp only [List.all_cons,Bool.and_eq_true] at hd
  simp only [dJ] at hw ⊢
  have gr:fV (S++r.reverse.map (fun d=>(d,false))):=by
   intro p hp
   rcases List.mem_append.mp hp with hp | hp
   ·exact g p hp
   ·obtain ⟨x,hx,rfl⟩:=List.mem_map.mp hp
    exact c9 hn (List.all_eq_true.mp hd.2 x (List.mem_reverse.mp hx))
  have s1:=mq B L d n (S++r.reverse.map (fun d=>(d,false))) Md hn hd.1 gr (by rw [kQ,vX,Nat.add_assoc (wtS S),Nat.add_comm (dJ r)];exact hw)
  have s2:=mj B L r n S (Md++[bF d]) hn hd.2 g (by rw [List.length_append,Nat.add_comm Md.length,← Nat.add_assoc];exact Nat.le_trans (Nat.add_le_add_right (by rw [Nat.add_assoc,Nat.add_comm (szD d)];exact Nat.add_le_add_left (Nat.add_le_add_left (kN d) _) _) _) hw)
  have:=s1.trans s2
  rw [Nat.add_comm]
  simpa [bR,List.append_assoc] using this
end
end
end Mine.Internal.Q
end
section
namespace Mine.Internal.Q
open PySem
noncomputable def firsts:List Nat:=[98,45,33,42,38,40,91,102,97,83,123,105,109,39]
inductive c6:List Nat->Prop
 | nil:c6 []
 | par (r:List Nat):c6 (41 :: r)
 | brk (r:List Nat):c6 (93 :: r)
 | com (r:List Nat):c6 (44 :: r)
 | sem (r:List Nat):c6 (59 :: r)
 | cur (r:List Nat):c6 (32 :: 125 :: r)
 | cas (r:List Nat):c6 (32 :: 97 :: r)
noncomputable def qOf (P P2:Nat) (po qo:List Nat) (i:Nat):Int:=if Nat.blt i po.length then ((P+po.getD i 0:Nat):Int) else ((P2+qo.getD (i - po.length) 0:Nat):Int)
structure cT (w:WR) (po qo:List Nat):Prop where
 pre:∀ (P P2:Nat) (r:List Nat),∀ c ∈ firsts,bH w.pre.length P (w.pt++c :: r)=some (tkD (qOf P P2 po qo) 0 w.pre,P+w.pt.length,c :: r)
 post:∀ (P P2:Nat) (rest:List Nat),c6 rest->bH w.post.length (P2+b7 (w.qt++rest)) (aM (w.qt++rest))=some (tkD (qOf P P2 po qo) w.pre.length w.post,P2+w.qt.length+b7 rest,aM rest)
 ok:∀ rest,c6 rest->c6 (w.qt++rest)
 first:∃ c r,w.pt=c :: r∧c ∈ firsts
 asc:au w.pt=true∧au w.qt=true
 len:w.pt.length+w.qt.length≤30
 n:w.pre.length+w.post.length≤12
 gd:∀ (b:Nat) (q:Nat->Int) (qi:Int) (h:List Nat) (us:List D),GDb b (tr0 h qi us)=true->GDb (b+6) (w.tree q qi (tr0 h qi us))=true
 gl:∀ (b:Nat) (t:D),GDb b t=true->GDb (b+6) (w.law t)=true
 sz:∀ (q:Nat->Int) (qi:Int) (t:D),szD (w.tree q qi t)≤szD t+60
noncomputable def sb (x:D) (n:Nat):D->D:=Nat.rec (fun d=>onC d (fun _=>x) d) (fun _ ih d=>onT (onC d (fun _=>x) d) (fun ds=>.tup (ds.map ih)) d) n
inductive SbV (d:D):Prop
 | c (i:Nat) (e:d=.cell i)
 | t (ds:List D) (e:d=.tup ds)
 | o (e:∀ x n,sb x n d=d)
theorem DV:∀ d:D,SbV d
 | .cell i=>.c i rfl
 | .tup ds=>.t ds rfl
 | .none=>.o fun _ n=>by cases n <;> rfl
 | .bool _=>.o fun _ n=>by cases n <;> rfl
 | .int _=>.o fun _ n=>by cases n <;> rfl
 | .str _=>.o fun _ n=>by cases n <;> rfl
 | .fl _=>.o fun _ n=>by cases n <;> rfl
 | .dct _=>.o fun _ n=>by cases n <;> rfl
 | .glob _=>.o fun _ n=>by cases n <;> rfl
theorem kL (x:D) (i:Nat):∀ n,sb x n (.cell i)=x
 | 0=>rfl
 | _+1=>rfl
theorem Fx {b:Nat} {x:D} (g:GDb b x=true) (n:Nat):∀ d:D,GDb n (sb .none n d)=true->GDb (b+n) (sb x n d)=true:=by
 induction n with
 | zero =>
  intro d h
  cases DV d with
  | c i e=>rw [e];exact g
  | t ds e=>rw [e] at h;exact nb h
  | o e=>rw [e] at h ⊢;exact c9 (Nat.zero_le _) h
 | succ n ih =>
  intro d h
  cases DV d with
  | c i e=>rw [e,kL];exact c9 (Nat.le_add_right _ _) g
  | t ds e =>
   rw [e] at h ⊢
   have h:((ds.map (sb .none n)).all (GDb n))=true:=h
   show ((ds.map (sb x n)).all (GDb (b+n)))=true
   rw [List.all_map,List.all_eq_true] at h ⊢
   exact fun d hd=>ih d (h d hd)
  | o e=>rw [e] at h ⊢;exact c9 (Nat.le_add_left _ _) h
theorem Ma {a b c d a' b' c' d' m:Nat} (h:a+b * m=c+d * m) (h':a'+b' * m=c'+d' * m):(a+a')+(b+b') * m=(c+c')+(d+d') * m:=by
 rw [Nat.add_mul,Nat.add_mul,Nat.add_add_add_comm,h,h',Nat.add_add_add_comm]
theorem OM {x:D} {m:Nat} (g:szD x=m+1) (n:Nat):∀ d:D,szD (sb x n d)+szD (sb .none n d) * m=szD (sb .none n d)+szD (sb (.tup []) n d) * m:=by
 have hc:szD x+1 * m=1+2 * m:=by rw [g,Nat.one_mul,Nat.two_mul,Nat.add_right_comm,Nat.add_comm]
 induction n with
 | zero =>
  intro d
  cases DV d with
  | c i e=>rw [e];exact hc
  | t ds e=>rw [e];rfl
  | o e=>rw [e,e,e]
 | succ n ih =>
  intro d
  cases DV d with
  | c i e=>rw [e,kL,kL,kL];exact hc
  | t ds e =>
   rw [e]
   refine Ma (a:=2) (b:=2) (c:=2) (d:=2) rfl ?_
   clear e
   induction ds with
   | nil=>rfl
   | cons d r ir=>exact Ma (ih d) ir
  | o e=>rw [e,e,e]
theorem IL {x d:D} {n:Nat} (h1:szD (sb (.tup []) n d)=szD (sb .none n d)+1) (h2:szD (sb .none n d)≤60):szD (sb x n d)≤szD x+60:=by
 have g:szD x=(szD x - 1)+1:=(Nat.sub_add_cancel (kN x)).symm
 have h:=OM g n d
 rw [h1,Nat.add_mul,Nat.one_mul,Nat.add_comm _ (szD x - 1),← Nat.add_assoc] at h
 rw [Nat.add_right_cancel h,Nat.add_comm]
 exact Nat.add_le_add (Nat.sub_le _ _) h2
noncomputable def oks (r:List Nat):List (List Nat):=[[],41 :: r,93 :: r,44 :: r,59 :: r,32 :: 125 :: r,32 :: 97 :: r]
theorem HN {P:List Nat->Prop} (h:∀ r,∀ x ∈ oks r,P x) (rest:List Nat) (o:c6 rest):P rest:=by
 cases o with
 | nil=>exact h [] _ (.head _)
 | par r=>exact h r _ (.tail _ (.head _))
 | brk r=>exact h r _ (.tail _ (.tail _ (.head _)))
 | com r=>exact h r _ (.tail _ (.tail _ (.tail _ (.head _))))
 | sem r=>exact h r _ (.tail _ (.tail _ (.tail _ (.tail _ (.head _)))))
 | cur r=>exact h r _ (.tail _ (.tail _ (.tail _ (.tail _ (.tail _ (.head _))))))
 | cas r=>exact h r _ (.tail _ (.tail _ (.tail _ (.tail _ (.tail _ (.tail _ (.head _)))))))
theorem zm {l:List Nat} (h:firsts.elem (l.headD 0)=true):∃ c r,l=c :: r∧c ∈ firsts:=by
 cases l with
 | nil=>exact absurd h (by decide)
 | cons c r=>exact ⟨c,r,rfl,List.elem_iff.mp h⟩
noncomputable def Qk (w:WR) (po qo:List Nat) (P P2:Nat) (r:List Nat) (q:Nat->Int) (qi:Int) (x:D):(D × D × Bool) × List (Option (List D × Nat × List Nat)) × List (Option (List D × Nat × List Nat)) :=
 ((w.tree q qi x,w.law x,GDb 6 (w.tree q qi .none) && (GDb 6 (w.law .none) && (Nat.beq (szD (w.tree q qi (.tup []))) (szD (w.tree q qi .none)+1) && (Nat.ble (szD (w.tree q qi .none)) 60 && (au w.pt && (au w.qt && (Nat.ble (w.pt.length+w.qt.length) 30 && (Nat.ble (w.pre.length+w.post.length) 12 && firsts.elem (w.pt.headD 0))))))))),
  firsts.map (fun c=>bH w.pre.length P (w.pt++c :: r)),(oks r).map fun rest=>bH w.post.length (P2+b7 (w.qt++rest)) (aM (w.qt++rest)))
noncomputable def Qz (w:WR) (po qo:List Nat) (P P2:Nat) (r:List Nat) (q:Nat->Int) (qi:Int) (x:D):(D × D × Bool) × List (Option (List D × Nat × List Nat)) × List (Option (List D × Nat × List Nat)) :=
 ((sb x 6 (w.tree q qi (.cell 0)),sb x 6 (w.law (.cell 0)),true),
  firsts.map (fun c=>some (tkD (qOf P P2 po qo) 0 w.pre,P+w.pt.length,c :: r)),(oks r).map fun rest=>some (tkD (qOf P P2 po qo) w.pre.length w.post,P2+w.qt.length+b7 rest,aM rest))
theorem cT.of {w:WR} {po qo:List Nat} (h:∀ P P2 r q qi x,Qk w po qo P P2 r q qi x=Qz w po qo P P2 r q qi x) (ok:∀ rest,c6 rest->c6 (w.qt++rest)):cT w po qo:=by
 have hs:∀ q qi x,w.tree q qi x=sb x 6 (w.tree q qi (.cell 0)):=fun q qi x=>congrArg (·.1.1) (h 0 0 [] q qi x)
 have hl:∀ x,w.law x=sb x 6 (w.law (.cell 0)):=fun x=>congrArg (·.1.2.1) (h 0 0 [] (fun _=>0) 0 x)
 have k:=fun q qi=>ak (show (_ && _)=true from congrArg (·.1.2.2) (h 0 0 [] q qi .none))
 have k2:=fun q qi=>ak (k q qi).2
 have k3:=fun q qi=>ak (k2 q qi).2
 have k4:=fun q qi=>ak (k3 q qi).2
 obtain ⟨m1,m⟩:=ak (k4 (fun _=>0) 0).2
 obtain ⟨m2,m⟩:=ak m
 obtain ⟨m3,m⟩:=ak m
 obtain ⟨m4,m⟩:=ak m
 refine ⟨fun P P2 r=>List.map_inj_left.mp (congrArg (·.2.1) (h P P2 r (fun _=>0) 0 .none)),fun P P2=>HN fun r=>List.map_inj_left.mp (congrArg (·.2.2) (h P P2 r (fun _=>0) 0 .none)),ok,zm m,⟨m1,m2⟩,Nat.ble_eq.mp m3,Nat.ble_eq.mp m4,fun b q qi h us g=>?_,fun b t g=>?_,fun q qi t=>?_⟩
 ·rw [hs]
  exact Fx g 6 _ (by rw [← hs];exact (k q qi).1)
 ·rw [hl]
  exact Fx g 6 _ (by rw [← hl];exact (k2 (fun _=>0) 0).1)
 ·rw [hs]
  exact IL (by rw [← hs,← hs];exact Nat.eq_of_beq_eq_true (k3 q qi).1) (by rw [← hs];exact Nat.ble_eq.mp (k4 q qi).1)
theorem Hz:cT mS [0] []:=.of (fun _ _ _ _ _ _=>by kernel_rfl) (fun rest h=>h)
theorem HA:cT w_not [0] []:=.of (fun _ _ _ _ _ _=>by kernel_rfl) (fun rest h=>h)
theorem Hr:cT mQ [0] []:=.of (fun _ _ _ _ _ _=>by kernel_rfl) (fun rest h=>h)
theorem Hy:cT mR [0,1] []:=.of (fun _ _ _ _ _ _=>by kernel_rfl) (fun rest h=>h)
theorem Hi:cT mP [0] []:=.of (fun _ _ _ _ _ _=>by kernel_rfl) (fun rest h=>h)
theorem HB:cT mT [0] [0]:=.of (fun _ _ _ _ _ _=>by kernel_rfl) (fun rest h=>.par _)
theorem Hj:cT jS [0] [0]:=.of (fun _ _ _ _ _ _=>by kernel_rfl) (fun rest h=>.brk _)
theorem Hp:cT jU [0,1] [0]:=.of (fun _ _ _ _ _ _=>by kernel_rfl) (fun rest h=>.par _)
theorem Ht:cT jW [0,1] [0]:=.of (fun _ _ _ _ _ _=>by kernel_rfl) (fun rest h=>.brk _)
theorem Hx:cT jX [0,1,2,3] [0]:=.of (fun _ _ _ _ _ _=>by kernel_rfl) (fun rest h=>.par _)
theorem HD:cT jZ [0,2,4,5] [1]:=.of (fun _ _ _ _ _ _=>by kernel_rfl) (fun rest h=>.cur _)
theorem Ho:cT gz [0] [1]:=.of (fun _ _ _ _ _ _=>by kernel_rfl) (fun rest h=>.cur _)
theorem Hs:cT gA [0,3,5] [1]:=.of (fun _ _ _ _ _ _=>by kernel_rfl) (fun rest h=>.cur _)
theorem Hw:cT gD [0,6,8,10,12] [0,2]:=.of (fun _ _ _ _ _ _=>by kernel_rfl) (fun rest h=>.com _)
theorem Hv:cT gC [0,2,4,9] [1]:=.of (fun _ _ _ _ _ _=>by kernel_rfl) (fun rest h=>.cur _)
theorem Hu:cT gB [0,2,6,8] [0,2]:=.of (fun _ _ _ _ _ _=>by kernel_rfl) (fun rest h=>.sem _)
theorem HC:cT jY [0,1] [0]:=.of (fun _ _ _ _ _ _=>by kernel_rfl) (fun rest h=>.par _)
theorem Hl:cT jT [0,1,3] [0]:=.of (fun _ _ _ _ _ _=>by kernel_rfl) (fun rest h=>.par _)
theorem Hh:cT w_add [0,1,3] [0]:=.of (fun _ _ _ _ _ _=>by kernel_rfl) (fun rest h=>.par _)
theorem Hq:cT jV [0] [1,4,6]:=.of (fun _ _ _ _ _ _=>by kernel_rfl) (fun rest h=>.cas _)
end Mine.Internal.Q
end
section
namespace Mine.Internal.Q
open PySem
structure kZ (text:List Nat) (T:D) (k:Nat) (isb:Bool) (n N e b sz:Nat):Prop where
 asc:au text=true
 first:∃ c r,text=c :: r∧c ∈ firsts
 lex:∀ (P:Nat) (rest:List Nat),c6 rest->∃ ts tree,bH n P (text++rest)=some (ts,P+text.length+b7 rest,aM rest)∧jF ts tree k isb N e∧bF tree=T∧GDb b tree=true∧szD tree≤sz
 good:GDb b T=true
theorem iG {a b:List Nat} (h:au a=true) (h':au b=true):au (a++b)=true:=by
 unfold au at *
 rw [List.all_append,h,h'];rfl
theorem tM (m o:Nat):gh m [o]=mxN m o:=rfl
theorem kZ.wrap {w:WR} {po qo:List Nat} (W:WOK w) (X:cT w po qo) {text:List Nat} {T:D} {k:Nat} {isb:Bool} {n N e b sz:Nat} (P:kZ text T k isb n N e b sz) (he:4≤e) :
  kZ (w.pt++text++w.qt) (w.law T) (mxN (w.m isb) (w.o isb+k)) w.isb (w.pre.length+(n+w.post.length)) (N+300) (e+13) (b+6) (sz+60):=by
 refine ⟨iG (iG X.asc.1 P.asc) X.asc.2,?_,?_,X.gl b T P.good⟩
 ·obtain ⟨c,r,h,hc⟩:=X.first
  exact ⟨c,r++text++w.qt,by rw [h];simp,hc⟩
 ·intro p rest hr
  obtain ⟨c,r,hc,hf⟩:=P.first
  obtain ⟨ts,tree,l1,p1,p2,p3,p4⟩:=P.lex (p+w.pt.length) (w.qt++rest) (X.ok rest hr)
  have l0:=X.pre p (p+w.pt.length+text.length) (r++(w.qt++rest)) c hf
  have l2:=X.post p (p+w.pt.length+text.length) rest hr
  have e0:w.pt++c :: (r++(w.qt++rest))=w.pt++text++w.qt++rest:=by rw [hc];simp
  have e1:c :: (r++(w.qt++rest))=text++(w.qt++rest):=by rw [hc];simp
  rw [e0,e1] at l0
  have l3:=iT _ _ _ _ _ _ _ l0 (iT _ _ _ _ _ _ _ l1 l2)
  obtain ⟨hh,qi,us,rfl⟩:=p1.tr
  refine ⟨tkD (qOf p (p+w.pt.length+text.length) po qo) 0 w.pre++(ts++tkD (qOf p (p+w.pt.length+text.length) po qo) w.pre.length w.post),w.tree (qOf p (p+w.pt.length+text.length) po qo) qi (tr0 hh qi us),?_,?_,?_,X.gd b _ qi hh us p3,?_⟩
  ·rw [l3]
   congr 3
   simp;rw [Nat.add_assoc,Nat.add_assoc]
  ·exact jF.wrap W p1 he (qOf p (p+w.pt.length+text.length) po qo)
  ·rw [(W.t _ qi hh us).1,p2]
  ·have:=X.sz (qOf p (p+w.pt.length+text.length) po qo) qi (tr0 hh qi us)
   exact Nat.le_trans this (Nat.add_le_add_right p4 60)
end Mine.Internal.Q
end
section
namespace Mine.Internal.Q
open PySem
noncomputable def c7 (x:List Nat) (p:Int):D:=.tup [.str [112,97,116,104],.int p,.tup [.tup [.str x,.tup [],.tup []]]]
theorem Ge (q qf:Int):∀ f ∈ wN,d7 ((evA tab 200).c 13 448 [.fl [],.bool false] { toks:=[.t aj [98] q .none .none,.t f.1 f.2 qf .none .none],prev:=.none,off:=0,ls:=[] })=some (c7 [98] q,[.t f.1 f.2 qf .none .none],0,0,[]) :=
 List.map_inj_left.mp (by kernel_rfl)
theorem yw (q:Int):d7 ((evA tab 200).c 13 511 [.fl []] { toks:=[.t aj [98] q .none .none],prev:=.none,off:=0,ls:=[] })=some (.bool false,[.t aj [98] q .none .none],0,0,[])
 ∧ d7 ((evA tab 200).c 13 560 [.fl [],.bool false] { toks:=[.t aj [98] q .none .none],prev:=.none,off:=0,ls:=[] })=some (.bool true,[.t aj [98] q .none .none],0,0,[]):=⟨by kernel_rfl,by kernel_rfl⟩
theorem lq (x:List Nat) (q:Int):Clo (c7 x q):=fun _ _=>.tup (.cons (.str _) (.cons (.int _) (.cons (.tup (.cons (.tup (.cons (.str _) (.cons (.tup .nil) (.cons (.tup .nil) .nil)))) .nil)) .nil)))
theorem w9 (q:Int):jF [aI aj [98] q .none .none] (c7 [98] q) 0 false 300 17:=by
 refine ⟨⟨_,_,_,rfl⟩,lq _ _,?_⟩
 intro rows p f qf hf hl S hF
 have s1:=S.head.1
 have T:aH 0 4 rows (p+1+1) [.t aj [98] q .none .none,.t f.1 f.2 qf .none .none] p:=.tok s1 (bE _ _ _) (.tok hF (bE _ _ _) .nil)
 have T0:aH 0 4 rows (p+1) [.t aj [98] q .none .none] p:=.tok s1 (bE _ _ _) .nil
 have C1:=c8 (Nat.le_refl _) hl T (Ge q qf f hf) oS (lq _ _)
 have C2:=fH (Nat.le_refl _) hl T0 (yw q).1 dW (fun _ _=>.bool _)
 have C3:=fH (Nat.le_refl _) hl T0 (yw q).2 oS (fun _ _=>.bool _)
 refine ⟨aj,[98],q,.none,.none,⟨⟨aj,[98],q,.none,.none,rfl,s1,by decide,by decide,?_⟩,bE _ _ _,lq _ _,fun _=>⟨C1,C2,C3,fun h=>nomatch h⟩,fun h=>nomatch h⟩⟩
 intro y hy
 have:∀ l:List (List Nat),(l.all fun y=>!((eqN af aj || eqN aj aj) && eqN [98] y))=true->inN y l=true->((eqN af aj || eqN aj aj) && eqN [98] y)=false:=by
  intro l
  induction l with
  | nil=>intro _ h;cases h
  | cons b t ih =>
   intro h1 h2
   simp only [List.all_cons,Bool.and_eq_true] at h1
   simp only [inN,Bool.or_eq_true] at h2
   rcases h2 with h2 | h2
   ·rw [← (bI _ _).mp h2]
    have:=h1.1
    simpa only [Bool.not_eq_true'] using this
   ·exact ih h1.2 h2
 exact this notFirst (by decide) hy
theorem wc:kZ [98] (c7 [98] 0) 0 false 1 300 17 4 20:=by
 refine ⟨by decide,⟨98,[],rfl,by decide⟩,?_,by decide⟩
 intro P rest hr
 refine ⟨[aI aj [98] (P:Int) .none .none],c7 [98] (P:Int),?_,w9 _,by kernel_rfl,by rfl,by simp [c7,szD,dJ]⟩
 cases hr <;> kernel_rfl
theorem Pd (isb:Bool) (k x h:List Nat) (us:List D) (qp qi qf:Int) (v z:D) (need:Nat) :
  d7 ((evA tab 200).c 13 399 [.fl []] { toks:=[.h (lK isb k x h qp qi v z us need),.t fS [] qf .none .none],prev:=.none,off:=0,ls:=[] })=some (tr0 h qi us,[.t fS [] qf .none .none],0,1,[1+need]):=by kernel_rfl
theorem vf (k:Nat):mxN 1 (1+k)=1+k:=by
 unfold mxN
 rw [if_pos (Nat.ble_eq.mpr (Nat.le_add_right 1 k))]
theorem ya {ts:List D} {tree:D} {k:Nat} {isb:Bool} {N e:Nat} (P:jF ts tree k isb N e) (he:4≤e) (L:Nat) (hl:(ts++[ay L]).length≤lim) :
  Claim (N+300) (e+13) (ts++[ay L]) 0 ts.length 399 [] (1+k) (some tree):=by
 obtain ⟨h,qi,us,rfl⟩:=P.tr
 have S:cC (ts++[ay L]) 0 ts:=by
  intro m hm
  rw [Nat.zero_add,List.getElem?_append_left hm]
 have hF:(ts++[ay L])[0+ts.length]?=some (aI fS [] (L:Int) .none .none):=by simp [ay]
 obtain ⟨kk,x,qp,v,z,HO⟩:=P.hole (ts++[ay L]) 0 (fS,[]) (L:Int) (by decide) hl S hF
 have T:aH N e (ts++[ay L]) (0+ts.length+1) [.h (lK isb kk x h qp qi v z us k),.t fS [] (L:Int) .none .none] 0:=.hole HO (.tok hF (bE _ _ _) .nil)
 have C:=c8 he hl T (Pd isb kk x h us qp qi L v z k) dW P.clo
 rw [tM,vf] at C
 exact C
section
theorem zp {σ:Sto} {M:Nat} {d:D} {r:List D} (h:σ[M]?=some (Cell.lst (d :: r))):cU σ (.cell M) (.int 0)=some d:=by
 show (if Nat.ble 0 lim then (match σ[M]? with | some (.lst ds)=>ds[0]? | _=>none) else none)=_
 rw [h]
 rfl
theorem xH {t:D} {n:Nat} (hn:n≤60) (hg:GDb n t=true) (hs:szD t≤90000) (σ:Sto) (dp:Nat):∃ σ',FrB σ.length σ σ'∧∀ m,szD t+300≤m->(evn false fnT m).c (dp+2) 635 [t] σ=.ok (bF t) σ':=by
 have hT:(σ++[Cell.lst [item (t,false)]]).length=σ.length+1:=List.length_append
 have C:Cfg σ.length σ.length ([]++[(t,false)]) [] [some t,some (.cell σ.length),some (.cell (σ++[Cell.lst [item (t,false)]]).length),none,none,none,none] ((σ++[Cell.lst [item (t,false)]])++[Cell.lst []]) :=
  ⟨some t,_,none,none,none,none,rfl,hT ▸ Nat.ne_of_lt (Nat.lt_succ_self _),bA dS,dS,Nat.le_refl _,hT ▸ Nat.le_succ _⟩
 have R:=mq σ.length σ.length t n [] [] hn hg (fun _ h=>nomatch h) (by show 0+szD t+0≤_;rw [Nat.zero_add];exact Nat.le_trans hs (by decide))
 obtain ⟨ρ',σ1,⟨t1,M,x3,x4,x5,x6,rfl,hLM,hL,hM,bL,bM⟩,f,hr⟩:=R dp _ _ C
 have f0:FrB σ.length σ (σ1++[Cell.lst []]):=(FrB.app (Nat.le_refl _)).trans ((FrB.app (hT ▸ Nat.le_succ _)).trans (f.trans (.app (Nat.le_trans bL (Nat.le_of_lt (fM hL))))))
 refine ⟨σ1++[Cell.lst []],f0,?_⟩
 have h4:=rD (S:=[]) (bA (e:=[Cell.lst []]) hL) (E:=σ1.length) dS (fun _ h=>nomatch h)
 have h6:=zp (bA (e:=[Cell.lst []]) hM)
 clear C R f f0 hT hL hM bL bM hLM
 intro m hm
 obtain ⟨j,rfl⟩:∃ j,m=j+szD t+300:=eG hm
 have h1:=(hr (j+297) (Nat.le_trans (by decide:100≤297) (Nat.le_add_left _ _))).trans (f9 (n:=j+296) (σ':=σ1++[Cell.lst []]) (fG (m:=j) (j:=296) (fo h4 .z) (by kernel_rfl)))
 rw [Nat.add_right_comm j 297] at h1
 exact runC (m:=j+szD t) (j:=299) Fj rfl rfl (fn 0 (ff h1 (fo h6 .z))) (by kernel_rfl)
end
end Mine.Internal.Q
end
section
namespace Mine.Internal.Q
open PySem
theorem rg {σ:Sto} (x y:Nat) (hy:0 < y) (hy2:y≤1000000):bx σ .mod (.int (x:Int)) (.int (y:Int))=.ok (.int ((x % y:Nat):Int)) σ:=by
 show (if (Nat.blt 0 y && Nat.ble y 1000000)=true then R.ok (D.int ((x:Int).fmod (y:Int))) σ else R.no)=_
 rw [Nat.blt_eq.mpr hy,Nat.ble_eq.mpr hy2,Int.fmod_eq_emod_of_nonneg _ (Int.natCast_nonneg y)]
 rfl
theorem F5 {σ:Sto} (x y:Nat) (hy:0 < y) (hy2:y≤1000000):bx σ .fdiv (.int (x:Int)) (.int (y:Int))=.ok (.int ((x / y:Nat):Int)) σ:=by
 show (if (Nat.blt 0 y && Nat.ble y 1000000)=true then R.ok (D.int ((x:Int).fdiv (y:Int))) σ else R.no)=_
 rw [Nat.blt_eq.mpr hy,Nat.ble_eq.mpr hy2,Int.fdiv_eq_ediv_of_nonneg _ (Int.natCast_nonneg y)]
 rfl
section
theorem vA {N e n need nd L:Nat} {ts:List D} {t:D} (hnl:ts.length=n) (C:Claim N e (ts++[ay L]) 0 n 399 [] need (some t)) (hl:(ts++[ay L]).length≤lim) (hnd:nd≤60) (hg:GDb nd t=true) (hs:szD t≤90000)
  {σ:Sto} {i j:Nat} {d:Int} (A:AtW σ i j (ts++[ay L]) 0 d) (hd:d≤60) (hn:d+need≤60) (k dp:Nat) (hk:N+szD t+300≤k) (hdp:e≤dp) :
  ∃ σ',(evn false fnT (k+40)).c (dp+2+1) 705 [.cell i] σ=.ok (bF t) σ'∧Fr1 i σ σ'∧σ'[i]?=some (br j n d):=by
 obtain ⟨C1,_⟩:=C σ i j d (k+37) (dp+2) A hd (Nat.le_trans (Nat.le_trans (Nat.le_trans (Nat.le_add_right _ _) (Nat.le_add_right _ _)) hk) (Nat.le_add_right _ _)) (Nat.le_trans hdp (Nat.le_add_right _ _))
 obtain ⟨σ1,h1,f1,w1⟩:=C1 hn
 rw [Nat.zero_add] at w1
 have hj:=ao A.r
 have hij:i ≠ j:=fun q=>by have h1:=A.o;have h2:=A.r;rw [q,h2] at h1;cases h1
 have A1:AtW σ1 i j (ts++[ay L]) n d:=⟨w1,(f1.2 j hj hij.symm).trans A.r⟩
 have pk:=gE A1 hl (hnl ▸ (List.getElem?_append_right (Nat.le_refl _)).trans (by rw [Nat.sub_self];rfl):(ts++[ay L])[n]?=some (ay L))
 obtain ⟨σ2,f2,h2⟩:=xH hnd hg hs σ1 dp
 refine ⟨σ2,?_,⟨Nat.le_trans f1.1 f2.1,fun q hq hne=>(f2.2 q (Nat.lt_of_lt_of_le hq f1.1)).trans (f1.2 q hq hne)⟩,(f2.2 i (ao w1)).trans w1⟩
 exact runC (m:=k) (j:=39) zb rfl rfl (fd h1 (fb (bV w1) (fd (pk (k+13) (dp+1)) (fn 2 (fd (h2 (k+35) (Nat.le_trans (Nat.le_trans (by rw [Nat.add_assoc];exact Nat.le_add_left _ N) hk) (Nat.le_add_right _ _))) .z))))) (by kernel_rfl)
theorem ry {N e n need L:Nat} {ts:List D} {t:Option D} (C:Claim N e (ts++[ay L]) 0 n 399 [] need t)
  {σ:Sto} {i j:Nat} {d:Int} (A:AtW σ i j (ts++[ay L]) 0 d) (hd:d≤60) (hn:t=none∨60 < d+need) (k dp:Nat) (hk:N≤k) (hdp:e≤dp) :
  ∃ σ',(evn false fnT (k+40)).c (dp+2+1) 705 [.cell i] σ=.ok .none σ'∧Fr1 i σ σ':=by
 have C0:=C σ i j d (k+37) (dp+2) A hd (Nat.le_trans hk (Nat.le_add_right _ _)) (Nat.le_trans hdp (Nat.le_add_right _ _))
 have C1:∃ σ',(evn false fnT (k+37)).c (dp+2) 399 [.cell i] σ=.err σ'∧Fr1 i σ σ':=by
  cases t with
  | none=>exact C0
  | some t=>exact C0.2 (hn.resolve_left fun h=>nomatch h)
 obtain ⟨σ1,h1,f1⟩:=C1
 exact ⟨σ1,runC (m:=k) (j:=39) zb rfl rfl (fe h1 .z) (by kernel_rfl),f1⟩
structure bu (σ:Sto) (c:Nat):Prop where
 h:∃ a b:Nat,σ[c]?=some (Cell.lst [.int (a:Int),.int (b:Int)])∧b < 65371
theorem dz {σ:Sto} {c:Nat} (C:bu σ c) (many:Nat) (hm:0 < many) (hm2:many≤1000) (k dp:Nat) :
  ∃ (x:Nat) (σ':Sto),(evn false fnT (k+60)).c (dp+1) 656 [.cell c,.int (many:Int)] σ=.ok (.int (x:Int)) σ'∧x < many∧bu σ' c∧σ'.length=σ.length∧∀ q,q ≠ c->σ'[q]?=σ[q]?:=by
 obtain ⟨a,b,h,hb⟩:=C
 have hc:=ao h
 have i0:cU σ (.cell c) (.int 0)=some (.int (a:Int)):=by
  show (if Nat.ble 0 lim then (match σ[c]? with | some (.lst ds)=>ds[0]? | _=>none) else none)=_
  rw [h];rfl
 have i1:cU σ (.cell c) (.int 1)=some (.int (b:Int)):=by
  show (if Nat.ble 1 lim then (match σ[c]? with | some (.lst ds)=>ds[1]? | _=>none) else none)=_
  rw [h];rfl
 have g1:aV σ .gt (.int (a:Int)) (.int 0)=some (.bool (Nat.blt 0 a)):=by
  simp only [aV,eS,onI]
  congr 2
  cases e:Nat.blt 0 a with
  | true=>exact decide_eq_true (Int.natCast_pos.mpr (Nat.blt_eq.mp e))
  | false =>
   have:¬ 0 < a:=fun q=>by rw [Nat.blt_eq.mpr q] at e;cases e
   exact decide_eq_false fun q=>this (Int.natCast_pos.mp q)
 cases ha:Nat.blt 0 a with
 | true =>
  rw [ha] at g1
  have s1:cR σ (.cell c) (.int 0) (.int ((a / many:Nat):Int))=some (σ.set c (Cell.lst [.int ((a / many:Nat):Int),.int (b:Int)])):=by
   show (match σ[c]? with | some (.lst ds)=>if Nat.blt 0 ds.length && Nat.ble ds.length lim then some (σ.set c (.lst (ds.set 0 (.int ((a / many:Nat):Int))))) else Option.none | _=>Option.none)=_
   rw [h];rfl
  refine ⟨a % many,σ.set c (Cell.lst [.int ((a / many:Nat):Int),.int (b:Int)]),?_,Nat.mod_lt _ hm,⟨a / many,b,by rw [List.getElem?_set_self hc],hb⟩,by simp,fun q hq=>by rw [List.getElem?_set_ne (Ne.symm hq)]⟩
  have m1:=rg (σ:=σ) a many hm (Nat.le_trans hm2 (by decide))
  have d1:=F5 (σ:=σ) a many hm (Nat.le_trans hm2 (by decide))
  exact runC (m:=k) (j:=59) z9 rfl rfl (fo i0 (fo g1 (fo i0 (fd m1 (fo i0 (fd d1 (fs s1 .z))))))) (by kernel_rfl)
 | false =>
  rw [ha] at g1
  obtain ⟨b',hb'⟩:∃ b',b'=(b * 173+4007) % 65371:=⟨_,rfl⟩
  have hb2:b' < 65371:=by rw [hb'];exact Nat.mod_lt _ (by decide)
  obtain ⟨σ1,hσ1⟩:∃ σ1,σ1=σ.set c (Cell.lst [.int (a:Int),.int (b':Int)]):=⟨_,rfl⟩
  have s1:cR σ (.cell c) (.int 1) (.int (b':Int))=some σ1:=by
   show (match σ[c]? with | some (.lst ds)=>if Nat.blt 1 ds.length && Nat.ble ds.length lim then some (σ.set c (.lst (ds.set 1 (.int (b':Int))))) else Option.none | _=>Option.none)=_
   rw [h,hσ1];rfl
  have h':σ1[c]?=some (Cell.lst [.int (a:Int),.int (b':Int)]):=by rw [hσ1,List.getElem?_set_self hc]
  have i2:cU σ1 (.cell c) (.int 1)=some (.int (b':Int)):=by
   show (if Nat.ble 1 lim then (match σ1[c]? with | some (.lst ds)=>ds[1]? | _=>none) else none)=_
   rw [h'];rfl
  have m0:bx σ .mul (.int (b:Int)) (.int 173)=.ok (.int ((b:Int) * 173)) σ:=by
   show (if (Nat.ble b (10 ^ 60) && Nat.ble 173 (10 ^ 6))=true then R.ok (D.int ((b:Int) * 173)) σ else R.no)=_
   have w1:Nat.ble b (10 ^ 60)=true:=Nat.ble_eq.mpr (Nat.le_trans (Nat.le_of_lt hb) (by decide))
   rw [w1];rfl
  have m1:bx σ .mod (.int ((b:Int) * 173+4007)) (.int 65371)=.ok (.int (b':Int)) σ:=by
   have:=rg (σ:=σ) (b * 173+4007) 65371 (by decide) (by decide)
   rw [hb']
   exact this
  have d2:bx σ1 .fdiv (.int (b':Int)) (.int 7)=.ok (.int ((b' / 7:Nat):Int)) σ1:=F5 (σ:=σ1) b' 7 (by decide) (by decide)
  have m2:=rg (σ:=σ1) (b' / 7) many hm (Nat.le_trans hm2 (by decide))
  refine ⟨b' / 7 % many,σ1,?_,Nat.mod_lt _ hm,⟨a,b',h',hb2⟩,by rw [hσ1];simp,fun q hq=>by rw [hσ1,List.getElem?_set_ne (Ne.symm hq)]⟩
  exact runC (m:=k) (j:=59) z9 rfl rfl (fo i0 (fo g1 (fo i1 (fd m0 (fn 1 (fd m1 (fs s1 (fo i2 (fd d2 (fd m2 .z)))))))))) (by kernel_rfl)
end
end Mine.Internal.Q
end
section
namespace Mine.Internal.Q
open PySem
section
noncomputable def gc (text:List Nat) (T:D) (k:Nat) (isb:Bool):D:=.tup [.str text,T,.int (k:Int),.bool isb]
noncomputable def FrC (c:Nat) (σ σ':Sto):Prop:=σ.length≤σ'.length∧∀ q,q < σ.length->q ≠ c->σ'[q]?=σ[q]?
theorem FrC.trans {c:Nat} {a b d:Sto} (h:FrC c a b) (h':FrC c b d):FrC c a d:=⟨Nat.le_trans h.1 h'.1,fun q hq hc=>by rw [h'.2 q (Nat.lt_of_lt_of_le hq h.1) hc,h.2 q hq hc]⟩
noncomputable def qv (c:Nat) (text:List Nat) (T:D) (k:Nat) (isb:Bool) (σ:Sto) (r:R D):Prop :=
 ∃ σ' w po qo,r=.ok (gc (w.pt++text++w.qt) (w.law T) (mxN (w.m isb) (w.o isb+k)) w.isb) σ'∧WOK w∧cT w po qo∧bu σ' c∧FrC c σ σ'
theorem K8 (ρ:Loc) (x y z w:D):bW ρ (.ns [2,3,4,5]) (.tup [x,y,z,w])=some (Mine.Internal.put (Mine.Internal.put (Mine.Internal.put (Mine.Internal.put ρ 2 x) 3 y) 4 z) 5 w):=by
 unfold bW
 simp only
 rw [if_pos (by decide)]
 rfl
noncomputable def cat (a b:List Nat):List Nat:=a++b
theorem add_l {text:List Nat} (h:text.length≤1000) (σ:Sto) (a:List Nat) (ha:a.length≤40):bx σ .add (.str a) (.str text)=.ok (.str (cat a text)) σ:=by
 simp only [bx,pR,onU,onI,onS,onT,pR,onU,onI,onS,onT]
 rw [if_pos (Nat.ble_eq.mpr (Nat.le_trans (Nat.add_le_add ha h) (by decide)))]
 rfl
theorem add_r {text:List Nat} (h:text.length≤1000) (σ:Sto) (a b:List Nat) (ha:a.length≤40) (hb:b.length≤40):bx σ .add (.str (cat a text)) (.str b)=.ok (.str (cat (cat a text) b)) σ:=by
 simp only [bx,pR,onU,onI,onS,onT,pR,onU,onI,onS,onT]
 rw [if_pos (Nat.ble_eq.mpr (by unfold cat;rw [List.length_append];exact Nat.le_trans (Nat.add_le_add (Nat.add_le_add ha h) hb) (by decide)))]
 rfl
inductive yg (q:WR->Prop):Prop
 | mk (w:WR) (po qo:List Nat) (h:q w) (ok:WOK w) (lx:cT w po qo):yg q
theorem aU (x:List Nat) (k dp:Nat) (σ:Sto):(evn false fnT (k+30)).c (dp+1) 663 [.str x] σ=.ok (c7 x 0) σ:=runC (m:=k) (j:=29) Fo rfl rfl .z (by kernel_rfl)
theorem aQ (T:D) (k dp:Nat) (σ:Sto):(evn false fnT (k+30)).c (dp+1) 670 [T] σ=.ok (.tup [.str [98,108,111,99,107],.int 0,.tup [],T]) σ:=runC (m:=k) (j:=29) Fp rfl rfl .z (by kernel_rfl)
theorem bu.app {σ:Sto} {c:Nat} (C:bu σ c) (e:Sto):bu (σ++e) c:=by
 obtain ⟨a,b,h,hb⟩:=C.h
 exact ⟨a,b,by rw [List.getElem?_append_left (ao h)];exact h,hb⟩
theorem bu.lt {σ:Sto} {c:Nat} (C:bu σ c):c < σ.length:=by obtain ⟨a,b,h,_⟩:=C.h;exact ao h
theorem gI {σ:Sto} {c:Nat} (C:bu σ c) (items:List D) (many:Nat) (hm:0 < many) (hm2:many≤1000) (k dp:Nat) :
  ∃ (x:Nat) (σ':Sto),(evn false fnT (k+60)).c (dp+1) 656 [.cell c,.int (many:Int)] (σ++[.lst items])=.ok (.int (x:Int)) σ'∧x < many∧bu σ' c∧FrC c σ σ'∧∀ v,items[x]?=some v->cU σ' (.cell σ.length) (.int (x:Int))=some v:=by
 obtain ⟨x,σ',d1,d2,d3,d4,d5⟩:=dz (C.app [.lst items]) many hm hm2 k dp
 have hc:=C.lt
 have hl:(σ++[Cell.lst items]).length=σ.length+1:=List.length_append
 refine ⟨x,σ',d1,d2,d3,⟨by rw [d4,hl];exact Nat.le_succ _,fun q hq hqc=>(d5 q hqc).trans (List.getElem?_append_left hq)⟩,fun v=>gK ((d5 _ (Nat.ne_of_gt hc)).trans ?_) (Nat.le_trans (Nat.le_of_lt (Nat.lt_of_lt_of_le d2 hm2)) (by decide))⟩
 rw [List.getElem?_append_right (Nat.le_refl _),Nat.sub_self]
 rfl
theorem HJ (k:Nat):mxN 1 (1+k)=k+1:=by rw [vf,Nat.add_comm]
theorem CB (k:Nat):mxN 2 (2+k)=2+k:=by unfold mxN;rw [if_pos (Nat.ble_eq.mpr (Nat.le_add_right 2 k))]
theorem Mp:∀ k:Nat,((mxN 2 (1+k):Nat):Int)=1+(if (1:Int) < (k:Int) then (k:Int) else 1)
 | 0=>rfl
 | 1=>rfl
 | k+2=>by
  unfold mxN
  rw [if_pos (Nat.ble_eq.mpr (Nat.le_trans (Nat.le_add_left 2 k) (Nat.le_add_left _ 1))),if_pos (show (1:Int) < ((k+2:Nat):Int) from Int.ofNat_lt.mpr (Nat.succ_lt_succ (Nat.succ_pos k)))]
  rfl
theorem FQ (k:Nat):((2+k:Nat):Int)=1+((k:Int)+1):=congrArg Nat.cast ((Nat.add_assoc 1 1 k).trans (congrArg (1+·) (Nat.add_comm 1 k)))
theorem Cj (k:Nat):((2+k:Nat):Int)=1+(if (1:Int) < (k:Int)+1 then (k:Int)+1 else 1):=by
 cases k with
 | zero=>rfl
 | succ k=>rw [if_pos (show (1:Int) < ((k+1:Nat):Int)+1 from Int.ofNat_lt.mpr (Nat.succ_lt_succ (Nat.succ_pos k)))];exact FQ _
noncomputable def FF (text:List Nat) (T:D):List D:=[.tup [.str (cat (cat [40] text) [41]),T],.tup [.str (cat (cat [91] text) [93]),jS.law T],.tup [.str (cat (cat [102,40] text) [41]),jU.law T],.tup [.str (cat (cat [97,91] text) [93]),jW.law T],.tup [.str (cat (cat [97,46,109,40] text) [41]),jX.law T],.tup [.str (cat (cat [83,32,123,32,102,58,32] text) [32,125]),jZ.law T]]
noncomputable def Kp (text:List Nat) (T:D) (isb:Bool) (x:Nat):Prop:=yg fun w=>(FF text T)[x]?=some (.tup [.str (cat (cat w.pt text) w.qt),w.law T])∧w.m isb=1∧w.o isb=1∧w.isb=false
theorem Et {σ:Sto} {c:Nat} (C:bu σ c) {text:List Nat} (ht:text.length≤1000) (T:D) (k:Nat) (isb:Bool) (m dp:Nat) :
  qv c text T k isb σ ((evn false fnT (m+200)).c (dp+3) 684 [.cell c,gc text T k isb] σ):=by
 obtain ⟨x,σ',d1,d2,d3,fr,hi⟩:=gI C (FF text T) 6 (by decide) (by decide) (m+133) (dp+1)
 have cs:Kp text T isb x:=fR.get (p:=Kp text T isb) (n:=6) ⟨⟨⟨⟨⟨⟨trivial,⟨mT,_,_,⟨rfl,rfl,rfl,rfl⟩,EO,HB⟩⟩,⟨jS,_,_,⟨rfl,rfl,rfl,rfl⟩,Ez,Hj⟩⟩,⟨jU,_,_,⟨rfl,rfl,rfl,rfl⟩,EC,Hp⟩⟩,
  ⟨jW,_,_,⟨rfl,rfl,rfl,rfl⟩,EG,Ht⟩⟩,⟨jX,_,_,⟨rfl,rfl,rfl,rfl⟩,EK,Hx⟩⟩,⟨jZ,_,_,⟨rfl,rfl,rfl,rfl⟩,ER,HD⟩⟩ d2
 obtain ⟨w,po,qo,⟨hv,hm,ho,hb⟩,W,X⟩:=cs
 refine ⟨σ',w,po,qo,?_,W,X,d3,fr⟩
 rw [hm,ho,hb,HJ]
 show _=R.ok (gc (cat (cat w.pt text) w.qt) _ _ _) σ'
 exact runC (m:=m) (j:=199) Fq rfl rfl (fd (aU [97] (m+166) (dp+1) σ) (fd (add_l ht σ [40] (by decide)) (fd (add_r ht σ [40] [41] (by decide) (by decide)) (fd (add_l ht σ [91] (by decide)) (fd (add_r ht σ [91] [93] (by decide) (by decide)) (fd (add_l ht σ [102,40] (by decide)) (fd (add_r ht σ [102,40] [41] (by decide) (by decide))
   (fd (aU [102] (m+154) (dp+1) σ) (fd (add_l ht σ [97,91] (by decide)) (fd (add_r ht σ [97,91] [93] (by decide) (by decide)) (fd (add_l ht σ [97,46,109,40] (by decide)) (fd (add_r ht σ [97,46,109,40] [41] (by decide) (by decide))
   (fd (add_l ht σ [83,32,123,32,102,58,32] (by decide)) (fd (add_r ht σ [83,32,123,32,102,58,32] [32,125] (by decide) (by decide)) (fd d1 (fo (hi _ hv) .z)))))))))))))))) (by kernel_rfl)
noncomputable def FH (text:List Nat) (T:D) (k:Nat):List D:=[.tup [.str (cat (cat [40,114,101,116,117,114,110,32] text) [41]),jY.law T,.int (2+(k:Int))],.tup [.str (cat (cat [40,120,32,61,32] text) [41]),jT.law T,.int (2+(k:Int))],.tup [.str (cat (cat [40,97,32,43,32] text) [41]),w_add.law T,.int (2+(k:Int))],.tup [.str (cat (cat [40] text) [32,97,115,32,117,56,41]),jV.law T,.int (1+(if (1:Int) < (k:Int) then (k:Int) else 1))]]
noncomputable def Kr (text:List Nat) (T:D) (k:Nat) (isb:Bool) (x:Nat):Prop:=yg fun w=>(FH text T k)[x]?=some (.tup [.str (cat (cat w.pt text) w.qt),w.law T,.int ((mxN (w.m isb) (w.o isb+k):Nat):Int)])∧w.isb=false
theorem Eu {σ:Sto} {c:Nat} (C:bu σ c) {text:List Nat} (ht:text.length≤1000) (T:D) (k:Nat) (isb:Bool) (m dp:Nat) :
  qv c text T k isb σ ((evn false fnT (m+200)).c (dp+3) 698 [.cell c,gc text T k isb] σ):=by
 obtain ⟨x,σ',d1,d2,d3,fr,hi⟩:=gI C (FH text T k) 4 (by decide) (by decide) (m+134) (dp+1)
 have e22:((mxN 2 (2+k):Nat):Int)=2+(k:Int):=by rw [CB];rfl
 have cs:Kr text T k isb x:=fR.get (p:=Kr text T k isb) (n:=4) ⟨⟨⟨⟨trivial,⟨jY,_,_,⟨e22 ▸ rfl,rfl⟩,EP,HC⟩⟩,⟨jT,_,_,⟨e22 ▸ rfl,rfl⟩,EA,Hl⟩⟩,⟨w_add,_,_,⟨e22 ▸ rfl,rfl⟩,Ex,Hh⟩⟩,⟨jV,_,_,⟨Mp k ▸ rfl,rfl⟩,ED,Hq⟩⟩ d2
 obtain ⟨w,po,qo,⟨hv,hb⟩,W,X⟩:=cs
 refine ⟨σ',w,po,qo,?_,W,X,d3,fr⟩
 show _=R.ok (D.tup [.str (cat (cat w.pt text) w.qt),_,.int ((mxN (w.m isb) (w.o isb+k):Nat):Int),_]) σ'
 rw [hb]
 exact runC (m:=m) (j:=199) Ft rfl rfl (fd (add_l ht σ [40,114,101,116,117,114,110,32] (by decide)) (fd (add_r ht σ [40,114,101,116,117,114,110,32] [41] (by decide) (by decide)) (fn 1 (fd (add_l ht σ [40,120,32,61,32] (by decide)) (fd (add_r ht σ [40,120,32,61,32] [41] (by decide) (by decide))
   (fd (aU [120] (m+156) (dp+1) σ) (fn 1 (fd (add_l ht σ [40,97,32,43,32] (by decide)) (fd (add_r ht σ [40,97,32,43,32] [41] (by decide) (by decide)) (fd (aU [97] (m+154) (dp+1) σ) (fn 1 (fd (add_l ht σ [40] (by decide)) (fd (add_r ht σ [40] [32,97,115,32,117,56,41] (by decide) (by decide))
   (fd (aU [117,56] (m+153) (dp+1) σ) (fn 2 (fd d1 (fo (hi _ hv) .z))))))))))))))))) (by kernel_rfl)
noncomputable def FE:List D:=[.str [45],.str [33],.str [42],.str [38,109,117,116,32],.str [38,38]]
theorem qK {σ:Sto} {k x:List Nat} {b:Bool} (hk:au k=true) (hx:au x=true) (e:eqN k x=b):aV σ .eq (.str k) (.str x)=some (.bool b):=e ▸ eq_str hk hx σ
inductive Br (w:WR) (T:D):Prop
 | no (ha:au w.pt=true) (hl:w.pt.length≤40) (h1:eqN w.pt [38,38]=false) (h2:eqN w.pt [38,109,117,116,32]=false) (law:w.law T=.tup [.str [117,110,97,114,121],.int 0,.str w.pt,T]):Br w T
 | mu (hp:w.pt=[38,109,117,116,32]) (law:w.law T=.tup [.str [98,111,114,114,111,119],.int 0,.bool true,T]):Br w T
 | am (hp:w.pt=[38,38]) (law:w.law T=.tup [.str [98,111,114,114,111,119],.int 0,.bool false,.tup [.str [98,111,114,114,111,119],.int 0,.bool false,T]]):Br w T
noncomputable def Ko (T:D) (isb:Bool) (x:Nat):Prop:=yg fun w=>FE[x]?=some (.str w.pt)∧w.qt=[]∧w.m isb=1∧w.o isb=1∧w.isb=false∧Br w T
theorem Es {σ:Sto} {c:Nat} (C:bu σ c) {text:List Nat} (ht:text.length≤1000) (T:D) (k:Nat) (isb:Bool) (m dp:Nat) :
  qv c text T k isb σ ((evn false fnT (m+200)).c (dp+3) 677 [.cell c,gc text T k isb] σ):=by
 obtain ⟨x,σ',d1,d2,d3,fr,hi⟩:=gI C FE 5 (by decide) (by decide) (m+135) (dp+1)
 have cs:Ko T isb x:=fR.get (p:=Ko T isb) (n:=5) ⟨⟨⟨⟨⟨trivial,⟨mS,_,_,⟨rfl,rfl,rfl,rfl,rfl,.no rfl (by decide) rfl rfl rfl⟩,EM,Hz⟩⟩,⟨w_not,_,_,⟨rfl,rfl,rfl,rfl,rfl,.no rfl (by decide) rfl rfl rfl⟩,EN,HA⟩⟩,⟨mQ,_,_,⟨rfl,rfl,rfl,rfl,rfl,.no rfl (by decide) rfl rfl rfl⟩,EE,Hr⟩⟩,
  ⟨mR,_,_,⟨rfl,rfl,rfl,rfl,rfl,.mu rfl rfl⟩,EL,Hy⟩⟩,⟨mP,_,_,⟨rfl,rfl,rfl,rfl,rfl,.am rfl rfl⟩,Ey,Hi⟩⟩ d2
 obtain ⟨w,po,qo,⟨hv,hqt,hm,ho,hb,kd⟩,W,X⟩:=cs
 refine ⟨σ',w,po,qo,?_,W,X,d3,fr⟩
 rw [hm,ho,hb,HJ,hqt,List.append_nil]
 show _=R.ok (D.tup [.str (cat w.pt text),_,.int ((k:Int)+1),_]) σ'
 cases kd with
 | no ha hl h1 h2 law =>
  rw [law]
  exact runC (m:=m) (j:=199) uR rfl rfl (fd d1 (fo (hi _ hv) (fo (qK (σ:=σ') ha (by decide) h1) (fo (qK (σ:=σ') ha (by decide) h2) (fd (add_l ht σ' w.pt hl) .z))))) (by kernel_rfl)
 | mu hp law =>
  rw [law]
  rw [hp] at hv ⊢
  exact runC (m:=m) (j:=199) uR rfl rfl (fd d1 (fo (hi _ hv) (fo (qK (σ:=σ') (k:=[38,109,117,116,32]) (x:=[38,38]) rfl rfl rfl) (fo (qK (σ:=σ') (k:=[38,109,117,116,32]) (x:=[38,109,117,116,32]) rfl rfl rfl) (fd (add_l ht σ' [38,109,117,116,32] (by decide)) .z))))) (by kernel_rfl)
 | am hp law =>
  rw [law]
  rw [hp] at hv ⊢
  exact runC (m:=m) (j:=199) uR rfl rfl (fd d1 (fo (hi _ hv) (fo (qK (σ:=σ') (k:=[38,38]) (x:=[38,38]) rfl rfl rfl) (fd (add_l ht σ' [38,38] (by decide)) .z)))) (by kernel_rfl)
theorem J3 (ρ:Loc) (x y:D):bW ρ (.ns [6,7]) (.tup [x,y])=some (Mine.Internal.put (Mine.Internal.put ρ 6 x) 7 y):=BA ρ 6 7 x y (by decide)
noncomputable def inner (k:Nat) (isb:Bool):Int:=bif isb then (k:Int) else (k:Int)+1
noncomputable def FG (text:List Nat) (T:D) (k:Nat) (z:Int):List D:=[.tup [.str (cat (cat [123,32] text) [32,125]),gz.law T,.int (1+z)],.tup [.str (cat (cat [105,102,32,99,32,123,32] text) [32,125]),gA.law T,.int (1+(if (1:Int) < z then z else 1))],.tup [.str (cat (cat [109,97,116,99,104,32,99,32,123,32,95,32,61,62,32] text) [44,32,125]),gD.law T,.int (1+(if (1:Int) < z then z else 1))],.tup [.str (cat (cat [39,108,58,32,108,111,111,112,32,123,32] text) [32,125]),gC.law T,.int (1+z)],.tup [.str (cat (cat [123,32,108,101,116,32,120,32,61,32] text) [59,32,125]),gB.law T,.int (2+(k:Int))]]
noncomputable def Kq (text:List Nat) (T:D) (k:Nat) (isb:Bool) (x:Nat):Prop:=yg fun w=>(FG text T k (inner k isb))[x]?=some (.tup [.str (cat (cat w.pt text) w.qt),w.law T,.int ((mxN (w.m isb) (w.o isb+k):Nat):Int)])∧w.isb=true
theorem qW {o:Option D} {a b:D} {y y':Int} (e:y'=y) (h:o=some (.tup [a,b,.int y])):o=some (.tup [a,b,.int y']):=e ▸ h
theorem Gp (text:List Nat) (T:D) (k:Nat) (isb:Bool) {x:Nat} (hx:x < 5):Kq text T k isb x:=by
 have k1:(bif isb then ((mxN 1 (1+k):Nat):Int) else ((mxN 2 (2+k):Nat):Int))=1+inner k isb:=by
  cases isb
  ·show ((mxN 2 (2+k):Nat):Int)=1+((k:Int)+1);rw [CB];exact FQ k
  ·show ((mxN 1 (1+k):Nat):Int)=1+(k:Int);rw [HJ];exact congrArg Nat.cast (Nat.add_comm k 1)
 have k2:(bif isb then ((mxN 2 (1+k):Nat):Int) else ((mxN 2 (2+k):Nat):Int))=1+(if (1:Int) < inner k isb then inner k isb else 1):=by
  cases isb
  ·show ((mxN 2 (2+k):Nat):Int)=1+(if (1:Int) < (k:Int)+1 then (k:Int)+1 else 1);rw [CB];exact Cj k
  ·show ((mxN 2 (1+k):Nat):Int)=1+(if (1:Int) < (k:Int) then (k:Int) else 1);rw [Mp]
 have e22:((mxN 2 (2+k):Nat):Int)=2+(k:Int):=by rw [CB];rfl
 refine fR.get (p:=Kq text T k isb) (n:=5) ⟨⟨⟨⟨⟨trivial,⟨gz,_,_,⟨?_,rfl⟩,EB,Ho⟩⟩,⟨gA,_,_,⟨?_,rfl⟩,EF,Hs⟩⟩,⟨gD,_,_,⟨?_,rfl⟩,EJ,Hw⟩⟩,⟨gC,_,_,⟨?_,rfl⟩,EI,Hv⟩⟩,⟨gB,_,_,⟨?_,rfl⟩,EH,Hu⟩⟩ hx
 ·cases isb <;> exact qW k1 rfl
 ·cases isb <;> exact qW k2 rfl
 ·cases isb <;> exact qW k2 rfl
 ·cases isb <;> exact qW k1 rfl
 ·cases isb <;> exact qW e22 rfl
theorem vW {σ:Sto} {c:Nat} (C:bu σ c) {text:List Nat} (ht:text.length≤1000) (T:D) (k:Nat) (isb:Bool) (m dp:Nat) :
  qv c text T k isb σ ((evn false fnT (m+200)).c (dp+3) 691 [.cell c,gc text T k isb] σ):=by
 obtain ⟨x,σ',d1,d2,d3,fr,hi⟩:=gI C (FG text T k (inner k isb)) 5 (by decide) (by decide) (m+133) (dp+1)
 obtain ⟨w,po,qo,⟨hv,hb⟩,W,X⟩:=Gp text T k isb d2
 refine ⟨σ',w,po,qo,?_,W,X,d3,fr⟩
 show _=R.ok (D.tup [.str (cat (cat w.pt text) w.qt),_,.int ((mxN (w.m isb) (w.o isb+k):Nat):Int),_]) σ'
 rw [hb]
 have F:=fd (aU [99] (m+163) (dp+1) σ) (fd (add_l ht σ [123,32] (by decide)) (fd (add_r ht σ [123,32] [32,125] (by decide) (by decide)) (fd (aQ T (m+160) (dp+1) σ) (fn 1 (fd (add_l ht σ [105,102,32,99,32,123,32] (by decide)) (fd (add_r ht σ [105,102,32,99,32,123,32] [32,125] (by decide) (by decide)) (fd (aQ T (m+154) (dp+1) σ) (fn 2
   (fd (add_l ht σ [109,97,116,99,104,32,99,32,123,32,95,32,61,62,32] (by decide)) (fd (add_r ht σ [109,97,116,99,104,32,99,32,123,32,95,32,61,62,32] [44,32,125] (by decide) (by decide)) (fn 2 (fd (add_l ht σ [39,108,58,32,108,111,111,112,32,123,32] (by decide)) (fd (add_r ht σ [39,108,58,32,108,111,111,112,32,123,32] [32,125] (by decide) (by decide)) (fd (aQ T (m+152) (dp+1) σ) (fn 1
   (fd (add_l ht σ [123,32,108,101,116,32,120,32,61,32] (by decide)) (fd (add_r ht σ [123,32,108,101,116,32,120,32,61,32] [59,32,125] (by decide) (by decide)) (fn 1 (fd d1 (fo (hi _ hv) .z))))))))))))))))))))
 cases isb
 ·exact runC (m:=m) (j:=199) za rfl rfl (fn 1 F) (by kernel_rfl)
 ·exact runC (m:=m) (j:=199) za rfl rfl F (by kernel_rfl)
end
end Mine.Internal.Q
end
section
namespace Mine.Internal.Q
open PySem
section
noncomputable def Ke:List SS:=[SS.asg (Tg.n 3) (X.sub (X.lst [X.gl (D.glob 677),X.gl (D.glob 684),X.gl (D.glob 691),X.gl (D.glob 691),X.gl (D.glob 698)]) (X.call (X.gl (D.glob 656)) [X.loc 0,X.k (D.int 5)])),SS.asg (Tg.n 1) (X.call (X.loc 3) [X.loc 0,X.loc 1])]
noncomputable def oK (j:Nat) (text:List Nat) (T:D) (k:Nat) (isb:Bool):Prop :=
 ∃ n sz,kZ text T k isb n (300+300 * j) (17+13 * j) (4+6 * j) sz∧text.length≤1+30 * j∧n≤1+12 * j∧sz≤20+60 * j
noncomputable def FI:List D:=[D.glob 677,D.glob 684,D.glob 691,D.glob 691,D.glob 698]
noncomputable def Ks (text:List Nat) (T:D) (k:Nat) (isb:Bool) (c:Nat) (σ:Sto) (n dp:Nat) (x:Nat):Prop:=∃ a,FI[x]?=some (.glob a)∧qv c text T k isb σ ((evn false fnT (n+200)).c (dp+3) a [.cell c,gc text T k isb] σ)
inductive EX (c:Nat) (x4 x5 x6 x7:Option D) (r:R (Fl × Loc)) (j:Nat) (σ:Sto):Prop
 | mk (text:List Nat) (T:D) (k:Nat) (isb:Bool) (σ':Sto) (y2 y3:Option D) (e:r=.ok (.next,[some (.cell c),some (gc text T k isb),y2,y3,x4,x5,x6,x7]) σ') (t:oK j text T k isb) (C:bu σ' c) (fr:FrC c σ σ'):EX c x4 x5 x6 x7 r j σ
theorem IW {c:Nat} (dp m:Nat) (x4 x5 x6 x7:Option D) (ds:List D):∀ (j:Nat) (text:List Nat) (T:D) (k:Nat) (isb:Bool) (σ:Sto) (x2 x3:Option D),j+ds.length≤5->oK j text T k isb->bu σ c ->
  EX c x4 x5 x6 x7 ((evn false fnT (m+204+ds.length)).f (dp+3) [some (.cell c),some (gc text T k isb),x2,x3,x4,x5,x6,x7] (.n 2) ds Ke σ) (j+ds.length) σ:=by
 induction ds with
 | nil=>exact fun j text T k isb σ x2 x3 hj ht C=>⟨text,T,k,isb,σ,x2,x3,rfl,ht,C,⟨Nat.le_refl _,fun _ _ _=>rfl⟩⟩
 | cons d ds ih =>
  intro j text T k isb σ x2 x3 hj ht C
  obtain ⟨n,sz,tp,t1,t2,t3⟩:=ht
  have hj1:j+1+ds.length≤5:=by rw [Nat.add_right_comm];exact hj
  have hj4:j≤4:=Nat.le_trans (Nat.le_add_right j ds.length) (Nat.le_of_succ_le_succ hj)
  have hl:text.length≤1000:=Nat.le_trans t1 (Nat.le_trans (Nat.add_le_add_left (Nat.mul_le_mul_left 30 hj4) 1) (by decide))
  obtain ⟨x,σ1,d1,d2,d3,fr1,hi⟩:=gI C FI 5 (by decide) (by decide) (m+ds.length+141) (dp+2)
  have cs:Ks text T k isb c σ1 (m+ds.length+1) dp x:=fR.get (p:=Ks text T k isb c σ1 (m+ds.length+1) dp) (n:=5) ⟨⟨⟨⟨⟨trivial,⟨677,rfl,Es d3 hl T k isb _ _⟩⟩,⟨684,rfl,Et d3 hl T k isb _ _⟩⟩,⟨691,rfl,vW d3 hl T k isb _ _⟩⟩,⟨691,rfl,vW d3 hl T k isb _ _⟩⟩,⟨698,rfl,Eu d3 hl T k isb _ _⟩⟩ d2
  obtain ⟨a,ha,σ2,w,po,qo,r2,W,X,C2,fr2⟩:=cs
  have ht2:oK (j+1) (w.pt++text++w.qt) (w.law T) (mxN (w.m isb) (w.o isb+k)) w.isb:=by
   have tp2:=tp.wrap W X (Nat.le_trans (by decide) (Nat.le_add_right 17 (13 * j)))
   refine ⟨_,_,tp2,?_,?_,?_⟩
   ·rw [List.length_append,List.length_append,Nat.add_right_comm,Nat.add_comm (w.pt.length+w.qt.length),Nat.mul_succ,← Nat.add_assoc 1];exact Nat.add_le_add t1 X.len
   ·rw [Nat.add_left_comm,Nat.mul_succ,← Nat.add_assoc 1];exact Nat.add_le_add t2 X.n
   ·rw [Nat.mul_succ,← Nat.add_assoc 20];exact Nat.add_le_add_right t3 60
  have hb:(evn false fnT (m+ds.length+204)).b (dp+3) [some (.cell c),some (gc text T k isb),some d,x3,x4,x5,x6,x7] Ke σ=.ok (.next,[some (.cell c),some (gc (w.pt++text++w.qt) (w.law T) (mxN (w.m isb) (w.o isb+k)) w.isb),some d,some (.glob a),x4,x5,x6,x7]) σ2 :=
   fT (m:=m+ds.length) (j:=204) (fd d1 (fo (hi _ ha) (fd r2 .z))) (by kernel_rfl)
  obtain ⟨text',T',k',isb',σ',y2,y3,r3,ht3,C3,fr3⟩:=ih (j+1) _ _ _ _ σ2 (some d) (some (.glob a)) hj1 ht2 C2
  refine ⟨text',T',k',isb',σ',y2,y3,?_,(Nat.add_right_comm j 1 ds.length ▸ ht3 :),C3,(fr1.trans fr2).trans fr3⟩
  rw [Nat.add_right_comm m ds.length 204] at hb
  exact (iL rfl hb).trans r3
end
end Mine.Internal.Q
end
section
namespace Mine.Internal.Q
open PySem
section
theorem Hg {a v:Int} (h:v < 0):a+v < a:=Int.lt_of_lt_of_le (Int.add_lt_add_left h a) (Int.le_of_eq (Int.add_zero a))
theorem yN {a v:Int}:60 - (a+v)+a=60 - v:=by lia
theorem fu (x:Nat):(cH x).length=x:=by simp [cH]
theorem Qt:c6 []:=.nil
inductive Wds (text:List Nat) (T:D) (k:Nat) (isb:Bool) (n N e b sz:Nat):Prop
 | mk (ts:List D) (tree:D) (hn:ts.length=n) (pp:jF ts tree k isb N e) (p2:bF tree=T) (p3:GDb b tree=true) (p4:szD tree≤sz)
  (run:∀ (m dp:Nat) (σ:Sto),n+text.length+500≤m->(evn false fnT m).c (dp+8) 132 [.str text] σ=.ok (.cell (σ.length+1)) (σ++[Cell.lst (ts++[ay text.length]),br (σ.length+2) 0 0,Cell.lst (ts++[ay text.length])])):Wds text T k isb n N e b sz
theorem yW {text:List Nat} (h:∃ c r,text=c :: r∧c ∈ firsts):b7 text=0∧aM text=text∧bG 47 (aM text)=false:=by
 obtain ⟨ch,r,rfl,hf⟩:=h
 have h1:∀ ch ∈ firsts,inC ch gBl=false∧Nat.beq ch 47=false:=by decide
 obtain ⟨h1,h2⟩:=h1 ch hf
 have e:az gBl (ch :: r)=([],ch :: r):=by unfold az;rw [h1];rfl
 have e1:b7 (ch :: r)=0:=by unfold b7;rw [e];rfl
 have e2:aM (ch :: r)=ch :: r:=by unfold aM;rw [e]
 exact ⟨e1,e2,e2.symm ▸ h2⟩
theorem kZ.words {text:List Nat} {T:D} {k:Nat} {isb:Bool} {n N e b sz:Nat} (tp:kZ text T k isb n N e b sz) (t1:text.length≤1000) (t2:n≤1000):Wds text T k isb n N e b sz:=by
 obtain ⟨ts,tree,lx,pp,p2,p3,p4⟩:=tp.lex 0 [] Qt
 rw [List.append_nil] at lx
 obtain ⟨f1,f2,f3⟩:=yW tp.first
 have lx2:bH n (b7 text) (aM text)=some (ts,0+text.length+b7 [],[]):=by rw [f1,f2];exact lx
 exact ⟨ts,tree,iU _ _ _ _ _ _ lx,pp,p2,p3,p4,fun m dp σ hm=>jB (Nat.le_trans t1 (by decide)) tp.asc f3 (Nat.le_trans t2 (by decide)) lx2 m dp σ hm⟩
inductive Jf (σ:Sto) (rows:List D) (d:Int) (σ₁:Sto):Prop
 | mk (σ₂:Sto) (set:bw σ₁ (.cell (σ.length+1)) .deep (.int d)=some σ₂) (A:AtW σ₂ (σ.length+1) (σ.length+2) rows 0 d) (keep:∀ q,q < σ.length->σ₂[q]?=σ[q]?) (len:σ₂.length=σ.length+3):Jf σ rows d σ₁
theorem Ba {σ:Sto} {a b c:Cell}:(σ++[a,b,c])[σ.length+1]?=some b∧(σ++[a,b,c])[σ.length+2]?=some c∧(σ++[a,b,c]).length=σ.length+3 :=
 ⟨by rw [List.getElem?_append_right (Nat.le_add_right _ _),Nat.add_sub_cancel_left];rfl,by rw [List.getElem?_append_right (Nat.le_add_right _ _),Nat.add_sub_cancel_left];rfl,List.length_append⟩
theorem room (σ:Sto) (rows:List D) (d:Int):Jf σ rows d (σ++[Cell.lst rows,br (σ.length+2) 0 0,Cell.lst rows]):=by
 obtain ⟨h1,h2,h3⟩:=Ba (σ:=σ) (a:=Cell.lst rows) (b:=br (σ.length+2) 0 0) (c:=Cell.lst rows)
 refine ⟨_,j5 h1,⟨?_,?_⟩,fun q hq=>?_,?_⟩
 ·rw [List.getElem?_set_self (ao h1)]
 ·rw [List.getElem?_set_ne (Nat.ne_of_lt (Nat.lt_succ_self _))];exact h2
 ·rw [List.getElem?_set_ne (Nat.ne_of_gt (Nat.lt_of_lt_of_le hq (Nat.le_add_right _ 1))),List.getElem?_append_left hq]
 ·rw [List.length_set,h3]
noncomputable def zG:List D:=[.int (-1),.int 0,.int 1]
noncomputable def F1 (z:Nat):Prop:=∃ v:Int,zG[z]?=some (.int v)∧-1≤v∧v≤1
theorem wF {σ:Sto} {c:Nat} (C:bu σ c) (m dp:Nat) :
  ∃ σ',(evn false fnT (m+6000)).c (dp+101) 712 [.cell c] σ=.ok (.bool true) σ'∧bu σ' c∧FrC c σ σ':=by
 obtain ⟨x,σ1,d1,d2,C1,d4,d5⟩:=dz C 6 (by decide) (by decide) (m+5936) (dp+99)
 have fr1:FrC c σ σ1:=⟨Nat.le_of_eq d4.symm,fun q hq hqc=>d5 q hqc⟩
 have x5:x≤5:=Nat.le_of_lt_succ d2
 have t0:oK 0 [98] (c7 [98] 0) 0 false:=⟨1,20,wc,by decide,by decide,by decide⟩
 obtain ⟨y,hy⟩:∃ y,5 - x=y:=⟨_,rfl⟩
 have ey:x+y=5:=by rw [← hy,Nat.add_sub_cancel' x5]
 obtain ⟨text,T,k,isb,σ2,y2,y3,f1,ht,C2,fr2⟩:=IW (dp+97) (m+5788+y) none none none none (cH x) 0 [98] (c7 [98] 0) 0 false σ1 none none (by rw [fu,Nat.zero_add];exact x5) t0 C1
 rw [fu] at f1 ht
 have e7:m+5788+y+204+x=m+5997:=by rw [Nat.add_right_comm (m+5788) y 204,Nat.add_assoc,Nat.add_comm y x,ey]
 rw [e7] at f1
 rw [Nat.zero_add] at ht
 obtain ⟨n,sz,tp,t1,t2,t3⟩:=ht
 obtain ⟨z,σ3,g1,g2,C3,fr3,hi⟩:=gI C2 zG 3 (by decide) (by decide) (m+5932) (dp+99)
 have cz:F1 z:=fR.get (p:=F1) (n:=3) ⟨⟨⟨trivial,-1,rfl,by decide,by decide⟩,0,rfl,by decide,by decide⟩,1,rfl,by decide,by decide⟩ g2
 obtain ⟨v,hv,v1,v2⟩:=cz
 have b1:text.length≤1000:=Nat.le_trans t1 (Nat.le_trans (Nat.add_le_add_left (Nat.mul_le_mul_left 30 x5) 1) (by decide))
 have b2:n≤1000:=Nat.le_trans t2 (Nat.le_trans (Nat.add_le_add_left (Nat.mul_le_mul_left 12 x5) 1) (by decide))
 have b3:sz≤400:=Nat.le_trans t3 (Nat.le_trans (Nat.add_le_add_left (Nat.mul_le_mul_left 60 x5) 20) (by decide))
 have b4:300+300 * x+300≤2100:=Nat.add_le_add_right (Nat.add_le_add_left (Nat.mul_le_mul_left 300 x5) 300) 300
 have b5:17+13 * x+13≤97:=Nat.le_trans (Nat.add_le_add_right (Nat.add_le_add_left (Nat.mul_le_mul_left 13 x5) 17) 13) (by decide)
 have b6:4+6 * x≤60:=Nat.le_trans (Nat.add_le_add_left (Nat.mul_le_mul_left 6 x5) 4) (by decide)
 obtain ⟨ts,tree,hn,pp,p2,p3,p4,run⟩:=tp.words b1 b2
 have wr:=run (m+5993) (dp+92) σ3 (Nat.le_trans (Nat.add_le_add_right (Nat.add_le_add b2 b1) 500) (Nat.le_trans (by decide) (Nat.le_add_left 5993 m)))
 have hrows:(ts++[ay text.length]).length≤lim:=by rw [List.length_append,hn];exact Nat.le_trans (Nat.add_le_add_right b2 1) (by decide)
 obtain ⟨d,hd⟩:∃ d:Int,d=60 - (1+(k:Int)+v):=⟨_,rfl⟩
 obtain ⟨σ5,sd,A5,C5,l5⟩:=room σ3 (ts++[ay text.length]) d
 have TC:=ya pp (Nat.le_trans (by decide) (Nat.le_add_right 17 (13 * x))) text.length hrows
 rw [hn] at TC
 have hd60:d≤60:=by rw [hd];exact Int.sub_le_self 60 (Int.le_trans (Int.sub_nonneg_of_le (Int.ofNat_le.mpr (Nat.le_add_right 1 k)):(0:Int)≤1+(k:Int)+-1) (Int.add_le_add_left v1 _))
 have fin:∀ σ6,Fr1 (σ3.length+1) σ5 σ6->bu σ6 c∧FrC c σ σ6:=by
  intro σ6 f6
  have keep:∀ q,q < σ3.length->σ6[q]?=σ3[q]?:=fun q hq=>(f6.2 q (by rw [l5];exact Nat.lt_of_lt_of_le hq (Nat.le_add_right _ 3)) (Nat.ne_of_lt (Nat.lt_of_lt_of_le hq (Nat.le_add_right _ 1)))).trans (C5 q hq)
  constructor
  ·obtain ⟨a,b,h,hb⟩:=C3.h
   exact ⟨a,b,(keep c (ao h)).trans h,hb⟩
  ·exact ((fr1.trans fr2).trans fr3).trans ⟨Nat.le_trans (by rw [l5];exact Nat.le_add_right _ 3) f6.1,fun q hq _=>keep q hq⟩
 have i6:ig σ5 (.cell (σ3.length+1))=true:=bV A5.o
 have hb:∀ σ,bx σ .sub (.int 60) (.int (1+(k:Int)+v))=.ok (.int d) σ:=fun σ=>by rw [hd];rfl
 have hbs:∀ {σ r:Sto},bw σ (.cell (σ3.length+1)) .deep (.int d)=some r->bx σ .sub (.int 60) (.int (1+(k:Int)+v))=.ok (.int d) σ:=fun {σ r} _=>hb σ
 rcases Int.lt_or_le v 0 with hv0 | hv0
 ·obtain ⟨σ6,h6,f6⟩:=ry (need:=1+k) (N:=300+300 * x+300) (e:=17+13 * x+13) TC A5 hd60 (.inr (by rw [hd];exact Int.lt_of_lt_of_le (Int.sub_lt_sub_left hv0 60:(60:Int) - 0 < 60 - v) (Int.le_of_eq yN.symm))) (m+5951) (dp+97) (Nat.le_trans b4 (Nat.le_trans (by decide) (Nat.le_add_left 5951 m))) (Nat.le_trans b5 (Nat.le_add_left 97 dp))
  refine ⟨σ6,?_,fin σ6 f6⟩
  have lt1:aV σ6 .lt (.int (1+(k:Int)+v)) (.int (1+(k:Int)))=some (.bool true):=congrArg (fun b=>some (D.bool b)) (decide_eq_true (Hg hv0))
  exact runC (m:=m) (j:=5999) zc rfl rfl (fd (aU [98] (m+5964) (dp+99) σ) (fd d1 (ff (qS (Nat.le_trans x5 (by decide)) f1) (fn 2 (fd g1 (fo (hi _ hv) (fn 2 (fd wr (fd (hbs sd) (fs sd (fd h6 (fo lt1 .z)))))))))))) (by kernel_rfl)
 ·obtain ⟨σ6,h6,f6,w6⟩:=vA (need:=1+k) (N:=300+300 * x+300) (e:=17+13 * x+13) hn TC hrows (nd:=4+6 * x) b6 p3 (Nat.le_trans p4 (Nat.le_trans b3 (by decide))) A5 hd60 (by rw [hd];exact Int.le_trans (Int.le_of_eq yN) (Int.sub_le_self 60 hv0)) (m+5951) (dp+97) (Nat.le_trans (Nat.add_le_add_right (Nat.add_le_add b4 (Nat.le_trans p4 b3)) 300) (Nat.le_trans (by decide) (Nat.le_add_left 5951 m))) (Nat.le_trans b5 (Nat.le_add_left 97 dp))
  refine ⟨σ6,?_,fin σ6 f6⟩
  have lt1:aV σ6 .lt (.int (1+(k:Int)+v)) (.int (1+(k:Int)))=some (.bool false):=congrArg (fun b=>some (D.bool b)) (decide_eq_false (Int.not_lt.mpr (Int.le_add_of_nonneg_right hv0)))
  have eq1:=(oG (n:=4+6 * x) (Nat.le_trans b6 (by decide)) tp.good σ6).1
  have eq2:aV σ6 .eq (.int d) (.int d)=some (.bool true):=jd (congrArg some (beq_self_eq_true d))
  rw [p2] at h6
  exact runC (m:=m) (j:=5999) zc rfl rfl (fd (aU [98] (m+5964) (dp+99) σ) (fd d1 (ff (qS (Nat.le_trans x5 (by decide)) f1) (fn 2 (fd g1 (fo (hi _ hv) (fn 2 (fd wr (fd (hbs sd) (fs sd (fd h6 (fo lt1 (fn 1 (fo eq1 (fo (eK w6) (fd (hb σ6) (fo eq2 .z))))))))))))))))) (by kernel_rfl)
end
end Mine.Internal.Q
end
section
namespace Mine.Internal.Q
open PySem
theorem GC {n i:Nat} {μ:List Nat} (h:∀ d,GDb n d=true->DR i μ d d):∀ ds:List D,ds.all (GDb n)=true->DRL i μ ds ds:=fun ds=>by
 induction ds with
 | nil=>exact fun _=>.nil
 | cons d r ih=>exact fun q=>.cons (h d (ak q).1) (ih (ak q).2)
theorem g9:∀ {n:Nat} {d:D},GDb n d=true->Clo d
 | n,.none,_=>fun _ _=>.none
 | n,.bool b,_=>fun _ _=>.bool b
 | n,.int b,_=>fun _ _=>.int b
 | n,.str b,_=>fun _ _=>.str b
 | n+1,.tup ds,h=>fun i μ=>by
  have h:ds.all (GDb n)=true:=h
  refine .tup ?_
  exact GC (fun d h=>g9 h i μ) ds h
 | 0,.tup _,h=>nb h
 | n,.fl _,h=>by cases n <;> exact nb h
 | n,.dct _,h=>by cases n <;> exact nb h
 | n,.cell _,h=>by cases n <;> exact nb h
 | n,.glob _,h=>by cases n <;> exact nb h
noncomputable def Qf (f:D->D->D->D->D->Option TK):List D->Option TK:=onK none fun a=>onK none fun b=>onK none fun c=>onK none fun v=>onK none fun w=>zer none (f a b c v w)
noncomputable def Pc:D->Option TK:=onT none (Qf fun a b c v w=>onS none (fun k=>onS none (fun x=>onI none (fun p=>some (.t k x p v w)) c) b) a)
noncomputable def vR:List D->Option (List TK)
 | []=>some []
 | d :: r=>(Pc d).bind fun t=>(vR r).bind fun ts=>some (t :: ts)
noncomputable def M0:TK->Bool
 | .t ..=>true
 | .h _=>false
noncomputable def yH (r:RA D):Option (Option D):=match r with
 | .err=>some none
 | .ok t s m o=>if (GDb 30 t && (Nat.ble (szD t) 5000 && (one false M0 s.toks && (Nat.beq s.off 0 && Nat.ble (gh m o) 60)))) then some (some (bF t)) else none
 | .no=>none
noncomputable def Kv (L:Nat) (q:List D × Nat × List Nat):Option (Option D) :=
 if (q.1.all (GDb 3) && q.2.2.isEmpty) then (vR (q.1++[ay L])).bind fun toks=>yH ((evA tab 200).c 30 399 [.fl []] { toks:=toks,prev:=.none,off:=0,ls:=[] }) else none
noncomputable def chk (text:List Nat) (n:Nat):Option (Option D) :=
 if (au text && (Nat.ble text.length 1000 && (Nat.ble n 1000 && !bG 47 (aM text)))) then (bH n (b7 text) (aM text)).bind (Kv text.length) else none
inductive TkD (d:D) (t:TK):Prop
 | mk (k x:List Nat) (p:Int) (v w:D) (e:t=.t k x p v w) (h:d=aI k x p v w):TkD d t
theorem IT {d:D} {t:TK}:Pc d=some t->TkD d t :=
 jq (G:=fun o=>o=some t->_) nn fun l e=>jo (G:=fun o=>o=some t->_) nn fun a l1 e1=>jo (G:=fun o=>o=some t->_) nn fun b l2 e2=>jo (G:=fun o=>o=some t->_) nn fun c l3 e3=>jo (G:=fun o=>o=some t->_) nn fun v l4 e4=>jo (G:=fun o=>o=some t->_) nn fun w l5 e5 =>
  uy (G:=fun l5' o=>l5=l5'->o=some t->_) (fun _ _=>nn) (fun e6=>cX (G:=fun o=>o=some t->_) nn fun k e7=>cX (G:=fun o=>o=some t->_) nn fun x e8=>bK (G:=fun o=>o=some t->_) nn fun p e9 h=>⟨k,x,p,v,w,(Option.some.inj h).symm,by rw [e,e1,e2,e3,e4,e5,e6,e7,e8,e9];rfl⟩) _ rfl
theorem Eh {rows:List D}:∀ {ds:List D} {toks:List TK} {p:Nat},vR ds=some toks->cC rows p ds->(∀ d ∈ ds,Clo d)->aH 0 4 rows (p+ds.length) toks p:=by
 intro ds
 induction ds with
 | nil=>exact fun h _ _=>Option.some.inj h ▸ .nil
 | cons d r ih =>
  intro toks p h S c
  obtain ⟨t,h1,h⟩:=Option.bind_eq_some_iff.mp h
  obtain ⟨ts,h2,h⟩:=Option.bind_eq_some_iff.mp h
  obtain rfl:=Option.some.inj h
  obtain ⟨k,x,q,v,w,rfl,rfl⟩:=IT h1
  obtain ⟨s1,s2⟩:=S.head
  have:=ih h2 s2 fun d hd=>c d (.tail _ hd)
  rw [Nat.add_right_comm] at this
  exact .tok s1 (c _ (.head _)) this
noncomputable abbrev nw (σ:Sto) (rows:List D):Sto:=σ++[Cell.lst rows,br (σ.length+2) 0 0,Cell.lst rows]
theorem yo (σ:Sto) (rows:List D):AtW (nw σ rows) (σ.length+1) (σ.length+2) rows 0 0:=by
 constructor <;> rw [List.getElem?_append_right (Nat.le_add_right ..),Nat.add_sub_cancel_left] <;> rfl
theorem zh {σ σ':Sto} {rows:List D} (f:Fr1 (σ.length+1) (nw σ rows) σ'):σ.length≤σ'.length∧∀ q,q < σ.length->σ'[q]?=σ[q]?:=by
 have hl:σ.length≤(nw σ rows).length:=List.length_append ▸ Nat.le_add_right ..
 exact ⟨Nat.le_trans hl f.1,fun q hq=>(f.2 q (Nat.lt_of_lt_of_le hq hl) (Nat.ne_of_lt (Nat.lt_succ_of_lt hq))).trans (List.getElem?_append_left hq)⟩
noncomputable def ReadsAs (σ:Sto) (rows:List D) (k dp:Nat) (v:D):Prop:=∃ σ',(evn false fnT (k+40)).c (dp+2+1) 705 [.cell (σ.length+1)] (nw σ rows)=.ok v σ'∧σ.length≤σ'.length∧∀ q,q < σ.length->σ'[q]?=σ[q]?
theorem o9 {N e n need L:Nat} {ts:List D} (C:Claim N e (ts++[ay L]) 0 n 399 [] need none) (σ:Sto) (k dp:Nat) (hk:N≤k) (hdp:e≤dp):ReadsAs σ (ts++[ay L]) k dp .none :=
 (ry C (yo σ _) (by decide) (.inl rfl) k dp hk hdp).imp fun _ h=>⟨h.1,zh h.2⟩
theorem rz {N e n need nd L:Nat} {ts:List D} {t:D} (hnl:ts.length=n) (C:Claim N e (ts++[ay L]) 0 n 399 [] need (some t)) (hl:(ts++[ay L]).length≤lim) (hnd:nd≤60) (hg:GDb nd t=true) (hs:szD t≤90000) (σ:Sto) (hn:need≤60) (k dp:Nat) (hk:N+szD t+300≤k) (hdp:e≤dp) :
  ReadsAs σ (ts++[ay L]) k dp (bF t) :=
 (vA hnl C hl hnd hg hs (yo σ _) (by decide) (Int.le_trans (Int.le_of_eq (Int.zero_add _)) (Int.ofNat_le.mpr hn)) k dp hk hdp).imp fun _ h=>⟨h.1,zh h.2.1⟩
inductive oJ (exp:Option D) (r:RA D):Prop
 | err (he:exp=none) (hr:ie r=true)
 | ok (t:D) (k x:List Nat) (p:Int) (v w:D) (m:Nat) (o:List Nat) (he:exp=some (bF t)) (hr:d7 r=some (t,[.t k x p v w],0,m,o)) (g:GDb 30 t=true) (s:szD t≤5000) (n:gh m o≤60)
theorem HT {l:List TK}:one false M0 l=true->∃ k x p v w,l=[.t k x p v w] :=
 jr (G:=fun l b=>b=true->∃ k x p v w,l=[.t k x p v w]) (fun _=>nb) (fun t=>by
  cases t with
  | t k x p v w=>exact fun _=>⟨k,x,p,v,w,rfl⟩
  | h _=>exact nb) l
theorem wu {exp:Option D} {r:RA D} (h:yH r=some exp):oJ exp r:=by
 cases r with
 | err=>exact .err (Option.some.inj h).symm rfl
 | no=>exact nn h
 | ok t s m o =>
  obtain ⟨c,h⟩:=cM h
  obtain ⟨c1,c⟩:=ak c
  obtain ⟨c2,c⟩:=ak c
  obtain ⟨c3,c⟩:=ak c
  obtain ⟨c4,c5⟩:=ak c
  obtain ⟨k,x,p,v,w,e⟩:=HT c3
  exact .ok t k x p v w m o (Option.some.inj h).symm (by show some (t,s.toks,s.off,m,o)=_;rw [e,Nat.eq_of_beq_eq_true c4]) c1 (Nat.le_of_ble_eq_true c2) (Nat.le_of_ble_eq_true c5)
theorem xM {ts:List D} {L:Nat} {toks:List TK} {exp:Option D} (hl:(ts++[ay L]).length≤lim) (T:aH 0 4 (ts++[ay L]) (0+(ts++[ay L]).length) toks 0)
  (h:oJ exp ((evA tab 200).c 30 399 [.fl []] { toks:=toks,prev:=.none,off:=0,ls:=[] })) (σ:Sto) (k dp:Nat) (hk:6000≤k) (hdp:40≤dp):ReadsAs σ (ts++[ay L]) k dp (exp.getD .none):=by
 cases h with
 | err he hr =>
  subst he
  exact o9 (ef (len:=0) (need:=0) (by decide) hl T hr dW) σ k dp (Nat.le_trans (by decide) hk) (Nat.le_trans (by decide) hdp)
 | ok t kk x p v w m o he hr g s n =>
  subst he
  rw [List.length_append,← Nat.add_assoc] at T
  exact rz (nd:=30) rfl (c8 (by decide) hl T hr dW (g9 g)) hl (by decide) g (Nat.le_trans s (by decide)) σ n k dp (Nat.le_trans (Nat.add_le_add_right (Nat.add_le_add_left s _) 300) (Nat.le_trans (by decide) hk)) (Nat.le_trans (by decide) hdp)
inductive Bs (text:List Nat) (n:Nat) (exp:Option D):Prop
 | mk (ts:List D) (P:Nat) (toks:List TK) (e:bH n (b7 text) (aM text)=some (ts,P,[])) (g:∀ d ∈ ts,GDb 3 d=true) (t:vR (ts++[ay text.length])=some toks)
  (r:oJ exp ((evA tab 200).c 30 399 [.fl []] { toks:=toks,prev:=.none,off:=0,ls:=[] }))
theorem yJ {text:List Nat} {n:Nat} {exp:Option D} (h:(bH n (b7 text) (aM text)).bind (Kv text.length)=some exp):Bs text n exp:=by
 obtain ⟨⟨ts,P,l⟩,e,h1⟩:=Option.bind_eq_some_iff.mp h
 obtain ⟨c,h2⟩:=cM h1
 obtain ⟨c1,c2⟩:=ak c
 obtain ⟨toks,e2,h3⟩:=Option.bind_eq_some_iff.mp h2
 obtain rfl:=List.isEmpty_iff.mp c2
 exact ⟨ts,P,toks,e,List.all_eq_true.mp c1,e2,wu h3⟩
theorem yI {text:List Nat} {n:Nat} {exp:Option D} (h:chk text n=some exp) {σ:Sto} (k dp:Nat) (hk:6000≤k) :
  (evn false fnT (k+2000)).c (dp+8) 132 [.str text] σ=.ok (.cell (σ.length+1)) (nw σ (((bH n (b7 text) (aM text)).getD ([],0,[])).1++[ay text.length])) ∧
  ∀ k' dp',6000≤k'->40≤dp'->ReadsAs σ (((bH n (b7 text) (aM text)).getD ([],0,[])).1++[ay text.length]) k' dp' (exp.getD .none):=by
 obtain ⟨c,h⟩:=cM h
 obtain ⟨h1,c⟩:=ak c
 obtain ⟨h2,c⟩:=ak c
 obtain ⟨h3,h4⟩:=ak c
 have h2:=Nat.le_of_ble_eq_true h2
 have h3:=Nat.le_of_ble_eq_true h3
 obtain ⟨ts,P,toks,e,g,t,r⟩:=yJ h
 rw [e]
 have tl:=iU _ _ _ _ _ _ e
 have hl:(ts++[ay text.length]).length≤lim:=by rw [List.length_append,tl];exact Nat.le_trans (Nat.succ_le_succ h3) (by decide)
 have cl:∀ d ∈ ts++[ay text.length],Clo d:=fun d hd=>(List.mem_append.mp hd).elim (fun q=>g9 (g d q)) fun q=>List.mem_singleton.mp q ▸ bE _ _ _
 exact ⟨jB (Nat.le_trans h2 (by decide)) h1 ((Bool.not_eq_true' _).mp h4) (Nat.le_trans h3 (by decide)) e _ _ _ (Nat.le_trans (Nat.add_le_add_right (Nat.add_le_add h3 h2) 500) (Nat.le_trans (by decide) (Nat.le_trans hk (Nat.le_add_right k 2000)))),fun k' dp' hk' hdp'=>xM hl (Eh t (fun m _=>by rw [Nat.zero_add]) cl) r σ k' dp' hk' hdp'⟩
noncomputable def x0:List Nat:=[91,97,59,32,52,48,57,54,93]
noncomputable def y0:Option D:=some (.tup [.str [114,101,112,101,97,116],.int 0,.tup [.str [112,97,116,104],.int 0,.tup [.tup [.str [97],.tup [],.tup []]]],.int 4096])
theorem k0:chk x0 5=some y0:=by kernel_rfl
noncomputable def x1:List Nat:=[91,97,59,32,52,48,57,55,93]
noncomputable def y1:Option D:=none
theorem k1:chk x1 5=some y1:=by kernel_rfl
noncomputable def x2:List Nat:=[91,97,59,32,51,117,56,93]
noncomputable def y2:Option D:=none
theorem k2:chk x2 5=some y2:=by kernel_rfl
noncomputable def x3:List Nat:=[91,97,59,32,51,117,115,105,122,101,93]
noncomputable def y3:Option D:=some (.tup [.str [114,101,112,101,97,116],.int 0,.tup [.str [112,97,116,104],.int 0,.tup [.tup [.str [97],.tup [],.tup []]]],.int 3])
theorem k3:chk x3 5=some y3:=by kernel_rfl
noncomputable def x4:List Nat:=[97,46,48,120,49]
noncomputable def y4:Option D:=none
theorem k4:chk x4 3=some y4:=by kernel_rfl
noncomputable def x5:List Nat:=[97,46,48,48]
noncomputable def y5:Option D:=none
theorem k5:chk x5 3=some y5:=by kernel_rfl
noncomputable def x6:List Nat:=[97,46,49,48]
noncomputable def y6:Option D:=some (.tup [.str [102,105,101,108,100],.int 0,.tup [.str [112,97,116,104],.int 0,.tup [.tup [.str [97],.tup [],.tup []]]],.str [49,48]])
theorem k6:chk x6 3=some y6:=by kernel_rfl
noncomputable def x7:List Nat:=[83,32,123,32,48,120,48,58,32,97,32,125]
noncomputable def y7:Option D:=none
theorem k7:chk x7 6=some y7:=by kernel_rfl
noncomputable def x8:List Nat:=[83,32,123,32,48,58,32,97,32,125]
noncomputable def y8:Option D:=some (.tup [.str [115,116,114,117,99,116],.int 0,.tup [.tup [.str [83],.tup [],.tup []]],.tup [.tup [.str [48],.tup [.str [112,97,116,104],.int 0,.tup [.tup [.str [97],.tup [],.tup []]]]]]])
theorem k8:chk x8 6=some y8:=by kernel_rfl
noncomputable def x9:List Nat:=[39,102,111,114,58,32,108,111,111,112,32,123,32,125]
noncomputable def y9:Option D:=none
theorem k9:chk x9 5=some y9:=by kernel_rfl
noncomputable def x10:List Nat:=[39,115,116,97,116,105,99,58,32,108,111,111,112,32,123,32,125]
noncomputable def y10:Option D:=none
theorem k10:chk x10 5=some y10:=by kernel_rfl
noncomputable def x11:List Nat:=[123,32,108,111,111,112,32,123,32,98,114,101,97,107,32,39,95,59,32,125,32,125]
noncomputable def y11:Option D:=none
theorem k11:chk x11 8=some y11:=by kernel_rfl
noncomputable def x12:List Nat:=[97,32,97,115,32,117,56,32,60,60,32,50]
noncomputable def y12:Option D:=none
theorem k12:chk x12 5=some y12:=by kernel_rfl
noncomputable def x13:List Nat:=[97,32,97,115,32,40,117,56,41,32,60,60,32,50]
noncomputable def y13:Option D:=some (.tup [.str [98,105,110,97,114,121],.int 0,.str [60,60],.tup [.str [99,97,115,116],.int 0,.tup [.str [112,97,116,104],.int 0,.tup [.tup [.str [97],.tup [],.tup []]]],.tup [.str [112,97,116,104],.int 0,.tup [.tup [.str [117,56],.tup [],.tup []]]]],.tup [.str [105,110,116],.int 0,.int 2,.none]])
theorem k13:chk x13 7=some y13:=by kernel_rfl
noncomputable def x14:List Nat:=[40,97,32,97,115,32,117,56,41,32,60,60,32,50]
noncomputable def y14:Option D:=some (.tup [.str [98,105,110,97,114,121],.int 0,.str [60,60],.tup [.str [99,97,115,116],.int 0,.tup [.str [112,97,116,104],.int 0,.tup [.tup [.str [97],.tup [],.tup []]]],.tup [.str [112,97,116,104],.int 0,.tup [.tup [.str [117,56],.tup [],.tup []]]]],.tup [.str [105,110,116],.int 0,.int 2,.none]])
theorem k14:chk x14 7=some y14:=by kernel_rfl
noncomputable def x15:List Nat:=[97,32,97,115,32,86,60,117,56,62,32,60,60,32,50]
noncomputable def y15:Option D:=some (.tup [.str [98,105,110,97,114,121],.int 0,.str [60,60],.tup [.str [99,97,115,116],.int 0,.tup [.str [112,97,116,104],.int 0,.tup [.tup [.str [97],.tup [],.tup []]]],.tup [.str [112,97,116,104],.int 0,.tup [.tup [.str [86],.tup [],.tup [.tup [.str [112,97,116,104],.int 0,.tup [.tup [.str [117,56],.tup [],.tup []]]]]]]]],.tup [.str [105,110,116],.int 0,.int 2,.none]])
theorem k15:chk x15 8=some y15:=by kernel_rfl
noncomputable def x16:List Nat:=[97,32,97,115,32,95,32,60,60,32,50]
noncomputable def y16:Option D:=some (.tup [.str [98,105,110,97,114,121],.int 0,.str [60,60],.tup [.str [99,97,115,116],.int 0,.tup [.str [112,97,116,104],.int 0,.tup [.tup [.str [97],.tup [],.tup []]]],.tup [.str [105,110,102,101,114],.int 0]],.tup [.str [105,110,116],.int 0,.int 2,.none]])
theorem k16:chk x16 5=some y16:=by kernel_rfl
noncomputable def x17:List Nat:=[123,32,108,101,116,32,49,32,124,32,50,32,61,32,97,59,32,125]
noncomputable def y17:Option D:=none
theorem k17:chk x17 9=some y17:=by kernel_rfl
noncomputable def x18:List Nat:=[123,32,108,101,116,32,40,49,32,124,32,50,41,32,61,32,97,59,32,125]
noncomputable def y18:Option D:=some (.tup [.str [98,108,111,99,107],.int 0,.tup [.tup [.str [108,101,116],.int 0,.tup [.str [111,114],.int 0,.tup [.tup [.str [108,105,116],.int 0,.int 1],.tup [.str [108,105,116],.int 0,.int 2]]],.none,.tup [.str [112,97,116,104],.int 0,.tup [.tup [.str [97],.tup [],.tup []]]]]],.none])
theorem k18:chk x18 11=some y18:=by kernel_rfl
noncomputable def x19:List Nat:=[91,97,59,32,48,120,49,48,48,48,93]
noncomputable def y19:Option D:=some (.tup [.str [114,101,112,101,97,116],.int 0,.tup [.str [112,97,116,104],.int 0,.tup [.tup [.str [97],.tup [],.tup []]]],.int 4096])
theorem k19:chk x19 5=some y19:=by kernel_rfl
noncomputable def x20:List Nat:=[109,97,116,99,104,32,99,32,123,32,48,32,61,62,32,105,102,32,99,32,123,32,55,32,125,32,101,108,115,101,32,123,32,55,32,125,32,49,32,61,62,32,57,32,125]
noncomputable def y20:Option D:=some (.tup [.str [109,97,116,99,104],.int 0,.tup [.str [112,97,116,104],.int 0,.tup [.tup [.str [99],.tup [],.tup []]]],.tup [.tup [.tup [.str [108,105,116],.int 0,.int 0],.none,.tup [.str [105,102],.int 0,.tup [.str [112,97,116,104],.int 0,.tup [.tup [.str [99],.tup [],.tup []]]],.tup [.str [98,108,111,99,107],.int 0,.tup [],.tup [.str [105,110,116],.int 0,.int 7,.none]],.tup [.str [98,108,111,99,107],.int 0,.tup [],.tup [.str [105,110,116],.int 0,.int 7,.none]]]],.tup [.tup [.str [108,105,116],.int 0,.int 1],.none,.tup [.str [105,110,116],.int 0,.int 9,.none]]]])
theorem k20:chk x20 18=some y20:=by kernel_rfl
end Mine.Internal.Q
end
section
namespace Mine.Internal.Q
open PySem
structure Arm where
 text:List Nat
 toks:List (List Nat × List Nat × D × D)
 offs:List Nat
 tree:(Nat->Int)->D
 law:D
 bad:Bool
 m:Nat
noncomputable def fK (q:Nat->Int):Nat->List (List Nat × List Nat × D × D)->List TK
 | _,[]=>[]
 | i,a :: r=>.t a.1 a.2.1 (q i) a.2.2.1 a.2.2.2 :: fK q (i+1) r
noncomputable def gu (q:Nat->Int) (i:Nat) (l:List (List Nat × List Nat × D × D)):List D:=(fK q i l).map TK.d
noncomputable def xC:List (List Nat × List Nat × D × D):=[(af,[125],.none,.none)]
noncomputable def iw:List (List Nat × List Nat × D × D):=[(af,[125],.none,.none),(gS,[48],.int 0,.none),(af,[45],.none,.none),(aj,[120],.none,.none)]
noncomputable def jn:List (List (List Nat × List Nat × D × D)):=[[(gS,[48],.int 0,.none),(af,[61,62],.none,.none)],[(af,[45],.none,.none),(gS,[49],.int 1,.none),(af,[61,62],.none,.none)],[(aj,[120],.none,.none),(af,[61,62],.none,.none)]]
noncomputable def nc:List Nat:=[125,48,45,120]
noncomputable def pT (P:Nat) (offs:List Nat) (i:Nat):Int:=((P+offs.getD i 0:Nat):Int)
noncomputable def isTup:D->Bool
 | .tup _=>true
 | _=>false
structure aA (a:Arm):Prop where
 ok:∀ (q:Nat->Int) (qf:Int),∀ f ∈ (bif a.bad then xC else iw),d7 ((evA tab 200).c 14 602 [.fl []] { toks:=fK q 0 a.toks++[.t f.1 f.2.1 qf f.2.2.1 f.2.2.2],prev:=.none,off:=0,ls:=[] })=some (a.tree q,[.t f.1 f.2.1 qf f.2.2.1 f.2.2.2],0,a.m,[])
 err:a.bad=true->∀ (q q':Nat->Int),∀ l ∈ jn,ie ((evA tab 200).c 14 602 [.fl []] { toks:=fK q 0 a.toks++fK q' 0 l,prev:=.none,off:=0,ls:=[] })=true
 lex:∀ (P:Nat) (r:List Nat),∀ c ∈ nc,bH a.toks.length P (a.text++32 :: c :: r)=some (gu (pT P a.offs) 0 a.toks,P+a.text.length+1,c :: r)
 tr:∀ q,bF (a.tree q)=a.law∧GDb 12 (a.tree q)=true∧isTup (a.tree q)=true∧Nat.ble (szD (a.tree q)) 100=true
 gl:GDb 12 a.law=true
 b:(au a.text && Nat.ble a.text.length 40 && Nat.ble a.toks.length 20 && Nat.ble a.m 20 && a.toks.all (fun t=>GDb 0 t.2.2.1 && GDb 0 t.2.2.2 && au t.1 && au t.2.1))=true
 f:(a.toks.take 1).all (fun t=>notFirst.all fun y=>!((eqN af t.1 || eqN aj t.1) && eqN t.2.1 y))=true
 h:∃ t r,a.toks=t :: r∧t ∈ iw
 hc:∃ c r,a.text=c :: r∧c ∈ nc
 ne:∃ l ∈ jn,∃ r,a.toks=l++r
theorem mkA {a:Arm} {t0:List Nat × List Nat × D × D} {l0:List (List Nat × List Nat × D × D)} {r:List (List Nat × List Nat × D × D)} {c0:Nat} {x:List Nat} (hm:t0 ∈ iw) (hl:t0 :: l0 ∈ jn) (hc:c0 ∈ nc) (ht:a.toks=t0 :: l0++r) (hx:a.text=c0 :: x)
  (ok:∀ (q:Nat->Int) (qf:Int),(bif a.bad then xC else iw).map (fun f=>d7 ((evA tab 200).c 14 602 [.fl []] { toks:=fK q 0 a.toks++[.t f.1 f.2.1 qf f.2.2.1 f.2.2.2],prev:=.none,off:=0,ls:=[] }))=(bif a.bad then xC else iw).map (fun f=>some (a.tree q,[.t f.1 f.2.1 qf f.2.2.1 f.2.2.2],0,a.m,[])))
  (err:∀ (q q':Nat->Int),jn.map (fun l=>bif a.bad then ie ((evA tab 200).c 14 602 [.fl []] { toks:=fK q 0 a.toks++fK q' 0 l,prev:=.none,off:=0,ls:=[] }) else true)=jn.map (fun _=>true))
  (lex:∀ (P:Nat) (r:List Nat),nc.map (fun c=>bH a.toks.length P (a.text++32 :: c :: r))=nc.map (fun c=>some (gu (pT P a.offs) 0 a.toks,P+a.text.length+1,c :: r)))
  (tr:∀ q,(bF (a.tree q),GDb 12 (a.tree q),isTup (a.tree q),Nat.ble (szD (a.tree q)) 100)=(a.law,true,true,true))
  (z:(GDb 12 a.law,(au a.text && Nat.ble a.text.length 40 && Nat.ble a.toks.length 20 && Nat.ble a.m 20 && a.toks.all (fun t=>GDb 0 t.2.2.1 && GDb 0 t.2.2.2 && au t.1 && au t.2.1)),(a.toks.take 1).all (fun t=>notFirst.all fun y=>!((eqN af t.1 || eqN aj t.1) && eqN t.2.1 y)))=(true,true,true)):aA a:=by
 simp only [Prod.mk.injEq] at tr z
 refine ⟨fun q qf=>List.map_inj_left.mp (ok q qf),fun hb q q' l hl=>?_,fun P r=>List.map_inj_left.mp (lex P r),tr,z.1,z.2.1,z.2.2,⟨t0,l0++r,by rw [ht];rfl,hm⟩,⟨c0,x,hx,hc⟩,⟨t0 :: l0,hl,r,ht⟩⟩
 have:=List.map_inj_left.mp (err q q') l hl
 rw [hb] at this
 exact this
structure PS where
 text:List Nat
 toks:List (List Nat × List Nat × D × D)
 offs:List Nat
 tree:(Nat->Int)->Nat->D
 law:D
 free:Bool
 m:Nat
noncomputable def aE (s b:PS) (c:Bool):Arm:={ text:=s.text++([32,61,62,32]++(b.text++(bif c then [44] else []))),toks:=s.toks++((af,[61,62],.none,.none) :: b.toks++(bif c then [(af,[44],.none,.none)] else [])),offs:=s.offs++((s.text.length+1) :: b.offs.map (·+(s.text.length+4))++(bif c then [s.text.length+4+b.text.length] else [])),tree:=fun q=>.tup [s.tree q 0,.none,b.tree q (s.toks.length+1)],law:=.tup [s.law,.none,b.law],bad:=!c && !b.free,m:=b.m }
theorem mA0:(gS,[48],D.int 0,D.none) ∈ iw:=by simp [iw]
theorem mA1:(af,[45],D.none,D.none) ∈ iw:=by simp [iw]
theorem mA2:(aj,[120],D.none,D.none) ∈ iw:=by simp [iw]
theorem mE0:[(gS,[48],D.int 0,D.none),(af,[61,62],.none,.none)] ∈ jn:=by simp [jn]
theorem mE1:[(af,[45],D.none,D.none),(gS,[49],.int 1,.none),(af,[61,62],.none,.none)] ∈ jn:=by simp [jn]
theorem mE2:[(aj,[120],D.none,D.none),(af,[61,62],.none,.none)] ∈ jn:=by simp [jn]
theorem mC0:48 ∈ nc:=by decide
theorem mC1:45 ∈ nc:=by decide
theorem mC2:120 ∈ nc:=by decide
noncomputable def ps0:PS:={ text:=[48],toks:=[(gS,[48],.int 0,.none)],offs:=[0],tree:=fun q _=>.tup [.str [108,105,116],.int (q 0),.int 0],law:=.tup [.str [108,105,116],.int 0,.int 0],free:=false,m:=0 }
noncomputable def ps1:PS:={ text:=[45,49],toks:=[(af,[45],.none,.none),(gS,[49],.int 1,.none)],offs:=[0,1],tree:=fun q _=>.tup [.str [108,105,116],.int (q 0),.int (-1)],law:=.tup [.str [108,105,116],.int 0,.int (-1)],free:=false,m:=0 }
noncomputable def ps2:PS:={ text:=[120],toks:=[(aj,[120],.none,.none)],offs:=[0],tree:=fun q _=>.tup [.str [110,97,109,101],.int (q 0),.str [120],.bool false,.bool false,.none],law:=.tup [.str [110,97,109,101],.int 0,.str [120],.bool false,.bool false,.none],free:=false,m:=0 }
noncomputable def pb0:PS:={ text:=[55],toks:=[(gS,[55],.int 7,.none)],offs:=[0],tree:=fun q i=>.tup [.str [105,110,116],.int (q i),.int 7,.none],law:=.tup [.str [105,110,116],.int 0,.int 7,.none],free:=false,m:=1 }
noncomputable def pb1:PS:={ text:=[102,40,55,41],toks:=[(aj,[102],.none,.none),(af,[40],.none,.none),(gS,[55],.int 7,.none),(af,[41],.none,.none)],offs:=[0,1,2,3],tree:=fun q i=>.tup [.str [99,97,108,108],.int (q i),.tup [.str [112,97,116,104],.int (q i),.tup [.tup [.str [102],.tup [],.tup []]]],.tup [.tup [.str [105,110,116],.int (q (i+2)),.int 7,.none]]],law:=.tup [.str [99,97,108,108],.int 0,.tup [.str [112,97,116,104],.int 0,.tup [.tup [.str [102],.tup [],.tup []]]],.tup [.tup [.str [105,110,116],.int 0,.int 7,.none]]],free:=false,m:=2 }
noncomputable def pb2:PS:={ text:=[123,32,55,32,125,46,109,40,41],toks:=[(af,[123],.none,.none),(gS,[55],.int 7,.none),(af,[125],.none,.none),(af,[46],.none,.none),(aj,[109],.none,.none),(af,[40],.none,.none),(af,[41],.none,.none)],offs:=[0,2,4,5,6,7,8],tree:=fun q i=>.tup [.str [109,101,116,104,111,100],.int (q i),.tup [.str [98,108,111,99,107],.int (q i),.tup [],.tup [.str [105,110,116],.int (q (i+1)),.int 7,.none]],.str [109],.tup [],.tup []],law:=.tup [.str [109,101,116,104,111,100],.int 0,.tup [.str [98,108,111,99,107],.int 0,.tup [],.tup [.str [105,110,116],.int 0,.int 7,.none]],.str [109],.tup [],.tup []],free:=false,m:=2 }
noncomputable def pb3:PS:={ text:=[123,32,55,32,125],toks:=[(af,[123],.none,.none),(gS,[55],.int 7,.none),(af,[125],.none,.none)],offs:=[0,2,4],tree:=fun q i=>.tup [.str [98,108,111,99,107],.int (q i),.tup [],.tup [.str [105,110,116],.int (q (i+1)),.int 7,.none]],law:=.tup [.str [98,108,111,99,107],.int 0,.tup [],.tup [.str [105,110,116],.int 0,.int 7,.none]],free:=true,m:=2 }
noncomputable def pb4:PS:={ text:=[105,102,32,99,32,123,32,55,32,125,32,101,108,115,101,32,123,32,55,32,125],toks:=[(aj,[105,102],.none,.none),(aj,[99],.none,.none),(af,[123],.none,.none),(gS,[55],.int 7,.none),(af,[125],.none,.none),(aj,[101,108,115,101],.none,.none),(af,[123],.none,.none),(gS,[55],.int 7,.none),(af,[125],.none,.none)],offs:=[0,3,5,7,9,11,16,18,20],tree:=fun q i=>.tup [.str [105,102],.int (q i),.tup [.str [112,97,116,104],.int (q (i+1)),.tup [.tup [.str [99],.tup [],.tup []]]],.tup [.str [98,108,111,99,107],.int (q (i+2)),.tup [],.tup [.str [105,110,116],.int (q (i+3)),.int 7,.none]],.tup [.str [98,108,111,99,107],.int (q (i+6)),.tup [],.tup [.str [105,110,116],.int (q (i+7)),.int 7,.none]]],law:=.tup [.str [105,102],.int 0,.tup [.str [112,97,116,104],.int 0,.tup [.tup [.str [99],.tup [],.tup []]]],.tup [.str [98,108,111,99,107],.int 0,.tup [],.tup [.str [105,110,116],.int 0,.int 7,.none]],.tup [.str [98,108,111,99,107],.int 0,.tup [],.tup [.str [105,110,116],.int 0,.int 7,.none]]],free:=true,m:=2 }
noncomputable def pb5:PS:={ text:=[39,108,58,32,108,111,111,112,32,123,32,55,32,125],toks:=[(iQ,[39,108],.none,.none),(af,[58],.none,.none),(aj,[108,111,111,112],.none,.none),(af,[123],.none,.none),(gS,[55],.int 7,.none),(af,[125],.none,.none)],offs:=[0,2,4,9,11,13],tree:=fun q i=>.tup [.str [108,111,111,112],.int (q (i+2)),.str [39,108],.tup [.str [98,108,111,99,107],.int (q (i+3)),.tup [],.tup [.str [105,110,116],.int (q (i+4)),.int 7,.none]]],law:=.tup [.str [108,111,111,112],.int 0,.str [39,108],.tup [.str [98,108,111,99,107],.int 0,.tup [],.tup [.str [105,110,116],.int 0,.int 7,.none]]],free:=true,m:=2 }
noncomputable def pb6:PS:={ text:=[109,97,116,99,104,32,99,32,123,32,125],toks:=[(aj,[109,97,116,99,104],.none,.none),(aj,[99],.none,.none),(af,[123],.none,.none),(af,[125],.none,.none)],offs:=[0,6,8,10],tree:=fun q i=>.tup [.str [109,97,116,99,104],.int (q i),.tup [.str [112,97,116,104],.int (q (i+1)),.tup [.tup [.str [99],.tup [],.tup []]]],.tup []],law:=.tup [.str [109,97,116,99,104],.int 0,.tup [.str [112,97,116,104],.int 0,.tup [.tup [.str [99],.tup [],.tup []]]],.tup []],free:=true,m:=2 }
noncomputable def pb7:PS:={ text:=[119,104,105,108,101,32,99,32,123,32,125],toks:=[(aj,[119,104,105,108,101],.none,.none),(aj,[99],.none,.none),(af,[123],.none,.none),(af,[125],.none,.none)],offs:=[0,6,8,10],tree:=fun q i=>.tup [.str [119,104,105,108,101],.int (q i),.none,.tup [.str [112,97,116,104],.int (q (i+1)),.tup [.tup [.str [99],.tup [],.tup []]]],.tup [.str [98,108,111,99,107],.int (q (i+2)),.tup [],.none]],law:=.tup [.str [119,104,105,108,101],.int 0,.none,.tup [.str [112,97,116,104],.int 0,.tup [.tup [.str [99],.tup [],.tup []]]],.tup [.str [98,108,111,99,107],.int 0,.tup [],.none]],free:=true,m:=2 }
noncomputable def Jh:Arm:=aE ps0 pb0 false
theorem CK:aA Jh:=mkA mA0 mE0 mC0 rfl rfl (fun _ _=>by kernel_rfl) (fun _ _=>by kernel_rfl) (fun _ _=>by kernel_rfl) (fun _=>by kernel_rfl) (by kernel_rfl)
noncomputable def Ji:Arm:=aE ps0 pb0 true
theorem CL:aA Ji:=mkA mA0 mE0 mC0 rfl rfl (fun _ _=>by kernel_rfl) (fun _ _=>by kernel_rfl) (fun _ _=>by kernel_rfl) (fun _=>by kernel_rfl) (by kernel_rfl)
noncomputable def Jj:Arm:=aE ps0 pb1 false
theorem CM:aA Jj:=mkA mA0 mE0 mC0 rfl rfl (fun _ _=>by kernel_rfl) (fun _ _=>by kernel_rfl) (fun _ _=>by kernel_rfl) (fun _=>by kernel_rfl) (by kernel_rfl)
noncomputable def Jk:Arm:=aE ps0 pb1 true
theorem CN:aA Jk:=mkA mA0 mE0 mC0 rfl rfl (fun _ _=>by kernel_rfl) (fun _ _=>by kernel_rfl) (fun _ _=>by kernel_rfl) (fun _=>by kernel_rfl) (by kernel_rfl)
noncomputable def Jl:Arm:=aE ps0 pb2 false
theorem CO:aA Jl:=mkA mA0 mE0 mC0 rfl rfl (fun _ _=>by kernel_rfl) (fun _ _=>by kernel_rfl) (fun _ _=>by kernel_rfl) (fun _=>by kernel_rfl) (by kernel_rfl)
noncomputable def Jm:Arm:=aE ps0 pb2 true
theorem CP:aA Jm:=mkA mA0 mE0 mC0 rfl rfl (fun _ _=>by kernel_rfl) (fun _ _=>by kernel_rfl) (fun _ _=>by kernel_rfl) (fun _=>by kernel_rfl) (by kernel_rfl)
noncomputable def Jo:Arm:=aE ps0 pb3 false
theorem CQ:aA Jo:=mkA mA0 mE0 mC0 rfl rfl (fun _ _=>by kernel_rfl) (fun _ _=>by kernel_rfl) (fun _ _=>by kernel_rfl) (fun _=>by kernel_rfl) (by kernel_rfl)
noncomputable def Jp:Arm:=aE ps0 pb3 true
theorem CR:aA Jp:=mkA mA0 mE0 mC0 rfl rfl (fun _ _=>by kernel_rfl) (fun _ _=>by kernel_rfl) (fun _ _=>by kernel_rfl) (fun _=>by kernel_rfl) (by kernel_rfl)
noncomputable def Jq:Arm:=aE ps0 pb4 false
theorem CS:aA Jq:=mkA mA0 mE0 mC0 rfl rfl (fun _ _=>by kernel_rfl) (fun _ _=>by kernel_rfl) (fun _ _=>by kernel_rfl) (fun _=>by kernel_rfl) (by kernel_rfl)
noncomputable def Jr:Arm:=aE ps0 pb4 true
theorem CT:aA Jr:=mkA mA0 mE0 mC0 rfl rfl (fun _ _=>by kernel_rfl) (fun _ _=>by kernel_rfl) (fun _ _=>by kernel_rfl) (fun _=>by kernel_rfl) (by kernel_rfl)
noncomputable def Js:Arm:=aE ps0 pb5 false
theorem CU:aA Js:=mkA mA0 mE0 mC0 rfl rfl (fun _ _=>by kernel_rfl) (fun _ _=>by kernel_rfl) (fun _ _=>by kernel_rfl) (fun _=>by kernel_rfl) (by kernel_rfl)
noncomputable def Jt:Arm:=aE ps0 pb5 true
theorem CV:aA Jt:=mkA mA0 mE0 mC0 rfl rfl (fun _ _=>by kernel_rfl) (fun _ _=>by kernel_rfl) (fun _ _=>by kernel_rfl) (fun _=>by kernel_rfl) (by kernel_rfl)
noncomputable def Ju:Arm:=aE ps0 pb6 false
theorem CW:aA Ju:=mkA mA0 mE0 mC0 rfl rfl (fun _ _=>by kernel_rfl) (fun _ _=>by kernel_rfl) (fun _ _=>by kernel_rfl) (fun _=>by kernel_rfl) (by kernel_rfl)
noncomputable def Jv:Arm:=aE ps0 pb6 true
theorem CX:aA Jv:=mkA mA0 mE0 mC0 rfl rfl (fun _ _=>by kernel_rfl) (fun _ _=>by kernel_rfl) (fun _ _=>by kernel_rfl) (fun _=>by kernel_rfl) (by kernel_rfl)
noncomputable def Jw:Arm:=aE ps0 pb7 false
theorem CY:aA Jw:=mkA mA0 mE0 mC0 rfl rfl (fun _ _=>by kernel_rfl) (fun _ _=>by kernel_rfl) (fun _ _=>by kernel_rfl) (fun _=>by kernel_rfl) (by kernel_rfl)
noncomputable def Jx:Arm:=aE ps0 pb7 true
theorem CZ:aA Jx:=mkA mA0 mE0 mC0 rfl rfl (fun _ _=>by kernel_rfl) (fun _ _=>by kernel_rfl) (fun _ _=>by kernel_rfl) (fun _=>by kernel_rfl) (by kernel_rfl)
noncomputable def Jy:Arm:=aE ps1 pb0 false
theorem D3:aA Jy:=mkA mA1 mE1 mC1 rfl rfl (fun _ _=>by kernel_rfl) (fun _ _=>by kernel_rfl) (fun _ _=>by kernel_rfl) (fun _=>by kernel_rfl) (by kernel_rfl)
noncomputable def Jz:Arm:=aE ps1 pb0 true
theorem D4:aA Jz:=mkA mA1 mE1 mC1 rfl rfl (fun _ _=>by kernel_rfl) (fun _ _=>by kernel_rfl) (fun _ _=>by kernel_rfl) (fun _=>by kernel_rfl) (by kernel_rfl)
noncomputable def JA:Arm:=aE ps1 pb1 false
theorem D5:aA JA:=mkA mA1 mE1 mC1 rfl rfl (fun _ _=>by kernel_rfl) (fun _ _=>by kernel_rfl) (fun _ _=>by kernel_rfl) (fun _=>by kernel_rfl) (by kernel_rfl)
noncomputable def JB:Arm:=aE ps1 pb1 true
theorem D6:aA JB:=mkA mA1 mE1 mC1 rfl rfl (fun _ _=>by kernel_rfl) (fun _ _=>by kernel_rfl) (fun _ _=>by kernel_rfl) (fun _=>by kernel_rfl) (by kernel_rfl)
noncomputable def JC:Arm:=aE ps1 pb2 false
theorem D7:aA JC:=mkA mA1 mE1 mC1 rfl rfl (fun _ _=>by kernel_rfl) (fun _ _=>by kernel_rfl) (fun _ _=>by kernel_rfl) (fun _=>by kernel_rfl) (by kernel_rfl)
noncomputable def JD:Arm:=aE ps1 pb2 true
theorem D8:aA JD:=mkA mA1 mE1 mC1 rfl rfl (fun _ _=>by kernel_rfl) (fun _ _=>by kernel_rfl) (fun _ _=>by kernel_rfl) (fun _=>by kernel_rfl) (by kernel_rfl)
noncomputable def JE:Arm:=aE ps1 pb3 false
theorem D9:aA JE:=mkA mA1 mE1 mC1 rfl rfl (fun _ _=>by kernel_rfl) (fun _ _=>by kernel_rfl) (fun _ _=>by kernel_rfl) (fun _=>by kernel_rfl) (by kernel_rfl)
noncomputable def JF:Arm:=aE ps1 pb3 true
theorem Dc:aA JF:=mkA mA1 mE1 mC1 rfl rfl (fun _ _=>by kernel_rfl) (fun _ _=>by kernel_rfl) (fun _ _=>by kernel_rfl) (fun _=>by kernel_rfl) (by kernel_rfl)
noncomputable def JG:Arm:=aE ps1 pb4 false
theorem Dd:aA JG:=mkA mA1 mE1 mC1 rfl rfl (fun _ _=>by kernel_rfl) (fun _ _=>by kernel_rfl) (fun _ _=>by kernel_rfl) (fun _=>by kernel_rfl) (by kernel_rfl)
noncomputable def JH:Arm:=aE ps1 pb4 true
theorem De:aA JH:=mkA mA1 mE1 mC1 rfl rfl (fun _ _=>by kernel_rfl) (fun _ _=>by kernel_rfl) (fun _ _=>by kernel_rfl) (fun _=>by kernel_rfl) (by kernel_rfl)
noncomputable def JI:Arm:=aE ps1 pb5 false
theorem Df:aA JI:=mkA mA1 mE1 mC1 rfl rfl (fun _ _=>by kernel_rfl) (fun _ _=>by kernel_rfl) (fun _ _=>by kernel_rfl) (fun _=>by kernel_rfl) (by kernel_rfl)
noncomputable def JJ:Arm:=aE ps1 pb5 true
theorem Dg:aA JJ:=mkA mA1 mE1 mC1 rfl rfl (fun _ _=>by kernel_rfl) (fun _ _=>by kernel_rfl) (fun _ _=>by kernel_rfl) (fun _=>by kernel_rfl) (by kernel_rfl)
noncomputable def JK:Arm:=aE ps1 pb6 false
theorem Dh:aA JK:=mkA mA1 mE1 mC1 rfl rfl (fun _ _=>by kernel_rfl) (fun _ _=>by kernel_rfl) (fun _ _=>by kernel_rfl) (fun _=>by kernel_rfl) (by kernel_rfl)
noncomputable def JL:Arm:=aE ps1 pb6 true
theorem Di:aA JL:=mkA mA1 mE1 mC1 rfl rfl (fun _ _=>by kernel_rfl) (fun _ _=>by kernel_rfl) (fun _ _=>by kernel_rfl) (fun _=>by kernel_rfl) (by kernel_rfl)
noncomputable def JM:Arm:=aE ps1 pb7 false
theorem Dj:aA JM:=mkA mA1 mE1 mC1 rfl rfl (fun _ _=>by kernel_rfl) (fun _ _=>by kernel_rfl) (fun _ _=>by kernel_rfl) (fun _=>by kernel_rfl) (by kernel_rfl)
noncomputable def JN:Arm:=aE ps1 pb7 true
theorem Dk:aA JN:=mkA mA1 mE1 mC1 rfl rfl (fun _ _=>by kernel_rfl) (fun _ _=>by kernel_rfl) (fun _ _=>by kernel_rfl) (fun _=>by kernel_rfl) (by kernel_rfl)
noncomputable def JO:Arm:=aE ps2 pb0 false
theorem Dl:aA JO:=mkA mA2 mE2 mC2 rfl rfl (fun _ _=>by kernel_rfl) (fun _ _=>by kernel_rfl) (fun _ _=>by kernel_rfl) (fun _=>by kernel_rfl) (by kernel_rfl)
noncomputable def JP:Arm:=aE ps2 pb0 true
theorem Dm:aA JP:=mkA mA2 mE2 mC2 rfl rfl (fun _ _=>by kernel_rfl) (fun _ _=>by kernel_rfl) (fun _ _=>by kernel_rfl) (fun _=>by kernel_rfl) (by kernel_rfl)
noncomputable def JQ:Arm:=aE ps2 pb1 false
theorem Dn:aA JQ:=mkA mA2 mE2 mC2 rfl rfl (fun _ _=>by kernel_rfl) (fun _ _=>by kernel_rfl) (fun _ _=>by kernel_rfl) (fun _=>by kernel_rfl) (by kernel_rfl)
noncomputable def JR:Arm:=aE ps2 pb1 true
theorem Dp:aA JR:=mkA mA2 mE2 mC2 rfl rfl (fun _ _=>by kernel_rfl) (fun _ _=>by kernel_rfl) (fun _ _=>by kernel_rfl) (fun _=>by kernel_rfl) (by kernel_rfl)
noncomputable def JS:Arm:=aE ps2 pb2 false
theorem Dq:aA JS:=mkA mA2 mE2 mC2 rfl rfl (fun _ _=>by kernel_rfl) (fun _ _=>by kernel_rfl) (fun _ _=>by kernel_rfl) (fun _=>by kernel_rfl) (by kernel_rfl)
noncomputable def JT:Arm:=aE ps2 pb2 true
theorem Dr:aA JT:=mkA mA2 mE2 mC2 rfl rfl (fun _ _=>by kernel_rfl) (fun _ _=>by kernel_rfl) (fun _ _=>by kernel_rfl) (fun _=>by kernel_rfl) (by kernel_rfl)
noncomputable def JU:Arm:=aE ps2 pb3 false
theorem Ds:aA JU:=mkA mA2 mE2 mC2 rfl rfl (fun _ _=>by kernel_rfl) (fun _ _=>by kernel_rfl) (fun _ _=>by kernel_rfl) (fun _=>by kernel_rfl) (by kernel_rfl)
noncomputable def JV:Arm:=aE ps2 pb3 true
theorem Dt:aA JV:=mkA mA2 mE2 mC2 rfl rfl (fun _ _=>by kernel_rfl) (fun _ _=>by kernel_rfl) (fun _ _=>by kernel_rfl) (fun _=>by kernel_rfl) (by kernel_rfl)
noncomputable def JW:Arm:=aE ps2 pb4 false
theorem Du:aA JW:=mkA mA2 mE2 mC2 rfl rfl (fun _ _=>by kernel_rfl) (fun _ _=>by kernel_rfl) (fun _ _=>by kernel_rfl) (fun _=>by kernel_rfl) (by kernel_rfl)
noncomputable def JX:Arm:=aE ps2 pb4 true
theorem Dv:aA JX:=mkA mA2 mE2 mC2 rfl rfl (fun _ _=>by kernel_rfl) (fun _ _=>by kernel_rfl) (fun _ _=>by kernel_rfl) (fun _=>by kernel_rfl) (by kernel_rfl)
noncomputable def JY:Arm:=aE ps2 pb5 false
theorem Dw:aA JY:=mkA mA2 mE2 mC2 rfl rfl (fun _ _=>by kernel_rfl) (fun _ _=>by kernel_rfl) (fun _ _=>by kernel_rfl) (fun _=>by kernel_rfl) (by kernel_rfl)
noncomputable def JZ:Arm:=aE ps2 pb5 true
theorem Dy:aA JZ:=mkA mA2 mE2 mC2 rfl rfl (fun _ _=>by kernel_rfl) (fun _ _=>by kernel_rfl) (fun _ _=>by kernel_rfl) (fun _=>by kernel_rfl) (by kernel_rfl)
noncomputable def K1:Arm:=aE ps2 pb6 false
theorem Dz:aA K1:=mkA mA2 mE2 mC2 rfl rfl (fun _ _=>by kernel_rfl) (fun _ _=>by kernel_rfl) (fun _ _=>by kernel_rfl) (fun _=>by kernel_rfl) (by kernel_rfl)
noncomputable def K2:Arm:=aE ps2 pb6 true
theorem DA:aA K2:=mkA mA2 mE2 mC2 rfl rfl (fun _ _=>by kernel_rfl) (fun _ _=>by kernel_rfl) (fun _ _=>by kernel_rfl) (fun _=>by kernel_rfl) (by kernel_rfl)
noncomputable def K3:Arm:=aE ps2 pb7 false
theorem DB:aA K3:=mkA mA2 mE2 mC2 rfl rfl (fun _ _=>by kernel_rfl) (fun _ _=>by kernel_rfl) (fun _ _=>by kernel_rfl) (fun _=>by kernel_rfl) (by kernel_rfl)
noncomputable def K4:Arm:=aE ps2 pb7 true
theorem DC:aA K4:=mkA mA2 mE2 mC2 rfl rfl (fun _ _=>by kernel_rfl) (fun _ _=>by kernel_rfl) (fun _ _=>by kernel_rfl) (fun _=>by kernel_rfl) (by kernel_rfl)
end Mine.Internal.Q
end
section
namespace Mine.Internal.Q
open PySem
theorem jR (q:Nat->Int):∀ (l:List (List Nat × List Nat × D × D)) (i:Nat),(fK q i l).length=l.length
 | [],_=>rfl
 | a :: r,i=>by simp only [fK,List.length_cons,jR q r]
theorem gv (q:Nat->Int) (l:List (List Nat × List Nat × D × D)) (i:Nat):(gu q i l).length=l.length:=by simp [gu,jR]
noncomputable def okT (t:List Nat × List Nat × D × D):Bool:=GDb 0 t.2.2.1 && GDb 0 t.2.2.2 && au t.1 && au t.2.1
theorem yK {t:List Nat × List Nat × D × D} (h:okT t=true) (p:Int):Clo (aI t.1 t.2.1 p t.2.2.1 t.2.2.2):=by
 simp only [okT,Bool.and_eq_true] at h
 exact fun i μ=>.tup (.cons (.str _) (.cons (.str _) (.cons (.int _) (.cons (g9 h.1.1.1 i μ) (.cons (g9 h.1.1.2 i μ) .nil)))))
theorem aH.tks2 {N e pe:Nat} {rows:List D} (q:Nat->Int) {rest:List TK}:∀ (l:List (List Nat × List Nat × D × D)) (i p:Nat),l.all okT=true->cC rows p (gu q i l)->aH N e rows pe rest (p+l.length)->aH N e rows pe (fK q i l++rest) p
 | [],_,_,_,_,h=>h
 | a :: r,i,p,g,s,h=>by
  simp only [List.all_cons,Bool.and_eq_true] at g
  obtain ⟨s1,s2⟩:=cC.head (a:=aI a.1 a.2.1 (q i) a.2.2.1 a.2.2.2) (b:=gu q (i+1) r) s
  refine .tok s1 (yK g.1 _) (aH.tks2 q r (i+1) (p+1) g.2 s2 ?_)
  rw [show p+1+r.length=p+(a :: r).length from Nat.add_right_comm p 1 r.length]
  exact h
noncomputable def mW (a:Arm) (q:Nat->Int) (bad:Bool):bD:={ fst:=(gu q 0 a.toks).headD .none,tree:=a.tree q,arm:=true,bad:=bad,isb:=false,need:=a.m,needB:=0 }
theorem G5 {p:List Nat->Bool} {y:List Nat} (l:List (List Nat)) (h1:(l.all fun y=>!p y)=true) (h2:inN y l=true):p y=false:=by
 induction l with
 | nil=>exact nb h2
 | cons b t ih =>
  rcases (Bool.or_eq_true ..).mp h2 with h2 | h2
  ·exact (bI _ _).mp h2 ▸ (Bool.not_eq_true' _).mp (ak h1).1
  ·exact ih (ak h1).2 h2
theorem aA.first {a:Arm} (A:aA a) (q:Nat->Int) {rows:List D} {p:Nat} (S:cC rows p (gu q 0 a.toks)) :
  (∃ k x q' v w,(mW a q false).fst=aI k x q' v w∧rows[p]?=some (mW a q false).fst∧au k=true∧au x=true∧∀ y,inN y notFirst=true->((eqN af k || eqN aj k) && eqN x y)=false)∧Clo (mW a q false).fst:=by
 obtain ⟨t,r,ht,_⟩:=A.h
 have hb:=A.b
 have hf:=A.f
 rw [ht] at S hb hf
 simp only [Bool.and_eq_true,List.all_cons,List.take,List.all_nil,Bool.and_true] at hb hf
 have g:=hb.2.1
 have e1:(mW a q false).fst=aI t.1 t.2.1 (q 0) t.2.2.1 t.2.2.2:=by simp [mW,ht,gu,fK,TK.d]
 obtain ⟨s1,_⟩:=cC.head (a:=aI t.1 t.2.1 (q 0) t.2.2.1 t.2.2.2) (b:=gu q 1 r) S
 refine ⟨⟨t.1,t.2.1,q 0,t.2.2.1,t.2.2.2,e1,by rw [e1];exact s1,g.1.2,g.2,?_⟩,?_⟩
 ·exact fun y=>G5 (p:=fun y=>(eqN af t.1 || eqN aj t.1) && eqN t.2.1 y) notFirst hf
 ·rw [e1]
  refine yK ?_ _
  simp only [okT,Bool.and_eq_true]
  exact g
theorem aA.okT {a:Arm} (A:aA a):a.toks.all okT=true:=by
 have hb:=A.b
 simp only [Bool.and_eq_true] at hb
 exact hb.2
theorem Ms:∀ t ∈ iw,okT t=true:=by decide
theorem Mt:∀ t ∈ xC,okT t=true:=by decide
theorem Mu:∀ l ∈ jn,l.all okT=true:=by decide
theorem l7 {a:Arm} (A:aA a) (q:Nat->Int) {rows:List D} {p:Nat} (hl:rows.length≤lim) (S:cC rows p (gu q 0 a.toks)) {f:List Nat × List Nat × D × D} (hf:f ∈ (bif a.bad then xC else iw)) {qf:Int} (hF:rows[p+a.toks.length]?=some (aI f.1 f.2.1 qf f.2.2.1 f.2.2.2)) :
  dP 300 18 rows p a.toks.length (mW a q false):=by
 obtain ⟨h1,h2⟩:=A.first q S
 have hfo:okT f=true:=by
  cases hb:a.bad with
  | true=>rw [hb] at hf;exact Mt f hf
  | false=>rw [hb] at hf;exact Ms f hf
 have ct:Clo (a.tree q):=g9 (A.tr q).2.1
 refine ⟨h1,h2,ct,(fun h=>nomatch h),fun _=>?_⟩
 have T:aH 0 4 rows (p+a.toks.length+1) (fK q 0 a.toks++[.t f.1 f.2.1 qf f.2.2.1 f.2.2.2]) p:=aH.tks2 q a.toks 0 p A.okT S (.tok hF (yK hfo _) .nil)
 exact c8 (Nat.le_refl _) hl T (A.ok q qf f hf) dW ct
theorem By {a:Arm} (A:aA a) (hbad:a.bad=true) (q q':Nat->Int) {rows:List D} {p:Nat} (hl:rows.length≤lim) (S:cC rows p (gu q 0 a.toks)) {l:List (List Nat × List Nat × D × D)} (hL:l ∈ jn) (S2:cC rows (p+a.toks.length) (gu q' 0 l)) :
  dP 300 18 rows p a.toks.length (mW a q true):=by
 obtain ⟨h1,h2⟩:=A.first q S
 have ct:Clo (a.tree q):=g9 (A.tr q).2.1
 refine ⟨h1,h2,ct,(fun h=>nomatch h),fun _=>?_⟩
 have T0:aH 0 4 rows (p+a.toks.length+l.length) (fK q' 0 l++[]) (p+a.toks.length):=aH.tks2 q' l 0 _ (Mu l hL) S2 .nil
 rw [List.append_nil] at T0
 have T:=aH.tks2 q a.toks 0 p A.okT S T0
 exact ef (Nat.le_refl _) hl T (A.err hbad q q' l hL) dW
noncomputable def bO:List Arm->List Nat
 | []=>[125]
 | a :: l=>a.text++32 :: bO l
noncomputable def dK:List Arm->Nat->List D
 | [],P=>[aI af [125] (P:Int) .none .none]
 | a :: l,P=>gu (pT P a.offs) 0 a.toks++dK l (P+a.text.length+1)
noncomputable def bT:List Arm->Nat
 | []=>1
 | a :: l=>a.toks.length+bT l
noncomputable def Kz:List Arm->Nat->Nat
 | [],P=>P
 | a :: l,P=>Kz l (P+a.text.length+1)
noncomputable def fm:List Arm->Nat->List bD
 | [],_=>[]
 | a :: l,P=>mW a (pT P a.offs) false :: fm l (P+a.text.length+1)
noncomputable def eN:List Arm->Bool
 | []=>true
 | [_]=>true
 | a :: b :: r=>!a.bad && eN (b :: r)
noncomputable def aS (l:List Arm):Prop:=∀ a ∈ l,aA a
theorem mG {l:List Arm} (h:aS l):∃ c r,bO l=c :: r∧c ∈ nc:=by
 cases l with
 | nil=>exact ⟨125,[],rfl,by decide⟩
 | cons a l =>
  obtain ⟨c,r,e,hc⟩:=(h a (by simp)).hc
  exact ⟨c,r++32 :: bO l,by simp only [bO,e,List.cons_append],hc⟩
theorem oh:∀ (l:List Arm) (P:Nat),(dK l P).length=bT l
 | [],P=>rfl
 | a :: l,P=>by simp only [dK,bT,List.length_append,gv,oh l]
theorem Gj (P:Nat):bH 1 P [125]=some ([aI af [125] (P:Int) .none .none],P+1,[]):=by kernel_rfl
theorem M8:∀ (l:List Arm) (P:Nat),aS l->bH (bT l) P (bO l)=some (dK l P,P+(bO l).length,[])
 | [],P,_=>Gj P
 | a :: l,P,h=>by
  obtain ⟨c,r,e,hc⟩:=mG (fun x hx=>h x (List.mem_cons_of_mem _ hx):aS l)
  have h1:=(h a (by simp)).lex P r c hc
  rw [← e] at h1
  have h2:=M8 l (P+a.text.length+1) (fun x hx=>h x (List.mem_cons_of_mem _ hx))
  have:=iT _ _ _ _ _ _ _ h1 h2
  simp only [bO,bT,dK]
  rw [this]
  congr 3
  simp;exact (Nat.add_right_comm _ 1 _).trans (congrArg (·+1) (Nat.add_assoc P _ _))
theorem jM {b:Arm} (B:aA b) (l:List Arm) (P:Nat) {rows:List D} {p:Nat} (S:cC rows p (dK (b :: l) P)):∃ f qf,f ∈ iw∧rows[p]?=some (aI f.1 f.2.1 qf f.2.2.1 f.2.2.2):=by
 obtain ⟨t,r,ht,h⟩:=B.h
 simp only [dK,ht] at S
 obtain ⟨s1,_⟩:=S.app
 exact ⟨t,_,h,(cC.head (a:=aI t.1 t.2.1 (pT P b.offs 0) t.2.2.1 t.2.2.2) (b:=gu (pT P b.offs) 1 r) s1).1⟩
theorem rL (q:Nat->Int):∀ (a b:List (List Nat × List Nat × D × D)) (i:Nat),fK q i (a++b)=fK q i a++fK q (i+a.length) b
 | [],b,i=>by simp [fK]
 | x :: a,b,i=>by
  simp only [List.cons_append,fK,rL q a b,List.length_cons]
  rw [show i+1+a.length=i+(a.length+1) from Nat.add_right_comm i 1 a.length]
theorem ow {pe:Nat} {rows:List D} (hl:rows.length≤lim) {rest:List TK}:∀ (l:List Arm) (P p:Nat),aS l->eN l=true->cC rows p (dK l P)->aH 300 18 rows pe rest (p+bT l) ->
  aH 300 18 rows pe ((fm l P).map .h++(.t af [125] ((Kz l P:Nat):Int) .none .none :: rest)) p
 | [],P,p,_,_,S,T=>by
  exact .tok S.head.1 (bE _ _ _) T
 | a :: l,P,p,h,hf,S,T=>by
  have A:=h a (by simp)
  simp only [dK] at S
  obtain ⟨S1,S2⟩:=S.app
  rw [gv] at S2
  have fl:eN l=true:=by
   cases l with
   | nil=>rfl
   | cons b r=>simp only [eN,Bool.and_eq_true] at hf;exact hf.2
  have T2:aH 300 18 rows pe rest (p+a.toks.length+bT l):=by simp only [bT] at T;rw [Nat.add_assoc];exact T
  have ih:=ow hl l (P+a.text.length+1) (p+a.toks.length) (fun x hx=>h x (List.mem_cons_of_mem _ hx)) fl S2 T2
  refine .hole ?_ ih
  cases l with
  | nil=>exact l7 A _ hl S1 (f:=(af,[125],.none,.none)) (by cases a.bad <;> simp [iw,xC]) S2.head.1
  | cons b r =>
   simp only [eN,Bool.and_eq_true] at hf
   obtain ⟨f,qf,h1,h2⟩:=jM (h b (by simp)) r _ S2
   have hb:a.bad=false:=by simpa using hf.1
   exact l7 A _ hl S1 (f:=f) (by rw [hb];exact h1) h2
theorem rM {rows:List D} (hl:rows.length≤lim):∀ (l:List Arm) (P p:Nat),aS l->eN l=false->cC rows p (dK l P) ->
  ∃ (pe:Nat) (hs:List bD) (hb:bD),hs.length+2≤l.length∧(∀ h ∈ hs,h.arm=true∧h.bad=false)∧hb.arm=true∧hb.bad=true∧aH 300 18 rows pe (hs.map .h++[.h hb]) p
 | [],_,_,_,hf,_=>by cases hf
 | [_],_,_,_,hf,_=>by cases hf
 | a :: b :: l,P,p,h,hf,S=>by
  have A:=h a (by simp)
  have B:=h b (by simp)
  rw [dK] at S
  obtain ⟨S1,S2⟩:=S.app
  rw [gv] at S2
  cases hb:a.bad with
  | true =>
   obtain ⟨lE,hE,r,hr⟩:=B.ne
   have S3:cC rows (p+a.toks.length) (gu (pT (P+a.text.length+1) b.offs) 0 lE):=by
    simp only [dK,hr] at S2
    have:=S2.app.1
    unfold gu at this
    rw [rL,List.map_append] at this
    exact this.app.1
   exact ⟨_,[],mW a (pT P a.offs) true,by simp,(fun _ h=>by cases h),rfl,rfl,.hole (By A hb _ _ hl S1 hE S3) .nil⟩
  | false =>
   simp only [eN,hb,Bool.not_false,Bool.true_and] at hf
   obtain ⟨pe,hs,hb',g1,g2,g3,g4,g5⟩:=rM hl (b :: l) (P+a.text.length+1) (p+a.toks.length) (fun x hx=>h x (List.mem_cons_of_mem _ hx)) hf S2
   obtain ⟨f,qf,h1,h2⟩:=jM B l _ S2
   refine ⟨pe,mW a (pT P a.offs) false :: hs,hb',by simp at g1 ⊢;exact g1,?_,g3,g4,.hole (l7 A _ hl S1 (f:=f) (by rw [hb];exact h1) h2) g5⟩
   intro x hx
   rcases List.mem_cons.mp hx with rfl | hx
   ·exact ⟨rfl,rfl⟩
   ·exact g2 x hx
noncomputable def FP (q0 q1 q2:Int):List TK:=[.t aj [109,97,116,99,104] q0 .none .none,.t aj [99] q1 .none .none,.t af [123] q2 .none .none]
noncomputable def good (h:bD):bD:={ h with arm:=true,bad:=false }
theorem FA {hs:List bD} (h:∀ h ∈ hs,h.arm=true∧h.bad=false):hs.map good=hs :=
 (List.map_congr_left (g:=id) fun x hx=>by
  obtain ⟨e1,e2⟩:=h x hx
  show (⟨_,_,true,false,_,_,_⟩:bD)=x
  rw [← e1,← e2]).trans (List.map_id hs)
theorem FT {M:List bD->Prop} (h0:M []) (h1:∀ a,M [a]) (h2:∀ a b,M [a,b]) (h3:∀ a b c,M [a,b,c]):∀ l:List bD,l.length≤3->M l
 | [],_=>h0
 | [a],_=>h1 a
 | [a,b],_=>h2 a b
 | [a,b,c],_=>h3 a b c
 | _ :: _ :: _ :: _ :: l,h=>absurd h (Nat.not_le_of_gt (Nat.le_add_left 4 l.length))
theorem PA {M:List bD->Prop} (h0:M []) (h1:∀ a l,l.length≤3->M (a :: l)):∀ l:List bD,l.length≤4->M l
 | [],_=>h0
 | a :: l,h=>h1 a l (Nat.le_of_succ_le_succ h)
noncomputable def v9 (q0 q1 q2:Int) (hs:List bD) (r:List TK):AS:={ toks:=FP q0 q1 q2++(hs.map .h++r),prev:=.none,off:=0,ls:=[] }
noncomputable def Mj (q0 q1 q4:Int) (hs:List bD):Option (D × List TK × Nat × Nat × List Nat):=some (.tup [.str [109,97,116,99,104],.int q0,c7 [99] q1,.tup (hs.map (·.tree))],[.t fS [] q4 .none .none],0,3,hs.map fun h=>2+h.need)
noncomputable def Runs (q0 q1 q2 q3 q4:Int) (hs:List bD):Prop:=d7 ((evA tab 300).c 16 399 [.fl []] (v9 q0 q1 q2 hs (.t af [125] q3 .none .none :: [.t fS [] q4 .none .none])))=Mj q0 q1 q4 hs
theorem Runs.k {q0 q1 q2 q3 q4:Int} {hs:List bD} (e:d7 ((evA tab 300).c 16 399 [.fl []] (v9 q0 q1 q2 hs (.t af [125] q3 .none .none :: [.t fS [] q4 .none .none])))=Mj q0 q1 q4 hs):Runs q0 q1 q2 q3 q4 hs:=e
theorem Aw (q0 q1 q2 q3 q4:Int) (hs:List bD) (hl:hs.length≤4) (h:∀ h ∈ hs,h.arm=true∧h.bad=false):Runs q0 q1 q2 q3 q4 hs :=
 FA h ▸ PA (M:=fun l=>Runs q0 q1 q2 q3 q4 (l.map good)) (Runs.k (by kernel_rfl)) (fun a=>FT (M:=fun l=>Runs q0 q1 q2 q3 q4 (good a :: l.map good)) (Runs.k (by kernel_rfl)) (fun b=>Runs.k (by kernel_rfl)) (fun b c=>Runs.k (by kernel_rfl)) fun b c d=>Runs.k (by kernel_rfl)) hs hl
noncomputable def jE (q0 q1 q2:Int) (hb:bD) (hs:List bD):Prop:=ie ((evA tab 300).c 16 399 [.fl []] (v9 q0 q1 q2 hs [.h hb]))=true
theorem jE.k {q0 q1 q2:Int} {hb:bD} {hs:List bD} (e:ie ((evA tab 300).c 16 399 [.fl []] (v9 q0 q1 q2 hs [.h hb]))=true):jE q0 q1 q2 hb hs:=e
theorem DQ (q0 q1 q2:Int) (hb:bD) (h1:hb.arm=true) (h2:hb.bad=true) (hs:List bD) (hl:hs.length≤3) (h:∀ h ∈ hs,h.arm=true∧h.bad=false):jE q0 q1 q2 hb hs:=by
 have e:{ hb with arm:=true,bad:=true }=hb:=congr (congrArg (fun a b=>({ hb with arm:=a,bad:=b }:bD)) h1.symm) h2.symm
 exact e ▸ FA h ▸ FT (M:=fun l=>jE q0 q1 q2 { hb with arm:=true,bad:=true } (l.map good)) (jE.k (by kernel_rfl)) (fun b=>jE.k (by kernel_rfl)) (fun b c=>jE.k (by kernel_rfl)) (fun b c d=>jE.k (by kernel_rfl)) hs hl
end Mine.Internal.Q
end
section
namespace Mine.Internal.Q
open PySem
noncomputable def cE:List Nat:=[109,97,116,99,104,32,99,32,123]
noncomputable def eX (l:List Arm):List D:=[aI aj [109,97,116,99,104] 0 .none .none,aI aj [99] 6 .none .none,aI af [123] 8 .none .none]++dK l 10
noncomputable def xh (l:List Arm):D:=.tup [.str [109,97,116,99,104],.int 0,c7 [99] 0,.tup (l.map (·.law))]
theorem wQ (r:List Nat):∀ c ∈ nc,bH 3 0 (cE++32 :: c :: r)=some ([aI aj [109,97,116,99,104] 0 .none .none,aI aj [99] 6 .none .none,aI af [123] 8 .none .none],10,c :: r):=List.map_inj_left.mp (by kernel_rfl)
theorem xO {l:List Arm} (h:aS l):bH (3+bT l) 0 (cE++32 :: bO l)=some (eX l,10+(bO l).length,[]):=by
 obtain ⟨c,r,e,hc⟩:=mG h
 have h1:=wQ r c hc
 rw [← e] at h1
 exact iT _ _ _ _ _ _ _ h1 (M8 l 10 h)
theorem qx {a:Arm} (A:aA a):au a.text=true∧a.text.length≤40∧a.toks.length≤20∧a.m≤20:=by
 have hb:=A.b
 simp only [Bool.and_eq_true] at hb
 exact ⟨hb.1.1.1.1,Nat.ble_eq.mp hb.1.1.1.2,Nat.ble_eq.mp hb.1.1.2,Nat.ble_eq.mp hb.1.2⟩
theorem aS.tl {a:Arm} {l:List Arm} (h:aS (a :: l)):aS l:=fun x hx=>h x (.tail _ hx)
theorem xX {l:List Arm}:aS l->au (bO l)=true:=by
 induction l with
 | nil=>exact fun _=>rfl
 | cons a l ih=>exact fun h=>iG (qx (h a (.head _))).1 (ih h.tl)
theorem xY {l:List Arm}:aS l->(bO l).length≤41 * l.length+1:=by
 induction l with
 | nil=>exact fun _=>Nat.le_refl 1
 | cons a l ih=>exact fun h=>Nat.le_trans (Nat.le_of_eq List.length_append) (Nat.le_trans (Nat.add_le_add (qx (h a (.head _))).2.1 (Nat.succ_le_succ (ih h.tl))) (Nat.le_of_eq (Nat.add_comm 40 _)))
theorem wB {l:List Arm}:aS l->bT l≤20 * l.length+1:=by
 induction l with
 | nil=>exact fun _=>Nat.le_refl 1
 | cons a l ih=>exact fun h=>Nat.le_trans (Nat.add_le_add (qx (h a (.head _))).2.2.1 (ih h.tl)) (Nat.le_of_eq (Nat.add_comm 20 _))
theorem t9 {l:List Arm}:∀ (P:Nat),(fm l P).length=l.length:=by
 induction l with
 | nil=>exact fun _=>rfl
 | cons a l ih=>exact fun P=>congrArg Nat.succ (ih _)
theorem t7 {l:List Arm}:∀ (P:Nat),aS l->∀ h ∈ fm l P,(h.arm=true∧h.bad=false)∧h.need≤20∧GDb 12 h.tree=true:=by
 induction l with
 | nil=>exact fun _ _ _ q=>absurd q List.not_mem_nil
 | cons a l ih=>exact fun P h=>List.forall_mem_cons.mpr ⟨⟨⟨rfl,rfl⟩,(qx (h a (.head _))).2.2.2,((h a (.head _)).tr _).2.1⟩,ih _ h.tl⟩
theorem t8 {l:List Arm}:∀ (P:Nat),aS l->bR ((fm l P).map (·.tree))=l.map (·.law):=by
 induction l with
 | nil=>exact fun _ _=>rfl
 | cons a l ih=>exact fun P h=>(congr (congrArg List.cons ((h a (.head _)).tr _).1) (ih _ h.tl):_ :: _=_ :: _)
theorem wU {l:List Arm}:∀ (P:Nat),aS l->dJ ((fm l P).map (·.tree))≤100 * l.length:=by
 induction l with
 | nil=>exact fun _ _=>Nat.le_refl 0
 | cons a l ih=>exact fun P h=>Nat.le_trans (Nat.add_le_add (Nat.le_of_ble_eq_true ((h a (.head _)).tr _).2.2.2) (ih _ h.tl)) (Nat.le_of_eq (Nat.add_comm _ _))
theorem AM {d:D} {r:List D} (h:isTup d=true):gQ (d :: r)=false:=by
 cases d with
 | tup _=>rfl
 | _=>exact nb h
theorem qV {l:List Arm} (P:Nat) (h:aS l):gQ ((fm l P).map (·.tree))=false:=by
 cases l with
 | nil=>rfl
 | cons a l=>exact AM ((h a (.head _)).tr _).2.2.1
theorem xQ {rows:List D} {p:Nat} {a b c:List D} (h:rows=a++b++c) (hp:p=a.length):cC rows p b:=by
 intro m hm
 rw [h,hp,List.append_assoc,List.getElem?_append_right (Nat.le_add_right ..),Nat.add_sub_cancel_left,List.getElem?_append_left hm]
noncomputable def r9 (hs:List bD):D:=.tup [.str [109,97,116,99,104],.int 0,c7 [99] 6,.tup (hs.map (·.tree))]
theorem all_map {hs:List bD} (h:∀ x ∈ hs,GDb 18 x.tree=true):(hs.map (·.tree)).all (GDb 18)=true:=List.all_eq_true.mpr fun x hx=>by
 obtain ⟨y,hy,rfl⟩:=List.mem_map.mp hx
 exact h y hy
theorem zU {hs:List bD} (h:∀ x ∈ hs,GDb 18 x.tree=true):GDb 20 (r9 hs)=true:=by
 show (true && (true && ((true && (true && (true && true))) && ((hs.map (·.tree)).all (GDb 18) && true))))=true
 rw [all_map h];rfl
theorem zV {hs:List bD} (h:dJ (hs.map (·.tree))≤400):szD (r9 hs)≤600:=by
 show 2+(1+(1+(_+((2+dJ (hs.map (·.tree)))+0))))≤600
 exact Nat.le_trans (Nat.add_le_add_left (Nat.add_le_add_left (Nat.add_le_add_left (Nat.add_le_add_left (Nat.add_le_add_left h 2) _) 1) 1) 2) (Nat.le_of_ble_eq_true (by kernel_rfl))
theorem needs {hs:List bD} (h:∀ x ∈ hs,x.need≤20):gh 3 (hs.map fun h=>2+h.need)≤60:=by
 have:=(jm (D0:=0) (hs.map fun h=>2+h.need) 3).mpr ⟨by decide,fun x hx=>by
  obtain ⟨y,hy,rfl⟩:=List.mem_map.mp hx
  exact Int.le_trans (Int.le_of_eq (Int.zero_add _)) (Int.ofNat_le.mpr (Nat.le_trans (Nat.add_le_add_left (h y hy) 2) (by decide)))⟩
 exact Int.ofNat_le.mp (Int.le_trans (Int.le_of_eq (Int.zero_add _).symm) this)
theorem xr {l:List Arm} {hs:List bD} (g3:bR (hs.map (·.tree))=l.map (·.law)) (g5:gQ (hs.map (·.tree))=false):bF (r9 hs)=xh l:=by
 have:n5 (hs.map (·.tree)) (bR (hs.map (·.tree)))=l.map (·.law):=by
  unfold n5
  rw [g5,g3]
  rfl
 simp only [r9,bF,bR,this,xh]
 rfl
structure Laid (l:List Arm) (L:Nat):Prop where
 len:(eX l).length=3+bT l
 lim:(eX l++[ay L]).length≤lim
 S:cC (eX l++[ay L]) 3 (dK l 10)
 T:∀ {pe:Nat} {r:List TK},aH 300 18 (eX l++[ay L]) pe r 3->aH 300 18 (eX l++[ay L]) pe (FP 0 6 8++r) 0
 E:aH 300 18 (eX l++[ay L]) (3+bT l+1) [.t fS [] (L:Int) .none .none] (3+bT l)
theorem laid {l:List Arm} (hc:bT l≤100) (L:Nat):Laid l L:=by
 have hrl:(eX l).length=3+bT l:=(List.length_append ..).trans (congrArg (3+·) (oh l 10))
 refine ⟨hrl,by rw [List.length_append,hrl];exact Nat.le_trans (Nat.succ_le_succ (Nat.add_le_add_left hc 3)) (by decide),xQ (a:=[aI aj [109,97,116,99,104] 0 .none .none,aI aj [99] 6 .none .none,aI af [123] 8 .none .none]) (c:=[ay L]) rfl rfl,fun T=>?_,.tok ?_ (bE _ _ _) .nil⟩
 ·exact .tok rfl (bE _ _ _) (.tok rfl (bE _ _ _) (.tok rfl (bE _ _ _) T))
 ·rw [← hrl,List.getElem?_append_right (Nat.le_refl _),Nat.sub_self];rfl
theorem xK {l:List Arm} (h:aS l) (hl4:l.length≤4) (hf:eN l=true) {L:Nat} (Y:Laid l L) (σ:Sto) (k dp:Nat) (hk:6000≤k) (hdp:60≤dp):ReadsAs σ (eX l++[ay L]) k dp (xh l):=by
 have g2:=t7 10 h
 have T:=Y.T (ow Y.lim l 10 3 h hf Y.S Y.E)
 rw [← Y.len,← Nat.zero_add (eX l).length] at T
 have gd:=zU fun x hx=>c9 (by decide) (g2 x hx).2.2
 have C:Claim (300+300+100) (18+16) _ 0 _ 399 [] _ (some (r9 (fm l 10))):=c8 (by decide) Y.lim T (Aw 0 6 8 _ (L:Int) (fm l 10) (t9 10 ▸ hl4) fun x hx=>(g2 x hx).1) dW (g9 gd)
 have sz:=zV (Nat.le_trans (wU 10 h) (Nat.mul_le_mul_left 100 hl4))
 exact xr (t8 10 h) (qV 10 h) ▸ rz (nd:=20) rfl C Y.lim (by decide) gd (Nat.le_trans sz (by decide)) σ (needs fun x hx=>(g2 x hx).2.1) k dp (Nat.le_trans (Nat.add_le_add_right (Nat.add_le_add_left sz _) 300) (Nat.le_trans (by decide) hk)) (Nat.le_trans (by decide) hdp)
theorem tZ {l:List Arm} (h:aS l) (hl4:l.length≤4) (hf:eN l=false) {L:Nat} (Y:Laid l L) (σ:Sto) (k dp:Nat) (hk:6000≤k) (hdp:60≤dp):ReadsAs σ (eX l++[ay L]) k dp .none:=by
 obtain ⟨pe,hs,hb,g1,g2,g3,g4,g5⟩:=rM Y.lim l 10 3 h hf Y.S
 exact o9 (ef (len:=0) (need:=0) (by decide) Y.lim (Y.T g5) (DQ 0 6 8 hb g3 g4 hs (Nat.le_of_succ_le (Nat.le_of_succ_le_succ (Nat.le_trans g1 hl4))) g2) dW) σ k dp (Nat.le_trans (by decide) hk) (Nat.le_trans (by decide) hdp)
theorem tK {l:List Arm} (h:aS l) (hl4:l.length≤4) {σ:Sto} (k dp:Nat) (hk:6000≤k) :
  (evn false fnT (k+2000)).c (dp+8) 132 [.str (cE++32 :: bO l)] σ=.ok (.cell (σ.length+1)) (nw σ (eX l++[ay (cE++32 :: bO l).length])) ∧
  ∀ k' dp',6000≤k'->60≤dp'->ReadsAs σ (eX l++[ay (cE++32 :: bO l).length]) k' dp' (bif eN l then xh l else .none):=by
 have b2:=xY h
 have b3:=wB h
 have hlen:(cE++32 :: bO l).length=9+((bO l).length+1):=List.length_append
 have b4:(bO l).length≤165:=Nat.le_trans b2 (Nat.succ_le_succ (Nat.mul_le_mul_left 41 hl4))
 have b5:bT l≤81:=Nat.le_trans b3 (Nat.succ_le_succ (Nat.mul_le_mul_left 20 hl4))
 have b6:(cE++32 :: bO l).length≤175:=by rw [hlen];exact Nat.add_le_add_left (Nat.succ_le_succ b4) 9
 have Y:=laid (Nat.le_trans b3 (Nat.succ_le_succ (Nat.le_trans (Nat.mul_le_mul_left 20 hl4) (by decide)))) (cE++32 :: bO l).length
 refine ⟨jB (text:=cE++32 :: bO l) (Nat.le_trans b6 (by decide)) (iG (by decide) (xX h)) rfl (Nat.le_trans (Nat.add_le_add_left b5 3) (by decide)) (xO h) (k+2000) dp σ (Nat.le_trans (Nat.add_le_add_right (Nat.add_le_add (Nat.add_le_add_left b5 3) b6) 500) (Nat.le_trans (by decide:3+81+175+500≤6000) (Nat.le_trans hk (Nat.le_add_right _ _)))),fun k' dp' hk' hdp'=>?_⟩
 cases hf:eN l with
 | true=>exact xK h hl4 hf Y σ k' dp' hk' hdp'
 | false=>exact tZ h hl4 hf Y σ k' dp' hk' hdp'
noncomputable def jy:List D:=[.tup [.str [48],.tup [.str [108,105,116],.int 0,.int 0]],.tup [.str [45,49],.tup [.str [108,105,116],.int 0,.int (-1)]],.tup [.str [120],.tup [.str [110,97,109,101],.int 0,.str [120],.bool false,.bool false,.none]]]
noncomputable def bq:D:=.tup [.str [105,110,116],.int 0,.int 7,.none]
noncomputable def ia (t:D):D:=.tup [.str [98,108,111,99,107],.int 0,.tup [],t]
noncomputable def nR:List D:=[.tup [.str [55],bq,.bool false],.tup [.str [102,40,55,41],.tup [.str [99,97,108,108],.int 0,c7 [102] 0,.tup [bq]],.bool false],.tup [.str [123,32,55,32,125,46,109,40,41],.tup [.str [109,101,116,104,111,100],.int 0,ia bq,.str [109],.tup [],.tup []],.bool false],.tup [.str [123,32,55,32,125],ia bq,.bool true],.tup [.str [105,102,32,99,32,123,32,55,32,125,32,101,108,115,101,32,123,32,55,32,125],.tup [.str [105,102],.int 0,c7 [99] 0,ia bq,ia bq],.bool true],.tup [.str [39,108,58,32,108,111,111,112,32,123,32,55,32,125],.tup [.str [108,111,111,112],.int 0,.str [39,108],ia bq],.bool true],.tup [.str [109,97,116,99,104,32,99,32,123,32,125],.tup [.str [109,97,116,99,104],.int 0,c7 [99] 0,.tup []],.bool true],.tup [.str [119,104,105,108,101,32,99,32,123,32,125],.tup [.str [119,104,105,108,101],.int 0,.none,c7 [99] 0,.tup [.str [98,108,111,99,107],.int 0,.tup [],.none]],.bool true]]
noncomputable def sO:List D:=[.str [],.str [44]]
structure Bt (s b c:Nat) (a:Arm) (x1 y1 z:List Nat) (x2 y2:D) (y3:Bool):Prop where
 h1:jy[s]?=some (.tup [.str x1,x2])
 h2:nR[b]?=some (.tup [.str y1,y2,.bool y3])
 h3:sO[c]?=some (.str z)
 A:aA a
 t:a.text=x1++([32,61,62,32]++(y1++z))
 l:a.law=.tup [x2,.none,y2]
 b:a.bad=(eqN z [] && !y3)
 kb:(Nat.ble x1.length 40 && Nat.ble y1.length 40 && Nat.ble z.length 40 && au z)=true
theorem Bt.k {s b c:Nat} {a:Arm} {x1 y1 z:List Nat} {x2 y2:D} {y3:Bool} (P:Bt s b c a x1 y1 z x2 y2 y3):x1.length≤40∧y1.length≤40∧z.length≤40∧au z=true:=by
 have h:=P.kb
 rw [Bool.and_eq_true,Bool.and_eq_true,Bool.and_eq_true] at h
 exact ⟨Nat.le_of_ble_eq_true h.1.1.1,Nat.le_of_ble_eq_true h.1.1.2,Nat.le_of_ble_eq_true h.1.2,h.2⟩
inductive Picked (s b c:Nat):Prop
 | mk (a:Arm) (x1 y1 z:List Nat) (x2 y2:D) (y3:Bool) (P:Bt s b c a x1 y1 z x2 y2 y3):Picked s b c
noncomputable def Mz (s b:Nat):Prop:=fR (Picked s b) 2
noncomputable def My (s:Nat):Prop:=fR (Mz s) 8
theorem picks:fR My 3:=⟨⟨⟨trivial,
⟨⟨⟨⟨⟨⟨⟨⟨trivial,
 ⟨⟨trivial,⟨Jh,_,_,_,_,_,_,⟨rfl,rfl,rfl,CK,rfl,rfl,rfl,rfl⟩⟩⟩,⟨Ji,_,_,_,_,_,_,⟨rfl,rfl,rfl,CL,rfl,rfl,rfl,rfl⟩⟩⟩⟩,
 ⟨⟨trivial,⟨Jj,_,_,_,_,_,_,⟨rfl,rfl,rfl,CM,rfl,rfl,rfl,rfl⟩⟩⟩,⟨Jk,_,_,_,_,_,_,⟨rfl,rfl,rfl,CN,rfl,rfl,rfl,rfl⟩⟩⟩⟩,
 ⟨⟨trivial,⟨Jl,_,_,_,_,_,_,⟨rfl,rfl,rfl,CO,rfl,rfl,rfl,rfl⟩⟩⟩,⟨Jm,_,_,_,_,_,_,⟨rfl,rfl,rfl,CP,rfl,rfl,rfl,rfl⟩⟩⟩⟩,
 ⟨⟨trivial,⟨Jo,_,_,_,_,_,_,⟨rfl,rfl,rfl,CQ,rfl,rfl,rfl,rfl⟩⟩⟩,⟨Jp,_,_,_,_,_,_,⟨rfl,rfl,rfl,CR,rfl,rfl,rfl,rfl⟩⟩⟩⟩,
 ⟨⟨trivial,⟨Jq,_,_,_,_,_,_,⟨rfl,rfl,rfl,CS,rfl,rfl,rfl,rfl⟩⟩⟩,⟨Jr,_,_,_,_,_,_,⟨rfl,rfl,rfl,CT,rfl,rfl,rfl,rfl⟩⟩⟩⟩,
 ⟨⟨trivial,⟨Js,_,_,_,_,_,_,⟨rfl,rfl,rfl,CU,rfl,rfl,rfl,rfl⟩⟩⟩,⟨Jt,_,_,_,_,_,_,⟨rfl,rfl,rfl,CV,rfl,rfl,rfl,rfl⟩⟩⟩⟩,
 ⟨⟨trivial,⟨Ju,_,_,_,_,_,_,⟨rfl,rfl,rfl,CW,rfl,rfl,rfl,rfl⟩⟩⟩,⟨Jv,_,_,_,_,_,_,⟨rfl,rfl,rfl,CX,rfl,rfl,rfl,rfl⟩⟩⟩⟩,
 ⟨⟨trivial,⟨Jw,_,_,_,_,_,_,⟨rfl,rfl,rfl,CY,rfl,rfl,rfl,rfl⟩⟩⟩,⟨Jx,_,_,_,_,_,_,⟨rfl,rfl,rfl,CZ,rfl,rfl,rfl,rfl⟩⟩⟩⟩⟩,
⟨⟨⟨⟨⟨⟨⟨⟨trivial,
 ⟨⟨trivial,⟨Jy,_,_,_,_,_,_,⟨rfl,rfl,rfl,D3,rfl,rfl,rfl,rfl⟩⟩⟩,⟨Jz,_,_,_,_,_,_,⟨rfl,rfl,rfl,D4,rfl,rfl,rfl,rfl⟩⟩⟩⟩,
 ⟨⟨trivial,⟨JA,_,_,_,_,_,_,⟨rfl,rfl,rfl,D5,rfl,rfl,rfl,rfl⟩⟩⟩,⟨JB,_,_,_,_,_,_,⟨rfl,rfl,rfl,D6,rfl,rfl,rfl,rfl⟩⟩⟩⟩,
 ⟨⟨trivial,⟨JC,_,_,_,_,_,_,⟨rfl,rfl,rfl,D7,rfl,rfl,rfl,rfl⟩⟩⟩,⟨JD,_,_,_,_,_,_,⟨rfl,rfl,rfl,D8,rfl,rfl,rfl,rfl⟩⟩⟩⟩,
 ⟨⟨trivial,⟨JE,_,_,_,_,_,_,⟨rfl,rfl,rfl,D9,rfl,rfl,rfl,rfl⟩⟩⟩,⟨JF,_,_,_,_,_,_,⟨rfl,rfl,rfl,Dc,rfl,rfl,rfl,rfl⟩⟩⟩⟩,
 ⟨⟨trivial,⟨JG,_,_,_,_,_,_,⟨rfl,rfl,rfl,Dd,rfl,rfl,rfl,rfl⟩⟩⟩,⟨JH,_,_,_,_,_,_,⟨rfl,rfl,rfl,De,rfl,rfl,rfl,rfl⟩⟩⟩⟩,
 ⟨⟨trivial,⟨JI,_,_,_,_,_,_,⟨rfl,rfl,rfl,Df,rfl,rfl,rfl,rfl⟩⟩⟩,⟨JJ,_,_,_,_,_,_,⟨rfl,rfl,rfl,Dg,rfl,rfl,rfl,rfl⟩⟩⟩⟩,
 ⟨⟨trivial,⟨JK,_,_,_,_,_,_,⟨rfl,rfl,rfl,Dh,rfl,rfl,rfl,rfl⟩⟩⟩,⟨JL,_,_,_,_,_,_,⟨rfl,rfl,rfl,Di,rfl,rfl,rfl,rfl⟩⟩⟩⟩,
 ⟨⟨trivial,⟨JM,_,_,_,_,_,_,⟨rfl,rfl,rfl,Dj,rfl,rfl,rfl,rfl⟩⟩⟩,⟨JN,_,_,_,_,_,_,⟨rfl,rfl,rfl,Dk,rfl,rfl,rfl,rfl⟩⟩⟩⟩⟩,
⟨⟨⟨⟨⟨⟨⟨⟨trivial,
 ⟨⟨trivial,⟨JO,_,_,_,_,_,_,⟨rfl,rfl,rfl,Dl,rfl,rfl,rfl,rfl⟩⟩⟩,⟨JP,_,_,_,_,_,_,⟨rfl,rfl,rfl,Dm,rfl,rfl,rfl,rfl⟩⟩⟩⟩,
 ⟨⟨trivial,⟨JQ,_,_,_,_,_,_,⟨rfl,rfl,rfl,Dn,rfl,rfl,rfl,rfl⟩⟩⟩,⟨JR,_,_,_,_,_,_,⟨rfl,rfl,rfl,Dp,rfl,rfl,rfl,rfl⟩⟩⟩⟩,
 ⟨⟨trivial,⟨JS,_,_,_,_,_,_,⟨rfl,rfl,rfl,Dq,rfl,rfl,rfl,rfl⟩⟩⟩,⟨JT,_,_,_,_,_,_,⟨rfl,rfl,rfl,Dr,rfl,rfl,rfl,rfl⟩⟩⟩⟩,
 ⟨⟨trivial,⟨JU,_,_,_,_,_,_,⟨rfl,rfl,rfl,Ds,rfl,rfl,rfl,rfl⟩⟩⟩,⟨JV,_,_,_,_,_,_,⟨rfl,rfl,rfl,Dt,rfl,rfl,rfl,rfl⟩⟩⟩⟩,
 ⟨⟨trivial,⟨JW,_,_,_,_,_,_,⟨rfl,rfl,rfl,Du,rfl,rfl,rfl,rfl⟩⟩⟩,⟨JX,_,_,_,_,_,_,⟨rfl,rfl,rfl,Dv,rfl,rfl,rfl,rfl⟩⟩⟩⟩,
 ⟨⟨trivial,⟨JY,_,_,_,_,_,_,⟨rfl,rfl,rfl,Dw,rfl,rfl,rfl,rfl⟩⟩⟩,⟨JZ,_,_,_,_,_,_,⟨rfl,rfl,rfl,Dy,rfl,rfl,rfl,rfl⟩⟩⟩⟩,
 ⟨⟨trivial,⟨K1,_,_,_,_,_,_,⟨rfl,rfl,rfl,Dz,rfl,rfl,rfl,rfl⟩⟩⟩,⟨K2,_,_,_,_,_,_,⟨rfl,rfl,rfl,DA,rfl,rfl,rfl,rfl⟩⟩⟩⟩,
 ⟨⟨trivial,⟨K3,_,_,_,_,_,_,⟨rfl,rfl,rfl,DB,rfl,rfl,rfl,rfl⟩⟩⟩,⟨K4,_,_,_,_,_,_,⟨rfl,rfl,rfl,DC,rfl,rfl,rfl,rfl⟩⟩⟩⟩⟩
theorem pick (s b c:Nat) (hs:s < 3) (hb:b < 8) (hc:c < 2):Picked s b c:=fR.get (fR.get (fR.get picks hs) hb) hc
end Mine.Internal.Q
end
section
namespace Mine.Internal.Q
open PySem
section
noncomputable def Gb:List SS:=[SS.asg (Tg.n 7) (X.bor [X.loc 7,X.loc 8]),SS.asg (Tg.ns [10,11]) (X.tup [X.sub (X.loc 4) (X.call (X.gl (D.glob 656)) [X.loc 0,X.k (D.int 3)]),X.sub (X.loc 3) (X.call (X.gl (D.glob 656)) [X.loc 0,X.k (D.int 8)])]),SS.asg (Tg.n 12) (X.sub (X.lst [X.k (D.str []),X.k (D.str [44])]) (X.call (X.gl (D.glob 656)) [X.loc 0,X.k (D.int 2)])),SS.asg (Tg.n 8) (X.band [X.cmp Cm.eq (X.loc 12) (X.k (D.str [])),X.bnot (X.sub (X.loc 11) (X.k (D.int 2)))]),SS.ex (X.me Me.append (X.loc 6) [X.tup [X.sub (X.loc 10) (X.k (D.int 1)),X.k D.none,X.sub (X.loc 11) (X.k (D.int 1))]]),SS.asg (Tg.n 5) (X.bin Op.add (X.bin Op.add (X.bin Op.add (X.bin Op.add (X.bin Op.add (X.loc 5) (X.k (D.str [32]))) (X.sub (X.loc 10) (X.k (D.int 0)))) (X.k (D.str [32,61,62,32]))) (X.sub (X.loc 11) (X.k (D.int 0)))) (X.loc 12))]
noncomputable def flat:List Arm->List Nat
 | []=>[]
 | a :: l=>32 :: (a.text++flat l)
theorem qQ:∀ (a b:List Arm),flat (a++b)=flat a++flat b
 | [],b=>rfl
 | x :: a,b=>by simp only [List.cons_append,flat,qQ a b,List.append_assoc]
theorem nL:∀ l:List Arm,flat l++[32,125]=32 :: bO l
 | []=>rfl
 | a :: l=>by simp only [flat,bO,List.cons_append,List.append_assoc,nL l]
noncomputable def pL:List Arm->Bool
 | []=>false
 | [a]=>a.bad
 | _ :: b :: r=>pL (b :: r)
theorem qO:∀ (l:List Arm) (a:Arm),(!eN (l++[a]))=(!eN l || pL l)∧pL (l++[a])=a.bad
 | [],a=>⟨rfl,rfl⟩
 | [b],a=>⟨by simp only [List.cons_append,List.nil_append,eN,pL];cases b.bad <;> rfl,rfl⟩
 | b :: d :: r,a=>by
  obtain ⟨h1,h2⟩:=qO (d :: r) a
  simp only [List.cons_append,eN,pL] at h1 h2 ⊢
  refine ⟨?_,h2⟩
  cases b.bad
  ·simpa using h1
  ·simp
noncomputable def Q8 (b:Bool):D:=.bool b
theorem uD {x y:List Nat} (h:x.length+y.length≤100000) (σ:Sto):bx σ .add (.str x) (.str y)=.ok (.str (x++y)) σ:=by
 simp only [bx,pR,onU,onI,onS,onT,pR,onU,onI,onS,onT]
 rw [if_pos (Nat.ble_eq.mpr (Nat.le_trans h (by decide)))]
theorem lH:∀ l:List Arm,aS l->(flat l).length≤41 * l.length
 | [],_=>Nat.le_refl 0
 | a :: r,h=>by
  have h1:=lH r fun x hx=>h x (List.mem_cons_of_mem _ hx)
  have h2:=(qx (h a (List.mem_cons_self ..))).2.1
  show (32 :: (a.text++flat r)).length≤41 * (r.length+1)
  rw [List.length_cons,List.length_append,Nat.add_right_comm,Nat.mul_succ,Nat.add_comm]
  exact Nat.add_le_add h1 (Nat.succ_le_succ h2)
theorem l6 {x y t:List Nat} {n:Nat} (hx:x.length≤n) (hy:y.length≤40) (hn:n≤90000) (ht:t=x++y):t.length≤n+40∧∀ σ,bx σ .add (.str x) (.str y)=.ok (.str t) σ:=by
 subst ht
 exact ⟨by rw [List.length_append];exact Nat.add_le_add hx hy,uD (Nat.le_trans (Nat.add_le_add (Nat.le_trans hx hn) hy) (by decide))⟩
inductive J7 (c pm ps q:Nat) (d1 d2 x13:Option D) (r:R (Fl × Loc)) (n:Nat) (σ:Sto):Prop
 | mk (l:List Arm) (σ':Sto) (y9 y10 y11 y12:Option D) (e:r=.ok (.next,[some (.cell c),d1,d2,some (.cell pm),some (.cell ps),some (.str (cE++flat l)),some (.cell q),some (.bool (!eN l)),some (.bool (pL l)),y9,y10,y11,y12,x13]) σ')
  (len:l.length=n) (A:aS l) (C:bu σ' c) (hq:σ'[q]?=some (Cell.lst (l.map (·.law)))) (le:σ.length≤σ'.length) (keep:∀ k,k < σ.length->k ≠ c->k ≠ q->σ'[k]?=σ[k]?):J7 c pm ps q d1 d2 x13 r n σ
inductive J8 (c pm ps q:Nat) (d1 d2 x13:Option D) (d:D) (dp z:Nat) (l:List Arm) (σ:Sto):Prop
 | mk (a:Arm) (σ':Sto) (y10 y11 y12:Option D) (A:aA a) (C:bu σ' c) (hq:σ'[q]?=some (Cell.lst ((l++[a]).map (·.law)))) (len:σ'.length=σ.length+1) (keep:∀ k,k < σ.length->k ≠ c->k ≠ q->σ'[k]?=σ[k]?)
  (e:∀ x10 x11 x12,(evn false fnT (z+101)).b (dp+1) [some (.cell c),d1,d2,some (.cell pm),some (.cell ps),some (.str (cE++flat l)),some (.cell q),some (.bool (!eN l)),some (.bool (pL l)),some d,x10,x11,x12,x13] Gb σ
   = .ok (.next,[some (.cell c),d1,d2,some (.cell pm),some (.cell ps),some (.str (cE++flat (l++[a]))),some (.cell q),some (.bool (!eN (l++[a]))),some (.bool (pL (l++[a]))),some d,y10,y11,y12,x13]) σ'):J8 c pm ps q d1 d2 x13 d dp z l σ
inductive yh (t0 x1 y1 zz t5:List Nat):Prop
 | mk (t1 t2 t3 t4:List Nat) (a1:∀ σ,bx σ .add (.str t0) (.str [32])=.ok (.str t1) σ) (a2:∀ σ,bx σ .add (.str t1) (.str x1)=.ok (.str t2) σ) (a3:∀ σ,bx σ .add (.str t2) (.str [32,61,62,32])=.ok (.str t3) σ)
  (a4:∀ σ,bx σ .add (.str t3) (.str y1)=.ok (.str t4) σ) (a5:∀ σ,bx σ .add (.str t4) (.str zz)=.ok (.str t5) σ):yh t0 x1 y1 zz t5
theorem grown {t0 x1 y1 zz t5:List Nat} (h0:t0.length≤1000) (k1:x1.length≤40) (k2:y1.length≤40) (k3:zz.length≤40) (e:t0++[32]++x1++[32,61,62,32]++y1++zz=t5):yh t0 x1 y1 zz t5:=by
 obtain ⟨n1,a1⟩:=l6 (y:=[32]) h0 (by decide) (by decide) rfl
 obtain ⟨n2,a2⟩:=l6 n1 k1 (by decide) rfl
 obtain ⟨n3,a3⟩:=l6 (y:=[32,61,62,32]) n2 (by decide) (by decide) rfl
 obtain ⟨n4,a4⟩:=l6 n3 k2 (by decide) rfl
 exact ⟨_,_,_,_,a1,a2,a3,a4,(l6 n4 k3 (by decide) e.symm).2⟩
theorem ym {c pm ps q s b cc n2:Nat} {d1 d2 x10 x11 x12 x13:Option D} {d x2 y2:D} {dp z:Nat} {r k e y3:Bool} {t0 t5 x1 y1 zz:List Nat} {σ σ1 σ2 σ3 σ4:Sto} (hn:σ2.length=n2) (G:yh t0 x1 y1 zz t5)
  (g1:(evn false fnT (z+35+60)).c (dp+1) 656 [.cell c,.int ((3:Nat):Int)] σ=.ok (.int (s:Int)) σ1) (i1:cU σ1 (.cell ps) (.int (s:Int))=some (.tup [.str x1,x2]))
  (f1:(evn false fnT (z+34+60)).c (dp+1) 656 [.cell c,.int ((8:Nat):Int)] σ1=.ok (.int (b:Int)) σ2) (i2:cU σ2 (.cell pm) (.int (b:Int))=some (.tup [.str y1,y2,.bool y3]))
  (h1:(evn false fnT (z+36+60)).c (dp+1) 656 [.cell c,.int ((2:Nat):Int)] (σ2++[Cell.lst sO])=.ok (.int (cc:Int)) σ3) (i3:cU σ3 (.cell σ2.length) (.int (cc:Int))=some (.str zz))
  (ap1:cV σ3 .append (.cell q)=true) (ap2:meD σ3 .append (.cell q) [.tup [x2,.none,y2]]=.ok .none σ4) (ez:aV σ3 .eq (.str zz) (.str [])=some (.bool e)) :
  (evn false fnT (z+101)).b (dp+1) [some (.cell c),d1,d2,some (.cell pm),some (.cell ps),some (.str t0),some (.cell q),some (.bool r),some (.bool k),some d,x10,x11,x12,x13] Gb σ
   = .ok (.next,[some (.cell c),d1,d2,some (.cell pm),some (.cell ps),some (.str t5),some (.cell q),some (.bool (r || k)),some (.bool (e && !y3)),some d,some (.tup [.str x1,x2]),some (.tup [.str y1,y2,.bool y3]),some (.str zz),x13]) σ4:=by
 obtain ⟨t1,t2,t3,t4,a1,a2,a3,a4,a5⟩:=G
 have F:=fb ap1 (fn 2 (fd ap2 (fd (a1 σ4) (fn 1 (fd (a2 σ4) (fd (a3 σ4) (fn 1 (fd (a4 σ4) (fd (a5 σ4) .z)))))))))
 cases r <;> cases e
 ·exact fT (m:=z) (j:=101) (fd g1 (fo i1 (fd f1 (fo i2 (fd h1 (fo i3 (fo ez F))))))) (by kernel_rfl)
 ·exact fT (m:=z) (j:=101) (fd g1 (fo i1 (fd f1 (fo i2 (fd h1 (fo i3 (fo ez (fn 1 F)))))))) (by kernel_rfl)
 ·exact fT (m:=z) (j:=101) (fd g1 (fo i1 (fd f1 (fo i2 (fd h1 (fo i3 (fo ez F))))))) (by kernel_rfl)
 ·exact fT (m:=z) (j:=101) (fd g1 (fo i1 (fd f1 (fo i2 (fd h1 (fo i3 (fo ez (fn 1 F)))))))) (by kernel_rfl)
theorem yZ {l:List Arm} {a:Arm} {s b cc:Nat} {x1 y1 zz:List Nat} {x2 y2:D} {y3:Bool} (P:Bt s b cc a x1 y1 zz x2 y2 y3):cE++flat l++[32]++x1++[32,61,62,32]++y1++zz=cE++flat (l++[a]):=by
 rw [qQ]
 simp only [flat,P.t,List.append_assoc,List.append_nil,List.cons_append,List.nil_append]
theorem K7 {c pm ps q:Nat} (hcm:c ≠ pm) (hcs:c ≠ ps) (hcq:c ≠ q) (d1 d2 x13:Option D) (d:D) (dp z:Nat) {l:List Arm} {σ:Sto} (hl:l.length≤4) (hA:aS l) (C:bu σ c) (hm:σ[pm]?=some (Cell.lst nR)) (hs:σ[ps]?=some (Cell.lst jy)) (hq:σ[q]?=some (Cell.lst (l.map (·.law)))) :
  J8 c pm ps q d1 d2 x13 d dp z l σ:=by
 obtain ⟨s,σ1,g1,g2,C1,g4,g5⟩:=dz C 3 (by decide) (by decide) (z+35) dp
 obtain ⟨b,σ2,f1,f2,C2,f4,f5⟩:=dz C1 8 (by decide) (by decide) (z+34) dp
 obtain ⟨cc,σ3,h1,h2,C3,h4,h5⟩:=dz (C2.app [.lst sO]) 2 (by decide) (by decide) (z+36) dp
 obtain ⟨a,x1,y1,zz,x2,y2,y3,P⟩:=pick s b cc g2 f2 h2
 have K:=P.k
 have l2:σ2.length=σ.length:=f4.trans g4
 have keep3:∀ k,k < σ.length->k ≠ c->σ3[k]?=σ[k]?:=fun k hk hc=>(h5 k hc).trans ((List.getElem?_append_left (l2.symm ▸ hk)).trans ((f5 k hc).trans (g5 k hc)))
 have small:∀ {n:Nat},n < 8->n≤lim:=fun h=>Nat.le_trans (Nat.le_of_lt h) (by decide)
 have hq3:σ3[q]?=some (Cell.lst (l.map (·.law))):=(keep3 q (ao hq) hcq.symm).trans hq
 have ap:=fj (d:=.tup [x2,.none,y2]) hq3 (by rw [List.length_map];exact small (Nat.lt_of_le_of_lt hl (by decide)))
 have fa:=qO l a
 refine ⟨a,σ3.set q (Cell.lst (l.map (·.law)++[.tup [x2,.none,y2]])),some (.tup [.str x1,x2]),some (.tup [.str y1,y2,.bool y3]),some (.str zz),P.A,?_,?_,(List.length_set ..).trans (h4.trans (by rw [List.length_append,l2];rfl)),fun k hk hc hkq=>(List.getElem?_set_ne hkq.symm).trans (keep3 k hk hc),fun x10 x11 x12=>?_⟩
 ·obtain ⟨a,b,h,hb⟩:=C3.h
  exact ⟨a,b,(List.getElem?_set_ne hcq.symm).trans h,hb⟩
 ·rw [List.getElem?_set_self (ao hq3),List.map_append,List.map_cons,List.map_nil,P.l]
 ·rw [fa.1,fa.2,P.b]
  exact ym l2 (grown (Nat.le_trans (Nat.le_of_eq List.length_append) (Nat.le_trans (Nat.add_le_add_left (Nat.le_trans (lH l hA) (Nat.mul_le_mul_left 41 hl)) _) (by decide))) K.1 K.2.1 K.2.2.1 (yZ P)) g1 (gK ((g5 ps hcs.symm).trans hs) (small (Nat.lt_of_lt_of_le g2 (by decide))) P.h1)
   f1 (gK (((f5 pm hcm.symm).trans (g5 pm hcm.symm)).trans hm) (small f2) P.h2) h1 (gK ((h5 _ (Nat.ne_of_gt C2.lt)).trans (by rw [List.getElem?_append_right (Nat.le_refl _),Nat.sub_self];rfl)) (small (Nat.lt_of_lt_of_le h2 (by decide))) P.h3) ap.1 ap.2 (eq_str K.2.2.2 (by decide) σ3)
theorem K6 {c pm ps q:Nat} (hcm:c ≠ pm) (hcs:c ≠ ps) (hcq:c ≠ q) (hqm:q ≠ pm) (hqs:q ≠ ps) (dp m:Nat) (d1 d2 x13:Option D) (ds:List D):∀ (l:List Arm) (σ:Sto) (x9 x10 x11 x12:Option D),l.length+ds.length≤4->aS l->bu σ c->σ[pm]?=some (Cell.lst nR)->σ[ps]?=some (Cell.lst jy)->σ[q]?=some (Cell.lst (l.map (·.law))) ->
  J7 c pm ps q d1 d2 x13 ((evn false fnT (m+101+ds.length)).f (dp+1) [some (.cell c),d1,d2,some (.cell pm),some (.cell ps),some (.str (cE++flat l)),some (.cell q),some (.bool (!eN l)),some (.bool (pL l)),x9,x10,x11,x12,x13] (.n 9) ds Gb σ) (l.length+ds.length) σ:=by
 induction ds with
 | nil=>exact fun l σ x9 x10 x11 x12 hl hA C hm hs hq=>⟨l,σ,x9,x10,x11,x12,rfl,rfl,hA,C,hq,Nat.le_refl _,fun _ _ _ _=>rfl⟩
 | cons d ds ih =>
  intro l σ x9 x10 x11 x12 hl hA C hm hs hq
  obtain ⟨a,σ4,y10,y11,y12,A,C4,hq4,len4,keep4,hb⟩:=K7 hcm hcs hcq d1 d2 x13 d dp (m+ds.length) (Nat.le_trans (Nat.le_add_right _ _) hl) hA C hm hs hq
  have hb:=hb x10 x11 x12
  have ll:(l++[a]).length=l.length+1:=List.length_append
  have lc:l.length+1+ds.length=l.length+(d :: ds).length:=Nat.add_right_comm _ 1 _
  have hA':aS (l++[a]):=fun x hx=>(List.mem_append.mp hx).elim (hA x) fun hx=>List.mem_singleton.mp hx ▸ A
  have I:=ih (l++[a]) σ4 (some d) y10 y11 y12 (by rw [ll,lc];exact hl) hA' C4 ((keep4 pm (ao hm) hcm.symm hqm.symm).trans hm) ((keep4 ps (ao hs) hcs.symm hqs.symm).trans hs) hq4
  obtain ⟨l',σ',y9,y10',y11',y12',r1,r2,r3,r4,r5,r6,r7⟩:=I
  rw [len4] at r6 r7
  refine ⟨l',σ',y9,y10',y11',y12',?_,r2.trans (by rw [ll,lc]),r3,r4,r5,Nat.le_of_succ_le r6,fun k hk hc hkq=>(r7 k (Nat.lt_succ_of_lt hk) hc hkq).trans (keep4 k hk hc hkq)⟩
  rw [Nat.add_right_comm m ds.length 101] at hb
  exact (iL rfl hb).trans r1
end
end Mine.Internal.Q
end
section
namespace Mine.Internal.Q
open PySem
section
noncomputable def st1 (σ:Sto):Sto:=σ++[Cell.lst nR]
noncomputable def st2 (σ:Sto):Sto:=st1 σ++[Cell.lst jy]
noncomputable def st3 (σ:Sto):Sto:=st2 σ++[Cell.lst []]
theorem oM {σ:Sto} {x:Cell}:(σ++[x])[σ.length]?=some x:=by rw [List.getElem?_append_right (Nat.le_refl _),Nat.sub_self];rfl
theorem gF {σ:Sto} {x:Cell} {k:Nat} (h:k < σ.length):(σ++[x])[k]?=σ[k]?:=List.getElem?_append_left h
theorem qc (σ:Sto):(st1 σ).length=σ.length+1:=List.length_append
theorem qd (σ:Sto):(st2 σ).length=σ.length+2:=by show (st1 σ++_).length=_;rw [List.length_append,qc];rfl
theorem E2 (σ:Sto):(st3 σ).length=σ.length+3:=by show (st2 σ++_).length=_;rw [List.length_append,qd];rfl
theorem OB (σ:Sto):(st3 σ)[σ.length]?=some (Cell.lst nR)∧(st3 σ)[(st1 σ).length]?=some (Cell.lst jy)∧(st3 σ)[(st2 σ).length]?=some (Cell.lst (([]:List Arm).map (·.law)))∧∀ k,k < σ.length->(st3 σ)[k]?=σ[k]?:=by
 have l1:=qc σ
 have l2:=qd σ
 refine ⟨?_,?_,oM,fun k hk=>?_⟩
 ·exact (gF (by rw [l2];exact Nat.lt_add_of_pos_right (by decide))).trans ((gF (by rw [l1];exact Nat.lt_succ_self _)).trans oM)
 ·exact (gF (by rw [l1,l2];exact Nat.lt_succ_self _)).trans oM
 ·exact (gF (by rw [l2];exact Nat.lt_add_right 2 hk)).trans ((gF (by rw [l1];exact Nat.lt_succ_of_lt hk)).trans (gF hk))
theorem zM {l:List Arm} (f3:aS l):GDb 20 (xh l)=true:=by
 have:(l.map (·.law)).all (GDb 18)=true:=by
  rw [List.all_eq_true]
  intro x hx
  obtain ⟨y,hy,rfl⟩:=List.mem_map.mp hx
  exact c9 (by decide) (f3 y hy).gl
 simp only [xh,GDb,c7,List.all_cons,List.all_nil,this,au];rfl
theorem xu {σ:Sto} {c:Nat} (C:bu σ c) (m dp:Nat) :
  ∃ σ',(evn false fnT (m+20000)).c (dp+101) 719 [.cell c] σ=.ok (.bool true) σ'∧bu σ' c∧FrC c σ σ':=by
 have hc:=C.lt
 obtain ⟨x,σ2,d1,d2,C2,d4,d5⟩:=dz (((C.app [Cell.lst nR]).app [Cell.lst jy]).app [Cell.lst []]) 5 (by decide) (by decide) (m+19933) (dp+99)
 obtain ⟨p0,p1,p2,p3⟩:=OB σ
 have l1:=qc σ
 have l2:=qd σ
 have l3:=E2 σ
 have n1:c ≠ (st1 σ).length:=by rw [l1];exact Nat.ne_of_lt (Nat.lt_succ_of_lt hc)
 have n2:c ≠ (st2 σ).length:=by rw [l2];exact Nat.ne_of_lt (Nat.lt_add_right 2 hc)
 have x4:x≤4:=Nat.le_of_lt_succ d2
 obtain ⟨y,hy⟩:∃ y,4 - x=y:=⟨_,rfl⟩
 have e7:m+19889+y+101+x=m+19994:=by
  rw [Nat.add_right_comm (m+19889) y 101,Nat.add_assoc,← hy,Nat.sub_add_cancel x4]
 have I:=K6 (pm:=σ.length) (ps:=(st1 σ).length) (q:=(st2 σ).length) (Nat.ne_of_lt hc) n1 n2 (by rw [l2];exact Nat.ne_of_gt (Nat.lt_add_of_pos_right (by decide))) (by rw [l1,l2];exact Nat.ne_of_gt (Nat.lt_succ_self _)) (dp+99) (m+19889+y) (some bq) (some (c7 [99] 0)) none (cH x) [] σ2 none none none none (by rw [fu];exact Nat.le_trans (Nat.le_of_eq (Nat.zero_add x)) x4) (fun _ h=>by cases h) C2
  ((d5 _ (Nat.ne_of_gt hc)).trans p0) ((d5 _ n1.symm).trans p1) ((d5 _ n2.symm).trans p2)
 rw [fu,e7] at I
 obtain ⟨l,σ3,y9,y10,y11,y12,f1,f2,f3,C3,f5,f6,f7⟩:=I
 have hl4:l.length≤4:=Nat.le_trans (Nat.le_of_eq (f2.trans (Nat.zero_add x))) x4
 obtain ⟨w1,w2⟩:=tK f3 hl4 (σ:=σ3) (m+17988) (dp+92) (Nat.le_trans (by decide) (Nat.le_add_left 17988 m))
 obtain ⟨σ4,r1,r2,r3⟩:=w2 (m+19950) (dp+97) (Nat.le_trans (by decide) (Nat.le_add_left 19950 m)) (Nat.le_trans (by decide) (Nat.le_add_left 97 dp))
 have tx:=uD (x:=cE++flat l) (y:=[32,125]) (by rw [List.length_append];exact Nat.le_trans (Nat.add_le_add_right (Nat.add_le_add_left (Nat.le_trans (lH l f3) (Nat.mul_le_mul_left 41 hl4)) _) _) (by decide)) σ3
 rw [List.append_assoc,nL] at tx
 generalize cE++flat l=t0 at f1 tx
 generalize cE++32 :: bO l=t1 at w1 r1 tx
 have tq:biD σ3 .tup [.cell (st2 σ).length]=.ok (.tup (l.map (·.law))) σ3:=by
  show onL _ (fun ds=>if ds.length≤lim then _ else _) σ3[(st2 σ).length]?=_
  rw [f5]
  exact if_pos (by rw [List.length_map];exact Nat.le_trans hl4 (by decide))
 rw [d4] at f6 f7
 change (st3 σ).length≤_ at f6
 refine ⟨σ4,?_,?_,?_⟩
 ·cases hf:eN l with
  | true =>
   rw [hf] at r1 f1
   exact runC (m:=m) (j:=19999) zd rfl rfl (fd (aU [99] (m+19964) (dp+99) σ) (fd (aU [102] (m+19956) (dp+99) σ) (fd (aQ bq (m+19955) (dp+99) σ) (fd (aQ bq (m+19958) (dp+99) σ) (fd (aQ bq (m+19952) (dp+99) σ) (fd (aQ bq (m+19951) (dp+99) σ) (fd (aQ bq (m+19951) (dp+99) σ)
    (fd d1 (ff (qS (Nat.le_trans x4 (by decide)) f1) (fd tq (fd tx (fd w1 (fd r1 (fo (oG (by decide) (zM f3) σ4).1 .z)))))))))))))) (by kernel_rfl)
  | false =>
   rw [hf] at r1 f1
   exact runC (m:=m) (j:=19999) zd rfl rfl (fd (aU [99] (m+19964) (dp+99) σ) (fd (aU [102] (m+19956) (dp+99) σ) (fd (aQ bq (m+19955) (dp+99) σ) (fd (aQ bq (m+19958) (dp+99) σ) (fd (aQ bq (m+19952) (dp+99) σ) (fd (aQ bq (m+19951) (dp+99) σ) (fd (aQ bq (m+19951) (dp+99) σ)
    (fd d1 (ff (qS (Nat.le_trans x4 (by decide)) f1) (fd tx (fd w1 (fd r1 (fo (jd (σ:=σ4) (a:=.none) (b:=.none) rfl) .z))))))))))))) (by kernel_rfl)
 ·obtain ⟨a,b,h,hb⟩:=C3.h
  exact ⟨a,b,(r3 c (ao h)).trans h,hb⟩
 ·have hk3:∀ k,k < σ.length->k < (st3 σ).length:=fun k hk=>by rw [l3];exact Nat.lt_add_right 3 hk
  refine ⟨Nat.le_trans (Nat.le_trans (by rw [l3];exact Nat.le_add_right _ 3) f6) r2,fun k hk hkc=>?_⟩
  exact (r3 k (Nat.lt_of_lt_of_le (hk3 k hk) f6)).trans ((f7 k (hk3 k hk) hkc (by rw [l2];exact Nat.ne_of_lt (Nat.lt_add_right 2 hk))).trans ((d5 k hkc).trans (p3 k hk)))
end
end Mine.Internal.Q
end
section
namespace Mine.Internal.Q
open PySem
section
noncomputable def gq:List D:=[.tup [.str x0,y0.getD .none],.tup [.str x1,y1.getD .none],.tup [.str x2,y2.getD .none],.tup [.str x3,y3.getD .none],.tup [.str x4,y4.getD .none],.tup [.str x5,y5.getD .none],.tup [.str x6,y6.getD .none],.tup [.str x7,y7.getD .none],.tup [.str x8,y8.getD .none],.tup [.str x9,y9.getD .none],.tup [.str x10,y10.getD .none],.tup [.str x11,y11.getD .none],.tup [.str x12,y12.getD .none],.tup [.str x13,y13.getD .none],.tup [.str x14,y14.getD .none],.tup [.str x15,y15.getD .none],.tup [.str x16,y16.getD .none],.tup [.str x17,y17.getD .none],.tup [.str x18,y18.getD .none],.tup [.str x19,y19.getD .none]]
noncomputable def Kf:List SS:=[SS.asg (Tg.ns [8,9]) (X.sub (X.loc 2) (X.call (X.gl (D.glob 656)) [X.loc 1,X.k (D.int 20)])),SS.ifs (X.cmp Cm.ne (X.call (X.gl (D.glob 705)) [X.call (X.gl (D.glob 132)) [X.loc 8]]) (X.loc 9)) [SS.ret (X.k (D.bool false))] []]
theorem wC (ns:List Int) (hn:ns.length≤63) (σ:Sto) (m dp:Nat):∃ (a b:Nat),b < 65371∧(evn false fnT (m+60)).c (dp+1) 649 [.fl (ns.map .int)] σ=.ok (.cell σ.length) (σ++[Cell.lst [.int (a:Int),.int (b:Int)]]):=by
 obtain ⟨v,hv⟩:∃ v:D,v=.fl (ns.map .int):=⟨_,rfl⟩
 obtain ⟨L,hL⟩:∃ L:Int,L=(ns.length:Int):=⟨_,rfl⟩
 have bl:biD σ .len [v]=.ok (.int L) σ:=by
  rw [hv,hL]
  simp only [biD,one,onO,onC,onL,tD,List.length_map]
  rw [if_pos (Nat.ble_eq.mpr (Nat.le_trans hn (by decide)))]
 obtain ⟨z,b1,g1,hz1,hz2⟩:∃ (z:Int) (b1:Bool),aV σ .gt (.int L) (.int 0)=some (.bool b1)∧(b1=true->cU σ v (.int 0)=some (.int z))∧(b1=false->z=0):=by
  cases ns with
  | nil=>exact ⟨0,false,by rw [hL];rfl,(fun h=>nomatch h),fun _=>rfl⟩
  | cons y r =>
   refine ⟨y,true,?_,(fun _=>by rw [hv];rfl),(fun h=>nomatch h)⟩
   rw [hL]
   simp only [aV,eS,onI]
   rw [decide_eq_true (by simp)]
 obtain ⟨b2,hb2⟩:∃ b2:Bool,b2=decide (0≤z):=⟨_,rfl⟩
 obtain ⟨w,hw⟩:∃ w:Nat,(w:Int)=(if 0≤z then z else 15 - z):=by
  split
  ·next h=>exact ⟨z.toNat,Int.toNat_of_nonneg h⟩
  ·next h=>exact ⟨(15 - z).toNat,Int.toNat_of_nonneg (Int.sub_nonneg_of_le (Int.le_trans (Int.le_of_lt (Int.not_le.mp h)) (by decide)))⟩
 have g2:aV σ .ge (.int z) (.int 0)=some (.bool b2):=by rw [hb2];rfl
 obtain ⟨b3,hb3⟩:∃ b3:Bool,b3=decide ((1000000000000000:Int)≤(w:Int)):=⟨_,rfl⟩
 have pw:bx σ .pow (.int 10) (.int 15)=.ok (.int 1000000000000000) σ:=by rfl
 obtain ⟨u,hu⟩:∃ u,u=w % 999961:=⟨_,rfl⟩
 have hu2:u < 999961:=by rw [hu];exact Nat.mod_lt _ (by decide)
 obtain ⟨W,hW⟩:∃ W:Int,W=(w:Int):=⟨_,rfl⟩
 have g3:aV σ .ge (.int W) (.int 1000000000000000)=some (.bool b3):=by rw [hb3,hW];rfl
 have m1:bx σ .mod (.int W) (.int 999961)=.ok (.int (u:Int)) σ:=by rw [hu,hW];exact rg w 999961 (by decide) (by decide)
 have m2:bx σ .mul (.int (u:Int)) (.int 211)=.ok (.int ((u:Int) * 211)) σ:=by
  show (if (Nat.ble u (10 ^ 60) && Nat.ble 211 (10 ^ 6))=true then R.ok (D.int ((u:Int) * 211)) σ else R.no)=_
  have w1:Nat.ble u (10 ^ 60)=true:=Nat.ble_eq.mpr (Nat.le_trans (Nat.le_of_lt hu2) (by decide))
  rw [w1];rfl
 obtain ⟨B,hB⟩:∃ B,B=(u * 211+71) % 65371:=⟨_,rfl⟩
 have m3:bx σ .mod (.int ((u:Int) * 211+71)) (.int 65371)=.ok (.int (B:Int)) σ:=by rw [hB];exact rg (u * 211+71) 65371 (by decide) (by decide)
 have hBl:B < 65371:=by rw [hB];exact Nat.mod_lt _ (by decide)
 have go:∃ A:Nat,(evn false fnT (m+60)).c (dp+1) 649 [v] σ=.ok (.cell σ.length) (σ++[Cell.lst [.int (A:Int),.int (B:Int)]]):=by
  have hW2:W=if 0≤z then z else 15 - z:=by rw [hW,hw]
  cases b1 with
  | true =>
   have i0:=hz1 rfl
   cases b2 with
   | true =>
    have:W=z:=by rw [hW2,if_pos (by simpa using hb2.symm)]
    rw [this] at g3 m1 hW
    cases b3 with
    | true=>exact ⟨w,by rw [← hW];exact runC (m:=m) (j:=59) lI rfl rfl (fd bl (fo g1 (fo i0 (fo g2 (fn 1 (fo g3 (fd m1 (fd m2 (fn 1 (fd m3 .z)))))))))) (by kernel_rfl)⟩
    | false=>exact ⟨0,runC (m:=m) (j:=59) lI rfl rfl (fd bl (fo g1 (fo i0 (fo g2 (fn 1 (fo g3 (fd m1 (fd m2 (fn 1 (fd m3 .z)))))))))) (by kernel_rfl)⟩
   | false =>
    have:W=15 - z:=by rw [hW2,if_neg (by simpa using hb2.symm)]
    rw [this] at g3 m1 hW
    cases b3 with
    | true=>exact ⟨w,by rw [← hW];exact runC (m:=m) (j:=59) lI rfl rfl (fd bl (fo g1 (fo i0 (fo g2 (fn 2 (fo g3 (fd m1 (fd m2 (fn 1 (fd m3 .z)))))))))) (by kernel_rfl)⟩
    | false=>exact ⟨0,runC (m:=m) (j:=59) lI rfl rfl (fd bl (fo g1 (fo i0 (fo g2 (fn 2 (fo g3 (fd m1 (fd m2 (fn 1 (fd m3 .z)))))))))) (by kernel_rfl)⟩
  | false =>
   have:=hz2 rfl
   subst this
   cases b2 with
   | true =>
    have:W=0:=by rw [hW2];rfl
    rw [this] at g3 m1 hW
    cases b3 with
    | true=>exact ⟨w,by rw [← hW];exact runC (m:=m) (j:=59) lI rfl rfl (fd bl (fo g1 (fo g2 (fn 1 (fo g3 (fd m1 (fd m2 (fn 1 (fd m3 .z))))))))) (by kernel_rfl)⟩
    | false=>exact ⟨0,runC (m:=m) (j:=59) lI rfl rfl (fd bl (fo g1 (fo g2 (fn 1 (fo g3 (fd m1 (fd m2 (fn 1 (fd m3 .z))))))))) (by kernel_rfl)⟩
   | false=>simp at hb2
 obtain ⟨A,hA⟩:=go
 exact ⟨A,B,hBl,hv ▸ hA⟩
end
end Mine.Internal.Q
end
section
namespace Mine.Internal.Q
open PySem
section
theorem xZ (σ:Sto) (m dp:Nat):(evn false fnT (m+200)).c (dp+2) 726 [] σ=.ok (.cell σ.length) (σ++[Cell.lst gq]) :=
 runC (m:=m) (j:=199) Fv rfl rfl (fd (aU [97] (m+165) dp σ) (fd (aU [117,56] (m+159) dp σ) (fd (aU [117,56] (m+148) dp σ) .z))) (by kernel_rfl)
structure Je (x:Nat) (text:List Nat) (n:Nat) (exp:Option D):Prop where
 h:gq[x]?=some (.tup [.str text,exp.getD .none])
 k:chk text n=some exp
 g:GDb 30 (exp.getD .none)=true
inductive uC (x:Nat):Prop
 | mk (text:List Nat) (n:Nat) (exp:Option D) (P:Je x text n exp):uC x
theorem HZ:fR uC 20 :=
 ⟨⟨⟨⟨⟨⟨⟨⟨⟨⟨⟨⟨⟨⟨⟨⟨⟨⟨⟨⟨trivial,⟨x0,5,y0,⟨rfl,k0,by kernel_rfl⟩⟩⟩,⟨x1,5,y1,⟨rfl,k1,by kernel_rfl⟩⟩⟩,⟨x2,5,y2,⟨rfl,k2,by kernel_rfl⟩⟩⟩,⟨x3,5,y3,⟨rfl,k3,by kernel_rfl⟩⟩⟩
 ,⟨x4,3,y4,⟨rfl,k4,by kernel_rfl⟩⟩⟩,⟨x5,3,y5,⟨rfl,k5,by kernel_rfl⟩⟩⟩,⟨x6,3,y6,⟨rfl,k6,by kernel_rfl⟩⟩⟩,⟨x7,6,y7,⟨rfl,k7,by kernel_rfl⟩⟩⟩
 ,⟨x8,6,y8,⟨rfl,k8,by kernel_rfl⟩⟩⟩,⟨x9,5,y9,⟨rfl,k9,by kernel_rfl⟩⟩⟩,⟨x10,5,y10,⟨rfl,k10,by kernel_rfl⟩⟩⟩,⟨x11,8,y11,⟨rfl,k11,by kernel_rfl⟩⟩⟩
 ,⟨x12,5,y12,⟨rfl,k12,by kernel_rfl⟩⟩⟩,⟨x13,7,y13,⟨rfl,k13,by kernel_rfl⟩⟩⟩,⟨x14,7,y14,⟨rfl,k14,by kernel_rfl⟩⟩⟩,⟨x15,8,y15,⟨rfl,k15,by kernel_rfl⟩⟩⟩
 ,⟨x16,5,y16,⟨rfl,k16,by kernel_rfl⟩⟩⟩,⟨x17,9,y17,⟨rfl,k17,by kernel_rfl⟩⟩⟩,⟨x18,11,y18,⟨rfl,k18,by kernel_rfl⟩⟩⟩,⟨x19,5,y19,⟨rfl,k19,by kernel_rfl⟩⟩⟩
inductive Jd (c t:Nat) (x0 x3 x4 x5 x6:Option D) (r:R (Fl × Loc)):Prop
 | mk (σ':Sto) (y7 y8 y9:Option D) (e:r=.ok (.next,[x0,some (.cell c),some (.cell t),x3,x4,x5,x6,y7,y8,y9]) σ'):Jd c t x0 x3 x4 x5 x6 r
theorem M4 {c t:Nat} (hct:c ≠ t) (m dp:Nat) (x0 x3 x4 x5 x6:Option D) (ds:List D):∀ (σ:Sto) (x7 x8 x9:Option D),bu σ c->σ[t]?=some (Cell.lst gq) ->
  Jd c t x0 x3 x4 x5 x6 ((evn false fnT (m+10001+ds.length)).f (dp+100) [x0,some (.cell c),some (.cell t),x3,x4,x5,x6,x7,x8,x9] (.n 7) ds Kf σ):=by
 induction ds with
 | nil=>exact fun σ x7 x8 x9 C ht=>⟨σ,x7,x8,x9,rfl⟩
 | cons d ds ih =>
  intro σ x7 x8 x9 C ht
  obtain ⟨x,σ1,d1,d2,C1,d4,d5⟩:=dz C 20 (by decide) (by decide) (m+ds.length+9938) (dp+99)
  obtain ⟨text,n,exp,P⟩:=fR.get HZ d2
  have ht1:σ1[t]?=some (Cell.lst gq):=(d5 t hct.symm).trans ht
  have i1:cU σ1 (.cell t) (.int (x:Int))=_:=gK ht1 (Nat.le_trans (Nat.le_of_lt d2) (by decide)) P.h
  obtain ⟨w1,w2⟩:=yI P.k (σ:=σ1) (m+ds.length+7995) (dp+92) (Nat.le_trans (by decide) (Nat.le_add_left 7995 _))
  obtain ⟨σ2,r1,r2,r3⟩:=w2 (m+ds.length+9957) (dp+97) (Nat.le_trans (by decide) (Nat.le_add_left 9957 _)) (Nat.le_trans (by decide) (Nat.le_add_left 97 _))
  have C2:bu σ2 c:=by
   obtain ⟨a,b,h,hb⟩:=C1.h
   exact ⟨a,b,(r3 c (ao h)).trans h,hb⟩
  obtain ⟨σ',y7,y8,y9,h⟩:=ih σ2 (some d) (some (.str text)) (some (exp.getD .none)) C2 ((r3 t (ao ht1)).trans ht1)
  refine ⟨σ',y7,y8,y9,?_⟩
  have hb:(evn false fnT (m+ds.length+10001)).b (dp+100) [x0,some (.cell c),some (.cell t),x3,x4,x5,x6,some d,x8,x9] Kf σ=.ok (.next,[x0,some (.cell c),some (.cell t),x3,x4,x5,x6,some d,some (.str text),some (exp.getD .none)]) σ2 :=
   fT (m:=m+ds.length) (j:=10001) (fd d1 (fo i1 (fd w1 (fd r1 (fo (oG (by decide) P.g σ2).2 .z))))) (by kernel_rfl)
  rw [Nat.add_right_comm m ds.length 10001] at hb
  exact (iL rfl hb).trans h
noncomputable def st0 (a b:Nat):Sto:=[Cell.lst [.int (a:Int),.int (b:Int)],Cell.lst gq]
theorem zN (ns:List Int) (hn:ns.length≤63):∃ n ρ σ,(evn false fnT n).b 128 (some (.fl (ns.map .int)) :: List.replicate 9 none) DK.body []=.ok (.ret (.bool true),ρ) σ:=by
 obtain ⟨a,b,hb,cr⟩:=wC ns hn [] 39936 127
 have tr:=xZ [Cell.lst [.int (a:Int),.int (b:Int)]] 39795 126
 generalize hS:D.fl (ns.map .int)=s at cr
 obtain ⟨rows,w1,w2⟩:∃ rows,(evn false fnT (37992+2000)).c (120+8) 132 [.str x20] (st0 a b)=.ok (.cell 3) (nw (st0 a b) rows)∧∀ k' dp',6000≤k'->40≤dp'->ReadsAs (st0 a b) rows k' dp' (y20.getD .none):=⟨_,yI k20 (σ:=st0 a b) 37992 120 (by decide)⟩
 obtain ⟨σ3,r1,r2,r3⟩:=w2 39954 125 (by decide) (by decide)
 have en:=(oG (n:=30) (d:=y20.getD .none) (by decide) (by kernel_rfl) σ3).2
 unfold x20 at w1
 generalize hN:nw (st0 a b) rows=N at w1 r1
 have C3:bu σ3 0:=⟨a,b,r3 0 (Nat.succ_pos 1),hb⟩
 have T3:σ3[1]?=some (Cell.lst gq):=r3 1 (Nat.lt_succ_self 1)
 obtain ⟨σ4,d1,C4,f4⟩:=wF C3 33992 27
 have T4:σ4[1]?=some (Cell.lst gq):=(f4.2 1 (ao T3) (by decide)).trans T3
 obtain ⟨σ5,m1,C5,f5⟩:=xu C4 19991 27
 have T5:σ5[1]?=some (Cell.lst gq):=(f5.2 1 (ao T4) (by decide)).trans T4
 obtain ⟨σ6,y7,y8,y9,lf⟩:=M4 (c:=0) (t:=1) (by decide) 29991 28 (some s) (some (.tup [.str [105,110,116],.int 0,.int 9,.none])) (some (c7 [99] 0)) (some (ia bq)) (some (y20.getD .none)) (cH 2) σ5 none none none C5 T5
 exact ⟨40000,_,σ6,fT (m:=0) (j:=40000) (r:=.ok (.ret (.bool true),[some s,some (.cell 0),some (.cell 1),some (.tup [.str [105,110,116],.int 0,.int 9,.none]),some (c7 [99] 0),some (ia bq),some (y20.getD .none),y7,y8,y9]) σ6)
  (fd cr (fd tr (fd (aU [99] 39964 127 (st0 a b)) (fd (aQ bq 39963 127 (st0 a b)) (fd w1 (fd r1 (fo en (fd d1 (fd m1 (ff (qS (by decide) lf) .z)))))))))) (by kernel_rfl)⟩
end
end Mine.Internal.Q
end
section
namespace Mine.Internal
open PySem PySem.W PySem.Calls PyProof.Rows
abbrev eH:Heap:={}
theorem uO (a:Addr):eH.get? a=none:=by
 show (match (#[]:Array Obj)[a]? with | some ⟨_,_,.freed,_⟩=>none | o=>o)=none
 simp
noncomputable def frs (envs:List Env):List Addr:=envs.filterMap (·.frame)
noncomputable def dj (h:Heap) (envs:List Env) (fr:List Addr):Prop:=h.FunFrames eH envs∧∀ a ∈ frs envs,a ∈ fr
theorem b9 {h h':Heap}:∀ {l:List Env},h.FunFrames eH l->(∀ a ∈ frs l,∀ o,h.get? a=some o->∃ sl,h'.get? a=some { o with slots:=sl })->h'.FunFrames eH l
 | [],_,_=>trivial
 | env :: r,⟨hk,⟨L,o,hf,hn,ho,hd⟩,hr⟩,k=>by
  have hm:L ∈ frs (env :: r):=by unfold frs;rw [List.filterMap_cons,hf];exact .head _
  obtain ⟨sl,e⟩:=k L hm o ho
  refine ⟨hk,⟨L,_,hf,hn,e,hd⟩,b9 hr fun a ha=>k a ?_⟩
  unfold frs;rw [List.filterMap_cons,hf];exact .tail _ ha
theorem dj.step {fr ks:List Addr} {h h':Heap} {γ γ':Gam} {envs:List Env} (x:dj h envs fr) (st:Step fr ks h γ h' γ') (hs:∀ a ∈ frs envs,a ∈ ks):dj h' envs fr :=
 ⟨b9 x.1 fun a ha=>st.frames a (hs a ha),x.2⟩
theorem dj.tail {h:Heap} {env:Env} {envs:List Env} {fr:List Addr} (x:dj h (env :: envs) fr):dj h envs fr:=by
 obtain ⟨⟨_,_,hr⟩,hs⟩:=x
 refine ⟨hr,fun a ha=>hs a ?_⟩
 unfold frs
 rw [List.filterMap_cons]
 split
 ·exact ha
 ·exact .tail _ ha
structure Quiet (h₀:Heap) (fs:List Addr) (h h':Heap):Prop where
 keep:∀ a o,h.get? a=some o->a ∉ fs->((∃ o',h₀.get? a=some o')∨∀ vs,o.data ≠ .fields vs)->h'.get? a=some o
 frames:∀ a ∈ fs,∀ o,h.get? a=some o->∃ sl,h'.get? a=some { o with slots:=sl }
theorem Quiet.refl {h₀:Heap} {fs:List Addr} {h:Heap}:Quiet h₀ fs h h:=⟨fun _ _ e _ _=>e,fun _ _ o e=>⟨o.slots,e⟩⟩
theorem eB.trans {h h₁ h₂:Heap} (x:eB h h₁) (y:eB h₁ h₂):eB h h₂:=fun a o e=>let ⟨o₁,e₁⟩:=x a o e;y a o₁ e₁
theorem Quiet.trans {h₀:Heap} {fs:List Addr} {h h₁ h₂:Heap} (x:Quiet h₀ fs h h₁) (y:Quiet h₀ fs h₁ h₂):Quiet h₀ fs h h₂ :=
 ⟨fun a o e na q=>y.keep a o (x.keep a o e na q) na q,fun a ha o e=>let ⟨_,e₁⟩:=x.frames a ha o e;let ⟨sl,e₂⟩:=y.frames a ha _ e₁;⟨sl,e₂⟩⟩
theorem pV {h:Heap} {a:Addr} {f:Obj->Obj} {o:Obj} (e:h.get? a=some o) (hf:(f o).isFreed=false):eB h (h.update a f):=fun b ob eb=>by
 by_cases q:b=a
 ·subst q
  exact ⟨_,Heap.get?_update_self _ e hf⟩
 ·exact ⟨ob,(Heap.get?_update_other _ _ (Ne.symm q)).trans eb⟩
theorem HQ {h:Heap} {o:Obj}:eB h (h.push o):=fun _ ob e=>⟨ob,Heap.get?_push_of_some _ e⟩
section
variable {prog:Program} {w:World} {fr fs:List Addr} {h h':Heap} {γ:Gam} {n:Heap}
theorem Quiet.moves (x:Quiet n fs h h') (hf:∀ a ∈ fs,a ∈ fr):(∀ v d,Den prog w h fr γ v d->Den prog w h' fr γ v d)∧∀ vs ds,av prog w h fr γ vs ds->av prog w h' fr γ vs ds:=lA (fun _ _ ho hs q=>⟨x.keep _ _ ho (fun m=>hs (.inl (hf _ m))) (.inr q),hs⟩) fun _ _ e=>e
theorem Den.quiet (x:Quiet n fs h h') (hf:∀ a ∈ fs,a ∈ fr) {v:Value} {d:D} (y:Den prog w h fr γ v d):Den prog w h' fr γ v d:=(x.moves hf).1 v d y
theorem av.quiet (x:Quiet n fs h h') (hf:∀ a ∈ fs,a ∈ fr) {vs:List Value} {ds:List D} (y:av prog w h fr γ vs ds):av prog w h' fr γ vs ds:=(x.moves hf).2 vs ds y
theorem gV.quiet {a d:Addr} {mA:Str->Option Value} (x:gV h a d mA) (q:Quiet n fs h h') (ha:a ∉ fs) (hd:d ∉ fs):gV h' a d mA:=by
 obtain ⟨⟨o,ho,hc,hnc,hdd⟩,⟨o₁,ho₁,hd₁,hp⟩,only⟩:=x
 obtain rfl:o=o₁:=Option.some.inj (ho.symm.trans ho₁)
 have k:=q.keep a o ho ha (.inr fun vs e=>by rw [hp] at e;cases e)
 refine ⟨⟨o,k,hc,hnc,?_⟩,⟨o,k,hd₁,hp⟩,only⟩
 rcases hdd with hdd | ⟨d',e1,e2,e3⟩
 ·exact .inl hdd
 ·obtain rfl:d'=d:=Option.some.inj (e1.symm.trans hd₁)
  refine .inr ⟨d',e1,e2,e3.at fun o ho=>q.keep d' o ho hd (.inr fun vs e=>?_)⟩
  obtain ⟨o',es,ep,h1,h2,_⟩:=e3
  rw [ho] at h1;cases h1
  rw [h2] at e;cases e
theorem pJ {a:Addr} {its:Array Value} (x:h.IsList a its) (q:Quiet n fs h h') (ha:a ∉ fs):h'.IsList a its:=by
 obtain ⟨o,ho,hc,k,hd⟩:=x
 exact ⟨o,q.keep a o ho ha (.inr fun vs e=>by rw [hd] at e;cases e),hc,k,hd⟩
theorem pZ {a:Addr} {vs:List Value} (x:PlainL h a vs) (q:Quiet n fs h h') (ha:a ∉ fs):PlainL h' a vs:=by
 obtain ⟨k,ho⟩:=x
 exact ⟨k,q.keep a _ ho ha (.inr fun vs e=>by cases e)⟩
theorem cG.quiet {c:CA} (q:Quiet n fs h h') (hf:∀ a ∈ fs,a ∈ fr) (hc:∀ x ∈ c.all,x ∉ fr):∀ {x:Cell},cG prog w h fr γ c x->cG prog w h' fr γ c x
 | .lst ds,⟨e1,e2,vs,hl,r⟩=>⟨e1,e2,vs,pZ hl q (fun m=>hc c.a (by simp [CA.all]) (hf _ m)),r.quiet q hf⟩
 | .obj fs',⟨e1,mA,ho,r⟩=>⟨e1,mA,ho.quiet q (fun m=>hc c.a (by simp [CA.all]) (hf _ m)) (fun m=>hc c.d (by simp [CA.all]) (hf _ m)),fun f d e=>let ⟨v,h1,h2⟩:=r f d e;⟨v,h1,h2.quiet q hf⟩⟩
 | .junk,_=>trivial
theorem eU {i:Nat} {c:CA} (e:γ[i]?=some c) {x:Addr} (hx:x ∈ c.all):x ∈ muts γ:=List.mem_flatMap.mpr ⟨c,List.mem_of_getElem? e,hx⟩
theorem Inv.quiet {B:Heap} {σ:Sto} (I:Inv prog w B fr γ σ h) (q:Quiet n fs h h') (hf:∀ a ∈ fs,a ∈ fr) (hB:∀ b o,B.get? b=some o->∃ o',n.get? b=some o'):Inv prog w B fr γ σ h' :=
 ⟨I.len,fun i c x e1 e2=>(I.cells i c x e1 e2).quiet q hf fun x hx=>I.off x (eU e1 hx),I.apart,I.off,fun x hx=>by
   obtain ⟨o,e,hd⟩:=I.ex x hx
   by_cases m:x ∈ fs
   ·obtain ⟨sl,e'⟩:=q.frames x m o e
    exact ⟨_,e',hd⟩
   ·exact ⟨o,q.keep x o e m (.inr hd),hd⟩,
  fun b o e=>let ⟨h1,h2⟩:=I.base b o e;⟨q.keep b o h1 (fun m=>h2 (.inl (hf _ m))) (.inl (hB b o e)),h2⟩⟩
theorem Step.quiet {ks:List Addr} {γ₀:Gam} (st:Step fr ks n γ₀ h γ) (q:Quiet n fs h h') (hf:∀ a ∈ fs,a ∈ fr):Step fr ks n γ₀ h' γ:=by
 refine ⟨st.pre,fun a o e hs=>?_,fun a ha o e=>?_⟩
 ·obtain ⟨h1,h2⟩:=st.keep a o e hs
  exact ⟨q.keep a o h1 (fun m=>hs (.inl (hf _ m))) (.inl ⟨o,e⟩),h2⟩
 ·obtain ⟨sl,h1⟩:=st.frames a ha o e
  by_cases m:a ∈ fs
  ·obtain ⟨sl',h2⟩:=q.frames a m _ h1
   exact ⟨sl',h2⟩
  ·exact ⟨sl,q.keep a _ h1 m (.inl ⟨o,e⟩)⟩
end
noncomputable def iF (n:Heap) (fl:Option Addr) (e:Value) (h:Heap):Prop :=
 ∃ (x:Addr) (oe:Obj) (vs:Array Value),e=.ref x∧n.get? x=none∧h.get? x=some oe∧oe.cls=.ref gfA∧oe.data=.fields vs ∧
  ∃ (T:Addr) (oT:Obj) (ts:Array Value),vs[1]?=some (.ref T)∧n.get? T=none∧T ≠ x∧h.get? T=some oT∧oT.data=.fields ts ∧
   ts[3]?=some (match fl with | none=>.none | some L=>rawInt L)
theorem iF.exc {n:Heap} {fl:Option Addr} {e:Value} {h:Heap} (x:iF n fl e h):ExcAt n fl e h:=by
 obtain ⟨a,oe,vs,h1,h2,h3,h4,h5,h6⟩:=x
 exact ⟨a,oe,vs,h1,h2,h3,h4,h5,.inr h6⟩
section
variable {prog:Program} {w:World} {A:Around} {E:Value->Shared->Prop} {s:Shared}
theorem dg {n:Heap} {fl:Option Addr} {e:Value} {fs:List Addr} {nf:Option Addr} {Q:Unit->Shared->Prop} (x:iF n fl e s.heap) (hfs:∀ a ∈ fs,∀ o,s.heap.get? a=some o->∀ vs,o.data ≠ .fields vs)
  (h:∀ h',Quiet n fs s.heap h'->iF n nf e h'->Q () { s with heap:=h' }):wpAny (model prog w) A (setFlight e nf) Q E s:=by
 obtain ⟨a,oe,vs,rfl,h1,h2,h3,h4,T,oT,ts,k1,k2,k3,k4,k5,k6⟩:=x
 unfold setFlight
 refine wpAny_bind (wpAny_field h2 h4 k1 ?_)
 rw [if_pos (show (Value.ref T != Value.none)=true from by simp)]
 have hlt:3 < ts.size:=(Array.getElem?_eq_some_iff.mp k6).1
 refine wpAny_setField k4 k5 hlt (h _ ⟨fun b o e nb hq=>?_,fun b hb o e=>?_⟩ ⟨a,oe,vs,rfl,h1,?_,h3,h4,T,Obj.mapFields (·.setIfInBounds 3 (nf.elim .none fun f=>rawInt f)) oT,ts.setIfInBounds 3 (nf.elim .none fun f=>rawInt f),k1,k2,k3,?_,?_,?_⟩)
 ·refine (Heap.get?_update_other _ _ fun q=>?_).trans e
  subst q
  rw [k4] at e;cases e
  rcases hq with hq | hq
  ·obtain ⟨_,hq⟩:=hq;rw [k2] at hq;cases hq
  ·exact hq _ k5
 ·have:T ≠ b:=fun q=>by subst q;exact hfs T hb oT k4 _ k5
  exact ⟨o.slots,(Heap.get?_update_other _ _ this).trans e⟩
 ·exact (Heap.get?_update_other _ _ k3).trans h2
 ·exact Heap.get?_update_self _ k4 (Obj.isFreed_of_fields (Obj.data_mapFields k5 _))
 ·exact Obj.data_mapFields k5 _
 ·cases nf <;> simp [hlt]
theorem om {n h:Heap} {fs:List Addr} {T:Addr} {oT:Obj} {ts:Array Value} {f:Obj->Obj} (k4:h.get? T=some oT) (k5:oT.data=.fields ts) (k2:n.get? T=none) (hT:T ∉ fs):Quiet n fs h (h.update T f):=by
 refine ⟨fun b o e nb hq=>(Heap.get?_update_other _ _ fun q=>?_).trans e,fun b hb o e=>⟨o.slots,(Heap.get?_update_other _ _ fun (q:T=b)=>hT (q ▸ hb)).trans e⟩⟩
 rw [← q] at e hq
 obtain rfl:=Option.some.inj (k4.symm.trans e)
 rcases hq with ⟨_,hq⟩ | hq
 ·exact ns (hq.symm.trans k2)
 ·exact hq _ k5
theorem A3 {n h:Heap} {fs:List Addr} {a L:Addr} {oe:Obj} {vs:Array Value} {hd:Value} {pl:List Value} (ha:h.get? a=some oe) (h4:oe.data=.fields vs) (h3:oe.cls=.ref gfA) (h1:n.get? a=none) (hsz:1 < vs.size) (hna:a ∉ fs) (hn:n.get? h.objs.size=none) :
  Quiet n fs h ((h.push { cls := .type "traceback", dict := none, data := .fields ([hd, .ref L, .none, rawInt L, .none] ++ pl).toArray }).update a (Obj.mapFields (·.setIfInBounds 1 (Value.ref h.objs.size)))) ∧
  iF n (some L) (.ref a) ((h.push { cls := .type "traceback", dict := none, data := .fields ([hd, .ref L, .none, rawInt L, .none] ++ pl).toArray }).update a (Obj.mapFields (·.setIfInBounds 1 (Value.ref h.objs.size)))) := by
 have ha₂ := Heap.get?_push_of_some (h := h) { cls := .type "traceback", dict := none, data := .fields ([hd, .ref L, .none, rawInt L, .none] ++ pl).toArray } ha
 have hTa:h.objs.size ≠ a:=Nat.ne_of_gt (Heap.lt_size ha)
 refine ⟨Quiet.trans (h₁ := h.push { cls := .type "traceback", dict := none, data := .fields ([hd, .ref L, .none, rawInt L, .none] ++ pl).toArray }) ⟨fun b o e _ _ => Heap.get?_push_of_some _ e, fun b _ o e => ⟨o.slots, Heap.get?_push_of_some _ e⟩⟩ (om ha₂ h4 h1 hna), ?_⟩
 exact ⟨a,_,vs.setIfInBounds 1 (Value.ref h.objs.size),rfl,h1,Heap.get?_update_self _ ha₂ (Obj.isFreed_of_fields (Obj.data_mapFields h4 _)),(Obj.cls_mapFields _ _).trans h3,Obj.data_mapFields h4 _,
   h.objs.size,_,_,by simp [hsz],hn,hTa,(Heap.get?_update_other _ _ (Ne.symm hTa)).trans (Heap.get?_push_size h rfl),rfl,by simp⟩
theorem lY {n:Heap} {env:Env} {outer:List Env} {L a:Addr} {oe:Obj} {vs:Array Value} {hd:Value} {hadNext:Bool} {Q:Unit->Shared->Prop} (hfr:A.frames=some (env :: outer)) (hf:env.frame=some L) (hl:s.heap.FunFrames eH (env :: outer)) (hold:eB n s.heap)
  (ha:s.heap.get? a=some oe) (h4:oe.data=.fields vs) (h3:oe.cls=.ref gfA) (h1:n.get? a=none) (hsz:1 < vs.size) (hna:a ∉ frs (env :: outer)) (hq:∀ h',Quiet n (frs (env :: outer)) s.heap h'->iF n (some L) (.ref a) h'->Q () { s with heap:=h' }) :
  wpAny (model prog w) A (do setField (.ref a) 1 (← EntryCells.newEntry hd (← frameOf env) .none (rawInt L) .none (← entryPlaceOf L hadNext))) Q E s:=by
 refine wpAny_bind (wpAny_frameOf_fun hfr hl hf fun h₁ hs₁=>?_)
 refine wpAny_bind (wpAny_entryPlaceOf fun pl hpl=>?_)
 unfold EntryCells.newEntry newFields
 refine wpAny_bind (wpAny_newObj_type ?_ (hpl.sizeOk5 _ _ _ _ _))
 have ha₁:h₁.get? a=some oe:=(hs₁.2.1 a hna).trans ha
 refine wpAny_setField (Heap.get?_push_of_some _ ha₁) h4 hsz ?_
 have q₁:Quiet n (frs (env :: outer)) s.heap h₁:=⟨fun b o e nb _=>(hs₁.2.1 b nb).trans e,fun b _ o e=>hs₁.2.2 b o e⟩
 obtain ⟨q₂,t⟩:=A3 (fs:=frs (env :: outer)) (L:=L) (hd:=hd) (pl:=if pl.isEmpty then List.replicate 6 Value.none else pl) ha₁ h4 h3 h1 hsz hna ((hold.trans fun b o e=>let ⟨sl,h⟩:=hs₁.2.2 b o e;⟨_,h⟩).none (Heap.get?_none_of_le (Nat.le_refl _)))
 exact hq _ (q₁.trans q₂) t
theorem fD {n:Heap} {fl:Option Addr} {e:Value} {env:Env} {outer:List Env} {L:Addr} {Q:Unit->Shared->Prop} (hfr:A.frames=some (env :: outer)) (hf:env.frame=some L) (hl:s.heap.FunFrames eH (env :: outer))
  (x:ExcAt n fl e s.heap) (hfl:fl=none∨fl=some L) (hn:eB n s.heap)
  (h:∀ h',Quiet n (frs (env :: outer)) s.heap h'->iF n (some L) e h'->Q () { s with heap:=h' }):wpAny (model prog w) A (noteFrame e env) Q E s:=by
 obtain ⟨a,oe,vs,rfl,h1,h2,h3,h4,h5⟩:=x
 have hfs:∀ {b:Addr} {o:Obj} {vs:Array Value},s.heap.get? b=some o->o.data=.fields vs->b ∉ frs (env :: outer):=fun ho hd hb=>by
  obtain ⟨_,o',ho',hd'⟩:=hl.mem hb
  exact hd' _ ((Option.some.inj (ho.symm.trans ho')) ▸ hd)
 unfold noteFrame
 simp only [hf]
 rcases h5 with ⟨rfl,h5⟩ | ⟨T,oT,ts,k1,k2,k3,k4,k5,k6⟩
 ·refine wpAny_bind (wpAny_field h2 h4 h5 ?_)
  rw [if_neg (by decide)]
  exact lY hfr hf hl hn h2 h4 h3 h1 (Array.getElem?_eq_some_iff.mp h5).1 (hfs h2 h4) h
 ·refine wpAny_bind (wpAny_field h2 h4 k1 ?_)
  rw [if_pos (show (Value.ref T != Value.none)=true from by simp)]
  refine wpAny_bind (wpAny_field k4 k5 k6 ?_)
  rcases hfl with rfl | rfl
  ·rw [if_neg (show ¬ ((Value.none == rawInt L)=true) from by simp [rawInt])]
   refine wpAny_bind (wpAny_setField k4 k5 (Array.getElem?_eq_some_iff.mp k6).1 ?_)
   have q:=om (f:=Obj.mapFields (·.setIfInBounds 3 .none)) k4 k5 k2 (hfs k4 k5)
   refine lY (s:={ s with heap:=_ }) hfr hf (b9 hl q.frames) (hn.trans (pV k4 (Obj.isFreed_of_fields (Obj.data_mapFields k5 _)))) ((Heap.get?_update_other _ _ k3).trans h2) h4 h3 h1 (Array.getElem?_eq_some_iff.mp k1).1 (hfs h2 h4) fun h' q' t=>h h' (q.trans q') t
  ·rw [if_pos (show (rawInt L == rawInt L)=true from by simp)]
   exact wpAny_pure (h s.heap .refl ⟨a,oe,vs,rfl,h1,h2,h3,h4,T,oT,ts,k1,k2,k3,k4,k5,k6⟩)
end
end Mine.Internal
end
section
namespace Mine.Internal
open PySem PySem.W PySem.Calls PyProof.Rows
noncomputable def Keeps (h h':Heap):Prop:=∀ b o,h.get? b=some o->h'.get? b=some o
theorem aC {h:Heap} {o:Obj}:Keeps h (h.push o):=fun _ _ e=>Heap.get?_push_of_some _ e
theorem Keeps.trans {h h₁ h₂:Heap} (x:Keeps h h₁) (y:Keeps h₁ h₂):Keeps h h₂:=fun b o e=>y b o (x b o e)
theorem Keeps.refl {h:Heap}:Keeps h h:=fun _ _ e=>e
theorem jj {h h':Heap} (x:Heap.ExtBut h.objs.size h h'):Keeps h h':=fun b o e=>x b o (Nat.ne_of_lt (Heap.lt_size e)) e
section
variable {prog:Program} {w:World} {B:Heap} {fr ks:List Addr} {h h':Heap} {γ γ':Gam} {σ:Sto}
theorem Keeps.step (k:Keeps h h'):Step fr ks h γ h' γ:=⟨⟨[],by simp⟩,fun a o e n=>⟨k a o e,fun m=>n (.inr m)⟩,fun _ _ o e=>⟨o.slots,k _ _ e⟩⟩
theorem gV.move {a d:Addr} {mA:Str->Option Value} (x:gV h a d mA) (ka:∀ o,h.get? a=some o->h'.get? a=some o) (kd:∀ o,h.get? d=some o->h'.get? d=some o):gV h' a d mA:=by
 obtain ⟨⟨o,ho,hc,hnc,hdd⟩,⟨o₁,ho₁,hd₁,hp⟩,only⟩:=x
 refine ⟨⟨o,ka o ho,hc,hnc,?_⟩,⟨o₁,ka o₁ ho₁,hd₁,hp⟩,only⟩
 obtain rfl:o=o₁:=Option.some.inj (ho.symm.trans ho₁)
 rcases hdd with hdd | ⟨d',e1,e2,e3⟩
 ·exact .inl hdd
 ·obtain rfl:d'=d:=Option.some.inj (e1.symm.trans hd₁)
  exact .inr ⟨d',e1,e2,e3.at kd⟩
theorem cG.move {c:CA} (k:∀ a ∈ c.all,∀ o,h.get? a=some o->h'.get? a=some o) (st:Step fr ks h γ h' γ'):∀ {x:Cell},cG prog w h fr γ c x->cG prog w h' fr γ' c x
 | .lst ds,⟨e1,e2,vs,⟨n,ho⟩,q⟩=>⟨e1,e2,vs,⟨n,k c.a (by simp [CA.all]) _ ho⟩,q.step st⟩
 | .obj fs',⟨e1,mA,ho,r⟩=>⟨e1,mA,ho.move (k c.a (by simp [CA.all])) (k c.d (by simp [CA.all])),fun f d e=>let ⟨v,h1,h2⟩:=r f d e;⟨v,h1,h2.step st⟩⟩
 | .junk,_=>trivial
theorem Inv.keeps (I:Inv prog w B fr γ σ h) (k:Keeps h h'):Inv prog w B fr γ σ h' :=
 ⟨I.len,fun i c x e1 e2=>(I.cells i c x e1 e2).move (fun a _ o e=>k a o e) (Keeps.step (ks:=[]) k),I.apart,I.off,fun x hx=>let ⟨o,e,hd⟩:=I.ex x hx;⟨o,k _ _ e,hd⟩,
  fun b o e=>let ⟨h1,h2⟩:=I.base b o e;⟨k b o h1,h2⟩⟩
theorem Inv.fresh (I:Inv prog w B fr γ σ h) {x:Addr} (hx:h.get? x=none):¬ aX fr γ x:=fun s=>by obtain ⟨o,e,_⟩:=I.ex x s;rw [hx] at e;cases e
theorem aZ (h:Heap):h.get? h.objs.size=none:=Heap.get?_none_of_le (Nat.le_refl _)
theorem Inv.set (I:Inv prog w B fr γ σ h) {i:Nat} {c:CA} (hc:γ[i]?=some c) {x:Addr} (hx:x ∈ c.all) (hs:Heap.ExtBut x h h') (he:∃ o,h'.get? x=some o∧∀ vs,o.data ≠ .fields vs) (hk:∀ a ∈ ks,a ∈ fr) :
  Step fr ks h γ h' γ∧∀ y,cG prog w h' fr γ c y->Inv prog w B fr γ (σ.set i y) h':=by
 have hm:=eU hc hx
 have st:∀ ks:List Addr,(∀ a ∈ ks,a ∈ fr)->Step fr ks h γ h' γ:=fun ks hk=>⟨⟨[],by simp⟩,fun a o e n=>⟨hs a o (fun q=>n (.inr (q ▸ hm))) e,fun m=>n (.inr m)⟩,
  fun a ha o e=>⟨o.slots,hs a o (fun q=>I.off x hm (q ▸ hk a ha)) e⟩⟩
 refine ⟨st ks hk,fun y hy=>⟨by rw [List.length_set];exact I.len,fun j c' z e1 e2=>?_,I.apart,I.off,fun a ha=>?_,fun b o e=>?_⟩⟩
 ·by_cases q:i=j
  ·subst q
   obtain rfl:c=c':=Option.some.inj (hc.symm.trans e1)
   have hl:i < σ.length:=by rw [← I.len];exact (List.getElem?_eq_some_iff.mp hc).1
   rw [List.getElem?_set_self hl] at e2
   cases e2
   exact hy
  ·rw [List.getElem?_set_ne q] at e2
   refine (I.cells j c' z e1 e2).move (fun a ha o e=>hs a o (fun q'=>?_) e) (st [] (fun _ h=>nomatch h))
   subst q'
   exact I.apart i j c c' hc e1 q a hx ha
 ·by_cases q:a=x
  ·subst q;exact he
  ·obtain ⟨o,e,hd⟩:=I.ex a ha
   exact ⟨o,hs a o q e,hd⟩
 ·obtain ⟨h1,h2⟩:=I.base b o e
  exact ⟨hs b o (fun q=>h2 (.inr (q ▸ hm))) h1,h2⟩
theorem Inv.recell (I:Inv prog w B fr γ σ h) {i:Nat} {c:CA} (hc:γ[i]?=some c) {y:Cell} (hy:cG prog w h fr γ c y):Inv prog w B fr γ (σ.set i y) h:=by
 refine ⟨by rw [List.length_set];exact I.len,fun j c' z e1 e2=>?_,I.apart,I.off,I.ex,I.base⟩
 by_cases q:i=j
 ·subst q
  obtain rfl:c=c':=Option.some.inj (hc.symm.trans e1)
  have hl:i < σ.length:=by rw [← I.len];exact (List.getElem?_eq_some_iff.mp hc).1
  rw [List.getElem?_set_self hl] at e2
  cases e2
  exact hy
 ·rw [List.getElem?_set_ne q] at e2
  exact I.cells j c' z e1 e2
theorem eV {c:CA}:muts (γ++[c])=muts γ++c.all:=by simp [muts]
theorem Inv.new (I:Inv prog w B fr γ σ h) (k:Keeps h h') {c:CA} (hf:∀ x ∈ c.all,h.get? x=none∧∃ o,h'.get? x=some o∧∀ vs,o.data ≠ .fields vs) :
  Step fr ks h γ h' (γ++[c])∧∀ y,cG prog w h' fr (γ++[c]) c y->Inv prog w B fr (γ++[c]) (σ++[y]) h':=by
 have fresh:∀ {a o},h.get? a=some o->a ∉ c.all:=fun e m=>by rw [(hf _ m).1] at e;cases e
 have st:∀ ks:List Addr,Step fr ks h γ h' (γ++[c]):=fun ks=>⟨⟨[c],rfl⟩,fun a o e n=>⟨k a o e,fun m=>by
  rw [eV] at m
  exact (List.mem_append.mp m).elim (fun m=>n (.inr m)) (fresh e)⟩,fun _ _ o e=>⟨o.slots,k _ _ e⟩⟩
 have hex:∀ {x},x ∈ muts γ->∃ o,h.get? x=some o:=fun m=>let ⟨o,e,_⟩:=I.ex _ (.inr m);⟨o,e⟩
 refine ⟨st ks,fun y hy=>⟨by simp [I.len],fun j c' z e1 e2=>?_,fun i j c₁ c₂ e1 e2 hne x hx hx'=>?_,fun x m m'=>?_,fun x hx=>?_,fun b o e=>?_⟩⟩
 ·by_cases q:j < γ.length
  ·rw [List.getElem?_append_left q] at e1
   rw [List.getElem?_append_left (by rw [← I.len];exact q)] at e2
   exact (I.cells j c' z e1 e2).move (fun a _ o e=>k a o e) (st [])
  ·have hj:j=γ.length:=by
    have:=(List.getElem?_eq_some_iff.mp e1).1
    rw [List.length_append,List.length_cons,List.length_nil] at this
    exact Nat.le_antisymm (Nat.le_of_lt_succ this) (Nat.le_of_not_lt q)
   subst hj
   rw [List.getElem?_append_right (Nat.le_refl _),Nat.sub_self] at e1
   rw [I.len,List.getElem?_append_right (Nat.le_refl _),Nat.sub_self] at e2
   cases e1;cases e2
   exact hy
 ·have look:∀ {i:Nat} {c':CA},(γ++[c])[i]?=some c'->γ[i]?=some c'∨(i=γ.length∧c'=c):=fun {i c'} e=>by
   by_cases q:i < γ.length
   ·rw [List.getElem?_append_left q] at e;exact .inl e
   ·have:=(List.getElem?_eq_some_iff.mp e).1
    rw [List.length_append,List.length_cons,List.length_nil] at this
    have hi:i=γ.length:=Nat.le_antisymm (Nat.le_of_lt_succ this) (Nat.le_of_not_lt q)
    subst hi
    rw [List.getElem?_append_right (Nat.le_refl _),Nat.sub_self] at e
    cases e
    exact .inr ⟨rfl,rfl⟩
  rcases look e1 with f1 | ⟨g1,g2⟩ <;> rcases look e2 with f2 | ⟨k1,k2⟩
  ·exact I.apart i j c₁ c₂ f1 f2 hne x hx hx'
  ·subst k2
   obtain ⟨o,e⟩:=hex (eU f1 hx)
   exact fresh e hx'
  ·subst g2
   obtain ⟨o,e⟩:=hex (eU f2 hx')
   exact fresh e hx
  ·exact hne (g1.trans k1.symm)
 ·rw [eV] at m
  rcases List.mem_append.mp m with m | m
  ·exact I.off x m m'
  ·obtain ⟨o,e,_⟩:=I.ex x (.inl m')
   exact fresh e m
 ·rcases hx with hx | hx
  ·obtain ⟨o,e,hd⟩:=I.ex x (.inl hx)
   exact ⟨o,k _ _ e,hd⟩
  ·rw [eV] at hx
   rcases List.mem_append.mp hx with hx | hx
   ·obtain ⟨o,e,hd⟩:=I.ex x (.inr hx)
    exact ⟨o,k _ _ e,hd⟩
   ·exact (hf x hx).2
 ·obtain ⟨h1,h2⟩:=I.base b o e
  refine ⟨k b o h1,fun s=>?_⟩
  rcases s with s | s
  ·exact h2 (.inl s)
  ·rw [eV] at s
   exact (List.mem_append.mp s).elim (fun m=>h2 (.inr m)) (fresh h1)
theorem Inv.frame {L:Addr} (I:Inv prog w B fr γ σ h) (hL:L ∈ fr) (hs:Heap.SameBut L h h') (he:∃ o,h'.get? L=some o∧∀ vs,o.data ≠ .fields vs) (hk:L ∉ ks):Step fr ks h γ h' γ∧Inv prog w B fr γ σ h':=by
 have st:∀ ks:List Addr,L ∉ ks->Step fr ks h γ h' γ:=fun ks hk=>⟨⟨[],by simp⟩,fun a o e n=>⟨(hs.2 a fun q=>n (.inl (q ▸ hL))).trans e,fun m=>n (.inr m)⟩,
  fun a ha o e=>⟨o.slots,(hs.2 a fun q=>hk (q ▸ ha)).trans e⟩⟩
 refine ⟨st ks hk,I.len,fun i c x e1 e2=>(I.cells i c x e1 e2).move (fun a ha o e=>(hs.2 a fun q=>I.off a (eU e1 ha) (q ▸ hL)).trans e) (st [] (fun h=>nomatch h)),I.apart,I.off,fun x hx=>?_,fun b o e=>?_⟩
 ·by_cases q:x=L
  ·subst q;exact he
  ·obtain ⟨o,e,hd⟩:=I.ex x hx
   exact ⟨o,(hs.2 x q).trans e,hd⟩
 ·obtain ⟨h1,h2⟩:=I.base b o e
  exact ⟨(hs.2 b fun q=>h2 (.inl (q ▸ hL))).trans h1,h2⟩
end
structure bZ (prog:Program) (w:World) (B:Heap) (mg mb:Str->Option Value):Prop where
 nolim:B.NoLimit
 g:B.Ns mainGlobals mg
 b:B.Ns builtinsNs mb
 tab : ∀ x d, eO.lookup x = some d → (x == ("__debug__" : Str)) = false ∧ ∃ v, mg x = some v ∧ ∀ h fr γ, (∀ b o, B.get? b = some o → h.get? b = some o ∧ ¬ aX fr γ b) → Den prog w h fr γ v d
 bi : ∀ x ∈ (["len", "str", "tuple", "list", "min", "max", "isinstance", "int", "bool", "range"] : List String), mg (Str.ofString x) = none ∧ mb (Str.ofString x) = bootBuiltins (Str.ofString x)
structure Fc (A:Around) (cx:Cx) (env:Env) (outer:List Env) (L:Addr) (dp:Nat):Prop where
 envEq:∃ name a cd,env=envOf name cx.scope L a cd
 kind:cx.scope.kind=.function
 gl:cx.gl=eO
 nodup:cx.names.Nodup
 hand:A.handled=none
 frames:A.frames=some (env :: outer)
 room:A.depth+3 * dp < 690
 units:A.units+10 * dp < 9000
section
variable (prog:Program) (w:World)
noncomputable def gU (h:Heap) (fr:List Addr) (γ:Gam) (cx:Cx) (L:Addr) (ρ:Loc):Prop :=
 ∃ m,h.Ns L m∧∀ (i:Nat) (x:Str) (d:D),cx.names[i]?=some x->ρ[i]?=some (some d)->∃ v,m x=some v∧Den prog w h fr γ v d
structure Pre (B:Heap) (cx:Cx) (env:Env) (outer:List Env) (L:Addr) (fr₀:List Addr) (ρ:Loc) (γ:Gam) (σ:Sto) (h:Heap):Prop where
 loc:gU prog w h (L :: fr₀) γ cx L ρ
 inv:Inv prog w B (L :: fr₀) γ σ h
 out:dj h (env :: outer) (L :: fr₀)
 notin:L ∉ fr₀
 outs:∀ a ∈ frs outer,a ∈ fr₀
end
section
variable {prog:Program} {w:World} {B:Heap} {fr ks:List Addr} {h h':Heap} {γ γ':Gam} {σ σ':Sto} {cx:Cx} {env:Env} {outer:List Env} {L:Addr} {fr₀:List Addr} {ρ:Loc}
theorem A4 {m:Str->Option Value} (x:h.Ns L m) (k:∀ o,h.get? L=some o->∃ sl,h'.get? L=some { o with slots:=sl }):h'.Ns L m:=by
 obtain ⟨o,es,ep,ho,hd,r⟩:=x
 obtain ⟨sl,e⟩:=k o ho
 exact ⟨_,es,ep,e,hd,r⟩
theorem gU.step (x:gU prog w h fr γ cx L ρ) (st:Step fr ks h γ h' γ') (hL:L ∈ ks):gU prog w h' fr γ' cx L ρ:=by
 obtain ⟨m,hn,k⟩:=x
 exact ⟨m,A4 hn (st.frames L hL),fun i y d e1 e2=>let ⟨v,h1,h2⟩:=k i y d e1 e2;⟨v,h1,h2.step st⟩⟩
theorem Pre.step (x:Pre prog w B cx env outer L fr₀ ρ γ σ h) (st:Step (L :: fr₀) (L :: fr₀) h γ h' γ') (I:Inv prog w B (L :: fr₀) γ' σ' h'):Pre prog w B cx env outer L fr₀ ρ γ' σ' h' :=
 ⟨x.loc.step st (.head _),I,x.out.step st x.out.2,x.notin,x.outs⟩
end
noncomputable def aJ (prog:Program) (w:World) (fr:List Addr):Heap->Gam->Value->D->Prop:=fun h γ v d=>Den prog w h fr γ v d
noncomputable def EU (prog:Program) (w:World) (fr:List Addr):Heap->Gam->List Value->List D->Prop:=fun h γ v d=>av prog w h fr γ v d
noncomputable def jD:Heap->Gam->Bool->Bool->Prop:=fun _ _ a b=>a=b
end Mine.Internal
end
section
namespace Mine.Internal
open PySem PySem.W PySem.Calls PyProof.Rows
noncomputable def FlV (prog:Program) (w:World) (fr:List Addr) (h:Heap) (γ:Gam) (f:Flow):Fl->Prop
 | .next=>f=.next
 | .brk=>f=.brk
 | .ret d=>∃ v,f=.ret v∧Den prog w h fr γ v d
noncomputable def FlR (prog:Program) (w:World) (cx:Cx) (L:Addr) (fr₀:List Addr):Heap->Gam->Flow->Fl × Loc->Prop:=fun h γ f p=>FlV prog w (L :: fr₀) h γ f p.1∧gU prog w h (L :: fr₀) γ cx L p.2
noncomputable def cY (prog:Program) (w:World) (B:Heap) (L:Addr) (fr₀:List Addr) (s:Shared) (γ:Gam) (r:R (Fl × Loc)):Value->Shared->Prop :=
 fun e s'=>∃ fl,(fl=none∨fl=some L)∧aP prog w B (L :: fr₀) fr₀ s γ r fl e s'
inductive bS (prog:Program) (w:World) (h:Heap) (fr:List Addr) (γ:Gam):Addr->List D->Prop
 | tup {it a:Addr} {vs:List Value} {i:Nat} {ds:List D}:IsTupIter h it a i->IsTup h a vs.toArray->a ≠ it->¬ aX fr γ a->av prog w h fr γ (vs.drop i) ds->bS prog w h fr γ it ds
 | lst {it a:Addr} {vs:List Value} {i:Nat} {ds:List D}:h.IsListIter it a i->h.IsList a vs.toArray->a ≠ it->¬ aX fr γ a->av prog w h fr γ (vs.drop i) ds->vs.length < 2 ^ 62->bS prog w h fr γ it ds
 | rng {it:Addr} {i n:Nat}:IsRangeIter h it (i:Int) (n:Int) 1->bS prog w h fr γ it ((List.range n).map fun (j:Nat)=>.int ((i+j:Nat):Int))
structure Sound (prog:Program) (w:World) (B:Heap) (E:Ev):Prop where
 su:∀ dp ρ σ,E.x dp ρ .un σ=.no
 sk:∀ dp a ds σ,E.c dp a ds σ ≠ .no->a=aO∨(fnT a).isSome=true
 sx:∀ {A cx env outer L dp fr₀ ρ γ σ s} (k:Nat) (e:Expr),Fc A cx env outer L dp->Pre prog w B cx env outer L fr₀ ρ γ σ s.heap->E.x dp ρ (aa k cx e) σ ≠ .no ->
  WP prog w B (L :: fr₀) (L :: fr₀) A (eval e env) s γ (aJ prog w (L :: fr₀)) (E.x dp ρ (aa k cx e) σ)
 st:∀ {A cx env outer L dp fr₀ ρ γ σ s} (k:Nat) (e:Expr),Fc A cx env outer L dp->Pre prog w B cx env outer L fr₀ ρ γ σ s.heap->E.t dp ρ (aa k cx e) σ ≠ .no ->
  WP prog w B (L :: fr₀) (L :: fr₀) A (isTrue e env (eval e env)) s γ jD (E.t dp ρ (aa k cx e) σ)
 sl:∀ {A cx env outer L dp fr₀ ρ γ σ s} (k:Nat) (pos:Pos) (es:List Expr),Fc A cx env outer L dp->Pre prog w B cx env outer L fr₀ ρ γ σ s.heap->E.l dp ρ (es.map (aa k cx)) σ ≠ .no ->
  WP prog w B (L :: fr₀) (L :: fr₀) A (spliced (backTo pos (starEach es env))) s γ (EU prog w (L :: fr₀)) (E.l dp ρ (es.map (aa k cx)) σ)
 sb:∀ {A cx env outer L dp fr₀ ρ γ σ s} (k:Nat) (ss:List Stmt),Fc A cx env outer L dp->Pre prog w B cx env outer L fr₀ ρ γ σ s.heap->E.b dp ρ (ss.map (aF k cx)) σ ≠ .no ->
  wpAny (model prog w) A (execs ss env) (Post prog w B (L :: fr₀) fr₀ s γ (FlR prog w cx L fr₀) (E.b dp ρ (ss.map (aF k cx)) σ)) (cY prog w B L fr₀ s γ (E.b dp ρ (ss.map (aF k cx)) σ)) s
 sw:∀ {A cx env outer L dp fr₀ ρ γ σ s} (k:Nat) (c:Expr) (ss:List Stmt),Fc A cx env outer L dp->Pre prog w B cx env outer L fr₀ ρ γ σ s.heap->E.w dp ρ (aa k cx c) (ss.map (aF k cx)) σ ≠ .no ->
  codeAny (model prog w) A (.whileLoop c ss [] env) (fun res s'=>match res with
   | .ok f=>Post prog w B (L :: fr₀) fr₀ s γ (FlR prog w cx L fr₀) (E.w dp ρ (aa k cx c) (ss.map (aF k cx)) σ) f s'
   | .error e=>∃ σ' γ',E.w dp ρ (aa k cx c) (ss.map (aF k cx)) σ=.err σ'∧Step (L :: fr₀) fr₀ s.heap γ s'.heap γ'∧Inv prog w B (L :: fr₀) γ' σ' s'.heap∧Rest s s'∧iF s.heap (some L) e s'.heap) s
 sf:∀ {A cx env outer L dp fr₀ ρ γ σ s₀ γ₀ s} (k:Nat) (tg:Expr) (t:Tg) (ss:List Stmt) (it:Addr) (ds:List D),Fc A cx env outer L dp->Pre prog w B cx env outer L fr₀ ρ γ σ s.heap->qk cx tg=some t ->
  Step (L :: fr₀) fr₀ s₀.heap γ₀ s.heap γ->Rest s₀ s->(∀ b o,B.get? b=some o->∃ o',s₀.heap.get? b=some o')->s₀.heap.get? it=none->bS prog w s.heap (L :: fr₀) γ it ds->E.f dp ρ t ds (ss.map (aF k cx)) σ ≠ .no ->
  codeAny (model prog w) A (.forLoop tg (.ref it) ss [] env) (fun res s'=>match res with
   | .ok f=>Post prog w B (L :: fr₀) fr₀ s₀ γ₀ (FlR prog w cx L fr₀) (E.f dp ρ t ds (ss.map (aF k cx)) σ) f s'
   | .error e=>∃ σ' γ',E.f dp ρ t ds (ss.map (aF k cx)) σ=.err σ'∧Step (L :: fr₀) fr₀ s₀.heap γ₀ s'.heap γ'∧Inv prog w B (L :: fr₀) γ' σ' s'.heap∧Rest s₀ s'∧iF s₀.heap (some L) e s'.heap) s
 sc:∀ {A outer fr γ σ s dp} (f:Nat) (vs:List Value) (ds:List D),A.handled=none->A.frames=some outer->A.depth+3 * dp < 692->A.units+10 * dp < 9005->dj s.heap outer fr->Inv prog w B fr γ σ s.heap->av prog w s.heap fr γ vs ds->E.c dp f ds σ ≠ .no ->
  WP prog w B fr fr A (call (.ref f) vs) s γ (aJ prog w fr) (E.c dp f ds σ)
theorem u9 {prog:Program} {w:World} {B:Heap}:Sound prog w B .zero :=
 ⟨fun _ _ _=>rfl,fun _ _ _ _ h=>absurd rfl h,fun _ _ _ _ h=>absurd rfl h,fun _ _ _ _ h=>absurd rfl h,fun _ _ _ _ _ h=>absurd rfl h,fun _ _ _ _ h=>absurd rfl h,fun _ _ _ _ _ h=>absurd rfl h,fun _ _ _ _ _ _ _ _ _ _ _ _ _ _ h=>absurd rfl h,fun _ _ _ _ _ _ _ _ _ _ h=>absurd rfl h⟩
section
variable {prog:Program} {w:World} {B:Heap} {mg mb:Str->Option Value} {E:Ev} {A:Around} {cx:Cx} {env:Env} {outer:List Env} {L:Addr} {dp:Nat} {fr₀:List Addr} {ρ:Loc} {γ:Gam} {σ:Sto} {s:Shared}
theorem Post.ok {α β:Type} {fr ks:List Addr} {Rel:Heap->Gam->α->β->Prop} {v:α} {b:β} {σ':Sto} {γ':Gam} {s':Shared} (st:Step fr ks s.heap γ s'.heap γ') (I:Inv prog w B fr γ' σ' s'.heap) (rs:Rest s s') (rel:Rel s'.heap γ' v b) :
  Post prog w B fr ks s γ Rel (.ok b σ') v s':=⟨b,σ',γ',rfl,st,I,rs,rel⟩
theorem Post.toks {α β:Type} {fr ks:List Addr} {Rel:Heap->Gam->α->β->Prop} {v:α} {b:β} {tk:Nat} (I:Inv prog w B fr γ σ s.heap) (rel:Rel s.heap γ v b) :
  Post prog w B fr ks s γ Rel (.ok b σ) v { s with toks:=tk }:=⟨b,σ,γ,rfl,.refl,I,.refl,rel⟩
theorem Post.here {α β:Type} {fr ks:List Addr} {Rel:Heap->Gam->α->β->Prop} {v:α} {b:β} (I:Inv prog w B fr γ σ s.heap) (rel:Rel s.heap γ v b) :
  Post prog w B fr ks s γ Rel (.ok b σ) v s:=⟨b,σ,γ,rfl,.refl,I,.refl,rel⟩
theorem Post.push {α β:Type} {fr ks:List Addr} {Rel:Heap->Gam->α->β->Prop} {v:α} {b:β} {tk:Nat} {h':Heap} (I:Inv prog w B fr γ σ s.heap) (k:Keeps s.heap h') (rel:Rel h' γ v b) :
  Post prog w B fr ks s γ Rel (.ok b σ) v { s with heap:=h',toks:=tk }:=⟨b,σ,γ,rfl,k.step,I.keeps k,.refl,rel⟩
theorem OF {z:Bool}:aq z E dp ρ .un σ=.no:=rfl
theorem B5 {z:Bool} (c:Const) (k₀:Nat) (pos:Pos) (n:Nat) (P:Pre prog w B cx env outer L fr₀ ρ γ σ s.heap) (h:aq z E dp ρ (aa (n+1) cx (.Constant c k₀ pos)) σ ≠ .no) :
  WP prog w B (L :: fr₀) (L :: fr₀) A (eval (.Constant c k₀ pos) env) s γ (aJ prog w (L :: fr₀)) (aq z E dp ρ (aa (n+1) cx (.Constant c k₀ pos)) σ):=by
 cases c with
 | none=>exact wpAny_Constant_none (Post.here P.inv .none)
 | bool b=>exact wpAny_Constant_bool (Post.here P.inv (.bool b))
 | int i=>exact wpAny_Constant_int (Post.toks P.inv (.int i _))
 | str x=>exact wpAny_Constant_str (Post.toks P.inv (show Den prog w s.heap (L :: fr₀) γ (.str x s.toks) (.str x.cps.toList) from by
   have:=Den.str (prog:=prog) (w:=w) (h:=s.heap) (fr:=L :: fr₀) (γ:=γ) x.cps.toList s.toks
   simpa using this))
 | _=>exact absurd rfl h
theorem CH {names:List Str} {x:Str} {i:Nat} (e:nth names x=some i):names[i]?=some x:=by
 unfold nth at e
 rw [List.findIdx?_eq_some_iff_getElem] at e
 obtain ⟨h,h1,_⟩:=e
 rw [List.getElem?_eq_getElem h,beq_iff_eq.mp h1]
theorem jx {x : Str} {i : Nat} (e : cx.slot x = some i) : cx.scope.names.lookup x = some .local ∧ (x == ("__debug__" : Str)) = false ∧ cx.names[i]? = some x := by
 unfold Cx.slot at e
 split at e
 ·rename_i h
  rw [Bool.and_eq_true] at h
  refine ⟨beq_iff_eq.mp h.1,?_,CH e⟩
  have:=h.2
  simp only [isS,Bool.not_eq_true'] at this
  exact this
 ·cases e
theorem nN {x:Str} {d:D} (F:Fc A cx env outer L dp) (e:cx.glob x=some d):cx.scope.names.lookup x=some .globalImplicit∧eO.lookup x=some d:=by
 unfold Cx.glob at e
 split at e
 ·rename_i h
  exact ⟨beq_iff_eq.mp h,F.gl ▸ e⟩
 ·cases e
theorem zO {x:Str} {i:Nat} {pos:Pos} {d:D} (F:Fc A cx env outer L dp) (P:Pre prog w B cx env outer L fr₀ ρ γ σ s.heap) (e:cx.slot x=some i) (er:ρ[i]?=some (some d)) {Q:Value->Shared->Prop} {E':Value->Shared->Prop}
  (hq:∀ v,Den prog w s.heap (L :: fr₀) γ v d->Q v s):wpAny (model prog w) A (eval (.Name x pos) env) Q E' s:=by
 obtain ⟨h1,h2,h3⟩:=jx e
 obtain ⟨m,hn,hm⟩:=P.loc
 obtain ⟨v,hv,hd⟩:=hm i x d h3 er
 obtain ⟨name,a,cd,rfl⟩:=F.envEq
 exact wpAny_Name (wpAny_loadName_local (env:=envOf name cx.scope L a cd) F.kind h1 hn hv (hq v hd)) h2
theorem ld_global {x:Str} {pos:Pos} {d:D} (G:bZ prog w B mg mb) (F:Fc A cx env outer L dp) (P:Pre prog w B cx env outer L fr₀ ρ γ σ s.heap) (e:cx.glob x=some d) {Q:Value->Shared->Prop} {E':Value->Shared->Prop}
  (hq:∀ v,Den prog w s.heap (L :: fr₀) γ v d->Q v s):wpAny (model prog w) A (eval (.Name x pos) env) Q E' s:=by
 obtain ⟨h1,h2⟩:=nN F e
 obtain ⟨hd,v,hv,hden⟩:=G.tab x d h2
 obtain ⟨name,a,cd,rfl⟩:=F.envEq
 exact Name_function_global (env:=envOf name cx.scope L a cd) F.kind h1 (loadGlobal_global (env:=envOf name cx.scope L a cd) (G.g.keeps fun b o e=>(P.inv.base b o e).1) hv (hq v (hden _ _ _ P.inv.base))) hd
theorem ld_builtin {x : String} {pos : Pos} {v : Value} (hx : x ∈ (["len", "str", "tuple", "list", "min", "max", "isinstance", "int", "bool", "range"] : List String)) (hb : bootBuiltins (Str.ofString x) = some v) (G : bZ prog w B mg mb) (F : Fc A cx env outer L dp) (P : Pre prog w B cx env outer L fr₀ ρ γ σ s.heap)
  (e : cx.builtin (Str.ofString x) = true) (hd : (Str.ofString x == ("__debug__" : Str)) = false) {Q : Value → Shared → Prop} {E' : Value → Shared → Prop} (hq : Q v s) : wpAny (model prog w) A (eval (.Name (Str.ofString x) pos) env) Q E' s := by
 obtain ⟨h1,h2⟩:=G.bi x hx
 obtain ⟨name,a,cd,rfl⟩:=F.envEq
 exact Name_function_global (env:=envOf name cx.scope L a cd) F.kind (beq_iff_eq.mp e) (loadGlobal_builtin (env:=envOf name cx.scope L a cd) (G.g.keeps fun b o e=>(P.inv.base b o e).1) h1 (G.b.keeps fun b o e=>(P.inv.base b o e).1) (h2.trans hb) hq) hd
theorem Ec {z:Bool} (x:Str) (pos:Pos) (n:Nat) (G:bZ prog w B mg mb) (F:Fc A cx env outer L dp) (P:Pre prog w B cx env outer L fr₀ ρ γ σ s.heap) (h:aq z E dp ρ (aa (n+1) cx (.Name x pos)) σ ≠ .no) :
  WP prog w B (L :: fr₀) (L :: fr₀) A (eval (.Name x pos) env) s γ (aJ prog w (L :: fr₀)) (aq z E dp ρ (aa (n+1) cx (.Name x pos)) σ):=by
 rw [show aa (n+1) cx (.Name x pos)=vg (cx.slot x) (cx.glob x) from rfl] at h ⊢
 cases e:cx.slot x with
 | some i =>
  rw [e,show aq z E dp ρ (vg (some i) (cx.glob x)) σ=(match ρ[i]? with | some (some d)=>.ok d σ | _=>.no) from rfl] at h
  rw [show aq z E dp ρ (vg (some i) (cx.glob x)) σ=(match ρ[i]? with | some (some d)=>.ok d σ | _=>.no) from rfl]
  cases er:ρ[i]? with
  | none=>rw [er] at h;exact absurd rfl h
  | some o =>
   rw [er] at h
   cases o with
   | none=>exact absurd rfl h
   | some d=>exact zO F P e er fun v hv=>Post.here P.inv hv
 | none =>
  rw [e] at h
  cases eg:cx.glob x with
  | none=>rw [eg] at h;exact absurd rfl h
  | some d=>exact ld_global G F P eg fun v hv=>Post.here P.inv hv
theorem fE {vs:List Value} {ds:List D} {h:Heap} {fr:List Addr} (I:Inv prog w B fr γ σ h) (d:av prog w h fr γ vs ds) :
  Den prog w (h.push { cls := .type "tuple", data := .seq vs.toArray }) fr γ (.ref h.objs.size) (.tup ds) :=
 .tup ⟨_,Heap.get?_push_size _ rfl,rfl,0,rfl⟩ (I.fresh (aZ h)) (d.step (Keeps.step (ks:=[]) aC))
theorem iW {vs:List Value} {ds:List D} {h h':Heap} {fr ks:List Addr} {a:Addr} (I:Inv prog w B fr γ σ h) (k:Keeps h h') (ha:h.get? a=none) (hl:PlainL h' a vs) (d:av prog w h fr γ vs ds) :
  ∃ γ',Step fr ks h γ h' γ'∧Inv prog w B fr γ' (σ++[.lst ds]) h'∧Den prog w h' fr γ' (.ref a) (.cell σ.length):=by
 obtain ⟨n,ho⟩:=id hl
 have hf:∀ x ∈ (⟨a,a,a⟩:CA).all,h.get? x=none∧∃ o,h'.get? x=some o∧∀ vs,o.data ≠ .fields vs:=fun x hx=>by
  have:x=a:=by simpa [CA.all] using hx
  subst this
  exact ⟨ha,_,ho,fun vs e=>by cases e⟩
 obtain ⟨st,mk⟩:=I.new (ks:=ks) k hf
 refine ⟨γ++[⟨a,a,a⟩],st,mk (.lst ds) ⟨rfl,rfl,vs,hl,d.step st⟩,?_⟩
 have:=Den.cell (prog:=prog) (w:=w) (h:=h') (fr:=fr) (γ:=γ++[⟨a,a,a⟩]) (i:=σ.length) (c:=⟨a,a,a⟩) (by rw [← I.len,List.getElem?_append_right (Nat.le_refl _),Nat.sub_self];rfl)
 exact this
theorem J4 {es:List Expr} {vs:List Value} (h:vs.length=es.length) (hs:es.length≤10000):vs.length≤sizeLine:=by
 rw [sizeLine_eq,h]
 exact Nat.le_trans hs (by decide)
theorem cF {α β:Type} {fr ks:List Addr} {t:Sem α} {Rel:Heap->Gam->α->β->Prop} {r₀:R β} (h:r₀ ≠ .no) (k:∀ r,r=r₀->r ≠ .no->WP prog w B fr ks A t s γ Rel r):WP prog w B fr ks A t s γ Rel r₀:=k r₀ rfl h
theorem bP {β:Type} (S:Sound prog w B E) (F:Fc A cx env outer L dp) (P:Pre prog w B cx env outer L fr₀ ρ γ σ s.heap) (n:Nat) (e:Expr) {k:D->Sto->R β} {r:R β} {Q:Value->Shared->Prop} (hr:r=(E.x dp ρ (aa n cx e) σ).bind k) (h:r ≠ .no)
  (y:∀ v d σ₁ γ₁ s₁,Step (L :: fr₀) (L :: fr₀) s.heap γ s₁.heap γ₁->Pre prog w B cx env outer L fr₀ ρ γ₁ σ₁ s₁.heap->Rest s s₁->Den prog w s₁.heap (L :: fr₀) γ₁ v d->r=k d σ₁->Q v s₁) :
  wpAny (model prog w) A (eval e env) Q (aP prog w B (L :: fr₀) (L :: fr₀) s γ r none) s:=by
 subst hr
 refine wpAny_mono (S.sx n e F P (R.of_bind h)) (fun v s₁ q=>?_) fun _ _ q=>q.bind
 obtain ⟨d,σ₁,γ₁,er,st,I,rs,dd⟩:=q
 exact y v d σ₁ γ₁ s₁ st (P.step st I) rs dd (congrArg (R.bind · k) er)
theorem vY {β:Type} {s₁:Shared} {γ₁:Gam} {σ₁:Sto} (S:Sound prog w B E) (F:Fc A cx env outer L dp) (st:Step (L :: fr₀) (L :: fr₀) s.heap γ s₁.heap γ₁) (rs:Rest s s₁) (P:Pre prog w B cx env outer L fr₀ ρ γ₁ σ₁ s₁.heap) (n:Nat) (e:Expr) {k:D->Sto->R β} {r:R β} {Q:Value->Shared->Prop} (hr:r=(E.x dp ρ (aa n cx e) σ₁).bind k) (h:r ≠ .no)
  (y:∀ v d σ₂ γ₂ s₂,Step (L :: fr₀) (L :: fr₀) s.heap γ s₂.heap γ₂->Step (L :: fr₀) (L :: fr₀) s₁.heap γ₁ s₂.heap γ₂->Pre prog w B cx env outer L fr₀ ρ γ₂ σ₂ s₂.heap->Rest s s₂->Den prog w s₂.heap (L :: fr₀) γ₂ v d->r=k d σ₂->Q v s₂) :
  wpAny (model prog w) A (eval e env) Q (aP prog w B (L :: fr₀) (L :: fr₀) s γ r none) s₁:=by
 subst hr
 refine wpAny_mono (S.sx n e F P (R.of_bind h)) (fun v s₂ q=>?_) fun _ _ q=>(q.bind).trans st P.inv rs
 obtain ⟨d,σ₂,γ₂,er,st₂,I,rs₂,dd⟩:=q
 exact y v d σ₂ γ₂ s₂ (st.trans st₂) st₂ (P.step st₂ I) (rs.trans rs₂) dd (congrArg (R.bind · k) er)
end
end Mine.Internal
end
section
namespace Mine.Internal
open PySem PySem.W PySem.Calls PyProof.Rows
section
variable {prog:Program} {w:World} {B:Heap} {mg mb:Str->Option Value} {E:Ev} {A:Around} {cx:Cx} {env:Env} {outer:List Env} {L:Addr} {dp:Nat} {fr₀:List Addr} {ρ:Loc} {γ:Gam} {σ:Sto} {s:Shared} {z:Bool}
theorem bk {a b:Nat} (h:Nat.ble a b=true):a≤b:=Nat.le_of_ble_eq_true h
theorem eT:lim≤sizeLine:=by rw [sizeLine_eq];decide
theorem eo {h:Heap} {fr:List Addr} {vs:List Value} {ds:List D} (d:av prog w h fr γ vs ds) (hl:ds.length≤lim):vs.length≤sizeLine:=by rw [d.length];exact Nat.le_trans hl eT
theorem B8 (S:Sound prog w B E) (F:Fc A cx env outer L dp) (P:Pre prog w B cx env outer L fr₀ ρ γ σ s.heap) (n:Nat) (es:List Expr) (kk:Nat) (pos:Pos) (h:aq z E dp ρ (aa (n+1) cx (.Tuple es kk pos)) σ ≠ .no) :
  WP prog w B (L :: fr₀) (L :: fr₀) A (eval (.Tuple es kk pos) env) s γ (aJ prog w (L :: fr₀)) (aq z E dp ρ (aa (n+1) cx (.Tuple es kk pos)) σ):=by
 rw [show aq z E dp ρ (aa (n+1) cx (.Tuple es kk pos)) σ=(E.l dp ρ (es.map (aa n cx)) σ).bind fun ds σ=>if Nat.ble ds.length lim then .ok (.tup ds) σ else .no from rfl] at h ⊢
 refine wpAny_Tuple (wpAny_mono (S.sl n pos es F P (R.of_bind h)) (fun vs s₁ p=>?_) fun e s' p=>p.bind)
 obtain ⟨ds,σ₁,γ₁,e,st,I,rs,d⟩:=p
 rw [e,R.bg] at h ⊢
 split at h
 ·rename_i hb
  refine ⟨eo d (bk hb),?_⟩
  rw [if_pos hb]
  exact Post.ok (st.trans (Keeps.step aC)) (I.keeps aC) rs (fE I d)
 ·exact absurd rfl h
theorem Eb (S:Sound prog w B E) (F:Fc A cx env outer L dp) (P:Pre prog w B cx env outer L fr₀ ρ γ σ s.heap) (n:Nat) (es:List Expr) (pos:Pos) (h:aq z E dp ρ (aa (n+1) cx (.List es pos)) σ ≠ .no) :
  WP prog w B (L :: fr₀) (L :: fr₀) A (eval (.List es pos) env) s γ (aJ prog w (L :: fr₀)) (aq z E dp ρ (aa (n+1) cx (.List es pos)) σ):=by
 rw [show aq z E dp ρ (aa (n+1) cx (.List es pos)) σ=(E.l dp ρ (es.map (aa n cx)) σ).bind fun ds σ=>if Nat.ble ds.length lim then .ok (.cell σ.length) (σ++[.lst ds]) else .no from rfl] at h ⊢
 refine wpAny_List (wpAny_mono (S.sl n pos es F P (R.of_bind h)) (fun vs s₁ p=>?_) fun e s' p=>p.bind)
 obtain ⟨ds,σ₁,γ₁,e,st,I,rs,d⟩:=p
 rw [e,R.bg] at h ⊢
 split at h
 ·rename_i hb
  refine ⟨eo d (bk hb),?_⟩
  rw [if_pos hb]
  obtain ⟨γ₂, st₂, I₂, d₂⟩ := iW (ks := L :: fr₀) (h' := s₁.heap.push { cls := .type "list", data := .seq vs.toArray }) I aC (aZ _) ⟨_, Heap.get?_push_size _ rfl⟩ d
  exact Post.ok (st.trans st₂) I₂ rs d₂
 ·exact absurd rfl h
theorem OI {α β:Type} (S:Sound prog w B E) (F:Fc A cx env outer L dp) (P:Pre prog w B cx env outer L fr₀ ρ γ σ s.heap) (n:Nat) (e:Expr) {t:Value->Sem α} {Rel:Heap->Gam->α->β->Prop} {k:D->Sto->R β} (h:(E.x dp ρ (aa n cx e) σ).bind k ≠ .no)
  (y:∀ v d σ₁ γ₁ s₁,Step (L :: fr₀) (L :: fr₀) s.heap γ s₁.heap γ₁->Pre prog w B cx env outer L fr₀ ρ γ₁ σ₁ s₁.heap->Den prog w s₁.heap (L :: fr₀) γ₁ v d->k d σ₁ ≠ .no->WP prog w B (L :: fr₀) (L :: fr₀) A (t v) s₁ γ₁ Rel (k d σ₁)) :
  wpAny (model prog w) A (eval e env) (fun v s₁=>wpAny (model prog w) A (t v) (Post prog w B (L :: fr₀) (L :: fr₀) s γ Rel ((E.x dp ρ (aa n cx e) σ).bind k)) (aP prog w B (L :: fr₀) (L :: fr₀) s γ ((E.x dp ρ (aa n cx e) σ).bind k) none) s₁)
   (aP prog w B (L :: fr₀) (L :: fr₀) s γ ((E.x dp ρ (aa n cx e) σ).bind k) none) s :=
 WP.seq (S.sx n e F P (R.of_bind h)) fun v d σ₁ γ₁ s₁ er st I _ rel=>y v d σ₁ γ₁ s₁ st (P.step st I) rel (by rw [er] at h;exact h)
theorem bJ {β:Type} {fr ks:List Addr} {α:Type} {s₁:Shared} {γ₁:Gam} {σ₁:Sto} {t:Sem α} {Rel:Heap->Gam->α->β->Prop} {r:R β} (st:Step fr ks s.heap γ s₁.heap γ₁) (I:Inv prog w B fr γ₁ σ₁ s₁.heap) (rs:Rest s s₁) (x:WP prog w B fr ks A t s₁ γ₁ Rel r) :
  wpAny (model prog w) A t (Post prog w B fr ks s γ Rel r) (aP prog w B fr ks s γ r none) s₁:=wpAny_mono x (fun _ _ q=>q.trans st rs) fun _ _ q=>q.trans st I rs
theorem ug {α β:Type} (S:Sound prog w B E) (F:Fc A cx env outer L dp) (P:Pre prog w B cx env outer L fr₀ ρ γ σ s.heap) (n:Nat) (e f:Expr) {t:Value->Value->Sem α} {Rel:Heap->Gam->α->β->Prop} {k:D->D->Sto->R β}
  (h:((E.x dp ρ (aa n cx e) σ).bind fun a σ=>(E.x dp ρ (aa n cx f) σ).bind fun b σ=>k a b σ) ≠ .no)
  (y:∀ u a v b σ₁ γ₁ s₁,Pre prog w B cx env outer L fr₀ ρ γ₁ σ₁ s₁.heap->Den prog w s₁.heap (L :: fr₀) γ₁ u a->Den prog w s₁.heap (L :: fr₀) γ₁ v b->k a b σ₁ ≠ .no->WP prog w B (L :: fr₀) (L :: fr₀) A (t u v) s₁ γ₁ Rel (k a b σ₁)) :
  wpAny (model prog w) A (eval e env) (fun u s₁=>wpAny (model prog w) A (eval f env) (fun v s₂=>wpAny (model prog w) A (t u v) (Post prog w B (L :: fr₀) (L :: fr₀) s γ Rel ((E.x dp ρ (aa n cx e) σ).bind fun a σ=>(E.x dp ρ (aa n cx f) σ).bind fun b σ=>k a b σ))
    (aP prog w B (L :: fr₀) (L :: fr₀) s γ ((E.x dp ρ (aa n cx e) σ).bind fun a σ=>(E.x dp ρ (aa n cx f) σ).bind fun b σ=>k a b σ) none) s₂)
    (aP prog w B (L :: fr₀) (L :: fr₀) s γ ((E.x dp ρ (aa n cx e) σ).bind fun a σ=>(E.x dp ρ (aa n cx f) σ).bind fun b σ=>k a b σ) none) s₁)
   (aP prog w B (L :: fr₀) (L :: fr₀) s γ ((E.x dp ρ (aa n cx e) σ).bind fun a σ=>(E.x dp ρ (aa n cx f) σ).bind fun b σ=>k a b σ) none) s:=by
 refine wpAny_mono (S.sx n e F P (R.of_bind h)) (fun u s₁ p=>?_) fun _ _ p=>p.bind
 obtain ⟨a,σ₁,γ₁,er,st,I,rs,rel⟩:=p
 rw [er,R.bg] at h ⊢
 refine wpAny_mono (S.sx n f F (P.step st I) (R.of_bind h)) (fun v s₂ p=>?_) fun _ _ p=>(p.bind).trans st I rs
 obtain ⟨b,σ₂,γ₂,er₂,st₂,I₂,rs₂,rel₂⟩:=p
 rw [er₂,R.bg] at h ⊢
 exact bJ (st.trans st₂) I₂ (rs.trans rs₂) (y u a v b σ₂ γ₂ s₂ ((P.step st I).step st₂ I₂) (Den.step st₂ rel) rel₂ h)
theorem iz {α:Type} {o:Option α} {a:α} (e:o=some a):ofO σ o=.ok a σ:=by rw [e];rfl
theorem iy {α:Type} {o:Option α} (h:ofO σ o ≠ .no):∃ a,o=some a:=by
 cases o with
 | none=>exact absurd rfl h
 | some a=>exact ⟨a,rfl⟩
theorem seqIndex_of {k n:Nat} (h:k < n):seqIndex? (k:Int) n=some k:=by
 unfold seqIndex?
 have h1:¬ ((k:Int) < 0):=Int.not_lt.mpr (Int.natCast_nonneg k)
 simp only [h1,if_false]
 have h2:(0:Int)≤(k:Int):=Int.natCast_nonneg k
 have h3:(k:Int) < (n:Int):=Int.ofNat_lt.mpr h
 simp [h2,h3]
theorem gg {kvs:List (List Nat × D)} {x:List Nat}:(PySem.Spec.lookup (.str ⟨x.toArray⟩) (pK kvs))=(kvs.lookup x).map fun d=>(d.py).getD .none:=by
 induction kvs with
 | nil=>rfl
 | cons p r ih =>
  obtain ⟨k,d⟩:=p
  simp only [pK,PySem.Spec.lookup,List.lookup]
  by_cases h:x=k
  ·subst h;simp [PySem.Spec.same]
  ·have h1:(x == k)=false:=by simp [h]
   have h2:PySem.Spec.same (.str ⟨k.toArray⟩) (.str ⟨x.toArray⟩)=false:=by
    simp only [PySem.Spec.same,beq_eq_false_iff_ne,ne_eq,Str.mk.injEq]
    intro e
    exact h (by simpa using (congrArg Array.toList e).symm)
   rw [h1]
   simp only [h2]
   exact ih
end
end Mine.Internal
end
section
namespace Mine.Internal
open PySem PySem.W PySem.Calls PyProof.Rows
section
variable {prog:Program} {w:World} {B:Heap} {mg mb:Str->Option Value} {E:Ev} {A:Around} {cx:Cx} {env:Env} {outer:List Env} {L:Addr} {dp:Nat} {fr₀:List Addr} {ρ:Loc} {γ:Gam} {σ:Sto} {s:Shared} {z:Bool}
theorem bh {slice:Expr} (h:iX slice=true) (o i:Value):subscripted slice false o i=operate [o,i] (getItem o i):=by
 cases slice <;> first | rfl | cases h
theorem bQ {fr:List Addr} {i:Nat} {v:Value} {ds:List D} {h:Heap} (I:Inv prog w B fr γ σ h) (d:Den prog w h fr γ v (.cell i)) (e:σ[i]?=some (.lst ds)) :
  ∃ c vs,γ[i]?=some c∧v=.ref c.a∧h.IsList c.a vs.toArray∧av prog w h fr γ vs ds∧c.d=c.a∧c.r=c.a:=by
 obtain ⟨c,rfl,ec⟩:=d.inv
 obtain ⟨e1,e2,vs,hl,hd⟩:=I.cells i _ _ ec e
 exact ⟨_,vs,ec,rfl,hl.isList,hd,e1,e2⟩
theorem cI {fr:List Addr} {i:Nat} {v:Value} {ds:List D} {h:Heap} (I:Inv prog w B fr γ σ h) (d:Den prog w h fr γ v (.cell i)) (e:σ[i]?=some (.lst ds)) :
  ∃ c vs,γ[i]?=some c∧v=.ref c.a∧PlainL h c.a vs∧av prog w h fr γ vs ds∧c.d=c.a∧c.r=c.a:=by
 obtain ⟨c,rfl,ec⟩:=d.inv
 obtain ⟨e1,e2,vs,hl,hd⟩:=I.cells i _ _ ec e
 exact ⟨_,vs,ec,rfl,hl,hd,e1,e2⟩
inductive rZ (σ:Sto) (d:D):D->D->Prop where
 | tup (ds:List D) (k:Nat) (hk:k≤lim) (e:ds[k]?=some d):rZ σ d (.tup ds) (.int (Int.ofNat k))
 | fl (ds:List D) (k:Nat) (hk:k≤lim) (e:ds[k]?=some d):rZ σ d (.fl ds) (.int (Int.ofNat k))
 | str (cs:List Nat) (k c:Nat) (hk:k≤lim) (e:cs[k]?=some c) (hd:d=.str [c]):rZ σ d (.str cs) (.int (Int.ofNat k))
 | cell (j:Nat) (ds:List D) (k:Nat) (hk:k≤lim) (ej:σ[j]?=some (.lst ds)) (e:ds[k]?=some d):rZ σ d (.cell j) (.int (Int.ofNat k))
 | dct (kvs:List (List Nat × D)) (x:List Nat) (e:kvs.lookup x=some d):rZ σ d (.dct kvs) (.str x)
theorem GI {a d:D} {k:Nat} (e:cU σ a (.int (Int.ofNat k))=some d):rZ σ d a (.int (Int.ofNat k)):=by
 replace e:(if Nat.ble k lim then (match a with | .tup ds=>ds[k]? | .fl ds=>ds[k]? | .str s=>(s[k]?).map fun c=>D.str [c] | .cell j=>(match σ[j]? with | some (.lst ds)=>ds[k]? | _=>Option.none) | _=>Option.none) else Option.none)=some d:=e
 cases hb:Nat.ble k lim with
 | false=>rw [hb] at e;exact nn e
 | true =>
  rw [hb,if_pos rfl] at e
  have hk:=bk hb
  cases a with
  | tup ds=>exact .tup ds k hk e
  | fl ds=>exact .fl ds k hk e
  | str cs =>
   obtain ⟨c,hc,q⟩:=Option.map_eq_some_iff.mp e
   exact .str cs k c hk hc q.symm
  | cell j =>
   replace e:(match σ[j]? with | some (.lst ds)=>ds[k]? | _=>Option.none)=some d:=e
   cases ej:σ[j]? with
   | none=>rw [ej] at e;exact nn e
   | some c=>cases c with
    | lst ds=>rw [ej] at e;exact .cell j ds k hk ej e
    | _=>rw [ej] at e;exact nn e
  | _=>exact nn e
theorem LV {a i d:D} (e:cU σ a i=some d):rZ σ d a i:=by
 cases i with
 | int i=>cases i with
  | ofNat k=>exact GI e
  | negSucc=>exact nn e
 | str x=>cases a with
  | dct kvs=>exact .dct kvs x e
  | _=>exact nn e
 | _=>exact nn e
theorem M1 {kvs:List (List Nat × D)} {x:List Nat} {d:D} (hk:lQ kvs=true) (e:kvs.lookup x=some d):∃ n:Int,d=.int n:=by
 induction kvs with
 | nil=>exact nn e
 | cons p r ih =>
  obtain ⟨k,d'⟩:=p
  obtain ⟨h1,h2⟩:=Bool.and_eq_true_iff.mp hk
  replace e:(match x == k with | true=>some d' | false=>r.lookup x)=some d:=e
  cases q:x == k with
  | true =>
   rw [q] at e
   obtain rfl:d'=d:=Option.some.inj e
   cases d' with
   | int n=>exact ⟨n,rfl⟩
   | _=>exact nb h1
  | false=>rw [q] at e;exact ih h2 e
theorem Gw {k:Nat} (h:k≤lim):k < 2 ^ 62:=Nat.lt_of_le_of_lt h (by decide)
theorem oX {k:Nat} (h:k≤lim):(k:Int) < 2 ^ 63:=Int.lt_of_lt_of_le (Int.ofNat_lt.mpr (Gw h)) (by decide)
theorem F8 {k:Nat}:-(2 ^ 63)≤(k:Int):=Int.le_trans (by decide) (Int.natCast_nonneg k)
theorem yp {cs:List Nat} {k c:Nat} (hk:k≤lim) (hc:cs[k]?=some c):(decide ((k:Int) < -(2 ^ 63:Int)) || decide ((k:Int) ≥ 2 ^ 63))=false∧(seqIndex? (k:Int) cs.toArray.size).bind (cs.toArray[·]?)=some c:=by
 constructor
 ·rw [decide_eq_false (Int.not_lt.mpr F8),decide_eq_false (Int.not_le.mpr (oX hk))];rfl
 ·rw [List.size_toArray,seqIndex_of (List.getElem?_eq_some_iff.mp hc).1]
  exact (List.getElem?_toArray ..).trans hc
theorem Ck {value slice:Expr} {u v:Value} {a i d:D} (hh:A.handled=none) (P:Pre prog w B cx env outer L fr₀ ρ γ σ s.heap) (hs:iX slice=true) (da:Den prog w s.heap (L :: fr₀) γ u a) (di:Den prog w s.heap (L :: fr₀) γ v i) (e₀:cU σ a i=some d) :
  WP prog w B (L :: fr₀) (L :: fr₀) A (subscriptTail value slice u v) s γ (aJ prog w (L :: fr₀)) (.ok d σ):=by
 cases LV e₀ with
 | tup ds k hk e =>
  obtain ⟨t,rfl⟩:=di.inv
  obtain ⟨_,vs,rfl,ht,_,hd⟩:=da.inv
  obtain ⟨x,hx,hden⟩:=hd.get e
  exact item_tupleT ht F8 (oX hk) (seqIndex_of (List.getElem?_eq_some_iff.mp hx).1) hx (Post.here P.inv hden) (bh hs _ _)
 | fl ds k hk e =>
  obtain ⟨t,rfl⟩:=di.inv
  obtain ⟨_,vs,rfl,ht,_,hd⟩:=da.inv
  obtain ⟨x,hx,hden⟩:=hd.get e
  exact tail_any ht.typeIs slot_list_getitem.lookup (wpAny_getItem_list ht (Int.natCast_nonneg k) (oX hk) ((List.getElem?_toArray ..).trans hx) (Post.here P.inv hden)) (bh hs _ _)
 | str cs k c hk e hd =>
  subst hd
  obtain ⟨t,rfl⟩:=di.inv
  obtain ⟨t',rfl⟩:=da.inv
  exact tail_any (T := "str") (typeIs_str _ _ _) F.slot_str_getitem.lookup (_root_.PySem.P.getItem_str (c := c) (yp hk e).1 (yp hk e).2 (Post.toks P.inv (.str [c] _))) (bh hs _ _)
 | cell j ds k hk ej e =>
  obtain ⟨t,rfl⟩:=di.inv
  obtain ⟨c,vs,ec,rfl,hl,hd,_,_⟩:=bQ P.inv da ej
  obtain ⟨x,hx,hden⟩:=hd.get e
  exact tail_any hl.typeIs slot_list_getitem.lookup (wpAny_getItem_list hl (Int.natCast_nonneg k) (oX hk) ((List.getElem?_toArray ..).trans hx) (Post.here P.inv hden)) (bh hs _ _)
 | dct kvs x e =>
  obtain ⟨a,rfl,T,hk⟩:=da.inv
  obtain ⟨t,rfl⟩:=di.inv
  have hl:=gg (kvs:=kvs) (x:=x)
  rw [e,Option.map_some] at hl
  obtain ⟨n,rfl⟩:=M1 hk e
  refine item_strTab_split_any T hh (fun dv hdv v' hf=>?_) (fun hn=>ns (hl.symm.trans hn)) (bh hs _ _)
  obtain rfl:_=dv:=Option.some.inj (hl.symm.trans hdv)
  obtain ⟨t',rfl⟩:∃ t',v'=.int n t':=by have:=hf s.heap;cases this;exact ⟨_,rfl⟩
  exact Post.toks P.inv (.int n t')
end
end Mine.Internal
end
section
namespace Mine.Internal
open PySem PySem.W PySem.Calls PyProof.Rows PySem.Builtin.Str
theorem rt {α:Type} (xs:Array α) (lo hi:Option Nat):((sliceRange ((min (lo.getD 0) xs.size:Nat):Int) ((min (hi.getD xs.size) xs.size:Nat):Int) 1).filterMap (xs[·]?))=bU xs.toList lo hi:=by
 rw [sliceRange_one,pick_run]
 unfold bU
 cases hi with
 | none =>
  simp only [Option.getD_none,Nat.min_self]
  cases lo with
  | none=>simp only [Option.getD_none,Nat.zero_min,Nat.sub_zero,List.drop_zero];exact List.take_of_length_le (by simp)
  | some l =>
   simp only [Option.getD_some]
   rcases Nat.lt_or_ge l xs.size with h | h
   ·rw [Nat.min_eq_left (Nat.le_of_lt h)]
    exact List.take_of_length_le (by simp)
   ·rw [Nat.min_eq_right h]
    simp [List.drop_eq_nil_of_le (show xs.toList.length≤l by simpa using h)]
 | some u =>
  simp only [Option.getD_some]
  have key:∀ l:Nat,((xs.toList.drop (min l xs.size)).take (min u xs.size - min l xs.size))=(xs.toList.take u).drop l:=by
   intro l
   rw [List.drop_take]
   rcases Nat.lt_or_ge l xs.size with h | h
   ·rw [Nat.min_eq_left (Nat.le_of_lt h)]
    rcases Nat.lt_or_ge u xs.size with h' | h'
    ·rw [Nat.min_eq_left (Nat.le_of_lt h')]
    ·rw [Nat.min_eq_right h',List.take_of_length_le (by simp),List.take_of_length_le (by rw [List.length_drop];exact Nat.sub_le_sub_right h' l)]
   ·rw [Nat.min_eq_right h,List.drop_eq_nil_of_le (show xs.toList.length≤xs.size by simp),List.drop_eq_nil_of_le (show xs.toList.length≤l by simpa using h)]
    simp
  cases lo with
  | none=>exact key 0
  | some l=>exact key l
theorem BK {α:Type} (cs:List α) (lo hi:Option Nat):bU cs.toArray.toList lo hi=bU cs lo hi:=rfl
noncomputable def oi (o:Option Nat):Option Int:=o.map fun (k:Nat)=>(k:Int)
theorem qH (k n:Nat):max (0:Int) (min (if (k:Int) < 0 then (k:Int)+n else k) n)=((min k n:Nat):Int):=by
 rw [if_neg (Int.not_lt.mpr (Int.natCast_nonneg k))]
 rcases Nat.le_total k n with h | h
 ·rw [Nat.min_eq_left h,Int.min_eq_left (Int.ofNat_le.mpr h),Int.max_eq_right (Int.natCast_nonneg k)]
 ·rw [Nat.min_eq_right h,Int.min_eq_right (Int.ofNat_le.mpr h),Int.max_eq_right (Int.natCast_nonneg n)]
theorem jQ (lo hi:Option Nat) (n:Nat):strSliceIndices (oi lo) (oi hi) 1 n=sliceRange ((min (lo.getD 0) n:Nat):Int) ((min (hi.getD n) n:Nat):Int) 1:=by
 unfold strSliceIndices
 cases lo <;> cases hi <;> simp only [oi,Option.map_none,Option.map_some,Option.getD_none,Option.getD_some,show (1:Int) > 0 by decide,if_true,qH,Nat.zero_min,Nat.min_self] <;> rfl
theorem wk (lo hi:Option Nat) (n:Nat):sliceBounds (oi lo) (oi hi) none n=(((min (lo.getD 0) n:Nat):Int),((min (hi.getD n) n:Nat):Int),1):=by
 unfold sliceBounds
 cases lo <;> cases hi <;> simp only [oi,Option.map_none,Option.map_some,Option.getD_none,Option.getD_some,show (1:Int) > 0 by decide,if_true,qH,Nat.zero_min,Nat.min_self] <;> rfl
theorem qh (cs:List Nat) (lo hi:Option Nat):(strSliceIndices (oi lo) (oi hi) 1 cs.length).filterMap (cs.toArray[·]?)=bU cs lo hi:=by
 have:=rt cs.toArray lo hi
 rw [List.size_toArray] at this
 rw [jQ,this]
theorem nq (vs:List Value) (lo hi:Option Nat):slicePick vs.toArray (oi lo) (oi hi) none=(bU vs lo hi).toArray:=by
 have:=rt vs.toArray lo hi
 unfold slicePick
 rw [wk,this]
theorem qI {α:Type} (l:List α) (lo hi:Option Nat):(bU l lo hi).length≤l.length:=by
 unfold bU
 rw [List.length_drop]
 cases hi with
 | none=>simp
 | some h=>simp only [List.length_take];exact Nat.le_trans (Nat.sub_le _ _) (Nat.min_le_right _ _)
section
variable {prog:Program} {w:World} {B:Heap} {mg mb:Str->Option Value} {E:Ev} {A:Around} {cx:Cx} {env:Env} {outer:List Env} {L:Addr} {dp:Nat} {fr₀:List Addr} {ρ:Loc} {γ:Gam} {σ:Sto} {s:Shared} {z:Bool}
theorem av.cut {fr:List Addr} {h:Heap} {vs:List Value} {ds:List D} (x:av prog w h fr γ vs ds) (lo hi:Option Nat):av prog w h fr γ (bU vs lo hi) (bU ds lo hi):=by
 unfold bU
 cases hi with
 | none=>exact x.drop _
 | some k=>exact (x.take k).drop _
noncomputable def kW (prog:Program) (w:World) (fr:List Addr):Heap->Gam->Value->Option D->Prop:=fun h γ v d=>match d with
 | none=>v=.none
 | some d=>Den prog w h fr γ v d
theorem vp {β:Type} {s₁:Shared} {γ₁:Gam} {σ₁:Sto} (S:Sound prog w B E) (F:Fc A cx env outer L dp) (st:Step (L :: fr₀) (L :: fr₀) s.heap γ s₁.heap γ₁) (rs:Rest s s₁) (P:Pre prog w B cx env outer L fr₀ ρ γ₁ σ₁ s₁.heap) (n:Nat) (e:Option Expr) {k:Option D->Sto->R β} {r:R β} {Q:Value->Shared->Prop} (hr:r=(Aa E dp ρ (e.map (aa n cx)) σ₁).bind k) (h:r ≠ .no)
  (y:∀ v d σ₂ γ₂ s₂,Step (L :: fr₀) (L :: fr₀) s.heap γ s₂.heap γ₂->Step (L :: fr₀) (L :: fr₀) s₁.heap γ₁ s₂.heap γ₂->Pre prog w B cx env outer L fr₀ ρ γ₂ σ₂ s₂.heap->Rest s s₂->kW prog w (L :: fr₀) s₂.heap γ₂ v d->r=k d σ₂->Q v s₂) :
  wpAny (model prog w) A (evalPart e env) Q (aP prog w B (L :: fr₀) (L :: fr₀) s γ r none) s₁:=by
 cases e with
 | none=>exact wpAny_pure (y _ none σ₁ γ₁ s₁ st .refl P rs rfl hr)
 | some e =>
  rw [evalPart_some]
  replace hr:r=(E.x dp ρ (aa n cx e) σ₁).bind fun d σ=>k (some d) σ:=by
   rw [hr]
   show ((E.x dp ρ (aa n cx e) σ₁).bind fun d σ=>.ok (some d) σ).bind k=_
   cases E.x dp ρ (aa n cx e) σ₁ <;> rfl
  exact vY S F st rs P n e hr h fun v d σ₂ γ₂ s₂ a b c d' e' f=>y v (some d) σ₂ γ₂ s₂ a b c d' e' f
theorem HK {d:D} {k:Option Nat} (e:cD (some d)=some k):∃ j:Nat,d=.int (j:Int)∧k=some j:=by
 cases d with
 | int i=>cases i with
  | ofNat j=>exact ⟨j,rfl,(Option.some.inj e).symm⟩
  | negSucc=>exact nn e
 | _=>exact nn e
theorem nT {h:Heap} {fr:List Addr} {v:Value} {o:Option D} {k:Option Nat} (e:cD o=some k) (r:kW prog w fr h γ v o):∃ p:Option (Int × Tok),v=partValue p∧p.map (·.1)=oi k∧IsPart v (oi k):=by
 cases o with
 | none =>
  obtain rfl:none=k:=Option.some.inj e
  exact ⟨none,r,rfl,(show v=.none from r) ▸ .none⟩
 | some d =>
  obtain ⟨j,rfl,rfl⟩:=HK e
  obtain ⟨t,rfl⟩:∃ t,v=.int (j:Int) t:=(show Den prog w h fr γ v (.int (j:Int)) from r).inv
  exact ⟨some (_,t),rfl,rfl,.int _ t⟩
theorem sy {cs:List Nat} {l:List Nat} (hin:∀ i ∈ l,i < cs.length):(l.filterMap (cs.toArray[·]?)).length=l.length:=by
 induction l with
 | nil=>rfl
 | cons i r ih =>
  have:cs.toArray[i]?=some (cs[i]'(hin i (.head _))):=by simp [hin i (.head _)]
  rw [List.filterMap_cons,this]
  exact congrArg (·+1) (ih fun j hj=>hin j (.tail _ hj))
theorem ou {n k:Nat} (h:n - k=n) (p:0 < n):k=0:=by
 cases k with
 | zero=>rfl
 | succ k=>exact absurd h (Nat.ne_of_lt (Nat.sub_lt p (Nat.succ_pos k)))
theorem wD {cs:List Nat} {kl ku:Option Nat} (h3:(bU cs kl ku).length=cs.length):bU cs kl ku=cs:=by
 unfold bU at h3 ⊢
 cases ku with
 | none =>
  replace h3:(cs.drop (kl.getD 0)).length=cs.length:=h3
  rw [List.length_drop] at h3
  show cs.drop (kl.getD 0)=cs
  rcases Nat.eq_zero_or_pos (kl.getD 0) with e | e
  ·rw [e];rfl
  ·have:=List.length_eq_zero_iff.mp ((Nat.eq_zero_or_pos _).resolve_right fun p=>absurd (ou h3 p) (Nat.ne_of_gt e))
   subst this
   exact List.drop_nil
 | some u =>
  replace h3:((cs.take u).drop (kl.getD 0)).length=cs.length:=h3
  rw [List.length_drop,List.length_take] at h3
  show (cs.take u).drop (kl.getD 0)=cs
  rcases Nat.eq_zero_or_pos cs.length with h0 | h0
  ·have:=List.length_eq_zero_iff.mp h0
   subst this
   rw [List.take_nil,List.drop_nil]
  ·have q:cs.length≤min u cs.length:=Nat.le_trans (Nat.le_of_eq h3.symm) (Nat.sub_le _ _)
   rw [Nat.le_antisymm (Nat.min_le_right _ _) q] at h3
   rw [ou h3 h0,List.drop_zero,List.take_of_length_le (Nat.le_trans q (Nat.min_le_left _ _))]
theorem made_str {cs:List Nat} {t:Tok} {pl pu:Option (Int × Tok)} {kl ku:Option Nat} (hpl:pl.map (·.1)=oi kl) (hpu:pu.map (·.1)=oi ku) (hb:cs.length≤lim) {Q:Value->Shared->Prop} (hq:∀ t' tk,Q (.str ⟨(bU cs kl ku).toArray⟩ t') { s with toks:=tk }) :
  (sliceMade ⟨cs.toArray⟩ t pl pu none).post Q s:=by
 have hpick:(slicePicked ⟨cs.toArray⟩ pl pu none).filterMap (cs.toArray[·]?)=bU cs kl ku:=by
  unfold slicePicked
  rw [hpl,hpu]
  exact qh cs kl ku
 have hin:∀ i ∈ slicePicked ⟨cs.toArray⟩ pl pu none,i < cs.length:=by
  unfold slicePicked
  rw [hpl,hpu]
  intro i hi
  have hi':i ∈ sliceRange ((min (kl.getD 0) cs.length:Nat):Int) ((min (ku.getD cs.length) cs.length:Nat):Int) 1:=jQ kl ku cs.length ▸ hi
  rw [sliceRange_one] at hi'
  obtain ⟨j,hj,rfl⟩:=List.mem_map.mp hi'
  exact Nat.lt_of_lt_of_le (Nat.add_lt_of_lt_sub' (List.mem_range.mp hj)) (Nat.min_le_right _ _)
 have hlen:=sy hin
 rw [hpick] at hlen
 unfold sliceMade
 by_cases hf:((((none:Option (Int × Tok)).map (·.1)).getD 1 == 1 && (slicePicked ⟨cs.toArray⟩ pl pu none).length == (⟨cs.toArray⟩:Str).length)=true)
 ·rw [if_pos hf]
  have e0:bU cs kl ku=cs:=wD (hlen.trans (beq_iff_eq.mp (Bool.and_eq_true_iff.mp hf).2))
  rw [e0] at hq
  exact hq t s.toks
 ·rw [if_neg hf]
  refine ⟨?_,?_⟩
  ·show (List.filterMap _ (slicePicked ⟨cs.toArray⟩ pl pu none)).toArray.size≤sizeLine
   rw [List.size_toArray,hpick]
   exact Nat.le_trans (qI _ _ _) (Nat.le_trans hb eT)
  ·rw [show (⟨((slicePicked ⟨cs.toArray⟩ pl pu none).filterMap ((⟨cs.toArray⟩:Str).cps[·]?)).toArray⟩:Str)=⟨(bU cs kl ku).toArray⟩ from by rw [← hpick]]
   exact hq _ _
theorem E1 {a:D} {kl ku:Option Nat} {r:R D} (hr:r=gm σ a kl ku) (h:r ≠ .no):(∃ cs,a=.str cs∧cs.length≤lim∧r=.ok (.str (bU cs kl ku)) σ)∨∃ j ds,a=.cell j∧σ[j]?=some (.lst ds)∧ds.length≤lim∧r=.ok (.cell σ.length) (σ++[.lst (bU ds kl ku)]):=by
 cases a with
 | str cs =>
  replace hr:r=(if Nat.ble cs.length lim then .ok (.str (bU cs kl ku)) σ else .no):=hr
  cases hb:Nat.ble cs.length lim with
  | true=>rw [hb] at hr;exact .inl ⟨cs,rfl,bk hb,hr⟩
  | false=>rw [hb] at hr;exact absurd hr h
 | cell j =>
  replace hr:r=(match σ[j]? with | some (.lst ds)=>if Nat.ble ds.length lim then .ok (.cell σ.length) (σ++[.lst (bU ds kl ku)]) else .no | _=>.no):=hr
  cases e:σ[j]? with
  | none=>rw [e] at hr;exact absurd hr h
  | some c=>cases c with
   | lst ds =>
    rw [e] at hr
    replace hr:r=(if Nat.ble ds.length lim then .ok (.cell σ.length) (σ++[.lst (bU ds kl ku)]) else .no):=hr
    cases hb:Nat.ble ds.length lim with
    | true=>rw [hb] at hr;exact .inr ⟨j,ds,rfl,e,bk hb,hr⟩
    | false=>rw [hb] at hr;exact absurd hr h
   | _=>rw [e] at hr;exact absurd hr h
 | _=>exact absurd hr h
theorem xR {r:R D} {a:D} {l u:Option D} (hr:r=(match cD l,cD u with | some l,some u=>gm σ a l u | _,_=>.no)) (h:r ≠ .no):∃ kl ku,cD l=some kl∧cD u=some ku∧r=gm σ a kl ku:=by
 cases e:cD l with
 | none=>rw [e] at hr;exact absurd hr h
 | some kl =>
  cases e':cD u with
  | none=>rw [e,e'] at hr;exact absurd hr h
  | some ku=>rw [e,e'] at hr;exact ⟨kl,ku,rfl,rfl,hr⟩
theorem AK (I:Inv prog w B (L :: fr₀) γ σ s.heap) {o l u:Value} {a:D} {dl du:Option D} {ve:Expr} {lo hi:Option Expr} {p:Pos} {r:R D} (da:Den prog w s.heap (L :: fr₀) γ o a) (rl:kW prog w (L :: fr₀) s.heap γ l dl) (ru:kW prog w (L :: fr₀) s.heap γ u du) (hr:r=(match cD dl,cD du with | some l,some u=>gm σ a l u | _,_=>.no)) (h:r ≠ .no) {Q E':Value->Shared->Prop}
  (hq:∀ v b σ' γ' h' tk,r=.ok b σ'->Step (L :: fr₀) (L :: fr₀) s.heap γ h' γ'->Inv prog w B (L :: fr₀) γ' σ' h'->Den prog w h' (L :: fr₀) γ' v b->Q v { s with heap:=h',toks:=tk }) :
  wpAny (model prog w) A (subscriptTail ve (.Slice lo hi none p) o (.ref s.heap.objs.size)) Q E' { s with heap := s.heap.push { cls := .type "slice", data := .fields #[l, u, .none] } } := by
 obtain ⟨kl,ku,el,eu,hr⟩:=xR hr h
 obtain ⟨pl,rfl,hpl,ipl⟩:=nT el rl
 obtain ⟨pu,rfl,hpu,ipu⟩:=nT eu ru
 have k₁ := aC (h := s.heap) (o := { cls := .type "slice", data := .fields #[partValue pl, partValue pu, .none] })
 have I₄:=I.keeps k₁
 have st₄:=Keeps.step (fr:=L :: fr₀) (ks:=L :: fr₀) (γ:=γ) k₁
 rcases E1 hr h with ⟨cs,rfl,hb,er⟩ | ⟨j,ds,rfl,es,hb,er⟩
 ·obtain ⟨t,rfl⟩:=da.inv
  refine tail_any (ops := [.ref s.heap.objs.size, .str ⟨cs.toArray⟩ t]) (T := "str") (typeIs_str _ _ _) PySem.F.slot_str_getitem.lookup (wpAny_getItem_str_slice (l := pl) (u := pu) (st := none) ⟨_, Heap.get?_push_size _ rfl, rfl, rfl⟩ rfl (made_str hpl hpu hb fun t' tk => ?_)) rfl
  exact hq _ _ _ _ _ tk er st₄ I₄ (.str _ t')
 ·obtain ⟨c,vs,ec,rfl,hl,hd,_,_⟩:=bQ I da es
  have hl' := hl.push { cls := .type "slice", data := .fields #[partValue pl, partValue pu, .none] }
  refine tail_any (ops := [.ref s.heap.objs.size, .ref c.a]) (T := "list") hl'.typeIs slot_list_getitem.lookup (wpAny_getItem_list_slice hl' (Heap.IsSliceOf.new ..) ipl ipu .none (by simp) ?_ (by rw [List.size_toArray]; exact eo hd hb)) rfl
  rw [nq]
  obtain ⟨γ₅, st₅, I₅, d₅⟩ := iW (ks := L :: fr₀) (h' := (s.heap.push { cls := .type "slice", data := .fields #[partValue pl, partValue pu, .none] }).push { cls := .type "list", data := .seq (bU vs kl ku).toArray }) I₄ aC (aZ _) ⟨_, Heap.get?_push_size _ rfl⟩ ((hd.step st₄).cut kl ku)
  exact hq _ _ _ _ _ _ er (st₄.trans st₅) I₅ d₅
theorem kW.step {fr ks:List Addr} {h h':Heap} {γ':Gam} {v:Value} {o:Option D} (x:kW prog w fr h γ v o) (st:Step fr ks h γ h' γ'):kW prog w fr h' γ' v o:=by
 cases o with
 | none=>exact x
 | some d=>exact Den.step st x
theorem B7 (S:Sound prog w B E) (F:Fc A cx env outer L dp) (P:Pre prog w B cx env outer L fr₀ ρ γ σ s.heap) (n:Nat) (v:Expr) (lo hi:Option Expr) (p pos:Pos) (h:aq z E dp ρ (.slc (aa n cx v) (lo.map (aa n cx)) (hi.map (aa n cx))) σ ≠ .no) :
  WP prog w B (L :: fr₀) (L :: fr₀) A (eval (.Subscript v (.Slice lo hi none p) pos) env) s γ (aJ prog w (L :: fr₀)) (aq z E dp ρ (.slc (aa n cx v) (lo.map (aa n cx)) (hi.map (aa n cx))) σ):=by
 refine cF h fun r hr h=>?_
 refine Subscript_ (bP S F P n v hr h fun o a σ₁ γ₁ s₁ st P₁ rs da er=>wpAny_Slice ?_)
 refine vp S F st rs P₁ n lo er h fun l dl σ₂ γ₂ s₂ st₂ st₂' P₂ rs₂ rl er₂=>?_
 refine vp S F st₂ rs₂ P₂ n hi er₂ h fun u du σ₃ γ₃ s₃ st₃ st₃' P₃ rs₃ ru er₃=>?_
 rw [evalPart_none]
 exact wpAny_pure (AK P₃.inv (Den.step (st₂'.trans st₃') da) (rl.step st₃') ru er₃ h fun v b σ' γ' h' tk er st' I d=>.mk _ _ _ er (st₃.trans st') I rs₃ d)
end
end Mine.Internal
end
section
namespace Mine.Internal
open PySem PySem.W PySem.Calls PyProof.Rows PySem.Builtin.Str
section
variable {prog:Program} {w:World} {B:Heap} {mg mb:Str->Option Value} {E:Ev} {A:Around} {cx:Cx} {env:Env} {outer:List Env} {L:Addr} {dp:Nat} {fr₀:List Addr} {ρ:Loc} {γ:Gam} {σ:Sto} {s:Shared} {z:Bool} {E':Value->Shared->Prop}
theorem sr (n:Nat):Builtin.Slice.sliceAdjust none none (-1) (n:Int)=((n:Int) - 1,-1):=by
 unfold Builtin.Slice.sliceAdjust
 simp
theorem tV (n:Nat):Builtin.Slice.slicePlaces ((n:Int) - 1) (-1) (-1)=n:=by
 unfold Builtin.Slice.slicePlaces
 rw [if_neg (by decide:¬ ((-1:Int) > 0))]
 cases n with
 | zero=>rfl
 | succ k =>
  rw [show (((k+1:Nat):Int) - 1)=((k:Nat):Int) from Int.add_sub_cancel (k:Int) 1,if_pos (Int.lt_of_lt_of_le (by decide:(-1:Int) < 0) (Int.natCast_nonneg k)),show (- -1:Int)=1 from rfl,Int.ediv_one,Int.sub_neg,Int.add_sub_cancel]
  rfl
theorem jw {sl:Addr} {n:Nat} {u:Tok} {Q:Int × Int × Nat->Shared->Prop} (hs:s.heap.IsSliceOf sl .none .none (.int (-1) u)) (h:Q ((n:Int) - 1,-1,n) s) :
  wpAny (model prog w) A (Builtin.Slice.sliceApplied (.ref sl) (pure (n:Int))) Q E' s:=by
 obtain ⟨os,hos,hcs,hds⟩:=id hs
 unfold Builtin.Slice.sliceApplied Builtin.Slice.sliceFields
 refine wpAny_bind (wpAny_bind (wpAny_field hos hds (x:=.none) rfl (wpAny_bind (wpAny_field hos hds (x:=.none) rfl (wpAny_bind (wpAny_field hos hds (x:=.int (-1) u) rfl (wpAny_pure ?_)))))))
 refine wpAny_bind (slicePart_int ?_)
 show wpAny _ _ (if ((-1:Int) == 0)=true then _ else _) _ _ s
 rw [if_neg (by decide)]
 refine wpAny_bind (slicePart_none (wpAny_bind (slicePart_none (wpAny_bind (wpAny_pure ?_)))))
 show wpAny _ _ (match Builtin.Slice.sliceAdjust none none (-1) (n:Int) with | (lo,hi)=>pure (lo,(-1:Int),Builtin.Slice.slicePlaces lo hi (-1))) _ _ s
 rw [sr n]
 show wpAny _ _ (pure ((n:Int) - 1,(-1:Int),Builtin.Slice.slicePlaces ((n:Int) - 1) (-1) (-1))) _ _ s
 rw [tV n]
 exact wpAny_pure h
theorem BD (n k:Nat):((n:Int) - 1+(k:Int) * (-1)).toNat=n - 1 - k:=by
 rw [Int.mul_neg_one,← Int.sub_eq_add_neg,Int.sub_sub,Nat.sub_sub]
 exact Int.toNat_sub n (1+k)
theorem Ai (xs:Array Value):((List.range xs.size).filterMap fun (k:Nat)=>xs[((xs.size:Int) - 1+(k:Int) * (-1)).toNat]?).toArray=xs.toList.reverse.toArray:=by
 congr 1
 have e:(List.range xs.size).filterMap (fun (k:Nat)=>xs[((xs.size:Int) - 1+(k:Int) * (-1)).toNat]?)=((List.range xs.size).map fun k=>xs.size - 1 - k).filterMap (xs[·]?):=by
  rw [List.filterMap_map]
  congr 1
  funext k
  rw [BD];rfl
 rw [e,krv_range,List.filterMap_reverse,krv_all]
theorem iN {t sl:Addr} {items:Array Value} {u:Tok} {Q:Value->Shared->Prop} (ht:IsTup s.heap t items) (hs:s.heap.IsSliceOf sl .none .none (.int (-1) u))
  (h : Q (.ref s.heap.objs.size) { s with heap := s.heap.push { cls := .type "tuple", data := .seq items.toList.reverse.toArray } })
  (hsz:items.size≤sizeLine):wpAny (model prog w) A (getItem (.ref t) (.ref sl)) Q E' s:=by
 have hdrop:sizeOk (.seq items.toList.reverse.toArray):=by
  show items.toList.reverse.toArray.size≤sizeLine
  rw [List.size_toArray,List.length_reverse,Array.length_toList]
  exact hsz
 obtain ⟨os,hos,hcs,hds⟩:=id hs
 have hTs : s.TypeIs (.ref sl) "slice" := ⟨os, hos, hcs⟩
 unfold getItem
 try with_reducible refine wpAny_holding ?_
 first | refine wpAny_bind (wpAny_pure ?_) | skip
 refine wpAny_bind (wpAny_sequenceKey ht.typeIs (by decide) ?_)
 refine wpAny_bind (wpAny_callSpecial?_slot (name := Str.ofString "__getitem__") ht.typeIs slot_tuple_getitem
  (wpAny_call_entry slot_tuple_getitem ht.typeIs entry_tuple_getitem ?_ (args_tuple_getitem _ _)))
 show wpAny _ _ (Builtin.Tuple.tupleItemsOf (.ref t) >>= _) _ _ s
 refine wpAny_bind (tupleItemsOf_ ht ?_)
 refine wpAny_bind (wpAny_typeOf hTs ?_)
 rw [if_pos (by decide)]
 refine wpAny_bind (jw hs ?_)
 have hno:¬ (((items.size:Int) - 1 == 0 && (-1:Int) == 1 && items.size == items.size)=true):=by
  simp
 show wpAny _ _ (if ((items.size:Int) - 1 == 0 && (-1:Int) == 1 && items.size == items.size)=true then _ else _) _ _ s
 rw [if_neg hno,Ai items]
 first
  | exact wpAny_bind (m:=Builtin.Tuple.tupleExact _) (wpAny_newObj_type (wpAny_pure ⟨_,rfl,wpAny_pure h⟩) hdrop)
  | exact wpAny_bind (m:=Builtin.Tuple.tupleExact _) (wpAny_newObj_type (wpAny_bind (wpAny_pure (wpAny_pure ⟨_,rfl,wpAny_pure h⟩))) hdrop)
  | exact wpAny_bind (wpAny_bind (m:=Builtin.Tuple.tupleExact _) (wpAny_newObj_type (wpAny_pure (wpAny_pure ⟨_,rfl,wpAny_pure h⟩)) hdrop))
  | exact wpAny_bind (wpAny_bind (m:=Builtin.Tuple.tupleExact _) (wpAny_newObj_type (wpAny_pure ⟨_,rfl,wpAny_pure h⟩) hdrop))
theorem nS {k₀:Nat} {p₁ p₂:Pos} {Q:Value->Shared->Prop} (h:∀ t tk,Q (.int (-1) t) { s with toks:=tk }):wpAny (model prog w) A (eval (.UnaryOp .USub (.Constant (.int 1) k₀ p₁) p₂) env) Q E' s :=
 wpAny_UnaryOp (wpAny_Constant_int (PyProof.Rows.neg_int (h _ _)))
theorem DO {a:D} {r:R D} (hr:r=DN σ a) (h:r ≠ .no):∃ ds,a=.tup ds∧ds.length≤lim∧r=.ok (.tup ds.reverse) σ:=by
 cases a with
 | tup ds =>
  replace hr:r=(if Nat.ble ds.length lim then .ok (.tup ds.reverse) σ else .no):=hr
  cases hb:Nat.ble ds.length lim with
  | true=>rw [hb] at hr;exact ⟨ds,rfl,bk hb,hr⟩
  | false=>rw [hb] at hr;exact absurd hr h
 | _=>exact absurd hr h
theorem IJ (S:Sound prog w B E) (F:Fc A cx env outer L dp) (P:Pre prog w B cx env outer L fr₀ ρ γ σ s.heap) (n:Nat) (v:Expr) (k₀:Nat) (p₁ p₂ p pos:Pos) (h:aq z E dp ρ (.rev (aa n cx v)) σ ≠ .no) :
  WP prog w B (L :: fr₀) (L :: fr₀) A (eval (.Subscript v (.Slice none none (some (.UnaryOp .USub (.Constant (.int 1) k₀ p₁) p₂)) p) pos) env) s γ (aJ prog w (L :: fr₀)) (aq z E dp ρ (.rev (aa n cx v)) σ):=by
 refine cF h fun r hr h=>?_
 refine Subscript_ (bP S F P n v hr h fun o a σ₁ γ₁ s₁ st P₁ rs da er=>?_)
 obtain ⟨ds,rfl,hb,er⟩:=DO er h
 refine wpAny_Slice ?_
 rw [evalPart_none,evalPart_some]
 refine wpAny_pure (wpAny_pure (nS fun t tk=>?_))
 obtain ⟨a,vs,rfl,ht,_,hd⟩:=da.inv
 have k₁ := aC (h := s₁.heap) (o := { cls := .type "slice", data := .fields #[.none, .none, .int (-1) t] })
 have I₂:=P₁.inv.keeps k₁
 have ht' := ht.push { cls := .type "slice", data := .fields #[.none, .none, .int (-1) t] }
 refine tail_any (ops := [_, _]) (T := "tuple") ht'.typeIs slot_tuple_getitem.lookup (iN ht' (Heap.IsSliceOf.new ..) ?_ (by rw [List.size_toArray]; exact eo hd hb)) rfl
 exact .mk _ _ _ er ((st.trans (Keeps.step k₁)).trans (Keeps.step aC)) (I₂.keeps aC) rs (fE I₂ ((hd.step (Keeps.step (ks:=[]) k₁)).reverse))
end
end Mine.Internal
end
section
namespace Mine.Internal
open PySem PySem.W PySem.Calls PyProof.Rows PySem.Spec PySem.SeqAt
section
variable {prog:Program} {w:World} {B:Heap} {mg mb:Str->Option Value} {E:Ev} {A:Around} {cx:Cx} {env:Env} {outer:List Env} {L:Addr} {dp:Nat} {fr₀ fr ks:List Addr} {ρ:Loc} {γ:Gam} {σ:Sto} {s:Shared} {z:Bool} {h:Heap}
theorem Am {d:D} {ds:List D} {ps:List PyData} (e:D.pys (d :: ds)=some ps):∃ p q,d.py=some p∧D.pys ds=some q∧ps=p :: q:=by
 replace e:(match D.py d,D.pys ds with | some a,some b=>some (a :: b) | _,_=>.none)=some ps:=e
 cases h1:d.py with
 | none=>rw [h1] at e;exact nn e
 | some p=>cases h2:D.pys ds with
  | none=>rw [h1,h2] at e;exact nn e
  | some q=>rw [h1,h2] at e;exact ⟨p,q,rfl,rfl,(Option.some.inj e).symm⟩
theorem I3 {ds:List D} {p:PyData} (e:(D.tup ds).py=some p):∃ ps,D.pys ds=some ps∧p=.tuple ps:=let ⟨ps,e,q⟩:=Option.map_eq_some_iff.mp (show (D.pys ds).map .tuple=some p from e);⟨ps,e,q.symm⟩
theorem yb {a:Addr} {vs:List Value} {ps:List PyData} {as:List Addr} (ht:IsTup h a vs.toArray) (q:ReadsAll h vs ps as):∃ as,Reads h (.ref a) (.tuple ps) as:=let ⟨_,ho,hc,_,hd⟩:=ht;⟨_,.tuple ho hc hd (by simpa using q)⟩
theorem o8:(∀ v d,Den prog w h fr γ v d->∀ p,d.py=some p->∃ as,Reads h v p as)∧∀ vs ds,av prog w h fr γ vs ds->∀ ps,D.pys ds=some ps->∃ as,ReadsAll h vs ps as:=by
 have t:∀ {a:Addr} {vs:List Value} {ds:List D},IsTup h a vs.toArray->(∀ ps,D.pys ds=some ps->∃ as,ReadsAll h vs ps as)->∀ p,(D.tup ds).py=some p->∃ as,Reads h (.ref a) p as:=fun ht ih p e=>by
  obtain ⟨ps,e',rfl⟩:=I3 e
  obtain ⟨as,q⟩:=ih ps e'
  exact yb ht q
 have c:∀ {v:Value} {d:D} {vs:List Value} {ds:List D},(∀ p,d.py=some p->∃ as,Reads h v p as)->(∀ ps,D.pys ds=some ps->∃ as,ReadsAll h vs ps as)->∀ ps,D.pys (d :: ds)=some ps->∃ as,ReadsAll h (v :: vs) ps as:=fun a r ps e=>by
  obtain ⟨p,q,e1,e2,rfl⟩:=Am e
  obtain ⟨as,x⟩:=a p e1
  obtain ⟨bs,y⟩:=r q e2
  exact ⟨_,.cons x y⟩
 exact ⟨fun _ _ x=>Den.rec (motive_1:=fun v d _=>∀ p,d.py=some p->∃ as,Reads h v p as) (motive_2:=fun vs ds _=>∀ ps,D.pys ds=some ps->∃ as,ReadsAll h vs ps as) (fun _ e=>⟨_,Option.some.inj e ▸ Reads.none⟩) (fun b _ e=>⟨_,Option.some.inj e ▸ Reads.bool b⟩) (fun i t _ e=>⟨_,Option.some.inj e ▸ Reads.int i t⟩) (fun x t _ e=>⟨_,Option.some.inj e ▸ Reads.str _ t⟩) (fun a _ _ r=>t a r) (fun _ _ _ _ _ e=>nn e) (fun _ _ _ _ e=>nn e) (fun _ _ e=>nn e) (fun _ _ e=>nn e) (fun _ e=>⟨_,Option.some.inj e ▸ ReadsAll.nil⟩) (fun _ _ a r=>c a r) x,
  fun _ _ x=>av.rec (motive_1:=fun v d _=>∀ p,d.py=some p->∃ as,Reads h v p as) (motive_2:=fun vs ds _=>∀ ps,D.pys ds=some ps->∃ as,ReadsAll h vs ps as) (fun _ e=>⟨_,Option.some.inj e ▸ Reads.none⟩) (fun b _ e=>⟨_,Option.some.inj e ▸ Reads.bool b⟩) (fun i t _ e=>⟨_,Option.some.inj e ▸ Reads.int i t⟩) (fun x t _ e=>⟨_,Option.some.inj e ▸ Reads.str _ t⟩) (fun a _ _ r=>t a r) (fun _ _ _ _ _ e=>nn e) (fun _ _ _ _ e=>nn e) (fun _ _ e=>nn e) (fun _ _ e=>nn e) (fun _ e=>⟨_,Option.some.inj e ▸ ReadsAll.nil⟩) (fun _ _ a r=>c a r) x⟩
theorem je {v:Value} {d:D} {p:PyData} (x:Den prog w h fr γ v d) (e:d.py=some p):∃ as,Reads h v p as:=o8.1 v d x p e
theorem sS {vs:List Value} {ds:List D} {ps:List PyData} (x:av prog w h fr γ vs ds) (e:D.pys ds=some ps):∃ as,ReadsAll h vs ps as:=o8.2 vs ds x ps e
theorem lz {v:Value} {d:D} {p:PyData} (I:Inv prog w B fr γ σ h) (x:Den prog w h fr γ v d) (e:d.pyC σ=some p):∃ as,Reads h v p as:=by
 cases d with
 | cell i=>exact dD (G:=fun o=>o=some p->_) nn (fun ds es e=>by
   obtain ⟨ps,e',rfl⟩:=Option.map_eq_some_iff.mp e
   obtain ⟨c,vs,ec,rfl,⟨o,ho,hc,n,hd⟩,hden,_,_⟩:=bQ I x es
   obtain ⟨as,q⟩:=sS hden e'
   exact ⟨_,.list ho hc hd (by simpa using q)⟩) e
 | _=>exact je x e
noncomputable def A9:Op->Operator
 | .add=>.Add | .sub=>.Sub | .mul=>.Mult | .fdiv=>.FloorDiv | .mod=>.Mod | .pow=>.Pow
theorem xF {o:Operator} {p:Op} (e:rq o=some p):o=A9 p:=by cases o <;> cases e <;> rfl
theorem xy {x y:Int} (h:y.natAbs≤10 ^ 6):IntMulOk x y:=by
 refine IntMulOk.of_right ?_
 have q:((y.natAbs:Nat):Int) < 2 ^ 64:=Int.lt_of_le_of_lt (Int.ofNat_le.mpr h) (by decide)
 exact intBits_le_64 (Int.neg_lt_of_neg_lt (Int.lt_of_le_of_lt (Int.natAbs_neg y ▸ Int.le_natAbs) q)) (Int.lt_of_le_of_lt Int.le_natAbs q)
theorem qw {t b:Addr} {vs ws:List Value} {Q E':Value->Shared->Prop} (ht:IsTup s.heap t vs.toArray) (hb:IsTup s.heap b ws.toArray)
  (h0:vs=[]->Q (.ref b) s) (h1:vs ≠ []->ws=[]->Q (.ref t) s)
  (h2 : vs ≠ [] → ws ≠ [] → Q (.ref s.heap.objs.size) { s with heap := s.heap.push { cls := .type "tuple", data := .seq (vs ++ ws).toArray } })
  (hsz:vs.length+ws.length≤sizeLine) :
  wpAny (model prog w) A (binaryOp .Add (.ref t) (.ref b)) Q E' s:=by
 obtain ⟨⟨cls,dd,data,sl⟩,ho,hc,n,hd⟩:=id ht
 obtain ⟨⟨cls2,dd2,data2,sl2⟩,ho2,hc2,n2,hd2⟩:=id hb
 simp only at hc hd hc2 hd2
 subst hc hd hc2 hd2
 have e:vs.toArray++ws.toArray=(vs++ws).toArray:=by simp
 by_cases hv:vs=[]
 ·exact concat_meets ⟨_,ho,rfl⟩ ⟨_,ho2,rfl⟩ noFill_tuple_add seq_tuple_add PySem.F.slot_tuple_add PySem.F.entry_tuple_add (PySem.F.args_tuple_add_2 _ _)
   (tuple_addW0 t b vs.toArray ws.toArray n n2 dd dd2 sl sl2 (by simp [hv])) ⟨ho,ho2,h0 hv⟩
 ·by_cases hw:ws=[]
  ·exact concat_meets ⟨_,ho,rfl⟩ ⟨_,ho2,rfl⟩ noFill_tuple_add seq_tuple_add PySem.F.slot_tuple_add PySem.F.entry_tuple_add (PySem.F.args_tuple_add_2 _ _)
    (tuple_addW1 t b vs.toArray ws.toArray n n2 dd dd2 sl sl2 (by simpa using hv) (by simp [hw])) ⟨ho,ho2,h1 hv hw⟩
  ·refine concat_meets ⟨_,ho,rfl⟩ ⟨_,ho2,rfl⟩ noFill_tuple_add seq_tuple_add PySem.F.slot_tuple_add PySem.F.entry_tuple_add (PySem.F.args_tuple_add_2 _ _)
    (tuple_addW2 t b vs.toArray ws.toArray n n2 dd dd2 sl sl2 (by simpa using hv) (by simpa using hw) (by rw [List.size_toArray,List.size_toArray];exact hsz)) ⟨ho,ho2,?_⟩
   rw [e]
   exact h2 hv hw
theorem sq {l b:Addr} {vs ws:List Value} {Q E':Value->Shared->Prop} (hl:s.heap.IsList l vs.toArray) (hb:s.heap.IsList b ws.toArray)
  (h : Q (.ref s.heap.objs.size) { s with heap := s.heap.push { cls := .type "list", data := .seq (vs ++ ws).toArray } }) (hsz : vs.length + ws.length ≤ sizeLine) :
  wpAny (model prog w) A (binaryOp .Add (.ref l) (.ref b)) Q E' s:=by
 obtain ⟨⟨cls,dd,data,sl⟩,ho,hc,n,hd⟩:=id hl
 obtain ⟨⟨cls2,dd2,data2,sl2⟩,ho2,hc2,n2,hd2⟩:=id hb
 simp only at hc hd hc2 hd2
 subst hc hd hc2 hd2
 have e:vs.toArray++ws.toArray=(vs++ws).toArray:=by simp
 refine concat_meets ⟨_,ho,rfl⟩ ⟨_,ho2,rfl⟩ noFill_list_add seq_list_add PySem.F.slot_list_add PySem.F.entry_list_add (PySem.F.args_list_add_2 _ _) (list_addW l b vs.toArray ws.toArray n n2 dd dd2 sl sl2 (by simpa using hsz)) ⟨ho,ho2,?_⟩
 rw [e]
 exact h
theorem av.nil_inv {vs:List Value} (x:av prog w h fr γ vs []):vs=[]:=x.inv
noncomputable def Ans (prog:Program) (w:World) (B:Heap) (fr ks:List Addr) (A:Around) (s:Shared) (γ:Gam) (m:Sem Value) (r:R D):Prop:=r ≠ .no->WP prog w B fr ks A m s γ (aJ prog w fr) r
theorem Ans.no {m:Sem Value}:Ans prog w B fr ks A s γ m .no:=fun h=>absurd rfl h
theorem kE {o:Operator} {u v:Value} {a b:D} {f:Int->Int->R D} (da:Den prog w s.heap fr γ u a) (db:Den prog w s.heap fr γ v b)
  (k:∀ x y t t',Ans prog w B fr ks A s γ (binaryOp o (.int x t) (.int y t')) (f x y)):Ans prog w B fr ks A s γ (binaryOp o u v) (onI .no (fun x=>onI .no (f x) b) a):=by
 refine bK .no fun x e=>bK .no fun y e'=>?_
 subst e e'
 obtain ⟨t,rfl⟩:=da.inv
 obtain ⟨t',rfl⟩:=db.inv
 exact k x y t t'
theorem vd {o:Operator} {u v:Value} {a b:D} {f:Int->Nat->Int} (da:Den prog w s.heap fr γ u a) (db:Den prog w s.heap fr γ v b)
  (k:∀ x (y:Nat) t t',0 < y->y≤1000000->WP prog w B fr ks A (binaryOp o (.int x t) (.int (y:Int) t')) s γ (aJ prog w fr) (.ok (.int (f x y)) σ)):Ans prog w B fr ks A s γ (binaryOp o u v) (pR σ f a b):=by
 refine kE (f:=fun x i=>(match i with | .ofNat y=>(if (Nat.blt 0 y && Nat.ble y 1000000)=true then R.ok (.int (f x y)) σ else .no) | .negSucc _=>.no)) da db fun x y t t'=>?_
 cases y with
 | negSucc _=>exact .no
 | ofNat y=>exact aN (fun c _=>k x y t t' (Nat.le_of_ble_eq_true (Bool.and_eq_true_iff.mp c).1) (bk (Bool.and_eq_true_iff.mp c).2)) fun _=>.no
theorem yk {x y:List Nat} {t t':Tok} (I:Inv prog w B fr γ σ s.heap) (hb:Nat.ble (x.length+y.length) lim=true) :
  WP prog w B fr ks A (binaryOp .Add (.str ⟨x.toArray⟩ t) (.str ⟨y.toArray⟩ t')) s γ (aJ prog w fr) (.ok (.str (x++y)) σ):=by
 refine PyProof.Rows.add_str (fun t' tk=>?_) (by
  show x.toArray.size+y.toArray.size≤sizeLine
  rw [List.size_toArray,List.size_toArray]
  exact Nat.le_trans (bk hb) eT)
 have e:(⟨x.toArray⟩++⟨y.toArray⟩:Str)=⟨(x++y).toArray⟩:=by
  show Str.append ⟨x.toArray⟩ ⟨y.toArray⟩=_
  simp [Str.append]
 rw [e]
 exact Post.toks I (.str _ _)
theorem yl {u v:Value} {x y:List D} (I:Inv prog w B fr γ σ s.heap) (da:Den prog w s.heap fr γ u (.tup x)) (db:Den prog w s.heap fr γ v (.tup y)) (hb:Nat.ble (x.length+y.length) lim=true) :
  WP prog w B fr ks A (binaryOp .Add u v) s γ (aJ prog w fr) (.ok (.tup (x++y)) σ):=by
 obtain ⟨a,vs,rfl,hta,_,hda⟩:=da.inv
 obtain ⟨b,ws,rfl,htb,_,hdb⟩:=db.inv
 refine qw hta htb (fun e=>?_) (fun _ e=>?_) (fun _ _=>?_) (by rw [hda.length,hdb.length];exact Nat.le_trans (bk hb) eT)
 ·rw [show x=[] from List.length_eq_zero_iff.mp (hda.length.symm.trans (congrArg List.length e))]
  exact Post.here I db
 ·rw [show y=[] from List.length_eq_zero_iff.mp (hdb.length.symm.trans (congrArg List.length e)),List.append_nil]
  exact Post.here I da
 ·exact Post.push (tk:=s.toks) I aC (fE I (hda.append hdb))
theorem vZ {u v:Value} {i j:Nat} {x y:List D} (I:Inv prog w B fr γ σ s.heap) (da:Den prog w s.heap fr γ u (.cell i)) (db:Den prog w s.heap fr γ v (.cell j)) (ex:σ[i]?=some (.lst x)) (ey:σ[j]?=some (.lst y)) (hb:Nat.ble (x.length+y.length) lim=true) :
  WP prog w B fr ks A (binaryOp .Add u v) s γ (aJ prog w fr) (.ok (.cell σ.length) (σ++[.lst (x++y)])):=by
 obtain ⟨c,vs,ec,rfl,hl,hd,_,_⟩:=bQ I da ex
 obtain ⟨c',ws,ec',rfl,hl',hd',_,_⟩:=bQ I db ey
 refine sq hl hl' ?_ (by rw [hd.length,hd'.length];exact Nat.le_trans (bk hb) eT)
 obtain ⟨γ₅, st₅, I₅, d₅⟩ := iW (ks := ks) (h' := s.heap.push { cls := .type "list", data := .seq (vs ++ ws).toArray }) I aC (aZ _) ⟨_, Heap.get?_push_size _ rfl⟩ (hd.append hd')
 exact Post.ok st₅ I₅ .refl d₅
theorem DI {n:Nat} {t t':Tok} (I:Inv prog w B fr γ σ s.heap) (h1:n≤40):WP prog w B fr ks A (binaryOp .Pow (.int ((10:Nat):Int) t) (.int (n:Int) t')) s γ (aJ prog w fr) (.ok (.int ((10 ^ n:Nat):Int)) σ):=by
 have hp:(10:Int) ^ n=((10 ^ n:Nat):Int):=by rw [Int.natCast_pow];rfl
 refine PyProof.Rows.pow_int (a:=(10:Int)) (n:=(n:Int)) (Int.natCast_nonneg n) ?_ ?_
 ·have hbits:Builtin.Int.intBits (10:Int)=4:=by decide +kernel
  rw [hbits]
  exact Int.le_trans (Int.mul_le_mul_of_nonneg_left (Int.ofNat_le.mpr h1) (by decide)) (by decide)
 ·rw [Int.toNat_natCast,hp]
  exact Post.toks I (.int _ _)
theorem sH {op:Op} {u v:Value} {a b:D} (I:Inv prog w B fr γ σ s.heap) (da:Den prog w s.heap fr γ u a) (db:Den prog w s.heap fr γ v b) :
  Ans prog w B fr ks A s γ (binaryOp (A9 op) u v) (bx σ op a b):=by
 cases op with
 | add=>cases a with
  | int x=>exact kE (a:=.int x) (f:=fun x y=>.ok (.int (x+y)) σ) da db fun x y t t' _=>PyProof.Rows.add_int (Post.toks I (.int _ _))
  | str x =>
   obtain ⟨t,rfl⟩:=da.inv
   refine cX .no fun y e=>aN (fun hb _=>?_) fun _=>.no
   subst e
   obtain ⟨t',rfl⟩:=db.inv
   exact yk I hb
  | tup x=>exact jq .no fun y e=>aN (fun hb _=>yl I da (e ▸ db) hb) fun _=>.no
  | cell i=>exact cW .no fun j e=>dD .no fun x ex=>dD .no fun y ey=>aN (fun hb _=>vZ I da (e ▸ db) ex ey hb) fun _=>.no
  | _=>exact .no
 | sub=>exact kE (f:=fun x y=>.ok (.int (x - y)) σ) da db fun x y t t' _=>PyProof.Rows.sub_int (Post.toks I (.int _ _))
 | mul=>exact kE (f:=fun x y=>if (Nat.ble x.natAbs (10 ^ 60) && Nat.ble y.natAbs (10 ^ 6))=true then .ok (.int (x * y)) σ else .no) da db fun x y t t'=>aN (fun c _=>PyProof.Rows.mul_int (Post.toks I (.int _ _)) (xy (bk (Bool.and_eq_true_iff.mp c).2))) fun _=>.no
 | fdiv=>exact vd da db fun x y t t' h0 h1=>PyProof.Rows.floordiv_int (Int.ne_of_gt (Int.natCast_pos.mpr h0)) (Post.toks I (.int _ _)) (.inl (PyProof.noPylong_small (Nat.lt_of_le_of_lt h1 (by decide))))
 | mod=>exact vd da db fun x y t t' h0 h1=>PyProof.Rows.mod_int' (Int.ne_of_gt (Int.natCast_pos.mpr h0)) (Post.toks I (.int _ _))
 | pow =>
  refine A8 .no fun x e=>A8 .no fun n e'=>aN (fun hb _=>?_) fun _=>.no
  subst e e'
  obtain ⟨t,rfl⟩:=da.inv
  obtain ⟨t',rfl⟩:=db.inv
  rw [Bool.and_eq_true] at hb
  obtain rfl:x=10:=Nat.eq_of_beq_eq_true hb.1
  exact DI I (bk hb.2)
theorem IB (S:Sound prog w B E) (F:Fc A cx env outer L dp) (P:Pre prog w B cx env outer L fr₀ ρ γ σ s.heap) (n:Nat) (l:Expr) (o:Operator) (op:Op) (r:Expr) (pos:Pos) (ho:rq o=some op) (h:aq z E dp ρ (.bin op (aa n cx l) (aa n cx r)) σ ≠ .no) :
  WP prog w B (L :: fr₀) (L :: fr₀) A (eval (.BinOp l o r pos) env) s γ (aJ prog w (L :: fr₀)) (aq z E dp ρ (.bin op (aa n cx l) (aa n cx r)) σ):=by
 simp only [aq] at h ⊢
 rw [xF ho]
 exact wpAny_BinOp (ug S F P n l r (k:=fun a b σ=>bx σ op a b) h fun u a v b σ₁ γ₁ s₁ P₁ da db hk=>sH P₁.inv da db hk)
end
end Mine.Internal
end
section
namespace Mine.Internal
open PySem PySem.W PySem.Calls PyProof.Rows PySem.Spec PySem.SeqAt
section
variable {prog:Program} {w:World} {B:Heap} {mg mb:Str->Option Value} {E:Ev} {A:Around} {cx:Cx} {env:Env} {outer:List Env} {L:Addr} {dp:Nat} {fr₀ fr ks:List Addr} {ρ:Loc} {γ:Gam} {σ:Sto} {s:Shared} {z:Bool} {h:Heap}
noncomputable def sL:Cm->CmpOp
 | .eq=>.Eq | .ne=>.NotEq | .lt=>.Lt | .le=>.LtE | .gt=>.Gt | .ge=>.GtE | .is=>.Is | .isn=>.IsNot | .inn=>.In | .notin=>.NotIn
theorem nF (o:CmpOp):o=sL (mY o):=by cases o <;> rfl
theorem room_in {xs:List PyData} {d:PyData} (hd:shaped d=true) (hu:A.units < 9000):A.units+1+min (PyData.depthAll xs) d.depth < cLine:=by
 exact Nat.lt_of_le_of_lt (Nat.add_le_add (Nat.succ_le_of_lt hu) (Nat.le_trans (Nat.min_le_right _ _) (depth_of_shaped hd))) (by decide)
theorem GL {a:D} {u v:Value} {neg:Bool} {x:PyData} {ys:List PyData} {ds:List D} (hu:A.units < 9000) (I:Inv prog w B fr γ σ s.heap) (da:Den prog w s.heap fr γ u a) (db:Den prog w s.heap fr γ v (.tup ds)) (e1:a.py=some x) (e2:D.pys ds=some ys)
  (hs:(aB x && aB (.tuple ys))=true) {d:D} (hd:d=.bool (if neg then !lM x ys else lM x ys)) :
  WP prog w B fr ks A (compareOp (if neg then .NotIn else .In) u v) s γ (aJ prog w fr) (.ok d σ):=by
 subst hd
 obtain ⟨h1,h2⟩:=ak hs
 obtain ⟨as,ra⟩:=je da e1
 obtain ⟨bs,rb⟩:=je (p:=.tuple ys) db (by simp [D.py,e2])
 have hc:=canLay_of_shaped h2
 simp only [PyData.canLay0] at hc
 cases neg with
 | false=>exact in_tuple_reads rb ra hc (canLay_of_shaped h1) (room_in h1 hu) (Post.here I (.bool _))
 | true=>exact notIn_tuple_reads rb ra hc (canLay_of_shaped h1) (room_in h1 hu) (Post.here I (.bool _))
theorem lO {u:Value} {a:D} (da:Den prog w h fr γ u a):(u == Value.none)=fy a:=by cases da <;> rfl
noncomputable def oE (prog:Program) (w:World) (B:Heap) (fr ks:List Addr) (A:Around) (s:Shared) (γ:Gam) (σ:Sto) (m:Sem Value) (r:Option D):Prop:=∀ d,r=some d->WP prog w B fr ks A m s γ (aJ prog w fr) (.ok d σ)
theorem oE.no {m:Sem Value}:oE prog w B fr ks A s γ σ m none:=fun _ h=>nn h
theorem oE.yes {m:Sem Value} {d:D} (h:WP prog w B fr ks A m s γ (aJ prog w fr) (.ok d σ)):oE prog w B fr ks A s γ σ m (some d):=fun _ e=>Option.some.inj e ▸ h
theorem yR {m:Sem Value} {f:Bool->Bool} {u v:Value} {a b:D} (I:Inv prog w B fr γ σ s.heap) (da:Den prog w s.heap fr γ u a) (db:Den prog w s.heap fr γ v b)
  (k:∀ x y as bs,Reads s.heap u x as->Reads s.heap v y bs->aB x=true->aB y=true->WP prog w B fr ks A m s γ (aJ prog w fr) (.ok (.bool (f (PyData.eqv x y))) σ)):oE prog w B fr ks A s γ σ m (yQ σ f a b) :=
 cJ .no fun x ex=>cJ .no fun y ey=>aN (fun hs=>.yes (by
  obtain ⟨as,ra⟩:=lz I da ex
  obtain ⟨bs,rb⟩:=lz I db ey
  exact k x y as bs ra rb (ak hs).1 (ak hs).2)) fun _=>.no
theorem pG {o:CmpOp} {f:Int->Int->Bool} {u v:Value} {a b:D} (da:Den prog w s.heap fr γ u a) (db:Den prog w s.heap fr γ v b)
  (k:∀ x y t t',WP prog w B fr ks A (compareOp o (.int x t) (.int y t')) s γ (aJ prog w fr) (.ok (.bool (f x y)) σ)):oE prog w B fr ks A s γ σ (compareOp o u v) (eS f a b):=by
 refine bK .no fun x e=>bK .no fun y e'=>.yes ?_
 subst e e'
 obtain ⟨t,rfl⟩:=da.inv
 obtain ⟨t',rfl⟩:=db.inv
 exact k x y t t'
theorem rN {neg:Bool} {u v:Value} {a:D} {ds:List D} (hu:A.units < 9000) (I:Inv prog w B fr γ σ s.heap) (da:Den prog w s.heap fr γ u a) (db:Den prog w s.heap fr γ v (.tup ds)) :
  oE prog w B fr ks A s γ σ (compareOp (if neg then .NotIn else .In) u v) (jA (fun b=>if neg then !b else b) a ds) :=
 cJ .no fun x ex=>cJ .no fun y ey=>aN (fun hs=>.yes (GL hu I da db ex ey hs rfl)) fun _=>.no
theorem Cb {cs:List Nat} {c:Nat} {t t':Tok} (I:Inv prog w B fr γ σ s.heap):WP prog w B fr ks A (compareOp .In (.str ⟨[c].toArray⟩ t) (.str ⟨cs.toArray⟩ t')) s γ (aJ prog w fr) (.ok (.bool (cs.contains c)) σ):=by
 refine PyProof.Rows.in_str ?_
 have e:=PySem.StrLaws.found_one ⟨cs.toArray⟩ c
 have e':(!(Builtin.Str.occurrences ⟨cs.toArray⟩ ⟨[c].toArray⟩ 0 (⟨cs.toArray⟩:Str).length 1).isEmpty)=cs.contains c:=by
  refine Eq.trans e ?_
  show decide (c ∈ cs)=cs.contains c
  rw [Bool.eq_iff_iff];simp
 rw [e']
 exact Post.here I (.bool _)
theorem in_dict {u v:Value} {k:List Nat} {kvs:List (List Nat × D)} (I:Inv prog w B fr γ σ s.heap) (da:Den prog w s.heap fr γ u (.str k)) (db:Den prog w s.heap fr γ v (.dct kvs)):WP prog w B fr ks A (compareOp .In u v) s γ (aJ prog w fr) (.ok (.bool (kvs.lookup k).isSome) σ):=by
 obtain ⟨t,rfl⟩:=da.inv
 obtain ⟨a,rfl,T,_⟩:=db.inv
 refine in_strTab T ?_
 rw [gg,Option.isSome_map]
 exact Post.toks I (.bool _)
theorem yE (hu:A.units < 9000):A.units+64 < cLine:=Nat.lt_of_lt_of_le (Nat.add_lt_add_right hu 64) (by decide)
theorem Gm {op:Cm} {u v:Value} {a b:D} (hu:A.units < 9000) (I:Inv prog w B fr γ σ s.heap) (da:Den prog w s.heap fr γ u a) (db:Den prog w s.heap fr γ v b) :
  oE prog w B fr ks A s γ σ (compareOp (sL op) u v) (aV σ op a b):=by
 cases op with
 | eq=>exact yR (f:=fun b=>b) I da db fun x y as bs ra rb h1 h2=>eq_dataH ra rb h1 h2 (yE hu) (Post.here I (.bool _))
 | ne=>exact yR (f:=fun b=>!b) I da db fun x y as bs ra rb h1 h2=>ne_dataH ra rb h1 h2 (yE hu) (Post.here I (.bool _))
 | lt=>exact pG (f:=fun x y=>decide (x < y)) da db fun x y t t'=>PyProof.Rows.lt_int (Post.here I (.bool _))
 | le=>exact pG (f:=fun x y=>decide (x≤y)) da db fun x y t t'=>PyProof.Rows.le_int (Post.here I (.bool _))
 | gt=>exact pG (f:=fun x y=>decide (y < x)) da db fun x y t t'=>PyProof.Rows.gt_int (Post.here I (.bool _))
 | ge=>exact pG (f:=fun x y=>decide (y≤x)) da db fun x y t t'=>PyProof.Rows.ge_int (Post.here I (.bool _))
 | is=>cases b with
  | none=>obtain rfl:=db.inv;exact .yes (is_none (lO da ▸ Post.here I (.bool _)))
  | _=>exact .no
 | isn=>cases b with
  | none=>obtain rfl:=db.inv;exact .yes (isNot_none (lO da ▸ Post.here I (.bool _)))
  | _=>exact .no
 | inn=>cases b with
  | str cs =>
   obtain ⟨t,rfl⟩:=db.inv
   refine cX .no fun x e=>?_
   subst e
   obtain ⟨t',rfl⟩:=da.inv
   exact jr (G:=fun x r=>oE prog w B fr ks A s γ σ (compareOp .In (.str ⟨x.toArray⟩ t') (.str ⟨cs.toArray⟩ t)) r) (fun _=>.no) (fun c=>.yes (Cb I)) x
  | dct kvs=>exact cX .no fun k e=>.yes (in_dict I (e ▸ da) db)
  | tup ds=>exact rN (neg:=false) hu I da db
  | _=>exact .no
 | notin=>exact jq .no fun ds e=>rN (neg:=true) hu I da (e ▸ db)
theorem oU {op:Cm} {u v:Value} {a b d:D} (hu:A.units < 9000) (I:Inv prog w B fr γ σ s.heap) (da:Den prog w s.heap fr γ u a) (db:Den prog w s.heap fr γ v b) (hn:aV σ op a b=some d) :
  WP prog w B fr ks A (compareOp (sL op) u v) s γ (aJ prog w fr) (.ok d σ):=Gm hu I da db d hn
theorem Fc.un (F:Fc A cx env outer L dp):A.units < 9000:=Nat.lt_of_le_of_lt (Nat.le_add_right _ _) F.units
theorem IC (S:Sound prog w B E) (F:Fc A cx env outer L dp) (P:Pre prog w B cx env outer L fr₀ ρ γ σ s.heap) (n:Nat) (l:Expr) (op:CmpOp) (r:Expr) (pos:Pos) (hm:behindInMarks op r=false) (h:aq z E dp ρ (.cmp (mY op) (aa n cx l) (aa n cx r)) σ ≠ .no) :
  WP prog w B (L :: fr₀) (L :: fr₀) A (eval (.Compare l [op] [r] pos) env) s γ (aJ prog w (L :: fr₀)) (aq z E dp ρ (.cmp (mY op) (aa n cx l) (aa n cx r)) σ):=by
 simp only [aq] at h ⊢
 refine wpAny_Compare1 (ug S F P n l r (k:=fun a b σ=>ofO σ (aV σ (mY op) a b)) h fun u a v b σ₁ γ₁ s₁ P₁ da db hk=>?_) hm
 obtain ⟨d,hd⟩:=iy hk
 rw [iz hd]
 have:=oU (ks:=L :: fr₀) F.un P₁.inv da db hd
 rw [← nF op] at this
 exact this
theorem gw {a:D} {b:Bool} (e:aL a=some b):a=.bool b:=by
 cases a <;> simp [aL] at e
 rw [e]
theorem iC {u:Value} {b:Bool} {Q:Bool->Shared->Prop} {E':Value->Shared->Prop} (d:Den prog w h fr γ u (.bool b)) (hq:Q b s):wpAny (model prog w) A (truthy u) Q E' s:=by
 rw [(d.inv:u=.bool b)]
 exact wpAny_truthy_bool hq
theorem gy {u:Value} {a:D} (I:Inv prog w B fr γ σ s.heap) (da:Den prog w s.heap fr γ u a) (hk:ofO σ (aL a) ≠ .no):WP prog w B fr ks A (truthy u) s γ jD (ofO σ (aL a)):=by
 obtain ⟨b,hb⟩:=iy hk
 rw [iz hb]
 obtain rfl:=gw hb
 exact iC da (Post.here I rfl)
theorem jC {pos:Pos} {op:BoolOp} {x:Expr} {Q E':Value->Shared->Prop} (hx:wpAny (model prog w) A (eval x env) Q E' s):wpAny (model prog w) A (eval (.BoolOp op [x] pos) env) Q E' s:=hx
set_option backward.match.sparseCases true in
theorem dN {pos:Pos} {op:BoolOp} {x y:Expr} {r:List Expr} {Q E':Value->Shared->Prop}
  (hx:wpAny (model prog w) A (eval x env) (fun v s₁=>wpAny (model prog w) A (truthy v) (fun t s₂=>match op,t with
   | .And,false | .Or,true=>Q v s₂
   | _,_=>wpAny (model prog w) A (eval (.BoolOp op (y :: r) pos) env) Q E' s₂) E' s₁) E' s):wpAny (model prog w) A (eval (.BoolOp op (x :: y :: r) pos) env) Q E' s:=by
 show wpAny _ _ (do
  let v ← eval x env
  standAt pos
  let t ← holding [v] (truthy v)
  match op,t with
  | .And,false | .Or,true=>pure v
  | _,_=>boolOp pos op (evalEach (y :: r) env)) _ _ _
 refine wpAny_bind (wpAny_mono hx (fun v s₁ h₁=>wpAny_bind (wpAny_standAt (wpAny_bind (wpAny_holding (wpAny_mono h₁ (fun t s₂ h₂=>?_) fun _ _ e=>e))))) fun _ _ e=>e)
 cases op <;> cases t <;> first | exact wpAny_pure h₂ | exact h₂
theorem bool_inv {α:Type} {r u v:R α} {t:Option Bool} (hr:r=match t with | some true=>u | some false=>v | Option.none=>.no) (h:r ≠ .no):(t=some true∧r=u)∨(t=some false∧r=v):=by
 cases t with
 | none=>exact absurd hr h
 | some b=>cases b with
  | true=>exact .inl ⟨rfl,hr⟩
  | false=>exact .inr ⟨rfl,hr⟩
theorem wh {α:Type} {r u v:R α} {t:Option Bool} (hr:r=match t with | some false=>v | some true=>u | Option.none=>.no) (h:r ≠ .no):(t=some true∧r=u)∨(t=some false∧r=v):=by
 cases t with
 | none=>exact absurd hr h
 | some b=>cases b with
  | true=>exact .inl ⟨rfl,hr⟩
  | false=>exact .inr ⟨rfl,hr⟩
theorem eY {u:Value} {a:D} {b:Bool} {Q:Bool->Shared->Prop} {E':Value->Shared->Prop} {h:Heap} (d:Den prog w h fr γ u a) (e:aL a=some b) (hq:Q b s):wpAny (model prog w) A (truthy u) Q E' s:=iC (gw e ▸ d) hq
theorem vO (S:Sound prog w B E) (F:Fc A cx env outer L dp) (P:Pre prog w B cx env outer L fr₀ ρ γ σ s.heap) (n:Nat) (op:BoolOp) (es:List Expr) (pos:Pos) (h:aq z E dp ρ (aa (n+1) cx (.BoolOp op es pos)) σ ≠ .no) :
  WP prog w B (L :: fr₀) (L :: fr₀) A (eval (.BoolOp op es pos) env) s γ (aJ prog w (L :: fr₀)) (aq z E dp ρ (aa (n+1) cx (.BoolOp op es pos)) σ):=by
 cases es with
 | nil=>cases op <;> exact absurd rfl h
 | cons x r =>
  cases r with
  | nil=>cases op <;> exact jC (S.sx n x F P h)
  | cons y r =>
   cases op with
   | And =>
    refine cF h fun q hr h=>?_
    refine dN (bP S F P n x hr h fun v a σ₁ γ₁ s₁ st P₁ rs da er=>?_)
    rcases bool_inv er h with ⟨ht,er⟩ | ⟨ht,er⟩
    ·exact eY da ht (er ▸ bJ st P₁.inv rs (S.sx (n+1) (.BoolOp .And (y :: r) pos) F P₁ (er ▸ h)))
    ·exact eY da ht (er ▸ Post.ok st P₁.inv rs da)
   | Or =>
    refine cF h fun q hr h=>?_
    refine dN (bP S F P n x hr h fun v a σ₁ γ₁ s₁ st P₁ rs da er=>?_)
    rcases wh er h with ⟨ht,er⟩ | ⟨ht,er⟩
    ·exact eY da ht (er ▸ Post.ok st P₁.inv rs da)
    ·exact eY da ht (er ▸ bJ st P₁.inv rs (S.sx (n+1) (.BoolOp .Or (y :: r) pos) F P₁ (er ▸ h)))
theorem II (S:Sound prog w B E) (F:Fc A cx env outer L dp) (P:Pre prog w B cx env outer L fr₀ ρ γ σ s.heap) (n:Nat) (x:Expr) (pos:Pos) (h:aq z E dp ρ (.bnot (aa n cx x)) σ ≠ .no) :
  WP prog w B (L :: fr₀) (L :: fr₀) A (eval (.UnaryOp .Not x pos) env) s γ (aJ prog w (L :: fr₀)) (aq z E dp ρ (.bnot (aa n cx x)) σ):=by
 have h':((E.x dp ρ (aa n cx x) σ).bind fun d σ=>ofO σ (aL d)).bind (fun b σ=>(R.ok (D.bool (!b)) σ:R D)) ≠ .no:=h
 show WP _ _ _ _ _ _ _ _ _ _ (((E.x dp ρ (aa n cx x) σ).bind fun d σ=>ofO σ (aL d)).bind fun b σ=>(R.ok (D.bool (!b)) σ:R D))
 refine wpAny_UnaryOp (wpAny_mono (S.sx n x F P (R.of_bind (R.of_bind h'))) (fun v s₁ q=>?_) fun _ _ q=>(q.bind).bind)
 obtain ⟨a,σ₁,γ₁,er,st,I,rs,da⟩:=q
 rw [er,R.bg] at h' ⊢
 obtain ⟨b,hb⟩:=iy (R.of_bind h')
 rw [iz hb,R.bg]
 obtain rfl:=gw hb
 exact not_value (iC da (Post.ok st I rs (.bool _)))
theorem IG (S:Sound prog w B E) (F:Fc A cx env outer L dp) (P:Pre prog w B cx env outer L fr₀ ρ γ σ s.heap) (n:Nat) (x:Expr) (pos:Pos) (h:aq z E dp ρ (.neg (aa n cx x)) σ ≠ .no) :
  WP prog w B (L :: fr₀) (L :: fr₀) A (eval (.UnaryOp .USub x pos) env) s γ (aJ prog w (L :: fr₀)) (aq z E dp ρ (.neg (aa n cx x)) σ):=by
 simp only [aq] at h ⊢
 refine wpAny_UnaryOp (wpAny_mono (S.sx n x F P (R.of_bind h)) (fun v s₁ q=>?_) fun _ _ q=>q.bind)
 obtain ⟨a,σ₁,γ₁,er,st,I,rs,da⟩:=q
 rw [er,R.bg] at h ⊢
 split at h
 ·cases da
  exact PyProof.Rows.neg_int (Post.ok st I rs (.int _ _))
 ·exact absurd rfl h
theorem IF (S:Sound prog w B E) (F:Fc A cx env outer L dp) (P:Pre prog w B cx env outer L fr₀ ρ γ σ s.heap) (n:Nat) (c a b:Expr) (pos:Pos) (h:aq z E dp ρ (.ite (aa n cx c) (aa n cx a) (aa n cx b)) σ ≠ .no) :
  WP prog w B (L :: fr₀) (L :: fr₀) A (eval (.IfExp c a b pos) env) s γ (aJ prog w (L :: fr₀)) (aq z E dp ρ (.ite (aa n cx c) (aa n cx a) (aa n cx b)) σ):=by
 simp only [aq] at h ⊢
 refine wpAny_IfExp (wpAny_mono (S.st n c F P (R.of_bind h)) (fun t s₁ q=>?_) fun _ _ q=>q.bind)
 obtain ⟨t',σ₁,γ₁,er,st,I,rs,ht⟩:=q
 obtain rfl:t=t':=ht
 rw [er,R.bg] at h ⊢
 cases t with
 | true=>exact bJ st I rs (S.sx n a F (P.step st I) h)
 | false=>exact bJ st I rs (S.sx n b F (P.step st I) h)
end
end Mine.Internal
end
section
namespace Mine.Internal
open PySem PySem.W PySem.Calls PyProof.Rows PySem.Spec PySem.SeqAt
section
variable {prog:Program} {w:World} {B:Heap} {mg mb:Str->Option Value} {E:Ev} {A:Around} {cx:Cx} {env:Env} {outer:List Env} {L:Addr} {dp:Nat} {fr₀ fr ks:List Addr} {ρ:Loc} {γ:Gam} {σ:Sto} {s:Shared} {z:Bool} {h:Heap}
noncomputable def tX (z:Bool) (E:Ev) (dp:Nat) (ρ:Loc) (x:X) (σ:Sto):R Bool:=(aq z E dp ρ x σ).bind fun d σ=>ofO σ (aL d)
theorem AQ (n:Nat) (e:Expr) (he:isTrue e env (eval e env)=(do let v ← eval e env;standAt e.pos;holding [v] (truthy v)))
  (x:aq z E dp ρ (aa n cx e) σ ≠ .no->WP prog w B (L :: fr₀) (L :: fr₀) A (eval e env) s γ (aJ prog w (L :: fr₀)) (aq z E dp ρ (aa n cx e) σ)) (h:tX z E dp ρ (aa n cx e) σ ≠ .no) :
  WP prog w B (L :: fr₀) (L :: fr₀) A (isTrue e env (eval e env)) s γ jD (tX z E dp ρ (aa n cx e) σ):=by
 unfold tX at h ⊢
 refine wpAny_isTrue_value (wpAny_mono (x (R.of_bind h)) (fun v s₁ q=>?_) fun _ _ q=>q.bind) he
 obtain ⟨a,σ₁,γ₁,er,st,I,rs,da⟩:=q
 rw [er,R.bg] at h ⊢
 exact bJ st I rs (gy I da h)
theorem R.bind_assoc {α β δ:Type} {r:R α} {f:α->Sto->R β} {g:β->Sto->R δ}:(r.bind f).bind g=r.bind fun a σ=>(f a σ).bind g:=by cases r <;> rfl
theorem j8 {β:Type} (S:Sound prog w B E) (F:Fc A cx env outer L dp) (P:Pre prog w B cx env outer L fr₀ ρ γ σ s.heap) (n:Nat) (e:Expr) {k:Bool->Sto->R β} {r:R β} {Q:Bool->Shared->Prop} (hr:r=(E.t dp ρ (aa n cx e) σ).bind k) (h:r ≠ .no)
  (y:∀ b σ₁ γ₁ s₁,Step (L :: fr₀) (L :: fr₀) s.heap γ s₁.heap γ₁->Pre prog w B cx env outer L fr₀ ρ γ₁ σ₁ s₁.heap->Rest s s₁->r=k b σ₁->Q b s₁) :
  wpAny (model prog w) A (isTrue e env (eval e env)) Q (aP prog w B (L :: fr₀) (L :: fr₀) s γ r none) s:=by
 subst hr
 refine wpAny_mono (S.st n e F P (R.of_bind h)) (fun v s₁ q=>?_) fun _ _ q=>q.bind
 obtain ⟨b,σ₁,γ₁,er,st,I,rs,hb⟩:=q
 exact y v σ₁ γ₁ s₁ st (P.step st I) rs (by rw [er,(hb:v=b)];rfl)
theorem Ir (S:Sound prog w B E) (F:Fc A cx env outer L dp) (P:Pre prog w B cx env outer L fr₀ ρ γ σ s.heap) (n:Nat) (l:Expr) (op:CmpOp) (r:Expr) (pos:Pos) (hm:behindInMarks op r=false) (h:tX z E dp ρ (.cmp (mY op) (aa n cx l) (aa n cx r)) σ ≠ .no) (whole:Sem Value) :
  WP prog w B (L :: fr₀) (L :: fr₀) A (isTrue (.Compare l [op] [r] pos) env whole) s γ jD (tX z E dp ρ (.cmp (mY op) (aa n cx l) (aa n cx r)) σ):=by
 refine cF h fun q hr h=>?_
 refine wpAny_isTrue_Compare1 (bP S F P n l (hr.trans R.bind_assoc) h fun u a σ₁ γ₁ s₁ st P₁ rs da er=>?_) hm
 refine vY S F st rs P₁ n r (er.trans R.bind_assoc) h fun v b σ₂ γ₂ s₂ st₂ st₂' P₂ rs₂ db er=>?_
 obtain ⟨d,hd⟩:=iy (R.of_bind (er ▸ h))
 rw [iz hd] at er
 obtain rfl:q=ofO σ₂ (aL d):=er
 obtain ⟨b',hb'⟩:=iy h
 have c:=oU (ks:=L :: fr₀) F.un P₂.inv (Den.step st₂' da) db hd
 rw [← nF op] at c
 refine wpAny_mono c (fun v s₃ q=>?_) (fun _ _ q=>by obtain ⟨_,_,e,_⟩:=q;cases e)
 obtain ⟨d',σ₃,γ₃,er₃,st₃,I₃,rs₃,dd⟩:=q
 cases er₃
 exact eY dd hb' ((iz hb').symm ▸ Post.ok (st₂.trans st₃) I₃ (rs₂.trans rs₃) rfl)
theorem IQ (x:X):tX z E dp ρ (.bnot x) σ=(E.t dp ρ x σ).bind fun b σ=>.ok (!b) σ:=by
 unfold tX
 simp only [aq]
 cases E.t dp ρ x σ <;> rfl
theorem Iv (S:Sound prog w B E) (F:Fc A cx env outer L dp) (P:Pre prog w B cx env outer L fr₀ ρ γ σ s.heap) (n:Nat) (x:Expr) (pos:Pos) (whole:Sem Value) (h:tX z E dp ρ (.bnot (aa n cx x)) σ ≠ .no) :
  WP prog w B (L :: fr₀) (L :: fr₀) A (isTrue (.UnaryOp .Not x pos) env whole) s γ jD (tX z E dp ρ (.bnot (aa n cx x)) σ):=by
 refine cF h fun q hr h=>?_
 exact wpAny_isTrue_Not (j8 S F P n x (hr.trans (IQ _)) h fun b σ₁ γ₁ s₁ st P₁ rs er=>er ▸ Post.ok st P₁.inv rs rfl)
theorem IP (c a b:X):tX z E dp ρ (.ite c a b) σ=(E.t dp ρ c σ).bind fun t σ=>if t then E.t dp ρ a σ else E.t dp ρ b σ:=by
 unfold tX Ev.t
 simp only [aq,Ev.t]
 cases E.x dp ρ c σ with
 | ok d σ =>
  simp only [R.bg]
  cases aL d with
  | none=>rfl
  | some t=>cases t <;> rfl
 | err σ=>rfl
 | no=>rfl
theorem Iu (S:Sound prog w B E) (F:Fc A cx env outer L dp) (P:Pre prog w B cx env outer L fr₀ ρ γ σ s.heap) (n:Nat) (c a b:Expr) (pos:Pos) (whole:Sem Value) (h:tX z E dp ρ (.ite (aa n cx c) (aa n cx a) (aa n cx b)) σ ≠ .no) :
  WP prog w B (L :: fr₀) (L :: fr₀) A (isTrue (.IfExp c a b pos) env whole) s γ jD (tX z E dp ρ (.ite (aa n cx c) (aa n cx a) (aa n cx b)) σ):=by
 refine cF h fun q hr h=>?_
 rw [arm_isTrue_IfExp]
 refine wpAny_bind (j8 S F P n c (hr.trans (IP _ _ _)) h fun t σ₁ γ₁ s₁ st P₁ rs er=>?_)
 subst er
 cases t with
 | true=>exact bJ st P₁.inv rs (S.st n a F P₁ h)
 | false=>exact bJ st P₁.inv rs (S.st n b F P₁ h)
theorem IM (x y:X) (r:List X):tX z E dp ρ (.band (x :: y :: r)) σ=(E.t dp ρ x σ).bind fun b σ=>if b then E.t dp ρ (.band (y :: r)) σ else .ok false σ:=by
 unfold tX Ev.t
 simp only [aq]
 cases E.x dp ρ x σ with
 | ok a σ =>
  simp only [R.bg]
  cases e:aL a with
  | none=>rfl
  | some t =>
   cases t with
   | true=>rfl
   | false=>simp only [R.bg,e];rfl
 | err σ=>rfl
 | no=>rfl
theorem ON (x y:X) (r:List X):tX z E dp ρ (.bor (x :: y :: r)) σ=(E.t dp ρ x σ).bind fun b σ=>if b then .ok true σ else E.t dp ρ (.bor (y :: r)) σ:=by
 unfold tX Ev.t
 simp only [aq]
 cases E.x dp ρ x σ with
 | ok a σ =>
  simp only [R.bg]
  cases e:aL a with
  | none=>rfl
  | some t =>
   cases t with
   | true=>simp only [R.bg,e];rfl
   | false=>rfl
 | err σ=>rfl
 | no=>rfl
theorem E3 (S:Sound prog w B E) (F:Fc A cx env outer L dp) (P:Pre prog w B cx env outer L fr₀ ρ γ σ s.heap) (n:Nat) (op:BoolOp) (es:List Expr) (pos:Pos) (whole:Sem Value) (h:tX z E dp ρ (aa (n+1) cx (.BoolOp op es pos)) σ ≠ .no) :
  WP prog w B (L :: fr₀) (L :: fr₀) A (isTrue (.BoolOp op es pos) env whole) s γ jD (tX z E dp ρ (aa (n+1) cx (.BoolOp op es pos)) σ):=by
 refine wpAny_isTrue_BoolOp ?_
 cases es with
 | nil=>cases op <;> exact absurd rfl h
 | cons x r =>
  cases r with
  | nil =>
   cases op with
   | And =>
    refine wpAny_allTrue_And_cons (wpAny_mono (S.st n x F P h) (fun b s₁ q=>?_) fun _ _ q=>q)
    cases b with
    | true=>exact wpAny_allTrue_And_nil q
    | false=>exact q
   | Or =>
    refine wpAny_allTrue_Or_cons (wpAny_mono (S.st n x F P h) (fun b s₁ q=>?_) fun _ _ q=>q)
    cases b with
    | true=>exact q
    | false=>exact wpAny_allTrue_Or_nil q
  | cons y r =>
   cases op with
   | And =>
    refine cF h fun q hr h=>?_
    refine wpAny_allTrue_And_cons (j8 S F P n x (hr.trans (IM _ _ _)) h fun b σ₁ γ₁ s₁ st P₁ rs er=>?_)
    subst er
    cases b with
    | true=>exact bJ st P₁.inv rs ((arm_isTrue_BoolOp ..) ▸ S.st (n+1) (.BoolOp .And (y :: r) pos) F P₁ h)
    | false=>exact Post.ok st P₁.inv rs rfl
   | Or =>
    refine cF h fun q hr h=>?_
    refine wpAny_allTrue_Or_cons (j8 S F P n x (hr.trans (ON _ _ _)) h fun b σ₁ γ₁ s₁ st P₁ rs er=>?_)
    subst er
    cases b with
    | false=>exact bJ st P₁.inv rs ((arm_isTrue_BoolOp ..) ▸ S.st (n+1) (.BoolOp .Or (y :: r) pos) F P₁ h)
    | true=>exact Post.ok st P₁.inv rs rfl
end
end Mine.Internal
end
section
namespace Mine.Internal
open PySem PySem.W PySem.Calls PyProof.Rows
section
variable {prog:Program} {w:World} {B:Heap} {mg mb:Str->Option Value} {E:Ev} {A:Around} {cx:Cx} {env:Env} {outer:List Env} {L:Addr} {dp:Nat} {fr₀ fr ks:List Addr} {ρ:Loc} {γ:Gam} {σ:Sto} {s:Shared} {z:Bool}
theorem l8 {o:Expr} {a:Str} {whole:Sem Value} (h:baseOk o=true):attributeBase o a env whole=whole:=by
 cases o with
 | Call f as kw p=>cases f with
  | Name x q=>cases as with
   | nil=>cases kw with
    | nil=>cases h
    | cons _ _=>rfl
   | cons _ _=>rfl
  | _=>rfl
 | _=>rfl
theorem gn {m:Expr} (h:noStar m=true) {r:List Expr}:starEach (m :: r) env=(false,eval m env) :: starEach r env:=by
 cases m with
 | Starred=>exact nb h
 | _=>rfl
theorem E6 {m:Expr} {n:Nat} (h:noStar m=false):aa n cx m=.un:=by
 cases m with
 | Starred=>cases n <;> rfl
 | _=>exact nb h.symm
theorem E0 (S:Sound prog w B E) (F:Fc A cx env outer L dp) (P:Pre prog w B cx env outer L fr₀ ρ γ σ s.heap) (n:Nat) (pos:Pos) (es:List Expr) (h:rF E dp ρ (es.map (aa n cx)) σ ≠ .no) :
  WP prog w B (L :: fr₀) (L :: fr₀) A (spliced (backTo pos (starEach es env))) s γ (EU prog w (L :: fr₀)) (rF E dp ρ (es.map (aa n cx)) σ):=by
 cases es with
 | nil=>exact wpAny_items_nil (Post.here P.inv .nil)
 | cons e r =>
  refine cF h fun q hr h=>?_
  cases hs:noStar e with
  | false =>
   have hr:q=(E.x dp ρ (aa n cx e) σ).bind fun d σ=>(E.l dp ρ (r.map (aa n cx)) σ).bind fun ds σ=>.ok (d :: ds) σ:=hr
   rw [E6 hs,S.su] at hr
   exact absurd hr h
  | true =>
   refine wpAny_items_cons (bP S F P n e hr h fun v d σ₁ γ₁ s₁ st P₁ rs dd er=>?_) (gn hs)
   refine wpAny_mono (S.sl n pos r F P₁ (R.of_bind (er ▸ h))) (fun vs s₂ p=>?_) fun _ _ p=>er ▸ p.bind.trans st P₁.inv rs
   obtain ⟨ds,σ₂,γ₂,er₂,st₂,I₂,rs₂,dd₂⟩:=p
   rw [er₂] at er
   subst er
   exact Post.ok (st.trans st₂) I₂ (rs.trans rs₂) (.cons (Den.step st₂ dd) dd₂)
theorem IK (S:Sound prog w B E) (F:Fc A cx env outer L dp) (P:Pre prog w B cx env outer L fr₀ ρ γ σ s.heap) (n:Nat) (v i:Expr) (pos:Pos) (hs:iX i=true) (h:aq z E dp ρ (.sub (aa n cx v) (aa n cx i)) σ ≠ .no) :
  WP prog w B (L :: fr₀) (L :: fr₀) A (eval (.Subscript v i pos) env) s γ (aJ prog w (L :: fr₀)) (aq z E dp ρ (.sub (aa n cx v) (aa n cx i)) σ):=by
 simp only [aq] at h ⊢
 refine Subscript_ (ug S F P n v i (k:=fun a b σ=>ofO σ (cU σ a b)) h fun u a v b σ₁ γ₁ s₁ P₁ da db hk=>?_)
 obtain ⟨d,hd⟩:=iy hk
 rw [iz hd]
 exact Ck F.hand P₁ hs da db hd
end
end Mine.Internal
end
section
namespace Mine.Internal
open PySem PySem.W PySem.Calls PyProof.Rows
section
variable {prog:Program} {w:World} {B:Heap} {mg mb:Str->Option Value} {E:Ev} {A:Around} {cx:Cx} {env:Env} {outer:List Env} {L:Addr} {dp:Nat} {fr₀ fr ks:List Addr} {ρ:Loc} {γ:Gam} {σ:Sto} {s:Shared} {z:Bool}
theorem bN {pos:Pos}:∀ {as:List Expr},aW as=true->(backTo pos (starEach as env)).any (·.1)=false
 | [],_=>rfl
 | e :: r,h=>by
  unfold aW at h
  rw [List.all_cons,Bool.and_eq_true] at h
  have ih:=bN (pos:=pos) (as:=r) h.2
  cases e <;> first | exact ih | exact nb h.1
theorem eL {f:Value} {pos:Pos} {as:List Expr} {Q:Args->Shared->Prop} {E':Value->Shared->Prop} (hp:aW as=true)
  (h:wpAny (model prog w) A (spliced (backTo pos (starEach as env))) (fun vs s'=>Q ⟨vs,[]⟩ s') E' s):wpAny (model prog w) A (evalArgs f true (backTo pos (starEach as env)) []) Q E' s:=by
 have hp':=bN (env:=env) (pos:=pos) hp
 generalize backTo pos (starEach as env)=l at h hp'
 cases l with
 | nil =>
  unfold evalArgs
  show wpAny _ A (spliced [] >>= _) Q E' s
  refine wpAny_bind (wpAny_mono h (fun vs s' h'=>?_) fun _ _ x=>x)
  refine wpAny_holding ?_
  exact wpAny_bind (wpAny_pure (wpAny_bind (wpAny_pure (wpAny_pure h'))))
 | cons p r =>
  obtain ⟨b,x⟩:=p
  rw [List.any_cons,Bool.or_eq_false_iff] at hp'
  obtain ⟨rfl,_⟩:b=false∧True:=⟨hp'.1,trivial⟩
  exact Calls.evalArgs_plain h
theorem dw {f:Value} {first:List Value} {pos:Pos} {as:List Expr} {Q E':Value->Shared->Prop} {P:Heap->Prop} (hp:aW as=true)
  (hk:∀ h,P h->∃ k,(k=Keeper.frame∨k=Keeper.machine∨k=Keeper.boundFrame)∧Looks (model prog w) h (keeperOf f) k)
  (h:wpAny (model prog w) A (spliced (backTo pos (starEach as env))) (fun vs s'=>P s'.heap∧wpAny (model prog w) A (call f (first++vs)) Q E' s') E' s) :
  wpAny (model prog w) A (callWith pos f first (backTo pos (starEach as env)) []) Q E' s :=
 callWith_of (by rw [bN hp];rfl) hk (eL hp h)
theorem bz {f:Value} {first:List Value} {pos:Pos} {as:List Expr} {Q E':Value->Shared->Prop} (hp:aW as=true) (hf:∀ a,f ≠ .ref a)
  (h:wpAny (model prog w) A (spliced (backTo pos (starEach as env))) (fun vs s'=>wpAny (model prog w) A (call f (first++vs)) Q E' s') E' s) :
  wpAny (model prog w) A (callWith pos f first (backTo pos (starEach as env)) []) Q E' s :=
 dw (P:=fun _=>True) hp (fun hh _=>⟨.machine,.inr (.inl rfl),by
  cases f <;> first | exact absurd rfl (hf _) | exact Looks.now⟩) (wpAny_mono h (fun _ _ q=>⟨trivial,q⟩) fun _ _ q=>q)
noncomputable def biV:Bi->Value
 | .len => .builtin "len" | .str => .type "str" | .mn => .builtin "min" | .mx => .builtin "max" | .tup => .type "tuple" | .lst => .type "list"
 | _ => .builtin "isinstance"
noncomputable def biX:Bi->List Value
 | .isTup => [.type "tuple"] | .isStr => [.type "str"] | .isInt => [.type "int"] | .isBool => [.type "bool"]
 | _=>[]
theorem M9:((lim:Nat):Int) < 2 ^ 63:=by decide
theorem F7 {n:Nat} (h:n≤lim):((n:Nat):Int) < 2 ^ 63:=Int.lt_of_le_of_lt (Int.ofNat_le.mpr h) M9
theorem iR {u:Value} {a:D} {k:Nat} {C:Value->Nat->Prop} (e:qX a=some k) (da:Den prog w h fr γ u a)
  (h0 : C .none 0) (h1 : ∀ b, C (.bool b) 1) (h2 : ∀ i t, C (.int i t) 2) (h3 : ∀ s t, C (.str s t) 3) (h4 : ∀ r o, h.get? r = some o → o.cls = .type "tuple" → C (.ref r) 4) : C u k := by
 cases da with
 | none=>cases e;exact h0
 | bool b=>cases e;exact h1 b
 | int i t=>cases e;exact h2 i t
 | str s t=>cases e;exact h3 _ t
 | tup ht _ _=>cases e;obtain ⟨o,ho,hc,_⟩:=ht;exact h4 _ o ho hc
 | fl _ _ _=>cases e
 | dct _ _ _=>cases e
 | cell _=>cases e
 | glob _=>cases e
theorem GS {b:Bi} {u:Value} {a:D} (I:Inv prog w B fr γ σ s.heap) (da:Den prog w s.heap fr γ u a) (hb:biX b ≠ []) :
  Ans prog w B fr ks A s γ (call (.builtin "isinstance") ([u] ++ biX b)) (biD σ b [a]) := by
 cases b with
 | isTup => exact cJ .no fun k e _ => iR (C := fun u k => WP prog w B fr ks A (call (.builtin "isinstance") [u, .type "tuple"]) s γ (aJ prog w fr) (.ok (.bool (Nat.beq k 4)) σ)) e da (IsiPair.NoneType_tuple (Post.toks I (.bool _))) (fun _ => IsiPair.bool_tuple (Post.toks I (.bool _))) (fun _ _ => IsiPair.int_tuple (Post.toks I (.bool _))) (fun _ _ => IsiPair.str_tuple (Post.toks I (.bool _))) fun _ _ ho hc => IsiPair.tuple_tuple ho hc (Post.here I (.bool _))
 | isStr => exact cJ .no fun k e _ => iR (C := fun u k => WP prog w B fr ks A (call (.builtin "isinstance") [u, .type "str"]) s γ (aJ prog w fr) (.ok (.bool (Nat.beq k 3)) σ)) e da (IsiPair.NoneType_str (Post.toks I (.bool _))) (fun _ => IsiPair.bool_str (Post.toks I (.bool _))) (fun _ _ => IsiPair.int_str (Post.toks I (.bool _))) (fun _ _ => IsiPair.str_str (Post.here I (.bool _))) fun _ _ ho hc => IsiPair.tuple_str ho hc (Post.toks I (.bool _))
 | isInt => exact cJ .no fun k e _ => iR (C := fun u k => WP prog w B fr ks A (call (.builtin "isinstance") [u, .type "int"]) s γ (aJ prog w fr) (.ok (.bool (Nat.beq k 1 || Nat.beq k 2)) σ)) e da (IsiPair.NoneType_int (Post.toks I (.bool _))) (fun _ => IsiPair.bool_int (Post.here I (.bool _))) (fun _ _ => IsiPair.int_int (Post.here I (.bool _))) (fun _ _ => IsiPair.str_int (Post.toks I (.bool _))) fun _ _ ho hc => IsiPair.tuple_int ho hc (Post.toks I (.bool _))
 | isBool => exact cJ .no fun k e _ => iR (C := fun u k => WP prog w B fr ks A (call (.builtin "isinstance") [u, .type "bool"]) s γ (aJ prog w fr) (.ok (.bool (Nat.beq k 1)) σ)) e da (IsiPair.NoneType_bool (Post.toks I (.bool _))) (fun _ => IsiPair.bool_bool (Post.here I (.bool _))) (fun _ _ => IsiPair.int_bool (Post.toks I (.bool _))) (fun _ _ => IsiPair.str_bool (Post.toks I (.bool _))) fun _ _ ho hc => IsiPair.tuple_bool ho hc (Post.toks I (.bool _))
 | _=>exact absurd rfl hb
theorem xo {n:Nat} (h:n < 10 ^ 100):n.log2 < 1920:=by
 rcases Nat.eq_zero_or_pos n with h0 | h0
 ·subst h0;decide
 ·rw [Nat.log2_lt (Nat.ne_of_gt h0)]
  exact Nat.lt_trans h (by decide +kernel)
theorem Ct {a:D} {u:Value} {n:Nat} (I:Inv prog w B fr γ σ h) (da:Den prog w h fr γ u a) (e:tD σ a=some n) :
  (∃ cs t,u=.str ⟨cs⟩ t∧cs.size=n)∨(∃ r vs,u=.ref r∧IsTup h r vs∧vs.size=n)∨∃ r vs,u=.ref r∧h.IsList r vs∧vs.size=n:=by
 cases da with
 | str s t=>cases e;exact .inl ⟨_,_,rfl,List.size_toArray⟩
 | tup ht _ hd=>cases e;exact .inr (.inl ⟨_,_,rfl,ht,List.size_toArray.trans hd.length⟩)
 | fl ht _ hd=>cases e;exact .inr (.inr ⟨_,_,rfl,ht,List.size_toArray.trans hd.length⟩)
 | cell ec =>
  unfold tD at e
  revert e
  refine dD (G:=fun r=>r=some n->_) (fun e=>nomatch e) fun ds es e=>?_
  cases e
  obtain ⟨c,vs,_,e',hl,hd,_,_⟩:=bQ I (.cell ec) es
  exact .inr (.inr ⟨_,_,rfl,(Value.ref.inj e') ▸ hl,List.size_toArray.trans hd.length⟩)
 | none=>cases e
 | bool b=>cases e
 | int i t=>cases e
 | dct _ _ _=>cases e
 | glob _=>cases e
theorem GY {a:D} {u:Value} {n:Nat} (I:Inv prog w B fr γ σ s.heap) (da:Den prog w s.heap fr γ u a) (e:tD σ a=some n) (hb:Nat.ble n lim=true) :
  WP prog w B fr ks A (call (.builtin "len") [u]) s γ (aJ prog w fr) (.ok (.int n) σ) := by
 have hf:=F7 (bk hb)
 rcases Ct I da e with ⟨cs,t,rfl,rfl⟩ | ⟨r,vs,rfl,ht,rfl⟩ | ⟨r,vs,rfl,ht,rfl⟩
 ·exact len_str (Int.not_le.mpr hf) (Post.toks I (.int _ _))
 ·exact len_tuple ht hf (Post.toks I (.int _ _))
 ·exact call_len_list ht hf (Post.toks I (.int _ _))
theorem Iz {i : Int} {t : Tok} (I : Inv prog w B fr γ σ s.heap) (hi : i.natAbs < 10 ^ 100) : WP prog w B fr ks A (call (.type "str") [.int i t]) s γ (aJ prog w fr) (.ok (.str (sl (toString i))) σ) :=
 _root_.PySem.P.str_of_int (xo hi) (Post.toks I (Den.str (prog:=prog) (w:=w) (h:=s.heap) (fr:=fr) (γ:=γ) (sl (toString i)) s.toks))
theorem HH {x y : Int} {t t' : Tok} (hh : A.handled = none) (I : Inv prog w B fr γ σ s.heap) : WP prog w B fr ks A (call (.builtin "min") [.int x t, .int y t']) s γ (aJ prog w fr) (.ok (.int (if y < x then y else x)) σ) := by
 refine min_two_ints hh fun h' tk k=>Post.push I k ?_
 show Den prog w h' fr γ _ _
 exact aN (G:=fun x=>Den prog w h' fr γ _ (.int x)) (fun q=>by rw [if_pos q];exact .int _ _) (fun q=>by rw [if_neg q];exact .int _ _)
theorem HE {x y : Int} {t t' : Tok} (hh : A.handled = none) (I : Inv prog w B fr γ σ s.heap) : WP prog w B fr ks A (call (.builtin "max") [.int x t, .int y t']) s γ (aJ prog w fr) (.ok (.int (if x < y then y else x)) σ) := by
 refine max_two_ints hh fun h' tk k=>Post.push I k ?_
 show Den prog w h' fr γ _ _
 exact aN (G:=fun z=>Den prog w h' fr γ _ (.int z)) (fun q=>by rw [if_pos (show y > x from q)];exact .int _ _) (fun q=>by rw [if_neg (show ¬ y > x from q)];exact .int _ _)
theorem IV {i : Nat} {u : Value} {ds : List D} (I : Inv prog w B fr γ σ s.heap) (da : Den prog w s.heap fr γ u (.cell i)) (e : σ[i]? = some (.lst ds)) (hl : ds.length ≤ lim) : WP prog w B fr ks A (call (.type "tuple") [u]) s γ (aJ prog w fr) (.ok (.tup ds) σ) := by
 obtain ⟨c,vs,ec,rfl,hl',hd,_,_⟩:=bQ I da e
 refine call_tuple_list hl' (fun h' k=>?_) (by rw [List.size_toArray];exact eo hd hl)
 exact Post.push (tk:=s.toks) I (Keeps.trans k aC) (fE (I.keeps k) (hd.step (Keeps.step (ks:=[]) k)))
theorem Hf {i : Nat} {u : Value} {ds : List D} (I : Inv prog w B fr γ σ s.heap) (da : Den prog w s.heap fr γ u (.cell i)) (e : σ[i]? = some (.lst ds)) (hl : ds.length ≤ lim) : WP prog w B fr ks A (call (.type "list") [u]) s γ (aJ prog w fr) (.ok (.cell σ.length) (σ ++ [.lst ds])) := by
 obtain ⟨c,vs,ec,rfl,hl',hd,_,_⟩:=bQ I da e
 obtain ⟨o,ho,hc,n,hdd⟩:=id hl'
 refine call_list_seq c.a (.inl rfl) ho hc hdd (fun h' c' k hnew=>?_) (by rw [List.size_toArray];exact eo hd hl)
 obtain ⟨γ₂,st₂,I₂,d₂⟩:=iW (ks:=ks) I k (aZ _) ⟨c',hnew⟩ hd
 exact Post.ok st₂ I₂ .refl d₂
theorem pW {F:Value} {vs:List Value} {ds:List D} {f:D->R D} (dd:av prog w s.heap fr γ vs ds) (k:∀ u a,Den prog w s.heap fr γ u a->Ans prog w B fr ks A s γ (call F [u]) (f a)):Ans prog w B fr ks A s γ (call F vs) (one .no f ds) :=
 jr (G:=fun ds r=>av prog w s.heap fr γ vs ds->Ans prog w B fr ks A s γ (call F vs) r) (fun _ _=>.no) (fun a dd=>by
  obtain ⟨u,r,rfl,da,dr⟩:=dd.inv
  obtain rfl:=dr.inv
  exact k u a da) ds dd
theorem Bc {F:Value} {vs:List Value} {ds:List D} {f:Int->Int->R D} (dd:av prog w s.heap fr γ vs ds) (k:∀ x y t t',WP prog w B fr ks A (call F [.int x t,.int y t']) s γ (aJ prog w fr) (f x y)):Ans prog w B fr ks A s γ (call F vs) (two .no (fun a b=>onI .no (fun x=>onI .no (f x) b) a) ds) :=
 uh (G:=fun ds r=>av prog w s.heap fr γ vs ds->Ans prog w B fr ks A s γ (call F vs) r) (fun _ _=>.no) (fun a b dd=>bK .no fun x e=>bK .no fun y e' _=>by
  subst e e'
  obtain ⟨u,r,rfl,da,dr⟩:=dd.inv
  obtain ⟨v,r,rfl,db,dr⟩:=dr.inv
  obtain rfl:=dr.inv
  obtain ⟨t,rfl⟩:=da.inv
  obtain ⟨t',rfl⟩:=db.inv
  exact k x y t t') ds dd
theorem yz {b:Bi} {vs:List Value} {ds:List D} (hh:A.handled=none) (I:Inv prog w B fr γ σ s.heap) (dd:av prog w s.heap fr γ vs ds) (hb:biX b=[]) :
  Ans prog w B fr ks A s γ (call (biV b) vs) (biD σ b ds):=by
 cases b with
 | len=>exact pW dd fun u a da=>cJ .no fun n e=>aN (fun hb _=>GY I da e hb) fun _=>.no
 | str=>exact pW dd fun u a da=>bK .no fun i e=>aN (fun hi _=>by
   subst e
   obtain ⟨t,rfl⟩:=da.inv
   exact Iz I hi) fun _=>.no
 | mn=>exact Bc (f:=fun x y=>.ok (.int (if y < x then y else x)) σ) dd fun x y t t'=>HH hh I
 | mx=>exact Bc (f:=fun x y=>.ok (.int (if x < y then y else x)) σ) dd fun x y t t'=>HE hh I
 | tup=>exact pW dd fun u a da=>cW .no fun i e=>dD .no fun ds es=>aN (fun hl _=>IV I (e ▸ da) es hl) fun _=>.no
 | lst=>exact pW dd fun u a da=>cW .no fun i e=>dD .no fun ds es=>aN (fun hl _=>Hf I (e ▸ da) es hl) fun _=>.no
 | _=>exact nomatch hb
end
end Mine.Internal
end
section
namespace Mine.Internal
open PySem PySem.W PySem.Calls PyProof.Rows
section
variable {prog:Program} {w:World} {B:Heap} {mg mb:Str->Option Value} {E:Ev} {A:Around} {cx:Cx} {env:Env} {outer:List Env} {L:Addr} {dp:Nat} {fr₀ fr ks:List Addr} {ρ:Loc} {γ:Gam} {σ:Sto} {s:Shared} {z:Bool}
noncomputable def biT:Bi->String
 | .isTup => "tuple" | .isStr => "str" | .isInt => "int" | .isBool => "bool" | _ => ""
theorem m9 {α:Type} {x:Str} {p:String × α} {l:List (String × α)}:gZ x l=some p->p ∈ l∧x=Str.ofString p.1:=by
 induction l with
 | nil=>exact fun h=>nn h
 | cons q r ih =>
  intro h
  cases hx:isS x q.1 with
  | true=>exact Option.some.inj ((if_pos hx).symm.trans h) ▸ ⟨.head _,lP hx⟩
  | false=>exact (ih ((if_neg (Bool.not_eq_true _ ▸ hx)).symm.trans h)).imp_left (.tail _)
theorem mE {α:Type} {x:Str} {l:List (String × α)} (f:α->Str) (hl:l.all (fun p=>Str.ofString p.1 == f p.2)=true) {m:α} (h:(gZ x l).map (·.2)=some m):x=f m:=by
 obtain ⟨p,hp,e⟩:=Option.map_eq_some_iff.mp h
 obtain ⟨hm,hx⟩:=m9 hp
 exact e ▸ hx.trans (beq_iff_eq.mp (List.all_eq_true.mp hl p hm))
noncomputable def named (t : String) (v : Value) : Bool := nameList.contains t && bootBuiltins (Str.ofString t) == some v && !(Str.ofString t == ("__debug__" : Str))
theorem lW {t : String} {v : Value} (h : named t v = true) : t ∈ nameList ∧ bootBuiltins (Str.ofString t) = some v ∧ (Str.ofString t == ("__debug__" : Str)) = false := by
 unfold named at h
 rw [Bool.and_eq_true,Bool.and_eq_true,List.contains_iff_mem,beq_iff_eq,Bool.not_eq_true'] at h
 exact ⟨h.1.1,h.1.2,h.2⟩
theorem yy:uF.all (fun p=>!gY p.2.2 && named p.1 (biV p.2.2))=true:=by kernel_rfl
theorem wZ : zF.all (fun p => gY p.2 && named p.1 (.type p.1) && biT p.2 == p.1 && biX p.2 == [.type p.1] && biV p.2 == .builtin "isinstance") = true := by kernel_rfl
theorem xd : named "isinstance" (.builtin "isinstance") = true := by kernel_rfl
inductive yf (x:Str) (as:List Expr) (b:Bi) (es:List Expr):Prop
 | plain (t:String) (hx:x=Str.ofString t) (h:named t (biV b)=true) (e:as=es) (hi:gY b=false):yf x as b es
 | isi (a : Expr) (p : Pos) (hx : isS x "isinstance" = true) (ea : as = [a, .Name (Str.ofString (biT b)) p]) (ee : es = [a]) (hi : gY b = true) (hb : biX b = [.type (biT b)]) (hv : biV b = .builtin "isinstance") (h : named (biT b) (.type (biT b)) = true) : yf x as b es
theorem yC {x:Str} {as es:List Expr} {b:Bi} {p:String × Nat × Bi} (hp:gZ x uF=some p) (h:(if Nat.beq as.length p.2.1=true then some (p.2.2,as) else none)=some (b,es)):yf x as b es:=by
 obtain ⟨hm,hx⟩:=m9 hp
 obtain ⟨q1,q2⟩:=Bool.and_eq_true_iff.mp (List.all_eq_true.mp yy p hm)
 by_cases hl:Nat.beq as.length p.2.1=true
 ·obtain ⟨rfl,rfl⟩:=Prod.mk.inj (Option.some.inj ((if_pos hl).symm.trans h))
  exact .plain p.1 hx q2 rfl ((Bool.not_eq_true' _).mp q1)
 ·exact nn ((if_neg hl).symm.trans h)
theorem Gg {x : Str} {a c : Expr} {es : List Expr} {b : Bi} (hx : isS x "isinstance" = true) (h : FD a c = some (b, es)) : yf x [a, c] b es := by
 obtain ⟨t,ht,h⟩:=Option.bind_eq_some_iff.mp h
 obtain ⟨q,hq,h⟩:=Option.map_eq_some_iff.mp h
 obtain ⟨rfl,rfl⟩:=Prod.mk.inj h
 obtain ⟨hm,e⟩:=m9 hq
 obtain ⟨pp,rfl⟩:=gO ht
 have hk:=List.all_eq_true.mp wZ _ hm
 rw [Bool.and_eq_true,Bool.and_eq_true,Bool.and_eq_true,Bool.and_eq_true,beq_iff_eq,beq_iff_eq,beq_iff_eq] at hk
 obtain ⟨⟨⟨⟨k1,k2⟩,k3⟩,k4⟩,k5⟩:=hk
 rw [← k3] at e k2 k4
 exact .isi a pp hx (by rw [e]) rfl k1 k4 k5 k2
theorem nB {x:Str} {as:List Expr} {b:Bi} {es:List Expr} (h:we x as=some (b,es)):yf x as b es:=by
 unfold we at h
 cases hp:gZ x uF with
 | some p=>exact yC hp (by rw [hp] at h;exact h)
 | none =>
  rw [hp] at h
  by_cases hx : isS x "isinstance" = true
  ·have h:=(if_pos hx).symm.trans h
   cases as with
   | nil=>exact nn h
   | cons a r=>cases r with
    | nil=>exact nn h
    | cons c r=>cases r with
     | cons _ _=>exact nn h
     | nil=>exact Gg hx h
  ·exact nn ((if_neg hx).symm.trans h)
theorem wY {b:Bi}:gY b=false↔biX b=[]:=by cases b <;> simp [gY,biX]
theorem OH (S:Sound prog w B E) (G:bZ prog w B mg mb) (F:Fc A cx env outer L dp) (P:Pre prog w B cx env outer L fr₀ ρ γ σ s.heap) (n:Nat) (x:Str) (np pos:Pos) (as:List Expr) (b:Bi) (es:List Expr)
  (hp:aW as=true) (hb:(iI x as).all cx.builtin=true) (ho:we x as=some (b,es)) (hi:gY b=false) (h:aq z E dp ρ (.bi b (es.map (aa n cx))) σ ≠ .no) :
  WP prog w B (L :: fr₀) (L :: fr₀) A (eval (.Call (.Name x np) as [] pos) env) s γ (aJ prog w (L :: fr₀)) (aq z E dp ρ (.bi b (es.map (aa n cx))) σ):=by
 have hbx:=wY.mp hi
 have hx1:cx.builtin x=true:=by
  unfold iI at hb
  rw [List.all_cons,Bool.and_eq_true] at hb
  exact hb.1
 cases nB ho with
 | isi a p _ _ _ hi'=>rw [hi] at hi';cases hi'
 | plain t hx hn e _ =>
  subst e hx
  obtain ⟨n1,n2,n3⟩:=lW hn
  change (E.l dp ρ (as.map (aa n cx)) σ).bind _ ≠ _ at h
  refine wpAny_Call_NameR (ld_builtin n1 n2 G F P hx1 n3 ?_)
  refine bz hp (fun a e=>by cases b <;> cases e) ?_
  exact WP.seq (S.sl n pos as F P (R.of_bind h)) fun vs ds σ₁ γ₁ s₁ er st I rs dd=>yz F.hand I dd hbx (by rw [er] at h;exact h)
theorem Ci (S : Sound prog w B E) (G : bZ prog w B mg mb) (F : Fc A cx env outer L dp) (P : Pre prog w B cx env outer L fr₀ ρ γ σ s.heap) (n : Nat) {np pos p : Pos} {a : Expr} {b : Bi} {r : R D} (h1 : cx.builtin (Str.ofString "isinstance") = true) (h2 : cx.builtin (Str.ofString (biT b)) = true)
  (hp:aW [a,.Name (Str.ofString (biT b)) p]=true) (hbx:biX b=[.type (biT b)]) (hn:named (biT b) (.type (biT b))=true) (hr:r=(E.x dp ρ (aa n cx a) σ).bind fun d σ=>biD σ b [d]) (h:r ≠ .no) :
  WP prog w B (L :: fr₀) (L :: fr₀) A (eval (.Call (.Name (Str.ofString "isinstance") np) [a, .Name (Str.ofString (biT b)) p] [] pos) env) s γ (aJ prog w (L :: fr₀)) r := by
 obtain ⟨ht,hbt,hdt⟩:=lW hn
 obtain ⟨n1,n2,n3⟩:=lW xd
 refine wpAny_Call_NameR (ld_builtin n1 n2 G F P h1 n3 (bz hp (fun a e=>by cases e) ?_))
 refine wpAny_items_cons (bP S F P n a hr h fun v d σ₁ γ₁ s₁ st P₁ rs dd er=>?_) (gn (Bool.and_eq_true_iff.mp hp).1)
 refine wpAny_items_cons (ld_builtin ht hbt G F P₁ h2 hdt (wpAny_items_nil ?_)) rfl
 subst er
 exact bJ st P₁.inv rs (hbx ▸ GS P₁.inv dd (fun e=>by cases hbx.symm.trans e) h)
theorem IE (S:Sound prog w B E) (G:bZ prog w B mg mb) (F:Fc A cx env outer L dp) (P:Pre prog w B cx env outer L fr₀ ρ γ σ s.heap) (n:Nat) (x:Str) (np pos:Pos) (as:List Expr) (b:Bi) (a:Expr)
  (hp:aW as=true) (hb:(iI x as).all cx.builtin=true) (ho:we x as=some (b,[a])) (hi:gY b=true) (h:aq z E dp ρ (.isi b (aa n cx a)) σ ≠ .no) :
  WP prog w B (L :: fr₀) (L :: fr₀) A (eval (.Call (.Name x np) as [] pos) env) s γ (aJ prog w (L :: fr₀)) (aq z E dp ρ (.isi b (aa n cx a)) σ):=by
 refine cF h fun r hr h=>?_
 have hr:r=(E.x dp ρ (aa n cx a) σ).bind fun d σ=>biD σ b [d]:=hr
 cases nB ho with
 | plain t hx hn e hi'=>exact nb (hi'.symm.trans hi)
 | isi a' p hx ea ee _ hbx hbv hn =>
  obtain rfl:=ea
  obtain rfl:=(List.cons.inj ee).1
  obtain rfl:=lP hx
  obtain ⟨h1,h2⟩:=Bool.and_eq_true_iff.mp hb
  exact Ci S G F P n h1 (Bool.and_eq_true_iff.mp h2).1 hp hbx hn hr h
theorem fC {o:Expr} {name:Str} {apos pos:Pos} {args:List Expr} (hm:rf o apos pos args=true) (hp:aW args=true) :
  eval (.Call (.Attribute o name apos) args [] pos) env=(do
   let ov ← eval o env
   standAt apos.atName
   let (f,first) ← holding [ov] (getMethod ov name (do return (← importBound o env).getD true))
   callWith pos f first (backTo pos (starEach args env)) []):=by
 unfold rf at hm
 rw [Bool.and_eq_true,Bool.and_eq_true] at hm
 obtain ⟨⟨h1,h2⟩,h3⟩:=hm
 rw [arm_eval_Call,l8 h1]
 have hall:(backTo pos (starEach args env)).all (fun x=>!x.1)=true:=by
  have:=bN (env:=env) (pos:=pos) hp
  rw [List.all_eq_true]
  intro x hx
  rw [List.any_eq_false] at this
  simpa using this x hx
 have hform:methodCallForm (args.length+0) (backTo pos (starEach args env)) []=true:=by
  show ((backTo pos (starEach args env)).all (fun x=>!x.1) && true && decide (args.length < 30))=true
  rw [hall,decide_eq_true (show args.length < 30 from Nat.le_of_ble_eq_true h3)]
  rfl
 have hpos:methodCallPos true o env apos pos=pure pos:=by
  unfold methodCallPos
  rw [h2]
  rfl
 show (do
   let ov ← eval o env
   standAt apos.atName
   let (f,first) ← holding [ov] (calleeOf (methodCallForm (args.length+0) (backTo pos (starEach args env)) []) o env ov name)
   let p ← methodCallPos (methodCallForm (args.length+0) (backTo pos (starEach args env)) []) o env apos pos
   callWith p f first (backTo pos (starEach args env)) [])=_
 rw [hform,hpos]
 rfl
noncomputable def Mk:Me->String
 | .append => "list.append" | .pop => "list.pop" | .extend => "list.extend" | .find => "str.find" | .lower => "str.lower" | .get => "dict.get"
noncomputable def tL:Me->String
 | .append => "append" | .pop => "pop" | .extend => "extend" | .find => "find" | .lower => "lower" | .get => "get"
theorem xx {x:Str} {m:Me} (h:HF x=some m):x=Str.ofString (tL m):=mE (fun m=>Str.ofString (tL m)) (by kernel_rfl) h
theorem tH {u:Value} {a:D} (I:Inv prog w B fr γ σ s.heap) (da:Den prog w s.heap fr γ u a) (hl:zE σ a=true):∃ l vs,u=.ref l∧PlainL s.heap l vs :=
 cW (G:=fun b=>b=true->_) nb (fun i ei=>dD (G:=fun b=>b=true->_) nb fun ds e _=>by
  obtain ⟨c,vs,_,hu,hp,_⟩:=cI I (ei ▸ da) e
  exact ⟨_,vs,hu,hp⟩) hl
theorem B4 {u:Value} {a:D} {h:Heap} (da:Den prog w h fr γ u a) (hl:onS false (fun _=>true) a=true):∃ x t,u=.str x t :=
 cX (G:=fun b=>b=true->_) nb (fun i ei _=>by
  obtain ⟨t,e⟩:=(ei ▸ da).inv
  exact ⟨_,t,e⟩) hl
theorem HG {m:Me} {u:Value} {a:D} {pl:Sem Bool} {Q:Value × List Value->Shared->Prop} {E':Value->Shared->Prop} (I:Inv prog w B fr γ σ s.heap) (da:Den prog w s.heap fr γ u a) (hk:cV σ m a=true)
  (h:Q (.builtin (Mk m),[u]) s):wpAny (model prog w) A (getMethod u (Str.ofString (tL m)) pl) Q E' s:=by
 cases m with
 | append =>
  obtain ⟨l,vs,rfl,n,ho⟩:=tH I da hk
  exact getMethod_builtin ⟨_,ho,rfl⟩ PySem.F.plainAttrs_list PySem.F.slot_list_append PySem.F.type_list_append (fun a e=>by cases e;exact ⟨_,ho,rfl⟩) h
 | pop =>
  obtain ⟨l,vs,rfl,n,ho⟩:=tH I da hk
  exact getMethod_builtin ⟨_,ho,rfl⟩ PySem.F.plainAttrs_list PySem.F.slot_list_pop PySem.F.type_list_pop (fun a e=>by cases e;exact ⟨_,ho,rfl⟩) h
 | extend =>
  obtain ⟨l,vs,rfl,n,ho⟩:=tH I da hk
  exact getMethod_builtin ⟨_,ho,rfl⟩ PySem.F.plainAttrs_list PySem.F.slot_list_extend PySem.F.type_list_extend (fun a e=>by cases e;exact ⟨_,ho,rfl⟩) h
 | find =>
  obtain ⟨x,t,rfl⟩:=B4 da hk
  exact GM.find h
 | lower =>
  obtain ⟨x,t,rfl⟩:=B4 da hk
  exact GM.lower h
 | get =>
  exact tQ (G:=fun b=>b=true->_) nb (fun i ei _=>by
   subst ei
   obtain ⟨a,rfl,T,_⟩:=da.inv
   exact getMethod_strTab_get T h) hk
end
end Mine.Internal
end
section
namespace Mine.Internal
open PySem PySem.W PySem.Calls PyProof.Rows
theorem wM:(List.range 128).all (fun c=>Txt.find ⟨wR.toArray⟩ ⟨[c].toArray⟩ == fO c)=true:=by decide +kernel
theorem yV {c:Nat} (h:c < 128):Txt.find ⟨wR.toArray⟩ ⟨[c].toArray⟩=fO c:=beq_iff_eq.mp (List.all_eq_true.mp wM c (List.mem_range.mpr h))
theorem H7 (c:Nat):lo1 c=cQ c:=by
 unfold lo1 cQ
 by_cases h:65≤c∧c≤90
 ·rw [if_pos h,if_pos (by simp [h.1,h.2])]
 ·rw [if_neg h,if_neg (by simpa using h)]
theorem zT {s:List Nat} (h:s.all (Nat.blt · 128)=true):Txt.lower ⟨s.toArray⟩=⟨(s.map cQ).toArray⟩:=by
 rw [lower_ascii (x:=⟨s.toArray⟩) (fun c hc=>Nat.le_of_ble_eq_true (List.all_eq_true.mp h c (by simpa using hc)))]
 simp only [List.map_toArray,Str.mk.injEq]
 rw [show lo1=cQ from funext H7]
section
variable {prog:Program} {w:World} {B:Heap} {mg mb:Str->Option Value} {E:Ev} {A:Around} {cx:Cx} {env:Env} {outer:List Env} {L:Addr} {dp:Nat} {fr₀ fr ks:List Addr} {ρ:Loc} {γ:Gam} {σ:Sto} {s:Shared} {z:Bool}
theorem fk {i:Nat} {c:CA} {vs':List Value} {ds':List D} {h':Heap} (I:Inv prog w B fr γ σ s.heap) (hc:γ[i]?=some c) (e1:c.d=c.a) (e2:c.r=c.a) (hk:∀ a ∈ ks,a ∈ fr) (hs:Heap.SameBut c.a s.heap h') (hp:PlainL h' c.a vs')
  (dd:av prog w s.heap fr γ vs' ds'):Step fr ks s.heap γ h' γ∧Inv prog w B fr γ (σ.set i (.lst ds')) h':=by
 obtain ⟨n,ho⟩:=id hp
 obtain ⟨st,mk⟩:=I.set (ks:=ks) hc (x:=c.a) (by simp [CA.all]) hs.extBut ⟨_,ho,fun vs e=>by cases e⟩ hk
 exact ⟨st,mk _ ⟨e1,e2,vs',hp,dd.step st⟩⟩
theorem w5 {i:Nat} {u v:Value} {d:D} {ds:List D} (I:Inv prog w B fr γ σ s.heap) (da:Den prog w s.heap fr γ u (.cell i)) (dx:Den prog w s.heap fr γ v d) (hk:∀ a ∈ ks,a ∈ fr) (e:σ[i]?=some (.lst ds)) (hl:ds.length≤lim) :
  WP prog w B fr ks A (call (.builtin "list.append") [u, v]) s γ (aJ prog w fr) (.ok .none (σ.set i (.lst (ds ++ [d])))) := by
 obtain ⟨c,us,ec,rfl,hp,hd,e1,e2⟩:=cI I da e
 refine wpAny_list_append_plain (items:=us.toArray) hp (fun h' hp' hs=>?_) (by rw [List.size_toArray];exact eo hd hl)
 rw [List.push_toArray] at hp'
 obtain ⟨st,I'⟩:=fk (ks:=ks) I ec e1 e2 hk hs hp' (hd.append (.cons dx .nil))
 exact Post.ok st I' .refl .none
theorem rev_last {α:Type} {l r:List α} {d:α} (e:l.reverse=d :: r):l=r.reverse++[d]:=by
 have:=congrArg List.reverse e
 rwa [List.reverse_reverse,List.reverse_cons] at this
theorem I1 {i:Nat} {u:Value} {d:D} {ds r:List D} (I:Inv prog w B fr γ σ s.heap) (da:Den prog w s.heap fr γ u (.cell i)) (hk:∀ a ∈ ks,a ∈ fr) (e:σ[i]?=some (.lst ds)) (er:ds.reverse=d :: r) (hl:ds.length≤lim) :
  WP prog w B fr ks A (call (.builtin "list.pop") [u]) s γ (aJ prog w fr) (.ok d (σ.set i (.lst r.reverse))) := by
 obtain ⟨c,us,ec,rfl,⟨n,ho⟩,hd,e1,e2⟩:=cI I da e
 have hdr:=hd.reverse
 rw [er] at hdr
 obtain ⟨v,t,hv,dv,dt⟩:=hdr.inv
 obtain rfl:=rev_last hv
 refine Copied.pop_at (its:=(t.reverse++[v]).toArray) (y:=v) ho (by simp) (fun h' hs ho'=>?_) (by rw [List.size_toArray];exact eo hd hl)
 obtain ⟨st,I'⟩:=fk (ks:=ks) I ec e1 e2 hk hs ⟨n+1,by rw [ho',List.pop_toArray,List.dropLast_concat]⟩ dt.reverse
 exact Post.ok st I' .refl (Den.step st dv)
theorem wJ {i j:Nat} {u v:Value} {x y:List D} (I:Inv prog w B fr γ σ s.heap) (da:Den prog w s.heap fr γ u (.cell i)) (dx:Den prog w s.heap fr γ v (.cell j)) (hk:∀ a ∈ ks,a ∈ fr) (ex:σ[i]?=some (.lst x)) (ey:σ[j]?=some (.lst y)) (hl:Nat.ble (x.length+y.length) lim=true) :
  WP prog w B fr ks A (call (.builtin "list.extend") [u, v]) s γ (aJ prog w fr) (.ok .none (σ.set i (.lst (x ++ y)))) := by
 obtain ⟨c,us,ec,rfl,⟨n,ho⟩,hd,e1,e2⟩:=cI I da ex
 obtain ⟨c',ws,ec',rfl,⟨n',ho'⟩,hd',_,_⟩:=cI I dx ey
 have hsz:us.toArray.size+ws.toArray.size≤sizeLine:=by
  rw [List.size_toArray,List.size_toArray,hd.length,hd'.length]
  exact Nat.le_trans (bk hl) eT
 refine call_meets PySem.F.slot_list_extend ⟨_,ho,rfl⟩ PySem.F.entry_list_extend (PySem.F.args_list_extend_2 _ _) (AutoSeq1.list_extend_list_list_0 c.a us.toArray n c'.a ws.toArray n' (extend_door hsz) (Nat.le_trans (Nat.le_add_right _ _) hsz)) ⟨ho,ho',?_⟩
 have ho'':PlainL (s.heap.update c.a (Obj.mapSeq fun x=>x++ws.toArray)) c.a (us++ws):=by
  refine ⟨_,(Heap.get?_update_self _ ho (by rw [mapSeq_app];rfl)).trans (by rw [mapSeq_app];simp only [List.append_toArray];rfl)⟩
 obtain ⟨st,I'⟩:=fk (ks:=ks) I ec e1 e2 hk (Heap.SameBut.update ..) ho'' (hd.append hd')
 exact Post.ok st I' .refl .none
theorem GW {kvs:List (List Nat × D)} (hk:lQ kvs=true) {k:List Nat} {d:Int}:∃ n:Int,(kvs.lookup k).getD (.int d)=.int n:=by
 induction kvs with
 | nil=>exact ⟨d,rfl⟩
 | cons p r ih =>
  obtain ⟨k',d'⟩:=p
  unfold lQ at hk
  rw [Bool.and_eq_true] at hk
  unfold List.lookup
  cases k == k' with
  | false=>exact ih hk.2
  | true=>cases d' with
   | int n=>exact ⟨n,rfl⟩
   | _=>exact nomatch hk.1
theorem GD {u:Value} {kvs:List (List Nat × D)} {k:List Nat} {d:Int} {t t':Tok} (I:Inv prog w B fr γ σ s.heap) (da:Den prog w s.heap fr γ u (.dct kvs)) :
  WP prog w B fr ks A (call (.builtin "dict.get") [u, .str ⟨k.toArray⟩ t, .int d t']) s γ (aJ prog w fr) (.ok ((kvs.lookup k).getD (.int d)) σ) := by
 obtain ⟨a,rfl,T,hk'⟩:=da.inv
 refine call_get2_strTab (dd:=.int d) T (fun h=>by first | exact .int | constructor) fun v hv=>?_
 rw [gg,show ((kvs.lookup k).map fun d=>(d.py).getD .none).getD (.int d)=((((kvs.lookup k).getD (.int d)).py).getD .none) by cases kvs.lookup k <;> rfl] at hv
 obtain ⟨n,en⟩:=GW hk' (k:=k) (d:=d)
 rw [en] at hv ⊢
 obtain ⟨t',rfl⟩:∃ t',v=.int n t':=by have:=hv s.heap;cases this;exact ⟨_,rfl⟩
 exact Post.toks I (.int n t')
theorem BQ {t : List Nat} {c : Nat} {k k' : Tok} (I : Inv prog w B fr γ σ s.heap) (hc : (t == wR && Nat.blt c 128) = true) : WP prog w B fr ks A (call (.builtin "str.find") [.str ⟨t.toArray⟩ k, .str ⟨[c].toArray⟩ k']) s γ (aJ prog w fr) (.ok (.int (fO c)) σ) := by
 rw [Bool.and_eq_true] at hc
 obtain rfl:=beq_iff_eq.mp hc.1
 refine SC.find ?_
 rw [yV (Nat.le_of_ble_eq_true hc.2)]
 exact Post.toks I (.int _ _)
theorem zS {t : List Nat} {k : Tok} (I : Inv prog w B fr γ σ s.heap) (hc : (t.all (Nat.blt · 128) && Nat.ble t.length lim) = true) : WP prog w B fr ks A (call (.builtin "str.lower") [.str ⟨t.toArray⟩ k]) s γ (aJ prog w fr) (.ok (.str (t.map cQ)) σ) := by
 rw [Bool.and_eq_true] at hc
 refine SC.lower (fit_lower (by show t.toArray.size≤5592405;rw [List.size_toArray];exact Nat.le_trans (bk hc.2) (by decide))) ?_
 rw [zT hc.1]
 exact Post.toks I (.str _ _)
theorem Bq {F u:Value} {vs:List Value} {ds:List D} {x:R D} (dd:av prog w s.heap fr γ vs ds) (k:Ans prog w B fr ks A s γ (call F [u]) x):Ans prog w B fr ks A s γ (call F ([u]++vs)) (zer .no x ds) :=
 uy (G:=fun ds r=>av prog w s.heap fr γ vs ds->Ans prog w B fr ks A s γ (call F ([u]++vs)) r) (fun _ _=>.no) (fun dd=>by
  obtain rfl:=dd.inv
  exact k) ds dd
theorem pX {F u:Value} {vs:List Value} {ds:List D} {f:D->R D} (dd:av prog w s.heap fr γ vs ds) (k:∀ v a,Den prog w s.heap fr γ v a->Ans prog w B fr ks A s γ (call F [u,v]) (f a)):Ans prog w B fr ks A s γ (call F ([u]++vs)) (one .no f ds) :=
 jr (G:=fun ds r=>av prog w s.heap fr γ vs ds->Ans prog w B fr ks A s γ (call F ([u]++vs)) r) (fun _ _=>.no) (fun a dd=>by
  obtain ⟨v,r,rfl,da,dr⟩:=dd.inv
  obtain rfl:=dr.inv
  exact k v a da) ds dd
theorem zY {m:Me} {u:Value} {a:D} {vs:List Value} {ds:List D} (I:Inv prog w B fr γ σ s.heap) (da:Den prog w s.heap fr γ u a) (dd:av prog w s.heap fr γ vs ds) (hk:∀ a ∈ ks,a ∈ fr) :
  Ans prog w B fr ks A s γ (call (.builtin (Mk m)) ([u]++vs)) (meD σ m a ds):=by
 cases m with
 | append=>exact cW .no fun i e=>pX dd fun v d dx=>dD .no fun ds es=>aN (fun hl _=>w5 I (e ▸ da) dx hk es hl) fun _=>.no
 | pop=>exact cW .no fun i e=>Bq dd (dD .no fun ds es=>jo .no fun d r er=>aN (fun hl _=>I1 I (e ▸ da) hk es er (bk hl)) fun _=>.no)
 | extend=>exact cW .no fun i e=>pX dd fun v d dx=>cW .no fun j ej=>dD .no fun x ex=>dD .no fun y ey=>aN (fun _=>.no) fun _=>aN (fun hl _=>wJ I (e ▸ da) (ej ▸ dx) hk ex ey hl) fun _=>.no
 | find =>
  refine cX .no fun t e=>pX dd fun v d dx=>cX .no fun x ex=>?_
  subst e ex
  obtain ⟨k,rfl⟩:=da.inv
  obtain ⟨k',rfl⟩:=dx.inv
  exact jr (G := fun x r => Ans prog w B fr ks A s γ (call (.builtin "str.find") [.str ⟨t.toArray⟩ k, .str ⟨x.toArray⟩ k']) r) (fun _ => .no) (fun c => aN (fun hc _ => BQ I hc) fun _ => .no) x
 | lower =>
  refine cX .no fun t e=>Bq dd (aN (fun hc _=>?_) fun _=>.no)
  subst e
  obtain ⟨k,rfl⟩:=da.inv
  exact zS I hc
 | get =>
  refine tQ .no fun kvs e=>uh (G:=fun ds r=>av prog w s.heap fr γ vs ds->Ans prog w B fr ks A s γ _ r) (fun _ _=>.no) (fun a b dd=>cX .no fun k ek=>bK .no fun d ed _=>?_) ds dd
  subst ek ed
  obtain ⟨_,r,rfl,dx,dr⟩:=dd.inv
  obtain ⟨_,r,rfl,dy,dr⟩:=dr.inv
  obtain rfl:=dr.inv
  obtain ⟨t,rfl⟩:=dx.inv
  obtain ⟨t',rfl⟩:=dy.inv
  exact GD I (e ▸ da)
end
end Mine.Internal
end
section
namespace Mine.Internal
open PySem PySem.W PySem.Calls PyProof.Rows
theorem yd {x:Str} {m:Wm} (h:J1 x=some m):x=wmN m:=mE wmN (by kernel_rfl) h
theorem jg {x:Str} {a:Fa} (h:sW x=some a):x=bC a:=mE bC (by kernel_rfl) h
theorem gi (f : Fa) : typeLookup (.type "object") (bC f) = pure none := by
 rw [typeLookup_type,builtinLookup_eq_fast]
 cases f <;> kernel_rfl
theorem m6 (m : Wm) : typeLookup (.type "object") (wmN m) = pure none := by
 rw [typeLookup_type,builtinLookup_eq_fast]
 cases m <;> kernel_rfl
theorem oA {f g:Fa}:bC f=bC g↔f=g:=⟨fun h=>by cases f <;> cases g <;> first | rfl | exact absurd h (by decide),fun h=>h ▸ rfl⟩
theorem Gs {f g:Fa} (h:(faN f == faN g)=true):f=g:=oA.mp (congrArg (fun l:List Nat=>(⟨l.toArray⟩:Str)) (eq_of_beq h))
theorem rV (f:Fa) (m:Wm):wmN m ≠ bC f:=by cases f <;> cases m <;> decide +kernel
inductive cL (B:Heap):Prop where
 | mk (nm:Str) (q:Str) (N:Addr) (bs:List Value) (sn:List Str) (sub:List Value) (col:Option Bool) (dd:Option Addr) (k0 k1 k2 k3 k5:Option Value) (mN:Str->Option Value)
  (hC : B.get? aO = some (excClassObj nm q aO N bs [.type "object"] true sn sub false col dd k0 k1 k2 k3 k5 "object.__new__")) (hN : B.Ns N mN) (hg : mN "__getattribute__" = none) (ha : mN "__getattr__" = none) (hs : mN "__setattr__" = none) (hf : ∀ f, mN (bC f) = none) (hi : mN "__init__" = some (.ref jK)) (hm : ∀ m, mN (wmN m) = some (.ref (wmA m)))
  (ho : ∃ o, B.get? jK = some o ∧ o.cls = .type "function") (hw : ∀ m, ∃ o, B.get? (wmA m) = some o ∧ o.cls = .type "function")
structure KOk (B:Heap) (K:Frag):Prop where
 inB:K.In B
 keep:∀ a,a=aO∨(fnT a).isSome=true->keepIn K (.ref a)=true
 keepG:keepIn K (.ref gfA)=true
section
variable {prog:Program} {w:World} {B:Heap} {mg mb:Str->Option Value} {E:Ev} {A:Around} {cx:Cx} {env:Env} {outer:List Env} {L:Addr} {dp:Nat} {fr₀ fr ks:List Addr} {ρ:Loc} {γ:Gam} {σ:Sto} {s:Shared} {z:Bool} {K:Frag}
theorem Inv.frag (KB:KOk B K) (I:Inv prog w B fr γ σ s.heap):K.In s.heap:=KB.inB.keeps fun b o e=>(I.base b o e).1
theorem zq {α:Type} {b:Bool} {x r:R α} (hr:r=if b then x else .no) (h:r ≠ .no):b=true∧r=x:=by
 cases b with
 | true=>exact ⟨rfl,hr⟩
 | false=>exact absurd hr h
theorem OJ (S:Sound prog w B E) (F:Fc A cx env outer L dp) (P:Pre prog w B cx env outer L fr₀ ρ γ σ s.heap) (n:Nat) (o:Expr) (name:Str) (apos pos:Pos) (as:List Expr) (m:Me)
  (hm:rf o apos pos as=true) (hp:aW as=true) (hn:HF name=some m) (h:aq z E dp ρ (.me m (aa n cx o) (as.map (aa n cx))) σ ≠ .no) :
  WP prog w B (L :: fr₀) (L :: fr₀) A (eval (.Call (.Attribute o name apos) as [] pos) env) s γ (aJ prog w (L :: fr₀)) (aq z E dp ρ (.me m (aa n cx o) (as.map (aa n cx))) σ):=by
 refine cF h fun r hr h=>?_
 obtain rfl:=xx hn
 refine MethodCall_ (bP S F P n o hr h fun u a σ₁ γ₁ s₁ st P₁ rs da er=>?_) (fC hm hp)
 obtain ⟨hk,er⟩:=zq er h
 refine HG P₁.inv da hk (bz hp (fun a e=>by cases e) ?_)
 refine wpAny_mono (S.sl n pos as F P₁ (R.of_bind (er ▸ h))) (fun vs s₂ q=>?_) fun _ _ q=>er ▸ (q.bind).trans st P₁.inv rs
 obtain ⟨ds,σ₂,γ₂,er₂,st₂,I₂,rs₂,dd⟩:=q
 rw [er₂] at er
 subst er
 exact bJ (st.trans st₂) I₂ (rs.trans rs₂) (zY I₂ (Den.step st₂ da) dd (fun _ h=>h) h)
theorem t6 {h:Heap} {v:Value} {d:D} (x:Den prog w h fr γ v d):handedOut v=pure v:=by cases x <;> rfl
theorem lZ {h:Heap} {i:Nat} {v:Value} {fs:List (List Nat × D)} (I:Inv prog w B fr γ σ h) (d:Den prog w h fr γ v (.cell i)) (e:σ[i]?=some (.obj fs)) :
  ∃ c mA,γ[i]?=some c∧v=.ref c.a∧c.r=c.a∧gV h c.a c.d mA∧∀ f d,fs.lookup (faN f)=some d->∃ v,mA (bC f)=some v∧Den prog w h fr γ v d:=by
 obtain ⟨c,rfl,ec⟩:=d.inv
 obtain ⟨e1,mA,ho,k⟩:=I.cells i _ _ ec e
 exact ⟨_,mA,ec,rfl,e1,ho,k⟩
theorem kI {N:Addr} {mN:Str->Option Value} {h:Heap} (I:Inv prog w B fr γ σ h) (x:B.Ns N mN):h.Ns N mN:=by
 obtain ⟨o,es,ep,e,r⟩:=x
 exact ⟨o,es,ep,(I.base _ _ e).1,r⟩
theorem yq (W:cL B) {u:Value} {a d:D} {f:Fa} (I:Inv prog w B fr γ σ s.heap) (da:Den prog w s.heap fr γ u a) (e:iH σ a f=some d) :
  WP prog w B fr ks A (getAttr u (bC f) true) s γ (aJ prog w fr) (.ok d σ):=by
 obtain ⟨nm,q,N,bs,sn,sub,col,dd,k0,k1,k2,k3,k5,mN,hC,hN,g1,g2,g3,g4,g5,g6,g7,g8⟩:=W
 exact cW (G:=fun o=>o=some d->_) nn (fun i ei=>tP (G:=fun o=>o=some d->_) nn fun fs es e=>by
  obtain ⟨c,mA,ec,rfl,e1,ho,k⟩:=lZ I (ei ▸ da) es
  obtain ⟨v,hv,hd⟩:=k f d e
  obtain ⟨hp,g,dr,t,os⟩:=s
  exact load_attr (I.base _ _ hC).1 (kI I hN) g1 (g4 f) (gi f) ho.inst hv (t6 hd) ⟨d,σ,γ,rfl,.refl,I,.refl,hd⟩) e
theorem IA (W:cL B) (S:Sound prog w B E) (F:Fc A cx env outer L dp) (P:Pre prog w B cx env outer L fr₀ ρ γ σ s.heap) (n:Nat) (o:Expr) (name:Str) (pos:Pos) (a:Fa) (hb:baseOk o=true) (ha:sW name=some a)
  (h:aq z E dp ρ (.att (aa n cx o) a) σ ≠ .no):WP prog w B (L :: fr₀) (L :: fr₀) A (eval (.Attribute o name pos) env) s γ (aJ prog w (L :: fr₀)) (aq z E dp ρ (.att (aa n cx o) a) σ):=by
 refine cF h fun r hr h=>?_
 obtain rfl:=jg ha
 refine Attribute_any_ (bP S F P n o hr h fun u d σ₁ γ₁ s₁ st P₁ rs da er=>?_) (by rw [arm_eval_Attribute,l8 hb])
 obtain ⟨d',hd'⟩:=iy (er ▸ h)
 rw [er,iz hd']
 exact bJ st P₁.inv rs (yq W P₁.inv da hd')
theorem yG {E:Ev} {d:D} {ds:List D} {r:R D} (hr:r=uH E dp d ds σ) (h:r ≠ .no):∃ a,d=.glob a∧r=E.c dp a ds σ :=
 HR (G:=fun x=>r=x->∃ a,d=.glob a∧r=E.c dp a ds σ) (fun e=>absurd e h) (fun a e hr=>⟨a,e,hr⟩) hr
theorem qG (S:Sound prog w B E) (KB:KOk B K) {a:Nat} {ds:List D} (h:E.c dp a ds σ ≠ .no) (hh:Heap) (X:K.In hh):∃ k,(k=Keeper.frame∨k=Keeper.machine∨k=Keeper.boundFrame)∧Looks (model prog w) hh (keeperOf (.ref a)) k :=
 keeps_K (KB.keep a (S.sk _ _ _ _ h)) hh X
theorem nE (KB:KOk B K) (S:Sound prog w B E) (F:Fc A cx env outer L dp) {s₁:Shared} {γ₁:Gam} {σ₁:Sto} (st:Step (L :: fr₀) (L :: fr₀) s.heap γ s₁.heap γ₁) (rs:Rest s s₁) (P:Pre prog w B cx env outer L fr₀ ρ γ₁ σ₁ s₁.heap) (n:Nat) (pos:Pos) (as:List Expr) (hp:aW as=true)
  {f:Value} {d:D} (df:Den prog w s₁.heap (L :: fr₀) γ₁ f d) {pv:List Value} {pd:List D} (dp':av prog w s₁.heap (L :: fr₀) γ₁ pv pd) {r:R D} (hr:r=(E.l dp ρ (as.map (aa n cx)) σ₁).bind fun ds σ=>uH E dp d (pd++ds) σ) (h:r ≠ .no) :
  wpAny (model prog w) A (callWith pos f pv (backTo pos (starEach as env)) []) (Post prog w B (L :: fr₀) (L :: fr₀) s γ (aJ prog w (L :: fr₀)) r) (aP prog w B (L :: fr₀) (L :: fr₀) s γ r none) s₁:=by
 have hl:=S.sl n pos as F P (R.of_bind (hr ▸ h))
 cases e:E.l dp ρ (as.map (aa n cx)) σ₁ with
 | no=>rw [e] at hr;exact absurd hr h
 | err σ₂ =>
  rw [e] at hr hl
  subst hr
  exact callWith_of (P:=fun _=>False) (by rw [bN hp];rfl) (fun _ h=>h.elim) (eL hp (wpAny_mono hl (fun vs s₂ q=>by obtain ⟨_,_,_,e,_⟩:=q;cases e) fun _ _ q=>q.bind.trans st P.inv rs))
 | ok ds σ₂ =>
  rw [e] at hr hl
  obtain ⟨a,rfl,hr⟩:=yG hr h
  subst hr
  obtain rfl:f=.ref a:=df.inv
  refine dw hp (qG S KB h) (wpAny_mono hl (fun vs s₂ q=>?_) fun _ _ q=>by obtain ⟨_,_,e,_⟩:=q;cases e)
  obtain ⟨ds',σ₂',γ₂,er₂,st₂,I₂,rs₂,dd⟩:=q
  cases er₂
  exact ⟨Inv.frag KB I₂,bJ (st.trans st₂) I₂ (rs.trans rs₂) (S.sc a _ _ F.hand F.frames (Nat.lt_trans F.room (by decide)) (Nat.lt_of_lt_of_le F.units (by decide)) (P.step st₂ I₂).out I₂ (av.append (av.step st₂ dp') dd) h)⟩
theorem vP (KB:KOk B K) (S:Sound prog w B E) (F:Fc A cx env outer L dp) (P:Pre prog w B cx env outer L fr₀ ρ γ σ s.heap) (n:Nat) (x:Str) (np pos:Pos) (as:List Expr) (hp:aW as=true)
  (h:aq z E dp ρ (.call (aa n cx (.Name x np)) (as.map (aa n cx))) σ ≠ .no) :
  WP prog w B (L :: fr₀) (L :: fr₀) A (eval (.Call (.Name x np) as [] pos) env) s γ (aJ prog w (L :: fr₀)) (aq z E dp ρ (.call (aa n cx (.Name x np)) (as.map (aa n cx))) σ):=by
 refine cF h fun r hr h=>?_
 exact wpAny_Call_NameR (bP S F P n (.Name x np) hr h fun u f σ₁ γ₁ s₁ st P₁ rs df er=>nE KB S F st rs P₁ n pos as hp df .nil er h)
theorem J2 (W:cL B) (I:Inv prog w B fr γ σ s.heap) {u:Value} {a:D} (da:Den prog w s.heap fr γ u a) (hk:ig σ a=true) {m:Wm} {pl:Sem Bool} {Q:Value × List Value->Shared->Prop} {E':Value->Shared->Prop} (h:Q (.ref (wmA m),[u]) s):wpAny (model prog w) A (getMethod u (wmN m) pl) Q E' s:=by
 obtain ⟨nm,q,N,bs,sn,sub,col,dd,k0,k1,k2,k3,k5,mN,hC,hN,g1,g2,g3,g4,g5,g6,g7,g8⟩:=W
 exact cW (G:=fun o=>o=true->_) nb (fun i ei=>tP (G:=fun o=>o=true->_) nb fun fs es _=>by
  obtain ⟨c,mA,ec,rfl,e1,ho,_⟩:=lZ I (ei ▸ da) es
  obtain ⟨of,hof,hfc⟩:=g8 m
  have hsh:mA (wmN m)=none:=by
   cases e:mA (wmN m) with
   | none=>rfl
   | some v =>
    obtain ⟨f,hf⟩:=ho.only (wmN m) (by rw [e];rfl)
    exact absurd hf (rV f m)
  obtain ⟨hp₁,g,dr,t,os⟩:=s
  exact method_of (I.base _ _ hC).1 (kI I hN) g1 g2 (g6 m) (I.base _ _ hof).1 hfc (m6 m) ho.inst hsh h) hk
theorem OL (W:cL B) (KB:KOk B K) (S:Sound prog w B E) (F:Fc A cx env outer L dp) (P:Pre prog w B cx env outer L fr₀ ρ γ σ s.heap) (n:Nat) (o:Expr) (name:Str) (apos pos:Pos) (as:List Expr) (m:Wm)
  (hm:rf o apos pos as=true) (hp:aW as=true) (hn:J1 name=some m) (h:aq z E dp ρ (.wm m (aa n cx o) (as.map (aa n cx))) σ ≠ .no) :
  WP prog w B (L :: fr₀) (L :: fr₀) A (eval (.Call (.Attribute o name apos) as [] pos) env) s γ (aJ prog w (L :: fr₀)) (aq z E dp ρ (.wm m (aa n cx o) (as.map (aa n cx))) σ):=by
 refine cF h fun r hr h=>?_
 obtain rfl:=yd hn
 refine MethodCall_ (bP S F P n o hr h fun u a σ₁ γ₁ s₁ st P₁ rs da er=>?_) (fC hm hp)
 obtain ⟨hk,er⟩:=zq er h
 exact J2 W P₁.inv da hk (nE KB S F st rs P₁ n pos as hp (.glob (wmA m)) (.cons da .nil) er h)
end
end Mine.Internal
end
section
namespace Mine.Internal
open PySem PySem.W PySem.Calls PyProof.Rows PyProof.V
inductive cg:List (Value × Value)->List (List Nat × D)->Prop
 | nil:cg [] []
 | cons {k:List Nat} {i:Int} {t t':Tok} {ps:List (Value × Value)} {kvs:List (List Nat × D)}:cg ps kvs->cg ((.str ⟨k.toArray⟩ t,.int i t') :: ps) ((k,.int i) :: kvs)
theorem cg.keys {ps:List (Value × Value)} {kvs:List (List Nat × D)} (x:cg ps kvs):allStrKeys ps=true∧(strPairs ps).map (·.1)=kvs.map fun p=>(⟨p.1.toArray⟩:Str):=by
 induction x with
 | nil=>exact ⟨rfl,rfl⟩
 | cons _ ih=>exact ⟨ih.1,by simp only [strPairs,List.map_cons,ih.2]⟩
theorem cg.flat {ps:List (Value × Value)} {kvs:List (List Nat × D)} (x:cg ps kvs):FlatPairs PyData.str (strPairs ps) (pK kvs)∧lQ kvs=true:=by
 induction x with
 | nil=>exact ⟨.nil,rfl⟩
 | cons _ ih=>exact ⟨.cons (Flat.int _ _) ih.1,by simp [lQ,ih.2]⟩
theorem nW {ks:List (List Nat)} (h:ks.Nodup):(ks.map fun k=>(⟨k.toArray⟩:Str)).Nodup:=by
 induction ks with
 | nil=>exact .nil
 | cons k r ih =>
  rw [List.nodup_cons] at h
  rw [List.map_cons,List.nodup_cons]
  refine ⟨fun m=>?_,ih h.2⟩
  obtain ⟨k',hk',e⟩:=List.mem_map.mp m
  have:k'=k:=by simpa using congrArg Str.cps e
  exact h.1 (this ▸ hk')
section
variable {prog:Program} {w:World} {B:Heap} {mg mb:Str->Option Value} {E:Ev} {A:Around} {cx:Cx} {env:Env} {outer:List Env} {L:Addr} {dp:Nat} {fr₀ fr ks:List Addr} {ρ:Loc} {γ:Gam} {σ:Sto} {s:Shared} {z:Bool} {K:Frag}
theorem nG {vs:List Expr} {kvs:List (List Nat × D)} (h:iJ [] vs=some kvs):vs=[]∧kvs=[]:=by
 cases vs with
 | nil=>cases h;exact ⟨rfl,rfl⟩
 | cons _ _=>cases h
inductive EV (k:Option Expr) (ks:List (Option Expr)) (vs:List Expr) (kvs:List (List Nat × D)):Prop
 | mk (x:Str) (k₀:Nat) (p₀:Pos) (i:Int) (k₁:Nat) (p₁:Pos) (vs':List Expr) (r:List (List Nat × D)) (hk:k=some (.Constant (.str x) k₀ p₀)) (hv:vs=.Constant (.int i) k₁ p₁ :: vs') (hr:iJ ks vs'=some r) (e:kvs=(x.cps.toList,.int i) :: r):EV k ks vs kvs
theorem lD {k:Option Expr} {ks:List (Option Expr)} {vs:List Expr} {kvs:List (List Nat × D)} (h:iJ (k :: ks) vs=some kvs):EV k ks vs kvs:=by
 cases vs with
 | nil=>cases h
 | cons v vs =>
  obtain ⟨s,hs,h⟩:=Option.bind_eq_some_iff.mp (show ((k.bind strOf).bind fun s=>(intOf v).bind fun i=>(iJ ks vs).map ((s.cps.toList,.int i) :: ·))=_ from h)
  obtain ⟨i,hi,h⟩:=Option.bind_eq_some_iff.mp h
  obtain ⟨r,hr,hz⟩:=Option.map_eq_some_iff.mp h
  obtain ⟨e,rfl,hs⟩:=Option.bind_eq_some_iff.mp hs
  obtain ⟨k₀,p₀,rfl⟩:=B3 hs
  obtain ⟨k₁,p₁,rfl⟩:=zD hi
  exact ⟨s,k₀,p₀,i,k₁,p₁,vs,r,rfl,rfl,hr,hz.symm⟩
theorem wH {pos:Pos} {E':Value->Shared->Prop} (ks:List (Option Expr)):∀ (vs:List Expr) (kvs:List (List Nat × D)),iJ ks vs=some kvs->∀ (s:Shared) (Q:List (Value × Value)->Shared->Prop),
  (∀ ps n,cg ps kvs->Q ps { s with toks:=n })->wpAny (model prog w) A (evalPairs (pairTrees ks vs env pos)) Q E' s:=by
 induction ks with
 | nil =>
  intro vs kvs h s Q hq
  obtain ⟨rfl,rfl⟩:=nG h
  exact pairTrees_nil_walk (hq [] s.toks .nil)
 | cons k ks ih =>
  intro vs kvs h s Q hq
  obtain ⟨x,k₀,p₀,i,k₁,p₁,vs',r,rfl,rfl,hr,rfl⟩:=lD h
  refine pairTrees_cons_walk (wpAny_Constant_str (wpAny_Constant_int (ih vs' r hr _ _ fun ps n hp=>?_)))
  exact hq _ n (cg.cons (k:=x.cps.toList) (i:=i) (t:=s.toks) (t':=s.toks+1) hp)
theorem wG {ks:List (Option Expr)}:∀ {vs:List Expr} {kvs:List (List Nat × D)},iJ ks vs=some kvs->ks.length=kvs.length∧vs.length=kvs.length∧ks.all (·.isSome)=true:=by
 induction ks with
 | nil =>
  intro vs kvs h
  obtain ⟨rfl,rfl⟩:=nG h
  exact ⟨rfl,rfl,rfl⟩
 | cons k ks ih =>
  intro vs kvs h
  obtain ⟨x,k₀,p₀,i,k₁,p₁,vs',r,rfl,rfl,hr,rfl⟩:=lD h
  obtain ⟨a,b,c⟩:=ih hr
  exact ⟨by simp [a],by simp [b],by simpa using c⟩
theorem ID (G:bZ prog w B mg mb) (P:Pre prog w B cx env outer L fr₀ ρ γ σ s.heap) (ks:List (Option Expr)) (vs:List Expr) (pos:Pos) (kvs:List (List Nat × D)) (hd:iJ ks vs=some kvs) (h:aq z E dp ρ (.dsp kvs) σ ≠ .no) :
  WP prog w B (L :: fr₀) (L :: fr₀) A (eval (.Dict ks vs pos) env) s γ (aJ prog w (L :: fr₀)) (aq z E dp ρ (.dsp kvs) σ):=by
 refine cF h fun q hr h=>?_
 ·obtain ⟨hf,rfl⟩:=zq hr h
  obtain ⟨f1,f3⟩:=ak hf
  obtain ⟨f1,f2⟩:=ak f1
  obtain ⟨l1,l2,l3⟩:=wG hd
  have hne:ks ≠ []:=fun e=>by
   subst e
   have:kvs=[]:=List.length_eq_zero_iff.mp l1.symm
   subst this
   cases f1
  refine wpAny_Dict_walk (knd:=strKind prog w) l3 (l1.trans l2.symm) hne (by rw [l1];exact bk f2) (wH ks vs kvs hd _ _ fun ps n hp=>?_)
  obtain ⟨k1,k2⟩:=hp.keys
  have hn:((strPairs ps).map (·.1)).Nodup:=by
   rw [k2]
   have:=nW (of_decide_eq_true f3)
   rwa [List.map_map] at this
  refine display_done_str (P := fun h' => Post prog w B (L :: fr₀) (L :: fr₀) s γ (aJ prog w (L :: fr₀)) (.ok (.dct kvs) σ) (.ref s.heap.objs.size) { ({ s with heap := s.heap.push { cls := .type "dict", data := .dict #[] }, toks := n } : Shared) with heap := h', toks := n + ps.length }) k1 hn (Heap.DictOf.new s.heap) fun h' hm hs => ?_
  have kk:Keeps s.heap h':=fun b o e=>(hs.2 b (Nat.ne_of_lt (Heap.lt_size e))).trans (Heap.get?_push_of_some _ e)
  have hsm:(s.heap.objs.size == sysModules)=false:=by
   obtain ⟨o,_,_,e,_⟩:=G.g
   have h3:=Heap.lt_size (P.inv.base _ _ e).1
   have:mainGlobals=3:=rfl
   have:sysModules=1:=rfl
   refine beq_eq_false_iff_ne.mpr (fun e=>?_)
   rw [e] at h3
   exact absurd h3 (by decide)
  obtain ⟨q1,q2⟩:=hp.flat
  exact Post.push (tk:=n+ps.length) P.inv kk (.dct ⟨hsm,_,hm,q1⟩ q2 (P.inv.fresh (aZ _)))
end
end Mine.Internal
end
section
namespace Mine.Internal
open PySem PySem.W PySem.Calls PyProof.Rows PyProof.V
section
variable {prog:Program} {w:World} {h:Heap} {fr₁ fr₂:List Addr} {γ₁ γ₂:Gam}
theorem yM (hs:∀ x,aX fr₂ γ₂ x->aX fr₁ γ₁ x∨h.get? x=none) (hc:∀ (i:Nat) (c:CA),γ₁[i]?=some c->γ₂[i]?=some c):(∀ v d,Den prog w h fr₁ γ₁ v d->Den prog w h fr₂ γ₂ v d)∧∀ vs ds,av prog w h fr₁ γ₁ vs ds->av prog w h fr₂ γ₂ vs ds :=
 lA (fun _ _ ho n _=>⟨ho,fun q=>(hs _ q).elim n fun e=>ns (ho.symm.trans e)⟩) hc
theorem Den.to (hs:∀ x,aX fr₂ γ₂ x->aX fr₁ γ₁ x∨h.get? x=Option.none) (hc:∀ (i:Nat) (c:CA),γ₁[i]?=some c->γ₂[i]?=some c) {v:Value} {d:D} (x:Den prog w h fr₁ γ₁ v d):Den prog w h fr₂ γ₂ v d:=(yM hs hc).1 v d x
theorem av.to (hs:∀ x,aX fr₂ γ₂ x->aX fr₁ γ₁ x∨h.get? x=none) (hc:∀ (i:Nat) (c:CA),γ₁[i]?=some c->γ₂[i]?=some c) {v:List Value} {d:List D} (x:av prog w h fr₁ γ₁ v d):av prog w h fr₂ γ₂ v d:=(yM hs hc).2 v d x
end
theorem j7 {fr:List Addr} {γ:Gam} {x:Addr} {h h':Heap} (hx:x ∈ fr) (hs:Heap.ExtBut x h h'):Step fr [] h γ h' γ :=
 ⟨⟨[],by simp⟩,fun a o e n=>⟨hs a o (fun q=>n (.inl (q ▸ hx))) e,fun m=>n (.inr m)⟩,fun _ h=>nomatch h⟩
section
variable {prog:Program} {w:World} {B:Heap} {mg mb:Str->Option Value} {E:Ev} {A:Around} {cx:Cx} {env:Env} {outer:List Env} {L:Addr} {dp:Nat} {fr₀ fr ks:List Addr} {ρ:Loc} {γ:Gam} {σ:Sto} {s:Shared} {z:Bool} {K:Frag}
theorem xA {vs:List Value} {ds:List D} {h h':Heap} {fr ks fr':List Addr} {a:Addr} (I:Inv prog w B fr γ σ h) (k:Keeps h h') (ha:h.get? a=none) (hl:PlainL h' a vs) (d:av prog w h' fr' γ vs ds) (hf:∀ x ∈ fr,x ∈ fr') (haf:a ∈ fr') :
  ∃ γ',Step fr ks h γ h' γ'∧Inv prog w B fr γ' (σ++[.lst ds]) h'∧Den prog w h' fr γ' (.ref a) (.cell σ.length):=by
 obtain ⟨n,ho⟩:=id hl
 obtain ⟨st,mk⟩:=I.new (ks:=ks) (c:=⟨a,a,a⟩) k fun x hx=>by
  have:x=a:=by simpa [CA.all] using hx
  subst this
  exact ⟨ha,_,ho,fun vs e=>by cases e⟩
 refine ⟨γ++[⟨a,a,a⟩],st,mk (.lst ds) ⟨rfl,rfl,vs,hl,d.to (fun x q=>?_) fun i c e=>?_⟩,?_⟩
 ·rcases q with q | q
  ·exact .inl (.inl (hf x q))
  ·rw [eV] at q
   rcases List.mem_append.mp q with q | q
   ·exact .inl (.inr q)
   ·have:x=a:=by simpa [CA.all] using q
    exact .inl (.inl (this ▸ haf))
 ·rw [List.getElem?_append_left (List.getElem?_eq_some_iff.mp e).1];exact e
 ·exact Den.cell (c:=⟨a,a,a⟩) (by rw [← I.len,List.getElem?_append_right (Nat.le_refl _),Nat.sub_self];rfl)
structure PC where
 H0:Heap
 Ia:Addr
 Da:Addr
 Ca:Addr
 a:Addr
 vs:List Value
 ds:List D
 γ:Gam
 fr:List Addr
noncomputable def PC.fr' (C:PC):List Addr:=C.Ia :: C.Da :: C.Ca :: C.fr
noncomputable def pairD (d:D):D:=.tup [d,.bool false]
structure PC.Ok (prog:Program) (w:World) (C:PC):Prop where
 nI:C.Ia ≠ C.Ca
 nD:C.Da ≠ C.Ca
 nDI:C.Da ≠ C.Ia
 old:∀ b o,C.H0.get? b=some o->b ≠ C.Ia∧b ≠ C.Da∧b ≠ C.Ca
 ex:∀ x,aX C.fr C.γ x->∃ o,C.H0.get? x=some o
 tup:C.H0.IsTuple C.a C.vs.toArray
 den:av prog w C.H0 C.fr' C.γ C.vs C.ds
structure kc (prog:Program) (w:World) (C:PC) (H:Heap) (i:Nat) (ys:List Value):Prop where
 it:H.IsTupleIter C.Ia C.a i
 acc:PlainL H C.Da ys
 ns:∃ m,H.Ns C.Ca m
 kk:Keeps C.H0 H
 den:av prog w H C.fr' C.γ ys ((C.ds.take i).map pairD)
 le:i≤C.vs.length
inductive G0 (prog:Program) (w:World) (C:PC) (H:Heap):Prop where
 | mk (ys:List Value) (kk:Keeps C.H0 H) (acc:PlainL H C.Da ys) (den:av prog w H C.fr' C.γ ys (C.ds.map pairD))
section
variable {prog:Program} {w:World} {C:PC} {H h₂ h₃ h₅:Heap} {i:Nat} {ys:List Value}
theorem kc.tup (O:C.Ok prog w) (I:kc prog w C H i ys):H.IsTuple C.a C.vs.toArray:=let ⟨o,e,r⟩:=O.tup;⟨o,I.kk _ _ e,r⟩
theorem kc.len (O:C.Ok prog w) (I:kc prog w C H i ys):ys.length≤C.vs.length:=by
 rw [I.den.length,List.length_map,List.length_take,O.den.length]
 exact Nat.min_le_right _ _
theorem kc.fin (O:C.Ok prog w) (I:kc prog w C H i ys) (hv:C.vs.length≤i) (he₂:Heap.ExtBut C.Ia H h₂) (hs₃:Heap.SameBut C.Ca h₂ h₃):G0 prog w C h₃:=by
 have k:∀ b o,b ≠ C.Ia->b ≠ C.Ca->H.get? b=some o->h₃.get? b=some o:=fun b o n1 n2 e=>hs₃.extBut b o n2 (he₂ b o n1 e)
 obtain ⟨n,ho⟩:=I.acc
 have dl:=(I.den.step (j7 (.head _) he₂)).step (j7 (.tail _ (.tail _ (.head _))) hs₃.extBut)
 rw [List.take_of_length_le (O.den.length ▸ hv)] at dl
 exact ⟨ys,fun b o e=>let ⟨n1,_,n3⟩:=O.old b o e;k b o n1 n3 (I.kk b o e),⟨n,k _ _ O.nDI O.nD ho⟩,dl⟩
theorem kc.next (O:C.Ok prog w) (I:kc prog w C H i ys) {v:Value} {d:D} (hv:C.vs[i]?=some v) (hd:C.ds[i]?=some d) {m:Str->Option Value} (hit₂:h₂.IsTupleIter C.Ia C.a (i+1)) (hs₂:Heap.SameBut C.Ia H h₂) (hn₃:h₃.Ns C.Ca m) (hs₃:Heap.SameBut C.Ca h₂ h₃)
  (hs₅ : Heap.SameBut C.Da (h₃.push { cls := .type "tuple", data := .seq [v, .bool false].toArray }) h₅) (hp₅ : PlainL h₅ C.Da (ys ++ [.ref h₃.objs.size])) : kc prog w C h₅ (i + 1) (ys ++ [.ref h₃.objs.size]) := by
 have kk₃:Keeps C.H0 h₃:=fun b o e=>let ⟨n1,_,n3⟩:=O.old b o e;hs₃.extBut b o n3 (hs₂.extBut b o n1 (I.kk b o e))
 have k₅:∀ b o,b ≠ C.Da->h₃.get? b=some o->h₅.get? b=some o:=fun b o n e=>hs₅.extBut b o n (Heap.get?_push_of_some _ e)
 have hTn:h₃.get? h₃.objs.size=none:=aZ _
 have st₃:=(j7 (γ:=C.γ) (fr:=C.fr') (.head _) hs₂.extBut).trans (j7 (.tail _ (.tail _ (.head _))) hs₃.extBut)
 have st₅:Step C.fr' [] h₃ C.γ h₅ C.γ:=(Keeps.step aC).trans (j7 (.tail _ (.head _)) hs₅.extBut)
 obtain ⟨v',ev',dv⟩:=((O.den.step (Keeps.step (ks:=[]) I.kk)).step st₃).get hd
 obtain rfl:v=v':=Option.some.inj (hv.symm.trans ev')
 have ex:∀ x,aX C.fr' C.γ x->∃ o,h₃.get? x=some o:=fun x q=>by
  have old:aX C.fr C.γ x->∃ o,h₃.get? x=some o:=fun q=>(O.ex x q).imp fun _ e=>kk₃ _ _ e
  rcases q with q | q
  ·rcases List.mem_cons.mp q with q | q
   ·obtain ⟨o,ho,_⟩:=hit₂
    exact ⟨o,q ▸ hs₃.extBut _ _ O.nI ho⟩
   ·rcases List.mem_cons.mp q with q | q
    ·obtain ⟨n,ho⟩:=I.acc
     exact ⟨_,q ▸ hs₃.extBut _ _ O.nD (hs₂.extBut _ _ O.nDI ho)⟩
    ·rcases List.mem_cons.mp q with q | q
     ·obtain ⟨o,_,_,ho,_⟩:=hn₃
      exact ⟨o,q ▸ ho⟩
     ·exact old (.inl q)
  ·exact old (.inr q)
 have nD:h₃.objs.size ≠ C.Da:=fun q=>by
  obtain ⟨o,ho⟩:=ex C.Da (.inl (.tail _ (.head _)))
  exact nn ((q ▸ hTn).symm.trans ho)
 have dT:Den prog w h₅ C.fr' C.γ (.ref h₃.objs.size) (pairD d) :=
  .tup ⟨_,hs₅.extBut _ _ nD (Heap.get?_push_size _ rfl),rfl,0,rfl⟩ (fun q=>let ⟨_,ho⟩:=ex _ q;nn (hTn.symm.trans ho)) (.cons (dv.step st₅) (.cons (.bool false) .nil))
 obtain ⟨o,ho,r⟩:=hit₂
 refine ⟨⟨o,k₅ _ _ O.nDI.symm (hs₃.extBut _ _ O.nI ho),r⟩,hp₅,⟨m,?_⟩,fun b o e=>k₅ b o (O.old b o e).2.1 (kk₃ b o e),?_,(List.getElem?_eq_some_iff.mp hv).1⟩
 ·obtain ⟨o,es,ep,ho,r⟩:=hn₃
  exact ⟨o,es,ep,k₅ _ _ O.nD.symm ho,r⟩
 ·rw [show C.ds.take (i+1)=C.ds.take i++[d] by rw [List.take_add_one,hd];rfl,List.map_append]
  exact ((I.den.step st₃).step st₅).append (.cons dT .nil)
end
theorem tU {C : PC} (O : C.Ok prog w) (hh : A.handled = none) (hsz : C.vs.length ≤ sizeLine) {x : Str} {p₁ p₂ p₃ p₄ pos : Pos} {k₁ k₂ : Nat} {it : Expr} {sc : Scope} {cenv : Env} (hl : cenv.locals = C.Ca) (hcs : cenv.scope = sc) (hkind : sc.kind = .function) (hx : sc.names.lookup x = some .local) (hdbg : (x == ("__debug__" : Str)) = false)
  {s₂:Shared} {ys:List Value} (I:kc prog w C s₂.heap 0 ys) {R:Result->Shared->Prop} (hR:∀ s' m,s'.heap.Ns C.Ca m->Rest s₂ s'->(∀ h',Heap.SameBut C.Ca s'.heap h'->G0 prog w C h')->R (.ok .next) s') :
  codeAny (model prog w) A (.compLoop (.ListComp (.Tuple [.Name x p₁,.Constant (.bool false) k₁ p₂] k₂ p₃) [⟨.Name x p₄,it,[],0⟩] sc pos) 0 (.ref C.Ia) (.ref C.Da) cenv) R s₂:=by
 have hkx:cenv.kindOf x=some .local:=by unfold Env.kindOf;rw [hcs];exact hx
 refine codeAny_compLoop_list (fun k s'=>∃ i ys,kc prog w C s'.heap i ys∧Rest s₂ s'∧k=C.vs.length+1 - i) ?_ (C.vs.length+1) ⟨0,ys,I,.refl,rfl⟩
 rintro k s' ⟨i,ys,I,rs,rfl⟩
 cases hv:C.vs.toArray[i]? with
 | none =>
  refine wpAny_pyNext_tuple_end hh I.it (I.tup O) hv fun h₂ he₂=>?_
  obtain ⟨m,hn⟩:=I.ns
  exact hR _ m (hn.extBut he₂ O.nI.symm) (rs.trans ⟨rfl,rfl,rfl⟩) fun h' hs=>I.fin O (by simpa using hv) he₂ hs
 | some v =>
  have hvl:C.vs[i]?=some v:=by simpa using hv
  have hlt:i < C.vs.length:=(List.getElem?_eq_some_iff.mp hvl).1
  have hdi:C.ds[i]?=some (C.ds[i]'(O.den.length ▸ hlt)):=List.getElem?_eq_getElem _
  obtain ⟨m,hn⟩:=I.ns
  refine wpAny_pyNext_tuple_item I.it (I.tup O) hv fun h₂ hit₂ hs₂=>?_
  refine wpAny_assign_Name (wpAny_storeName_local hkx (hl ▸ hn.sameBut hs₂ O.nI.symm) (fun h₃ hn₃ hs₃=>?_) (by rw [hcs,hkind];rfl))
  rw [hl] at hn₃ hs₃
  refine wpAny_Tuple (wpAny_items_cons (wpAny_Name (wpAny_loadName_local (env:=cenv) (by rw [hcs];exact hkind) hkx (hl ▸ hn₃) (if_pos rfl) ?_) hdbg) rfl)
  refine wpAny_items_cons (wpAny_Constant_bool ?_) rfl
  refine wpAny_items_nil ⟨by rw [sizeLine_eq];show 2≤_;decide,?_⟩
  obtain ⟨n,ho⟩:=I.acc
  refine wpAny_list_append_plain (items:=ys.toArray) ⟨n,Heap.get?_push_of_some _ (hs₃.extBut _ _ O.nD (hs₂.extBut _ _ O.nDI ho))⟩ (fun h₅ hp₅ hs₅=>?_) (Nat.le_trans (I.len O) hsz)
  rw [List.push_toArray] at hp₅
  exact ⟨_,Nat.sub_lt_sub_left (Nat.lt_succ_of_lt hlt) (Nat.lt_succ_self i),i+1,_,I.next O hvl hdi hit₂ hs₂ hn₃ hs₃ hs₅ hp₅,rs.trans ⟨rfl,rfl,rfl⟩,rfl⟩
theorem Mx {h h₁:Heap} {a:Addr} {vs:List Value} {ds:List D} {fr:List Addr} {m:Str->Option Value} {oo:Obj} (hex:∀ x,aX fr γ x->∃ o,h.get? x=some o) (ht:h.IsTuple a vs.toArray) (hd:av prog w h fr γ vs ds)
  (hns : h₁.Ns (h.objs.size + 2) m) (hsb : Heap.SameBut (h.objs.size + 2) (((h.push { cls := .type "tuple_iterator", data := .fields #[.ref a, .int 0 0] }).push { cls := .type "list", dict := none, data := .seq ([] : List Value).toArray }).push oo) h₁) :
  PC.Ok prog w ⟨h,h.objs.size,h.objs.size+1,h.objs.size+2,a,vs,ds,γ,fr⟩∧kc prog w ⟨h,h.objs.size,h.objs.size+1,h.objs.size+2,a,vs,ds,γ,fr⟩ h₁ 0 []:=by
 have lt:∀ {b:Addr} {o:Obj},h.get? b=some o->b < h.objs.size:=fun e=>Heap.lt_size e
 have old:∀ b o,h.get? b=some o->b ≠ h.objs.size∧b ≠ h.objs.size+1∧b ≠ h.objs.size+2:=fun b o e=>⟨Nat.ne_of_lt (lt e),Nat.ne_of_lt (Nat.lt_succ_of_lt (lt e)),Nat.ne_of_lt (Nat.lt_succ_of_lt (Nat.lt_succ_of_lt (lt e)))⟩
 have nn:∀ b:Nat,h.objs.size≤b->h.get? b=none:=fun b hb=>Heap.get?_none_of_le hb
 have n1:h.objs.size ≠ h.objs.size+2:=Nat.ne_of_lt (Nat.lt_succ_of_lt (Nat.lt_succ_self _))
 have n2:h.objs.size+1 ≠ h.objs.size+2:=Nat.ne_of_lt (Nat.lt_succ_self _)
 refine ⟨⟨n1,n2,(Nat.ne_of_lt (Nat.lt_succ_self _)).symm,old,hex,ht,hd.to (fun x q=>?_) fun _ _ e=>e⟩,⟨_,hsb.extBut _ _ n1 (Heap.get?_push_of_some _ (Heap.get?_push_of_some _ (Heap.get?_push_size _ rfl))),rfl,rfl⟩,⟨0,hsb.extBut _ _ n2 (Heap.get?_push_of_some _ (Heap.get?_push_at (Heap.size_push ..).symm rfl))⟩,⟨m,hns⟩,fun b o e=>hsb.extBut b o (old b o e).2.2 (Heap.get?_push_of_some _ (Heap.get?_push_of_some _ (Heap.get?_push_of_some _ e))),.nil,Nat.zero_le _⟩
 rcases q with q | q
 ·rcases List.mem_cons.mp q with q | q
  ·exact .inr (nn _ (Nat.le_of_eq q.symm))
  ·rcases List.mem_cons.mp q with q | q
   ·exact .inr (nn _ (q ▸ Nat.le_succ _))
   ·rcases List.mem_cons.mp q with q | q
    ·exact .inr (nn _ (q ▸ Nat.le_add_right _ 2))
    ·exact .inl (.inl q)
 ·exact .inl (.inr q)
noncomputable def prF (a:D) (σ:Sto):R D:=match a with | .tup ds=>if Nat.ble ds.length lim then .ok (.cell σ.length) (σ++[.lst (ds.map pairD)]) else .no | _=>.no
inductive G1 (prog:Program) (w:World) (B:Heap) (fr:List Addr) (s:Shared) (γ:Gam) (r:R D) (u:Value) (s₁:Shared):Prop where
 | mk (a:Addr) (vs:List Value) (ds:List D) (σ₁:Sto) (γ₁:Gam) (hu:u=.ref a) (e:r=.ok (.cell σ₁.length) (σ₁++[.lst (ds.map pairD)])) (st:Step fr fr s.heap γ s₁.heap γ₁) (I:Inv prog w B fr γ₁ σ₁ s₁.heap) (rs:Rest s s₁) (ht:s₁.heap.IsTuple a vs.toArray) (hd:av prog w s₁.heap fr γ₁ vs ds) (hsz:vs.length≤sizeLine)
theorem Af {d:D} {σ:Sto} (h:prF d σ ≠ .no):∃ ds,d=.tup ds∧Nat.ble ds.length lim=true:=by
 cases d with
 | tup ds =>
  refine ⟨ds,rfl,?_⟩
  cases q:Nat.ble ds.length lim with
  | true=>rfl
  | false=>exact absurd (if_neg (by rw [q];exact Bool.false_ne_true)) h
 | _=>exact absurd rfl h
theorem DH {r:R D} {u:Value} (q:Post prog w B fr fr s γ (aJ prog w fr) r u s₁) (h:r.bind prF ≠ .no):G1 prog w B fr s γ (r.bind prF) u s₁:=by
 obtain ⟨d,σ₁,γ₁,er,st,I,rs,du⟩:=q
 rw [er] at h ⊢
 obtain ⟨ds,rfl,hl⟩:=Af h
 cases du with
 | tup ht hsoft hd=>exact ⟨_,_,ds,σ₁,γ₁,rfl,if_pos hl,st,I,rs,let ⟨o,ho,hc,n,hd⟩:=ht;⟨o,ho,hc,n,hd⟩,hd,eo hd (bk hl)⟩
theorem B6 (S:Sound prog w B E) (F:Fc A cx env outer L dp) (P:Pre prog w B cx env outer L fr₀ ρ γ σ s.heap) (n:Nat) (x:Str) (p₁ p₂ p₃ p₄ p₅ pos:Pos) (k₁ k₂:Nat) (it:Expr) (sc:Scope) (hok:lu sc x=true)
  (hst:∀ v,foldedSetIterable it env v=pure v) (h:aq z E dp ρ (.pairs (aa n cx it)) σ ≠ .no) :
  WP prog w B (L :: fr₀) (L :: fr₀) A (eval (.ListComp (.Tuple [.Name x p₁,.Constant (.bool false) k₁ p₂] k₂ p₃) [⟨.Name x p₄,it,[],0⟩] sc pos) env) s γ (aJ prog w (L :: fr₀)) (aq z E dp ρ (.pairs (aa n cx it)) σ):=by
 obtain ⟨hok,c4⟩:=ak hok
 obtain ⟨hok,c3⟩:=ak hok
 obtain ⟨c1,c2⟩:=ak hok
 have hkind:sc.kind=.function:=beq_iff_eq.mp c1
 have hall:∀ y ∈ sc.names,y.2=.local∧sc.names.lookup y.1=some .local:=fun y hy=>(ak (List.all_eq_true.mp c2 y hy)).imp beq_iff_eq.mp beq_iff_eq.mp
 refine wpAny_ListComp (fun y hy=>by rw [(hall y hy).1];decide) hkind (fun y hy _=>(hall y hy).2) (wpAny_mono (S.sx n it F P (R.of_bind h)) (fun u s₁ q=>?_) fun _ _ q=>q.bind) hst
 obtain ⟨a,vs,ds,σ₁,γ₁,rfl,e,st,I,rs,htu,hd,hsz⟩:=DH q h
 refine wpAny_pyIter_tuple htu (wpAny_newObj_type (hd:=by size_fits) (wpAny_newFunctionEnv (fun y hy=>by rw [(hall y hy).1];decide) (fun y hy=>nomatch hy) (fun h₁ hns₁ hsb₁=>?_) hkind))
 have e1 : (s₁.heap.push { cls := .type "tuple_iterator", data := .fields #[.ref a, .int 0 0] }).objs.size = s₁.heap.objs.size + 1 := Heap.size_push ..
 have e2 : ((s₁.heap.push { cls := .type "tuple_iterator", data := .fields #[.ref a, .int 0 0] }).push { cls := .type "list", dict := none, data := .seq ([] : List Value).toArray }).objs.size = s₁.heap.objs.size + 2 := (Heap.size_push ..).trans (congrArg (· + 1) e1)
 dsimp only at hns₁ hsb₁ ⊢
 rw [e2] at hns₁ hsb₁ ⊢
 rw [e1]
 obtain ⟨O,I₀⟩:=Mx (prog:=prog) (w:=w) (fun x q=>(I.ex x q).imp fun _ q=>q.1) htu hd hns₁ hsb₁
 have loop:=fun (cenv:Env) (hl:cenv.locals=s₁.heap.objs.size+2) (hcs:cenv.scope=sc)=>tU O F.hand hsz (p₁:=p₁) (p₂:=p₂) (p₃:=p₃) (p₄:=p₄) (pos:=pos) (k₁:=k₁) (k₂:=k₂) (it:=it) hl hcs hkind (beq_iff_eq.mp c3) ((Bool.not_eq_true' _).mp c4) (s₂:={ s₁ with heap:=h₁,toks:=s₁.toks+0 }) I₀
  (R:=fun r s'=>∃ m,s'.heap.Ns (s₁.heap.objs.size+2) m∧∀ h',Heap.SameBut (s₁.heap.objs.size+2) s'.heap h'->Rest s₁ s'∧r=.ok .next∧G0 prog w ⟨s₁.heap,s₁.heap.objs.size,s₁.heap.objs.size+1,s₁.heap.objs.size+2,a,vs,ds,γ₁,L :: fr₀⟩ h') fun s' m hm r e=>⟨m,hm,fun h' hs=>⟨r,rfl,e h' hs⟩⟩
 have fin:=fun cenv hl hcs=>codeAny_compStart_list (loop cenv hl hcs) (wpAny_pyIter_tupleiter I₀.it (loop cenv hl hcs))
 refine codeAny_mono (fin _ rfl rfl) fun r s' hr=>?_
 obtain ⟨m,hm,k⟩:=hr
 refine ⟨m,hm,fun h' hs=>?_⟩
 obtain ⟨rs',rfl,ys,k₂,pl,dl⟩:=k h' hs
 obtain ⟨γ₂,st₂,I₂,d₂⟩:=xA (ks:=L :: fr₀) I k₂ (Heap.get?_none_of_le (Nat.le_succ _)) pl dl (fun x hx=>.tail _ (.tail _ (.tail _ hx))) (.tail _ (.head _))
 exact .mk _ _ γ₂ e (st.trans st₂) I₂ (rs.trans rs') d₂
end
end Mine.Internal
end
section
namespace Mine.Internal
open PySem PySem.W PySem.Calls PyProof.Rows PyProof.V
structure Facts (prog:Program) (w:World) (B:Heap) (mg mb:Str->Option Value) (K:Frag):Prop where
 G:bZ prog w B mg mb
 W:cL B
 KB:KOk B K
section
variable {prog:Program} {w:World} {B:Heap} {mg mb:Str->Option Value} {E:Ev} {A:Around} {cx:Cx} {env:Env} {outer:List Env} {L:Addr} {dp:Nat} {fr₀ fr ks:List Addr} {ρ:Loc} {γ:Gam} {σ:Sto} {s:Shared} {z:Bool} {K:Frag}
theorem wA {k:Nat} {es:List Expr} {j:Nat} {p:Pos}:aa k cx (.Set es j p)=.un:=by cases k <;> rfl
noncomputable def isSet:Expr->Bool
 | .Set ..=>true
 | _=>false
theorem AB {it:Expr} (h:isSet it=true) (n:Nat):aa n cx it=.un:=by
 cases it with
 | Set=>exact wA
 | _=>exact nb h
theorem Az {it:Expr} (h:isSet it=false) (v:Value):foldedSetIterable it env v=pure v:=by
 cases it with
 | Set=>exact nomatch h
 | _=>rfl
theorem Ea (S:Sound prog w B E) (F:Fc A cx env outer L dp) (P:Pre prog w B cx env outer L fr₀ ρ γ σ s.heap) (n:Nat) (elt:Expr) (gens:List Comprehension) (sc:Scope) (pos:Pos) (it:Expr) (hp:pairsOf elt gens sc=some it) (h:aq z E dp ρ (.pairs (aa n cx it)) σ ≠ .no) :
  WP prog w B (L :: fr₀) (L :: fr₀) A (eval (.ListComp elt gens sc pos) env) s γ (aJ prog w (L :: fr₀)) (aq z E dp ρ (.pairs (aa n cx it)) σ):=by
 obtain ⟨a,p₁,k₁,p₂,k₂,p₃,p₄,rfl,rfl,hok⟩:=tT hp
 refine B6 S F P n a p₁ p₂ p₃ p₄ p₄ pos k₁ k₂ it sc hok (Az ?_) h
 cases hs:isSet it with
 | false=>rfl
 | true =>
  change (E.x dp ρ (aa n cx it) σ).bind _ ≠ _ at h
  rw [AB hs,S.su] at h
  exact absurd rfl h
noncomputable def kh (prog:Program) (w:World) (B:Heap) (z:Bool) (E:Ev) (A:Around) (env:Env) (L:Addr) (dp:Nat) (fr₀:List Addr) (ρ:Loc) (γ:Gam) (σ:Sto) (s:Shared) (e:Expr) (x:X):Prop :=
 aq z E dp ρ x σ ≠ .no->WP prog w B (L :: fr₀) (L :: fr₀) A (eval e env) s γ (aJ prog w (L :: fr₀)) (aq z E dp ρ x σ)
theorem nY {e:Expr}:kh prog w B z E A env L dp fr₀ ρ γ σ s e .un:=fun h=>absurd rfl h
theorem m7 {e:Expr} {b:Bool} {x:X} (k:b=true->kh prog w B z E A env L dp fr₀ ρ γ σ s e x):kh prog w B z E A env L dp fr₀ ρ γ σ s e (ifU .un b x):=by
 cases b with
 | true=>exact k rfl
 | false=>exact nY
theorem vn {α:Type} {e:Expr} {o:Option α} {u:X} {f:α->X} (n:o=none->kh prog w B z E A env L dp fr₀ ρ γ σ s e u) (k:∀ a,o=some a->kh prog w B z E A env L dp fr₀ ρ γ σ s e (f a)):kh prog w B z E A env L dp fr₀ ρ γ σ s e (opU u o f):=by
 cases o with
 | none=>exact n rfl
 | some a=>exact k a rfl
theorem nX {α:Type} {e:Expr} {o:Option α} {f:α->X} (k:∀ a,o=some a->kh prog w B z E A env L dp fr₀ ρ γ σ s e (f a)):kh prog w B z E A env L dp fr₀ ρ γ σ s e (opU .un o f):=vn (fun _=>nY) k
theorem HP (S:Sound prog w B E) (F:Fc A cx env outer L dp) (P:Pre prog w B cx env outer L fr₀ ρ γ σ s.heap) (n:Nat) {v e:Expr} {lo hi:Option Expr} {sp p:Pos} (hc:(lo.isNone && hi.isNone && dB e)=true) :
  kh prog w B z E A env L dp fr₀ ρ γ σ s (.Subscript v (.Slice lo hi (some e) sp) p) (.rev (aa n cx v)):=fun h=>by
 obtain ⟨hc,h3⟩:=ak hc
 obtain ⟨h1,h2⟩:=ak hc
 obtain rfl:=Option.isNone_iff_eq_none.mp h1
 obtain rfl:=Option.isNone_iff_eq_none.mp h2
 obtain ⟨k,kp,q,rfl⟩:=jL h3
 exact IJ S F P n v _ _ _ sp p h
theorem Mv (HX:Facts prog w B mg mb K) (S:Sound prog w B E) (F:Fc A cx env outer L dp) (P:Pre prog w B cx env outer L fr₀ ρ γ σ s.heap) (n:Nat) {x:Str} {p:Pos} {as:List Expr} {pos:Pos} (hp:aW as=true) (hb:(iI x as).all cx.builtin=true) {q:Bi × List Expr} (ho:we x as=some q) :
  kh prog w B z E A env L dp fr₀ ρ γ σ s (.Call (.Name x p) as [] pos) (biW q.1 (q.2.map (aa n cx))):=by
 obtain ⟨b,es⟩:=q
 unfold biW
 cases hi:gY b with
 | false=>exact fun h=>OH S HX.G F P n x p pos as b es hp hb ho hi h
 | true =>
  cases es with
  | nil=>exact nY
  | cons a r =>
   cases r with
   | nil=>exact fun h=>IE S HX.G F P n x p pos as b a hp hb ho hi h
   | cons _ _=>exact nY
theorem vQ (HX:Facts prog w B mg mb K) (S:Sound prog w B E) (F:Fc A cx env outer L dp) (P:Pre prog w B cx env outer L fr₀ ρ γ σ s.heap) (k:Nat) (e:Expr):kh prog w B z E A env L dp fr₀ ρ γ σ s e (aa k cx e):=by
 cases k with
 | zero=>exact nY
 | succ n =>
  show kh prog w B z E A env L dp fr₀ ρ γ σ s e (F4 cx (aa n cx) e (Bf e))
  cases Bf e with
  | const c k p=>exact B5 c k p n P
  | name x p=>exact Ec x p n HX.G F P
  | tup es k p=>exact B8 S F P n es k p
  | lst es p=>exact Eb S F P n es p
  | dict ks vs p=>exact nX fun kvs hd=>ID HX.G P ks vs p kvs hd
  | slc v lo hi st sp p=>cases st with
   | none=>exact B7 S F P n v lo hi sp p
   | some e=>exact m7 fun hc=>HP S F P n hc
  | sub v i p hs=>exact IK S F P n v i p hs
  | bin l o r p=>exact nX fun op ho=>IB S F P n l o op r p ho
  | not x p=>exact II S F P n x p
  | neg i k kp p=>exact IG S F P n (.Constant (.int i) k kp) p
  | band es p=>exact vO S F P n .And es p
  | bor es p=>exact vO S F P n .Or es p
  | cmp l op r p=>exact m7 fun hm=>IC S F P n l op r p ((Bool.not_eq_true' _).mp hm)
  | ite c a b p=>exact IF S F P n c a b p
  | callN x p as pos=>exact m7 fun hp=>vn (fun _=>vn (fun _=>m7 fun hb=>nX fun q ho=>Mv HX S F P n hp hb ho) fun _ _=>vP HX.KB S F P n x p pos as hp) fun _ _=>vP HX.KB S F P n x p pos as hp
  | uG o m apos as pos=>exact m7 fun hp=>m7 fun hm=>vn (fun _=>nX fun me hme=>OJ S F P n o m apos pos as me hm hp hme) fun wm hw=>OL HX.W HX.KB S F P n o m apos pos as wm hm hp hw
  | att o a p=>exact m7 fun hb=>nX fun f ha=>IA HX.W S F P n o a p f hb ha
  | comp elt gens sc p=>exact nX fun it hp=>Ea S F P n elt gens sc p it hp
  | un=>exact nY
noncomputable def Bu (prog:Program) (w:World) (B:Heap) (z:Bool) (E:Ev) (A:Around) (cx:Cx) (env:Env) (L:Addr) (dp:Nat) (fr₀:List Addr) (ρ:Loc) (γ:Gam) (σ:Sto) (s:Shared) (k:Nat) (e:Expr):Prop :=
 tX z E dp ρ (aa k cx e) σ ≠ .no->WP prog w B (L :: fr₀) (L :: fr₀) A (isTrue e env (eval e env)) s γ jD (tX z E dp ρ (aa k cx e) σ)
theorem dF (HX:Facts prog w B mg mb K) (S:Sound prog w B E) (F:Fc A cx env outer L dp) (P:Pre prog w B cx env outer L fr₀ ρ γ σ s.heap) {n:Nat} {e:Expr} (he:isTrue e env (eval e env)=(do let v ← eval e env;standAt e.pos;holding [v] (truthy v))):Bu prog w B z E A cx env L dp fr₀ ρ γ σ s n e :=
 fun h=>AQ n e he (fun hx=>vQ HX S F P n e hx) h
theorem mD {n:Nat} {e:Expr} (h:aa n cx e=.un):Bu prog w B z E A cx env L dp fr₀ ρ γ σ s n e:=fun q=>by
 rw [h] at q
 exact absurd rfl q
theorem E4 (S:Sound prog w B E) (F:Fc A cx env outer L dp) (P:Pre prog w B cx env outer L fr₀ ρ γ σ s.heap) {n:Nat} {l:Expr} {op:CmpOp} {r:Expr} {pos:Pos}:Bu prog w B z E A cx env L dp fr₀ ρ γ σ s (n+1) (.Compare l [op] [r] pos):=by
 cases hm:behindInMarks op r with
 | true=>exact mD (congrArg (fun b=>ifU X.un (!b) (X.cmp (mY op) (aa n cx l) (aa n cx r))) hm)
 | false =>
  intro h
  have e:aa (n+1) cx (.Compare l [op] [r] pos)=X.cmp (mY op) (aa n cx l) (aa n cx r):=congrArg (fun b=>ifU X.un (!b) (X.cmp (mY op) (aa n cx l) (aa n cx r))) hm
  rw [e] at h ⊢
  exact Ir S F P n l op r pos hm h _
theorem E5 (HX:Facts prog w B mg mb K) (S:Sound prog w B E) (F:Fc A cx env outer L dp) (P:Pre prog w B cx env outer L fr₀ ρ γ σ s.heap) (k:Nat) (e:Expr):Bu prog w B z E A cx env L dp fr₀ ρ γ σ s k e:=by
 cases k with
 | zero=>exact mD rfl
 | succ n =>
  cases e with
  | UnaryOp op x pos =>
   cases op with
   | Not=>exact fun h=>Iv S F P n x pos _ h
   | _=>exact dF HX S F P rfl
  | BoolOp op es pos=>exact fun h=>E3 S F P n op es pos _ h
  | Compare l ops rs pos =>
   cases ops with
   | nil=>exact mD rfl
   | cons op ops =>
    cases ops with
    | cons _ _=>cases rs <;> exact mD rfl
    | nil =>
     cases rs with
     | nil=>exact mD rfl
     | cons r rs =>
      cases rs with
      | cons _ _=>exact mD rfl
      | nil=>exact E4 S F P
  | IfExp c a b pos=>exact fun h=>Iu S F P n c a b pos _ h
  | Constant c k₀ pos=>exact dF HX S F P rfl
  | Name x pos=>exact dF HX S F P rfl
  | Tuple es kk pos=>exact dF HX S F P rfl
  | List es pos=>exact dF HX S F P rfl
  | Dict ks vs pos=>exact dF HX S F P rfl
  | Subscript v i pos=>exact dF HX S F P rfl
  | BinOp l o r pos=>exact dF HX S F P rfl
  | Call f as kw pos=>exact dF HX S F P rfl
  | Attribute o a pos=>exact dF HX S F P rfl
  | ListComp elt gens sc pos=>exact dF HX S F P rfl
  | _=>exact mD rfl
end
end Mine.Internal
end
section
namespace Mine.Internal
open PySem PySem.W PySem.Calls PyProof.Rows PyProof.V
theorem iA {cx:Cx} {e:Expr} {r:List Expr} {is:List Nat} (h:slots cx (e :: r)=some is):∃ x p i is',e=.Name x p∧cx.slot x=some i∧slots cx r=some is'∧is=i :: is':=by
 obtain ⟨x,hx,h⟩:=Option.bind_eq_some_iff.mp (show ((nameOf e).bind fun x=>(cx.slot x).bind fun i=>(slots cx r).map (i :: ·))=_ from h)
 obtain ⟨i,hi,h⟩:=Option.bind_eq_some_iff.mp h
 obtain ⟨t,ht,hz⟩:=Option.map_eq_some_iff.mp h
 obtain ⟨p,rfl⟩:=gO hx
 exact ⟨x,p,i,t,rfl,hi,ht,hz.symm⟩
theorem Aj {ρ:Loc} {i j:Nat} {a b:D} (h:i ≠ j):put (put ρ i a) j b=put (put ρ j b) i a:=by
 unfold put
 rw [List.set_comm _ _ h]
theorem o6 {i:Nat} {d:D}:∀ {is:List Nat} {ds:List D} {ρ:Loc},i ∉ is->eW (put ρ i d) is ds=(eW ρ is ds).map (put · i d)
 | [],[],_,_=>rfl
 | [],_ :: _,_,_=>rfl
 | _ :: _,[],_,_=>rfl
 | j :: is,e :: ds,ρ,h=>by
  have h1:i ≠ j:=fun q=>h (q ▸ .head _)
  have h2:i ∉ is:=fun q=>h (.tail _ q)
  simp only [eW]
  rw [Aj h1]
  exact o6 h2
theorem o7 {i:Nat} {d:D}:∀ {is:List Nat} {ds:List D} {ρ:Loc},is.length=ds.length->eW ρ (is++[i]) (ds++[d])=(eW ρ is ds).map (put · i d)
 | [],[],_,_=>rfl
 | j :: is,e :: ds,ρ,h=>by
  simp only [List.cons_append,eW]
  exact o7 (by simpa using h)
theorem iZ:∀ {is:List Nat} {ds:List D} {ρ ρ':Loc},eW ρ is ds=some ρ'->is.length=ds.length
 | [],[],_,_,_=>rfl
 | j :: is,e :: ds,ρ,ρ',h=>by
  simp only [eW] at h
  simp [iZ h]
theorem j3:∀ {is:List Nat} {ds:List D} {ρ:Loc},is.length=ds.length->is.Nodup->eW ρ is.reverse ds.reverse=eW ρ is ds
 | [],[],_,_,_=>rfl
 | i :: is,d :: ds,ρ,hl,hn=>by
  rw [List.nodup_cons] at hn
  rw [List.reverse_cons,List.reverse_cons,o7 (by simpa using hl),j3 (by simpa using hl) hn.2]
  simp only [eW]
  rw [o6 hn.1]
section
variable {prog:Program} {w:World} {B:Heap} {mg mb:Str->Option Value} {E:Ev} {A:Around} {cx:Cx} {env:Env} {outer:List Env} {L:Addr} {dp:Nat} {fr₀ fr ks:List Addr} {ρ ρ':Loc} {γ:Gam} {σ:Sto} {s:Shared} {z:Bool} {K:Frag}
theorem fZ {L:Addr} {h h':Heap}:∀ {l:List Env},h.FunFrames eH l->L ∉ frs l->(∀ a,a ≠ L->∀ o,h.get? a=some o->h'.get? a=some o)->h'.FunFrames eH l
 | [],_,_,_=>trivial
 | env :: r,⟨hk,⟨L',o,hf,hn,ho,hd⟩,hr⟩,hL,k=>by
  have hm:L' ∈ frs (env :: r):=by unfold frs;rw [List.filterMap_cons,hf];exact .head _
  refine ⟨hk,⟨L',o,hf,hn,k _ (fun q=>hL (q ▸ hm)) _ ho,hd⟩,fZ hr (fun q=>hL ?_) k⟩
  unfold frs
  rw [List.filterMap_cons,hf]
  exact .tail _ q
noncomputable def Puts (prog:Program) (w:World) (B:Heap) (A:Around) (cx:Cx) (env:Env) (outer:List Env) (L:Addr) (fr₀:List Addr) (t:Value->Sem Unit) (i:Nat):Prop :=
 ∀ (ρ:Loc) (γ:Gam) (σ:Sto) (s:Shared) (v:Value) (d:D) (Q:Unit->Shared->Prop) (E':Value->Shared->Prop),Pre prog w B cx env outer L fr₀ ρ γ σ s.heap->Den prog w s.heap (L :: fr₀) γ v d ->
  (∀ s',Step (L :: fr₀) fr₀ s.heap γ s'.heap γ->Pre prog w B cx env outer L fr₀ (put ρ i d) γ σ s'.heap->Rest s s'->Q () s')->wpAny (model prog w) A (t v) Q E' s
theorem gp (F:Fc A cx env outer L dp) {x:Str} {i:Nat} (e:cx.slot x=some i):Puts prog w B A cx env outer L fr₀ (storeName env x) i:=by
 intro ρ γ σ s v d Q E' P hd hq
 obtain ⟨h1,h2,h3⟩:=jx e
 obtain ⟨m,hn,hm⟩:=P.loc
 obtain ⟨name,a,cd,rfl⟩:=F.envEq
 refine wpAny_storeName_local (env:=envOf name cx.scope L a cd) h1 hn (fun h' hn' hs=>?_) (by show (cx.scope.kind == .class || (cx.scope.kind == .module && _))=false;rw [F.kind];rfl)
 have hn'':h'.Ns L (fun y=>if y=x then some v else m y):=hn'
 obtain ⟨o,es,ep,ho,hdd,_⟩:=id hn''
 obtain ⟨st,I⟩:=P.inv.frame (ks:=fr₀) (L:=L) (.head _) hs ⟨o,ho,fun vs q=>by rw [hdd] at q;cases q⟩ P.notin
 refine hq { s with heap:=h',toks:=s.toks+1 } st ⟨⟨_,hn'',fun j y d' e1 e2=>?_⟩,I,⟨?_,P.out.2⟩,P.notin,P.outs⟩ .refl
 ·by_cases q:j=i
  ·subst q
   obtain rfl:x=y:=Option.some.inj (h3.symm.trans e1)
   have hl:j < ρ.length:=by
    rw [put] at e2
    have:=(List.getElem?_eq_some_iff.mp e2).1
    rwa [List.length_set] at this
   rw [put,List.getElem?_set_self hl] at e2
   cases e2
   exact ⟨v,by simp,Den.step st hd⟩
  ·rw [put,List.getElem?_set_ne (Ne.symm q)] at e2
   have hy:y ≠ x:=fun q'=>by
    subst q'
    have hj:=(List.getElem?_eq_some_iff.mp e1)
    have hi:=(List.getElem?_eq_some_iff.mp h3)
    exact q ((List.getElem_inj F.nodup).mp (hj.2.trans hi.2.symm))
   obtain ⟨v',hv',hd'⟩:=hm j y d' e1 e2
   exact ⟨v',by simp [hy,hv'],hd'.step st⟩
 ·obtain ⟨⟨hk,⟨L',o',hf,hnn,ho',hd'⟩,hr⟩,_⟩:=P.out
  have:L=L':=Option.some.inj hf
  subst this
  refine ⟨hk,⟨L,o,hf,hnn,ho,fun vs q=>by rw [hdd] at q;cases q⟩,fZ (L:=L) hr (fun q=>P.notin (P.outs _ q)) fun b hb o e=>(hs.2 b hb).trans e⟩
theorem bg (F:Fc A cx env outer L dp) {x:Str} {i:Nat} (e:cx.slot x=some i):Puts prog w B A cx env outer L fr₀ (bindName env x) i :=
 fun ρ γ σ s v d Q E' P hd hq=>wpAny_bindName (gp F e ρ γ σ s v d Q E' P hd hq)
theorem fW (F:Fc A cx env outer L dp) {x:Str} {pos:Pos} {i:Nat} (e:cx.slot x=some i):Puts prog w B A cx env outer L fr₀ (assign (.Name x pos) env) i :=
 fun ρ γ σ s v d Q E' P hd hq=>wpAny_assign_Name (gp F e ρ γ σ s v d Q E' P hd hq)
inductive cZ (prog:Program) (w:World) (B:Heap) (A:Around) (cx:Cx) (env:Env) (outer:List Env) (L:Addr) (fr₀:List Addr):List (Value->Sem Unit)->List Nat->Prop
 | nil:cZ prog w B A cx env outer L fr₀ [] []
 | cons {t:Value->Sem Unit} {i:Nat} {ts:List (Value->Sem Unit)} {is:List Nat}:Puts prog w B A cx env outer L fr₀ t i->cZ prog w B A cx env outer L fr₀ ts is->cZ prog w B A cx env outer L fr₀ (t :: ts) (i :: is)
theorem cZ.append {ts us:List (Value->Sem Unit)} {is js:List Nat} (x:cZ prog w B A cx env outer L fr₀ ts is) (y:cZ prog w B A cx env outer L fr₀ us js):cZ prog w B A cx env outer L fr₀ (ts++us) (is++js):=by
 induction x with
 | nil=>exact y
 | cons a _ ih=>exact .cons a ih
theorem cZ.reverse {ts:List (Value->Sem Unit)} {is:List Nat} (x:cZ prog w B A cx env outer L fr₀ ts is):cZ prog w B A cx env outer L fr₀ ts.reverse is.reverse:=by
 induction x with
 | nil=>exact .nil
 | cons a _ ih=>rw [List.reverse_cons,List.reverse_cons];exact ih.append (.cons a .nil)
theorem cZ.go {ts:List (Value->Sem Unit)} {is:List Nat} (x:cZ prog w B A cx env outer L fr₀ ts is):∀ {ρ ρ':Loc} {s:Shared} {vs:List Value} {ds:List D} {Q:Unit->Shared->Prop} {E':Value->Shared->Prop},
  Pre prog w B cx env outer L fr₀ ρ γ σ s.heap->av prog w s.heap (L :: fr₀) γ vs ds->eW ρ is ds=some ρ' ->
  (∀ s',Step (L :: fr₀) fr₀ s.heap γ s'.heap γ->Pre prog w B cx env outer L fr₀ ρ' γ σ s'.heap->Rest s s'->Q () s')->wpAny (model prog w) A (assignInOrder ts vs) Q E' s:=by
 induction x with
 | nil =>
  intro ρ ρ' s vs ds Q E' P dd hp hq
  cases dd with
  | nil=>cases hp;exact wpAny_pure (hq s .refl P .refl)
  | cons _ _=>cases hp
 | cons a _ ih =>
  intro ρ ρ' s vs ds Q E' P dd hp hq
  cases dd with
  | nil=>cases hp
  | cons dv r =>
   simp only [eW] at hp
   simp only [assignInOrder]
   refine wpAny_bind (wpAny_holding (a _ _ _ _ _ _ _ _ P dv fun s₁ st₁ P₁ rs₁=>?_))
   exact ih P₁ (r.step st₁) hp fun s₂ st₂ P₂ rs₂=>hq s₂ (st₁.trans st₂) P₂ (rs₁.trans rs₂)
theorem ki (F:Fc A cx env outer L dp):∀ {es:List Expr} {is:List Nat},slots cx es=some is->cZ prog w B A cx env outer L fr₀ ((assignEach es env).map (·.2)) is∧(assignEach es env).length=is.length∧(assignEach es env).findIdx? (·.1)=none:=by
 intro es
 induction es with
 | nil=>intro is h;cases h;exact ⟨.nil,rfl,rfl⟩
 | cons e r ih =>
  intro is h
  obtain ⟨x,p,i,is',rfl,h1,h2,rfl⟩:=iA h
  obtain ⟨a,b,c⟩:=ih h2
  refine ⟨.cons (fW F h1) a,?_,?_⟩
  ·show (assignEach r env).length+1=is'.length+1
   rw [b]
  ·show ((false,assign (.Name x p) env) :: assignEach r env).findIdx? (·.1)=none
   rw [List.findIdx?_cons]
   simp [c]
theorem nv (F:Fc A cx env outer L dp) {e:Expr} {t:Tg} (ht:qk cx e=some t) {v:Value} {d:D} {Q:Unit->Shared->Prop} {E':Value->Shared->Prop} (P:Pre prog w B cx env outer L fr₀ ρ γ σ s.heap) (hd:Den prog w s.heap (L :: fr₀) γ v d) (ha:bW ρ t d=some ρ')
  (hq:∀ s',Step (L :: fr₀) fr₀ s.heap γ s'.heap γ->Pre prog w B cx env outer L fr₀ ρ' γ σ s'.heap->Rest s s'->Q () s'):wpAny (model prog w) A (assign e env v) Q E' s:=by
 unfold qk at ht
 generalize eZ e=vw at ht
 cases vw with
 | name x p =>
  obtain ⟨i,hi,rfl⟩:=Option.map_eq_some_iff.mp ht
  have:ρ'=put ρ i d:=by
   cases d <;> exact (Option.some.inj ha).symm
  subst this
  exact fW F hi _ _ _ _ _ _ _ _ P hd hq
 | tup es kk p =>
  obtain ⟨is,hi,rfl⟩:=Option.map_eq_some_iff.mp ht
  cases d with
  | tup ds =>
   simp only [bW] at ha
   split at ha
   ·cases hd with
    | tup hT hs hdd =>
     obtain ⟨a1,a2,a3⟩:=ki (prog:=prog) (w:=w) (B:=B) (fr₀:=fr₀) F hi
     have hT':s.heap.IsTuple _ _:=let ⟨o,ho,hc,n,hd⟩:=hT;⟨o,ho,hc,n,hd⟩
     refine wpAny_assign_Tuple F.hand hT' (by rw [a2,iZ ha,List.size_toArray,hdd.length]) a3 fun h' he=>?_
     have kk:=jj he
     have st:Step (L :: fr₀) (L :: fr₀) s.heap γ h' γ:=Keeps.step kk
     refine a1.go (s:={ s with heap:=h' }) (P.step st (P.inv.keeps kk)) (hdd.step st) ha fun s' st' P' rs'=>hq s' (Step.trans (Step.weaken st (fun a m=>.tail _ m)) st') P' (Rest.trans .refl rs')
   ·cases ha
  | _=>cases ha
 | _=>cases ht
end
end Mine.Internal
end
section
namespace Mine.Internal
open PySem PySem.W PySem.Calls PyProof.Rows PyProof.V
theorem vN:True:=trivial
section
variable {prog:Program} {w:World} {B:Heap} {mg mb:Str->Option Value} {E:Ev} {A:Around} {cx:Cx} {env:Env} {outer:List Env} {L:Addr} {dp:Nat} {fr₀ fr ks:List Addr} {ρ ρ':Loc} {γ γ₁:Gam} {σ:Sto} {s s₁:Shared} {z:Bool} {K:Frag}
theorem aP.weak {β:Type} {ks':List Addr} {r:R β} {fl:Option Addr} {v:Value} {s':Shared} (h:∀ a ∈ ks',a ∈ ks) (p:aP prog w B fr ks s γ r fl v s'):aP prog w B fr ks' s γ r fl v s':=by
 obtain ⟨σ',γ',e,st,I,rs,ex⟩:=p
 exact ⟨σ',γ',e,st.weaken h,I,rs,ex⟩
theorem b8 {L:Addr} {fr₀:List Addr}:∀ a ∈ fr₀,a ∈ L :: fr₀:=fun _ m=>.tail _ m
theorem aP.toS {r:R (Fl × Loc)} {v:Value} {s':Shared} (p:aP prog w B (L :: fr₀) (L :: fr₀) s γ r none v s'):cY prog w B L fr₀ s γ r v s':=⟨none,.inl rfl,p.weak b8⟩
theorem cY.trans {σ₁:Sto} {r:R (Fl × Loc)} {v:Value} {s':Shared} (x:Step (L :: fr₀) fr₀ s.heap γ s₁.heap γ₁) (I:Inv prog w B (L :: fr₀) γ₁ σ₁ s₁.heap) (y:Rest s s₁) (p:cY prog w B L fr₀ s₁ γ₁ r v s'):cY prog w B L fr₀ s γ r v s':=by
 obtain ⟨fl,h,p⟩:=p
 exact ⟨fl,h,p.trans x I y⟩
noncomputable def WS (prog:Program) (w:World) (B:Heap) (cx:Cx) (L:Addr) (fr₀:List Addr) (A:Around) (t:Sem Flow) (s:Shared) (γ:Gam) (r:R (Fl × Loc)):Prop :=
 wpAny (model prog w) A t (Post prog w B (L :: fr₀) fr₀ s γ (FlR prog w cx L fr₀) r) (cY prog w B L fr₀ s γ r) s
theorem qm {t:Sem Flow} {r:R (Fl × Loc)} {σ₁:Sto} (st:Step (L :: fr₀) fr₀ s.heap γ s₁.heap γ₁) (I:Inv prog w B (L :: fr₀) γ₁ σ₁ s₁.heap) (rs:Rest s s₁) (x:WS prog w B cx L fr₀ A t s₁ γ₁ r) :
  wpAny (model prog w) A t (Post prog w B (L :: fr₀) fr₀ s γ (FlR prog w cx L fr₀) r) (cY prog w B L fr₀ s γ r) s₁:=wpAny_mono x (fun _ _ q=>q.trans st rs) fun _ _ q=>q.trans st I rs
theorem Den.int_at {h:Heap} {v:Value} {a:Int} (d:Den prog w h fr γ v (.int a)):∃ t,v=.int a t:=d.inv
theorem bB (S:Sound prog w B E) (F:Fc A cx env outer L dp) (P:Pre prog w B cx env outer L fr₀ ρ γ σ s.heap) (n:Nat) (e:Expr) {k:D->Sto->R (Fl × Loc)} {r:R (Fl × Loc)} {Q:Value->Shared->Prop} (hr:r=(E.x dp ρ (aa n cx e) σ).bind k) (h:r ≠ .no)
  (y:∀ v d σ₁ γ₁ s₁,Step (L :: fr₀) (L :: fr₀) s.heap γ s₁.heap γ₁->Pre prog w B cx env outer L fr₀ ρ γ₁ σ₁ s₁.heap->Rest s s₁->Den prog w s₁.heap (L :: fr₀) γ₁ v d->r=k d σ₁->Q v s₁) :
  wpAny (model prog w) A (eval e env) Q (cY prog w B L fr₀ s γ r) s:=by
 subst hr
 refine wpAny_mono (S.sx n e F P (R.of_bind h)) (fun v s₁ q=>?_) fun _ _ q=>aP.toS q.bind
 obtain ⟨d,σ₁,γ₁,er,st,I,rs,dd⟩:=q
 exact y v d σ₁ γ₁ s₁ st (P.step st I) rs dd (congrArg (R.bind · k) er)
theorem iK (S:Sound prog w B E) (F:Fc A cx env outer L dp) {σ₁:Sto} (st:Step (L :: fr₀) (L :: fr₀) s.heap γ s₁.heap γ₁) (rs:Rest s s₁) (P:Pre prog w B cx env outer L fr₀ ρ γ₁ σ₁ s₁.heap) (n:Nat) (e:Expr) {k:D->Sto->R (Fl × Loc)} {r:R (Fl × Loc)} {Q:Value->Shared->Prop} (hr:r=(E.x dp ρ (aa n cx e) σ₁).bind k) (h:r ≠ .no)
  (y:∀ v d σ₂ γ₂ s₂,Step (L :: fr₀) (L :: fr₀) s.heap γ s₂.heap γ₂->Step (L :: fr₀) (L :: fr₀) s₁.heap γ₁ s₂.heap γ₂->Pre prog w B cx env outer L fr₀ ρ γ₂ σ₂ s₂.heap->Rest s s₂->Den prog w s₂.heap (L :: fr₀) γ₂ v d->r=k d σ₂->Q v s₂) :
  wpAny (model prog w) A (eval e env) Q (cY prog w B L fr₀ s γ r) s₁:=by
 subst hr
 refine wpAny_mono (S.sx n e F P (R.of_bind h)) (fun v s₂ q=>?_) fun _ _ q=>aP.toS (q.bind.trans st P.inv rs)
 obtain ⟨d,σ₂,γ₂,er,st₂,I,rs₂,dd⟩:=q
 exact y v d σ₂ γ₂ s₂ (st.trans st₂) st₂ (P.step st₂ I) (rs.trans rs₂) dd (congrArg (R.bind · k) er)
theorem dI {t:Sem Flow} {r₀:R (Fl × Loc)} (h:r₀ ≠ .no) (k:∀ r,r=r₀->r ≠ .no->WS prog w B cx L fr₀ A t s γ r):WS prog w B cx L fr₀ A t s γ r₀:=k r₀ rfl h
theorem fL {r:R (Fl × Loc)} {σ':Sto} {γ':Gam} {s':Shared} (hr:r=.ok (.next,ρ') σ') (st:Step (L :: fr₀) fr₀ s.heap γ s'.heap γ') (P:Pre prog w B cx env outer L fr₀ ρ' γ' σ' s'.heap) (rs:Rest s s'):Post prog w B (L :: fr₀) fr₀ s γ (FlR prog w cx L fr₀) r .next s':=.mk _ σ' γ' hr st P.inv rs ⟨rfl,P.loc⟩
theorem Oj (S:Sound prog w B E) (F:Fc A cx env outer L dp) (P:Pre prog w B cx env outer L fr₀ ρ γ σ s.heap) (n:Nat) (e:Expr) (pos:Pos) (h:aG E dp ρ (.ret (aa n cx e)) σ ≠ .no) :
  WS prog w B cx L fr₀ A (exec (.Return (some e) pos) env) s γ (aG E dp ρ (.ret (aa n cx e)) σ):=by
 refine dI h fun r hr h=>?_
 exact wpAny_Return_some (bB S F P n e hr h fun v d σ₁ γ₁ s₁ st P₁ rs hd er=>.mk _ _ _ er (st.weaken b8) P₁.inv rs ⟨⟨_,rfl,hd⟩,P₁.loc⟩)
theorem bY {v:Expr} {t:Option Expr} {l:Nat} (h:nt v=true):swapsWith v t l env=pure false:=by
 cases v <;> first | rfl | cases h
theorem QA (S:Sound prog w B E) (F:Fc A cx env outer L dp) (P:Pre prog w B cx env outer L fr₀ ρ γ σ s.heap) (n:Nat) (e:Expr) (pos:Pos) (hs:nt e=true) (h:aG E dp ρ (.ex (aa n cx e)) σ ≠ .no) :
  WS prog w B cx L fr₀ A (exec (.Expr e pos) env) s γ (aG E dp ρ (.ex (aa n cx e)) σ):=by
 have hi:interactive env=false:=by obtain ⟨name,a,cd,rfl⟩:=F.envEq;show interactive (envOf name cx.scope L a cd)=false;unfold interactive envOf;simp [F.kind]
 refine dI h fun r hr h=>?_
 exact wpAny_Expr_any (bB S F P n e hr h fun v d σ₁ γ₁ s₁ st P₁ rs hd er=>fL er (st.weaken b8) P₁ rs) hi (bY hs)
theorem u0 (S:Sound prog w B E) (F:Fc A cx env outer L dp) (P:Pre prog w B cx env outer L fr₀ ρ γ σ s.heap) (n:Nat) (x:Str) (p:Pos) (i:Nat) (v:Expr) (pos:Pos) (hi:cx.slot x=some i) (hs:nt v=true) (h:aG E dp ρ (.asg (.n i) (aa n cx v)) σ ≠ .no) :
  WS prog w B cx L fr₀ A (exec (.Assign [.Name x p] v pos) env) s γ (aG E dp ρ (.asg (.n i) (aa n cx v)) σ):=by
 refine dI h fun r hr h=>?_
 refine wpAny_Assign_Name (bB S F P n v hr h fun u d σ₁ γ₁ s₁ st P₁ rs hd er=>?_) (bY hs)
 exact gp F hi _ _ _ _ _ _ _ _ P₁ hd fun s₂ st₂ P₂ rs₂=>fL er ((st.weaken b8).trans st₂) P₂ (rs.trans rs₂)
theorem oW {cx:Cx} {f:Expr->Option Str} (hf:∀ x p y,f (.Name x p)=some y->y=x):∀ {es:List Expr} {is:List Nat},slots cx es=some is->(es.filterMap f).length=es.length ->
  ∀ {A':Around} {env:Env} {outer:List Env} {L:Addr} {dp:Nat} {fr₀:List Addr},Fc A' cx env outer L dp->cZ prog w B A' cx env outer L fr₀ ((es.filterMap f).map fun n=>bindName env n) is:=by
 intro es
 induction es with
 | nil=>intro is h _ A' env outer L dp fr₀ F;cases h;exact .nil
 | cons e r ih =>
  intro is h hl A' env outer L dp fr₀ F
  obtain ⟨x,p,i,is',rfl,h1,h2,rfl⟩:=iA h
  cases hx:f (.Name x p) with
  | none =>
   rw [List.filterMap_cons,hx] at hl
   have:=List.length_filterMap_le f r
   exact absurd (hl ▸ this) (Nat.not_succ_le_self _)
  | some y =>
   obtain rfl:=hf _ _ _ hx
   rw [List.filterMap_cons,hx] at hl ⊢
   exact .cons (bg F h1) (ih h2 (by simpa using hl) F)
theorem zu {c1 c2 c3 c4 c5:Bool} {M:Sem (Option (List Str))->Prop} {u t:Sem (Option (List Str))} (h0:M (pure none)) (h1:c3=false->M t) (h5:c4=false->c5=false):M (if c1 then pure none else if c2 then pure none else if c3 then pure none else if c4 then pure none else if c5 then u else t):=by
 cases c1 with
 | true=>exact h0
 | false=>cases c2 with
  | true=>exact h0
  | false=>cases c3 with
   | true=>exact h0
   | false=>cases c4 with
    | true=>exact h0
    | false =>
     rw [h5 rfl]
     exact h1 rfl
theorem Mw {a b:Bool} (h:(!a || b)=true) (hb:b=false):a=false:=by
 cases a with
 | true=>exact nb (hb.symm.trans h)
 | false=>rfl
theorem qj {ts:List Expr} {k:Nat} {p:Pos} {v:Expr} {is:List Nat} (F:Fc A cx env outer L dp) (hi:slots cx ts=some is) (hs:nt v=true) :
  swappedStores [.Tuple ts k p] v env=pure none∨∃ names:List Str,swappedStores [.Tuple ts k p] v env=pure (some names)∧names.length=ts.length∧cZ prog w B A cx env outer L fr₀ (names.map fun n=>bindName env n) is:=by
 cases v with
 | Tuple vs k' p' =>
  refine zu (M:=fun x=>x=pure none∨∃ names:List Str,x=pure (some names)∧names.length=ts.length∧cZ prog w B A cx env outer L fr₀ (names.map fun n=>bindName env n) is) (.inl rfl) (fun h=>?_) (Mw hs)
  have hl:=bne_eq_false_iff_eq.mp (Bool.or_eq_false_iff.mp h).1
  exact .inr ⟨_,rfl,hl,oW (fun x p y hy=>(Option.some.inj (cM hy).2).symm) hi hl F⟩
 | _=>exact .inl rfl
theorem xS {cx:Cx}:∀ {es:List Expr} {is:List Nat},slots cx es=some is->is.length=es.length:=by
 intro es
 induction es with
 | nil=>intro is h;cases h;rfl
 | cons e r ih =>
  intro is h
  obtain ⟨x,p,i,is',rfl,h1,h2,rfl⟩:=iA h
  simp [ih h2]
theorem uE {r:R (Fl × Loc)} {t:Tg} {d:D} (hr:r=(match bW ρ t d with | some ρ=>.ok (.next,ρ) σ | Option.none=>.no)) (h:r ≠ .no):∃ ρ',bW ρ t d=some ρ'∧r=.ok (.next,ρ') σ:=by
 cases ha:bW ρ t d with
 | none=>rw [ha] at hr;exact absurd hr h
 | some ρ'=>rw [ha] at hr;exact ⟨ρ',rfl,hr⟩
theorem G8 {is:List Nat} {d:D} (h:bW ρ (.ns is) d=some ρ'):∃ ds,d=.tup ds∧is.Nodup∧eW ρ is ds=some ρ':=by
 cases d with
 | tup ds =>
  by_cases hnd:decide is.Nodup=true
  ·exact ⟨ds,rfl,of_decide_eq_true hnd,(if_pos hnd).symm.trans h⟩
  ·exact nn ((if_neg hnd).symm.trans h)
 | _=>exact nn h
theorem rA (S:Sound prog w B E) (F:Fc A cx env outer L dp) (P:Pre prog w B cx env outer L fr₀ ρ γ σ s.heap) (n:Nat) (ts:List Expr) (kk:Nat) (p:Pos) (is:List Nat) (v:Expr) (pos:Pos) (hi:slots cx ts=some is) (hs:nt v=true) (h:aG E dp ρ (.asg (.ns is) (aa n cx v)) σ ≠ .no) :
  WS prog w B cx L fr₀ A (exec (.Assign [.Tuple ts kk p] v pos) env) s γ (aG E dp ρ (.asg (.ns is) (aa n cx v)) σ):=by
 refine dI h fun r hr h=>?_
 rcases qj (prog:=prog) (w:=w) (B:=B) (fr₀:=fr₀) (k:=kk) (p:=p) F hi hs with hw | ⟨names,hw,hnl,hp⟩
 ·refine Assign_Tuple (bB S F P n v hr h fun u d σ₁ γ₁ s₁ st P₁ rs hd er=>?_) (show swapsWith v (some (.Tuple ts kk p)) pos.line env=pure false from bY hs) hw
  obtain ⟨ρ',ha,er₁⟩:=uE er h
  exact nv F (t:=.ns is) (show qk cx (.Tuple ts kk p)=_ from congrArg (Option.map Tg.ns) hi) P₁ hd ha fun s₂ st₂ P₂ rs₂=>fL er₁ ((st.weaken b8).trans st₂) P₂ (rs.trans rs₂)
 ·refine Assign_Tuple_swapped (bB S F P n v hr h fun u d σ₁ γ₁ s₁ st P₁ rs hd er=>?_) (show swapsWith v (some (.Tuple ts kk p)) pos.line env=pure false from bY hs) hw
  obtain ⟨ρ',ha,er₁⟩:=uE er h
  obtain ⟨ds,rfl,hnd,ha⟩:=G8 ha
  cases hd with
  | tup hT hsoft hdd =>
   rename_i a vs
   have hT':s₁.heap.IsTuple a vs.toArray:=let ⟨o,ho,hc,n,hd⟩:=hT;⟨o,ho,hc,n,hd⟩
   have hlen:names.length=vs.toArray.size:=by rw [hnl,← xS hi,iZ ha,List.size_toArray,hdd.length]
   rw [hlen]
   refine wpAny_unpackItems_tuple F.hand hT' fun h' he=>?_
   have st₁:Step (L :: fr₀) (L :: fr₀) s₁.heap γ₁ h' γ₁:=Keeps.step (jj he)
   rw [List.map_reverse]
   exact hp.reverse.go (s:={ s₁ with heap:=h' }) (P₁.step st₁ (P₁.inv.keeps (jj he))) (hdd.step st₁).reverse (by rw [j3 (iZ ha) hnd];exact ha) fun s' st' P' rs'=>fL er₁ (((st.trans st₁).weaken b8).trans st') P' (rs.trans rs')
theorem QB (S:Sound prog w B E) (F:Fc A cx env outer L dp) (P:Pre prog w B cx env outer L fr₀ ρ γ σ s.heap) (n:Nat) (c:Expr) (a b:List Stmt) (pos:Pos) (h:aG E dp ρ (.ifs (aa n cx c) (a.map (aF n cx)) (b.map (aF n cx))) σ ≠ .no) :
  WS prog w B cx L fr₀ A (exec (.If c a b pos) env) s γ (aG E dp ρ (.ifs (aa n cx c) (a.map (aF n cx)) (b.map (aF n cx))) σ):=by
 refine dI h fun r hr h=>?_
 replace hr:r=(E.t dp ρ (aa n cx c) σ).bind fun t σ=>if t then E.b dp ρ (a.map (aF n cx)) σ else E.b dp ρ (b.map (aF n cx)) σ:=hr
 refine wpAny_If (wpAny_mono (S.st n c F P (R.of_bind (hr ▸ h))) (fun t s₁ q=>?_) fun _ _ q=>hr ▸ aP.toS q.bind)
 obtain ⟨t',σ₁,γ₁,er,st,I,rs,ht⟩:=q
 obtain rfl:t=t':=ht
 rw [er] at hr
 cases t with
 | true =>
  obtain rfl:r=E.b dp ρ (a.map (aF n cx)) σ₁:=hr
  exact qm (st.weaken b8) I rs (S.sb n a F (P.step st I) h)
 | false =>
  obtain rfl:r=E.b dp ρ (b.map (aF n cx)) σ₁:=hr
  exact qm (st.weaken b8) I rs (S.sb n b F (P.step st I) h)
noncomputable def K9 (ρ:Loc) (i:Nat) (a:Int) (b:D) (σ:Sto):R (Fl × Loc):=match b with
 | .int y=>.ok (.next,put ρ i (.int (a+y))) σ
 | _=>.no
theorem BC {r:R (Fl × Loc)} {i:Nat} {x:X} (hr:r=aG E dp ρ (.aug i x) σ) (h:r ≠ .no):∃ a,ρ[i]?=some (some (.int a))∧r=(E.x dp ρ x σ).bind (K9 ρ i a):=by
 unfold aG at hr
 dsimp only at hr
 cases e:ρ[i]? with
 | none=>rw [e] at hr;exact absurd hr h
 | some o=>rw [e] at hr;cases o with
  | none=>exact absurd hr h
  | some d=>cases d with
   | int a=>exact ⟨a,rfl,hr⟩
   | _=>exact absurd hr h
theorem yu {r:R (Fl × Loc)} {i:Nat} {a:Int} {d:D} (hr:r=K9 ρ i a d σ) (h:r ≠ .no):∃ y,d=.int y∧r=.ok (.next,put ρ i (.int (a+y))) σ:=by
 cases d with
 | int y=>exact ⟨y,rfl,hr⟩
 | _=>exact absurd hr h
theorem Og (S:Sound prog w B E) (F:Fc A cx env outer L dp) (P:Pre prog w B cx env outer L fr₀ ρ γ σ s.heap) (n:Nat) (x:Str) (p:Pos) (i:Nat) (v:Expr) (pos:Pos) (hi:cx.slot x=some i) (h:aG E dp ρ (.aug i (aa n cx v)) σ ≠ .no) :
  WS prog w B cx L fr₀ A (exec (.AugAssign (.Name x p) .Add v pos) env) s γ (aG E dp ρ (.aug i (aa n cx v)) σ):=by
 refine dI h fun r hr h=>?_
 obtain ⟨a,er,hr⟩:=BC hr h
 obtain ⟨h1,h2,h3⟩:=jx hi
 obtain ⟨m,hn,hm⟩:=P.loc
 obtain ⟨old,hv,hd⟩:=hm i x _ h3 er
 obtain ⟨t,rfl⟩:=hd.int_at
 obtain ⟨name,a',cd,henv⟩:=F.envEq
 have hl:∀ {Q E':Value->Shared->Prop},Q _ s->wpAny (model prog w) A (loadName env x) Q E' s:=fun {Q E'} hq=>by
  rw [henv]
  exact wpAny_loadName_local (env:=envOf name cx.scope L a' cd) F.kind h1 hn hv hq
 refine wpAny_AugAssign_Name (hl (bB S F P n v hr h fun u d σ₁ γ₁ s₁ st P₁ rs hd ee=>?_))
 obtain ⟨y,rfl,ee⟩:=yu ee h
 obtain ⟨t',rfl⟩:=hd.int_at
 refine PyProof.Rows.iadd_int ?_
 exact gp F hi _ _ _ { s₁ with toks:=s₁.toks+1 } _ _ _ _ P₁ (.int _ _) fun s₂ st₂ P₂ rs₂=>fL ee ((st.weaken b8).trans st₂) P₂ (rs.trans rs₂)
theorem m5 {fs:List (List Nat × D)} {k k':List Nat} {d:D}:(qb fs k d).lookup k'=if k' == k then some d else fs.lookup k':=by
 induction fs with
 | nil =>
  simp only [qb,List.lookup]
  cases h:(k' == k) <;> simp
 | cons p r ih =>
  obtain ⟨q,e⟩:=p
  simp only [qb]
  split
  ·rename_i hq
   have hq':q=k:=beq_iff_eq.mp hq
   subst hq'
   simp only [List.lookup]
   cases h:(k' == q) <;> simp
  ·rename_i hq
   simp only [List.lookup]
   cases h:(k' == q) with
   | true =>
    have h':k'=q:=beq_iff_eq.mp h
    subst h'
    simp [hq]
   | false=>simp [ih]
theorem A6 {a b:Obj} (h1:a.cls=b.cls) (h2:a.data=b.data) (h3:a.slots=b.slots) (h4:a.dict=b.dict):a=b:=by
 cases a
 cases b
 cases h1
 cases h2
 cases h3
 cases h4
 rfl
theorem tO {h h':Heap} {a d:Addr} {mA mA':Str->Option Value} (ho:gV h a d mA) (I':h'.Inst a aO mA') (hkeep:∀ b o,b ≠ a->(∀ o₀ dx,h.get? a=some o₀->o₀.dict=some dx->b ≠ dx)->h.get? b=some o->h'.get? b=some o)
  (hsame:∀ o₀,h.get? a=some o₀->∃ o₁,h'.get? a=some o₁∧o₁.cls=o₀.cls∧o₁.data=o₀.data∧o₁.slots=o₀.slots∧∀ dx,o₀.dict=some dx->o₁.dict=some dx) (hon:∀ x,(mA' x).isSome=true->∃ f:Fa,x=bC f) :
  Heap.ExtBut d h h'∧gV h' a d mA'∧∃ o,h'.get? d=some o∧∀ vs,o.data ≠ .fields vs:=by
 obtain ⟨o₀,ho₀,hdict,hplain⟩:=ho.dict
 obtain ⟨o₁,ho₁,s1,s2,s3,s4⟩:=hsame o₀ ho₀
 obtain rfl:=A6 s1 s2 s3 ((s4 _ hdict).trans hdict.symm)
 refine ⟨fun b o hb hbo=>?_,⟨I',⟨_,ho₁,hdict,hplain⟩,hon⟩,?_⟩
 ·by_cases q:b=a
  ·rw [q] at hbo ⊢
   exact ho₁.trans (ho₀.symm.trans hbo)
  ·exact hkeep b o q (fun o' dx h1 h2=>by
    obtain rfl:=Option.some.inj (ho₀.symm.trans h1)
    obtain rfl:=Option.some.inj (hdict.symm.trans h2)
    exact hb) hbo
 ·obtain ⟨o',e',_,_,hdd⟩:=I'
  obtain rfl:=Option.some.inj (ho₁.symm.trans e')
  rcases hdd with hdd | ⟨d',d1,_,od,es,ep,q1,q2,_⟩
  ·exact ns (hdict.symm.trans hdd.1)
  ·obtain rfl:=Option.some.inj (hdict.symm.trans d1)
   exact ⟨od,q1,fun vs q=>by cases q2.symm.trans q⟩
theorem wK {mA:Str->Option Value} (h:∀ x,(mA x).isSome=true->∃ f:Fa,x=bC f):Within mA [bC .rows,bC .at,bC .deep]:=fun x hx=>by
 obtain ⟨f,rfl⟩:=h x (Option.isSome_iff_ne_none.mpr hx)
 cases f with
 | rows=>exact .head _
 | «at»=>exact .tail _ (.head _)
 | deep=>exact .tail _ (.tail _ (.head _))
theorem Gu {mA:Str->Option Value} {f:Fa} {v:Value} (h:∀ x,(mA x).isSome=true->∃ f:Fa,x=bC f) (x:Str) (hx:(if x=bC f then some v else mA x).isSome=true):∃ f:Fa,x=bC f:=by
 by_cases q:x=bC f
 ·exact ⟨f,q⟩
 ·exact h x (by rw [if_neg q] at hx;exact hx)
theorem tW {h:Heap} {mA:Str->Option Value} {fs:List (List Nat × D)} {f:Fa} {v:Value} {d:D} (k:∀ f d,fs.lookup (faN f)=some d->∃ v,mA (bC f)=some v∧Den prog w h fr γ v d) (dv:Den prog w h fr γ v d) (f':Fa) (d':D) (hl:(qb fs (faN f) d).lookup (faN f')=some d') :
  ∃ v',(if bC f'=bC f then some v else mA (bC f'))=some v'∧Den prog w h fr γ v' d':=by
 rw [m5] at hl
 by_cases hff:f'=f
 ·rw [if_pos (by rw [hff];exact beq_self_eq_true _)] at hl
  exact ⟨v,if_pos (hff ▸ rfl),Option.some.inj hl ▸ dv⟩
 ·rw [if_neg (fun q=>hff (Gs q))] at hl
  rw [if_neg (fun q=>hff (oA.mp q))]
  exact k f' d' hl
theorem AA (W:cL B) {σ':Sto} {u v:Value} {a d:D} {f:Fa} {Q:Unit->Shared->Prop} {E':Value->Shared->Prop} (I:Inv prog w B fr γ σ s.heap) (da:Den prog w s.heap fr γ u a) (dv:Den prog w s.heap fr γ v d) (hk:∀ a ∈ ks,a ∈ fr) (e:bw σ a f d=some σ')
  (hq:∀ s',Step fr ks s.heap γ s'.heap γ->Inv prog w B fr γ σ' s'.heap->Rest s s'->Q () s'):wpAny (model prog w) A (setAttr u (bC f) v) Q E' s:=by
 obtain ⟨nm,q,N,bs,sn,sub,col,dd,k0,k1,k2,k3,k5,mN,hC,hN,g1,g2,g3,g4,g5,g6,g7,g8⟩:=W
 refine cW (G:=fun o=>o=some σ'->_) nn (fun i ei=>tP (G:=fun o=>o=some σ'->_) nn fun fs es e=>?_) e
 obtain rfl:=Option.some.inj e
 obtain ⟨c,mA,ec,rfl,e1,ho,k⟩:=lZ I (ei ▸ da) es
 obtain ⟨hp,g,dr,t,os⟩:=s
 have hC':=I.base _ _ hC
 refine store_attr PySem.F.store_object hC'.1 (kI I hN) g3 (g4 f) (gi f) (fun q=>hC'.2 (.inr (q ▸ eU ec (.head _)))) ho.inst (fun h' tk' I' hkeep hsame=>?_) (wK ho.only) (by rw [sizeLine_eq];show 3≤_;decide)
 obtain ⟨hext,ho',he⟩:=tO ho I' hkeep hsame (Gu ho.only)
 obtain ⟨st,mk⟩:=I.set (ks:=ks) ec (x:=c.d) (.tail _ (.head _)) hext he hk
 exact hq ⟨h',g,dr,tk',os⟩ st (mk _ ⟨e1,_,ho',tW (fun f d hl=>(k f d hl).imp fun _ q=>⟨q.1,Den.step st q.2⟩) (Den.step st dv)⟩) ⟨rfl,rfl,rfl⟩
end
end Mine.Internal
end
section
namespace Mine.Internal
open PySem PySem.W PySem.Calls PyProof.Rows PyProof.V
section
variable {prog:Program} {w:World} {B:Heap} {mg mb:Str->Option Value} {E:Ev} {A:Around} {cx:Cx} {env:Env} {outer:List Env} {L:Addr} {dp:Nat} {fr₀ fr ks:List Addr} {ρ ρ':Loc} {γ γ₁:Gam} {σ:Sto} {s s₁:Shared} {z:Bool} {K:Frag}
theorem oj {r:R (Fl × Loc)} {o:D} {a:Fa} {d:D} (hr:r=j4 σ o a (some d) ρ) (h:r ≠ .no):∃ σ',bw σ o a d=some σ'∧r=.ok (.next,ρ) σ':=by
 unfold j4 at hr
 dsimp only at hr
 cases e:bw σ o a d with
 | none=>rw [e] at hr;exact absurd hr h
 | some σ'=>rw [e] at hr;exact ⟨σ',rfl,hr⟩
theorem nh {r:R (Fl × Loc)} {o i d:D} (hr:r=jv σ o i d ρ) (h:r ≠ .no):∃ σ',cR σ o i d=some σ'∧r=.ok (.next,ρ) σ':=by
 unfold jv at hr
 cases e:cR σ o i d with
 | none=>rw [e] at hr;exact absurd hr h
 | some σ'=>rw [e] at hr;exact ⟨σ',rfl,hr⟩
theorem Ib (W:cL B) (S:Sound prog w B E) (F:Fc A cx env outer L dp) (P:Pre prog w B cx env outer L fr₀ ρ γ σ s.heap) (n:Nat) (o:Expr) (name:Str) (p:Pos) (f:Fa) (v:Expr) (pos:Pos) (hf:sW name=some f) (h:aG E dp ρ (.asgA (aa n cx o) f (aa n cx v)) σ ≠ .no) :
  WS prog w B cx L fr₀ A (exec (.Assign [.Attribute o name p] v pos) env) s γ (aG E dp ρ (.asgA (aa n cx o) f (aa n cx v)) σ):=by
 obtain rfl:=jg hf
 refine dI h fun r hr h=>?_
 refine plainObj_wpAny_Assign_Attribute (bB S F P n v hr h fun u d σ₁ γ₁ s₁ st P₁ rs hd er=>?_) (by cases v <;> rfl)
 refine iK S F st rs P₁ n o er h fun ov a σ₂ γ₂ s₂ st₂ st₂' P₂ rs₂ ha er₂=>?_
 obtain ⟨σ₃,hs,er₂⟩:=oj er₂ h
 exact AA (ks:=L :: fr₀) W P₂.inv ha (Den.step st₂' hd) (fun _ h=>h) hs fun s₃ st₃ I₃ rs₃=>fL er₂ ((st₂.trans st₃).weaken b8) (P₂.step st₃ I₃) (rs₂.trans rs₃)
inductive FW (a b d:D):Op->Prop where
 | add (x y:Int) (h1:a=.int x) (h2:b=.int y) (h3:d=.int (x+y)):FW a b d .add
 | sub (x y:Int) (h1:a=.int x) (h2:b=.int y) (h3:d=.int (x - y)):FW a b d .sub
theorem G9 {o:Op} {a b d:D} (e:oR o a b=some d):FW a b d o:=by
 cases a with
 | int x=>cases b with
  | int y=>cases o with
   | add=>exact .add x y rfl rfl (Option.some.inj e).symm
   | sub=>exact .sub x y rfl rfl (Option.some.inj e).symm
   | _=>exact nn e
  | _=>cases o <;> exact nn e
 | _=>cases o <;> exact nn e
noncomputable def isAdd:Op->Bool
 | .add=>true
 | _=>false
noncomputable def LZ:Op->Bool
 | .sub=>true
 | _=>false
theorem HU {op:Operator} (h:rq op=some .add):op=.Add:=by
 cases op with
 | Add=>rfl
 | _=>exact nb (congrArg (fun (o:Option Op)=>isAdd (o.getD .mul)) h)
theorem HV {op:Operator} (h:rq op=some .sub):op=.Sub:=by
 cases op with
 | Sub=>rfl
 | _=>exact nb (congrArg (fun (o:Option Op)=>LZ (o.getD .mul)) h)
theorem BB {op:Operator} {o:Op} (h:rq op=some o) {u v:Value} {a b d:D} {hh:Heap} (da:Den prog w hh fr γ u a) (db:Den prog w hh fr γ v b) (e:oR o a b=some d) {Q E':Value->Shared->Prop}
  (hq:∀ r,(∀ h₁ fr₁ γ₁,Den prog w h₁ fr₁ γ₁ r d)->Q r { s with toks:=s.toks+1 }):wpAny (model prog w) A (inplaceOp op u v) Q E' s:=by
 rcases G9 e with ⟨x,y,rfl,rfl,rfl⟩ | ⟨x,y,rfl,rfl,rfl⟩
 ·obtain ⟨t,rfl⟩:=da.int_at
  obtain ⟨t',rfl⟩:=db.int_at
  rw [HU h]
  exact PyProof.Rows.iadd_int (hq _ fun _ _ _=>.int _ _)
 ·obtain ⟨t,rfl⟩:=da.int_at
  obtain ⟨t',rfl⟩:=db.int_at
  rw [HV h]
  exact PyProof.Rows.isub_int (hq _ fun _ _ _=>.int _ _)
theorem yt {r:R (Fl × Loc)} {a:D} {f:Fa} {k:D->Sto->R (Fl × Loc)} (hr:r=(match iH σ a f with | some old=>k old σ | Option.none=>.no)) (h:r ≠ .no):∃ old,iH σ a f=some old∧r=k old σ:=by
 cases e:iH σ a f with
 | none=>rw [e] at hr;exact absurd hr h
 | some d=>rw [e] at hr;exact ⟨d,rfl,hr⟩
theorem yv {r:R (Fl × Loc)} {a:D} {f:Fa} {o:Option D} (hr:r=j4 σ a f o ρ) (h:r ≠ .no):∃ d,o=some d∧r=j4 σ a f (some d) ρ:=by
 cases o with
 | none=>exact absurd hr h
 | some d=>exact ⟨d,rfl,hr⟩
theorem Ie (W:cL B) (S:Sound prog w B E) (F:Fc A cx env outer L dp) (P:Pre prog w B cx env outer L fr₀ ρ γ σ s.heap) (n:Nat) (o:Expr) (name:Str) (p:Pos) (op:Operator) (o':Op) (f:Fa) (v:Expr) (pos:Pos) (hf:sW name=some f) (hop:rq op=some o') (h:aG E dp ρ (.augA (aa n cx o) f o' (aa n cx v)) σ ≠ .no) :
  WS prog w B cx L fr₀ A (exec (.AugAssign (.Attribute o name p) op v pos) env) s γ (aG E dp ρ (.augA (aa n cx o) f o' (aa n cx v)) σ):=by
 obtain rfl:=jg hf
 refine dI h fun r hr h=>?_
 refine wpAny_AugAssign_AttributeAny (bB S F P n o hr h fun u a σ₁ γ₁ s₁ st P₁ rs ha er=>?_)
 obtain ⟨old,hat,er⟩:=yt (k:=fun old σ=>(E.x dp ρ (aa n cx v) σ).bind fun v σ=>j4 σ a f (oR o' old v) ρ) er h
 refine wpAny_mono (yq (A:=A) (ks:=L :: fr₀) W P₁.inv ha hat) (fun vo s₂ q=>?_) fun _ _ q=>by obtain ⟨_,_,e,_⟩:=q;cases e
 obtain ⟨old',σ₂,γ₂,e2,st₂,I₂,rs₂,hold⟩:=q
 cases e2
 refine iK S F (st.trans st₂) (rs.trans rs₂) (P₁.step st₂ I₂) n v er h fun vv d σ₃ γ₃ s₃ st₃ st₃' P₃ rs₃ hd er₃=>?_
 obtain ⟨d',hau,er₃⟩:=yv er₃ h
 obtain ⟨σ₄,hs,er₄⟩:=oj er₃ h
 refine BB hop (Den.step st₃' hold) hd hau fun r hr=>?_
 exact AA (ks:=L :: fr₀) W (s:={ s₃ with toks:=s₃.toks+1 }) P₃.inv (Den.step st₃' (Den.step st₂ ha)) (hr _ _ _) (fun _ h=>h) hs fun s₄ st₄ I₄ rs₄=>fL er₄ ((st₃.trans st₄).weaken b8) (P₃.step st₄ I₄) (rs₃.trans rs₄)
theorem nk {l:Addr} {vs:List Value} {k:Int} {t:Tok} {v:Value} {Q:Unit->Shared->Prop} {E':Value->Shared->Prop} (hp:PlainL s.heap l vs) (h0:0≤k) (hfit:k < 2 ^ 63) (hn:k < vs.length)
  (hQ:∀ h',PlainL h' l (vs.set k.toNat v)->Heap.SameBut l s.heap h'->Q () { s with heap:=h' }):wpAny (model prog w) A (setItem (.ref l) (.int k t) v) Q E' s:=by
 obtain ⟨n,ho⟩:=id hp
 have hl:=hp.isList
 unfold setItem
 try with_reducible refine wpAny_holding ?_
 first | refine wpAny_bind (wpAny_pure ?_) | skip
 refine wpAny_bind (wpAny_sequenceKey hl.typeIs (by decide) ?_)
 refine wpAny_bind (wpAny_callSpecial?_slot (name := Str.ofString "__setitem__") hl.typeIs slot_list_setitem
  (wpAny_call_entry slot_list_setitem hl.typeIs entry_list_setitem ?_ (args_list_setitem _ _ _)))
 show wpAny _ _ (Builtin.List.listSubscript? (.int k t) >>= _) _ _ s
 refine wpAny_bind (wpAny_listSubscript_int (fitsIndex_of h0 hfit) ?_)
 clear hfit
 obtain ⟨j,rfl⟩:=Int.eq_ofNat_of_zero_le h0
 have hj:j < vs.length:=Int.ofNat_lt.mp hn
 have hx:vs.toArray[j]?=some vs[j]:=by simp [hj]
 show wpAny _ _ ((seqItemAt l j >>= fun r=>pure (r.map (j,·))) >>= _) _ _ s
 refine wpAny_bind (wpAny_bind (wpAny_seqItemAt ho rfl (wpAny_pure ?_)))
 rw [hx]
 show wpAny _ _ (setSeqItemAt l j v >>= _) _ _ s
 have hfin:PlainL (s.heap.update l (Obj.mapSeq (·.setIfInBounds j v))) l (vs.set j v):=by
  have e : Obj.mapSeq (·.setIfInBounds j v) ({ cls := .type "list", dict := none, data := .seq vs.toArray n, slots := #[] } : Obj) = { cls := .type "list", dict := none, data := .seq (vs.set j v).toArray n, slots := #[] } := by
   simp [Obj.mapSeq]
  exact ⟨n,(Heap.get?_update_self _ ho (by rw [e];rfl)).trans (by rw [e])⟩
 refine wpAny_bind (wpAny_setSeqItemAt ho rfl ?_)
 first
  | exact wpAny_bind (wpAny_pure (wpAny_pure ⟨.none,rfl,wpAny_pure (hQ _ hfin (Heap.SameBut.update ..))⟩))
  | exact wpAny_pure ⟨.none,rfl,wpAny_pure (hQ _ hfin (Heap.SameBut.update ..))⟩
inductive EW (σ:Sto) (d:D):D->D->Sto->Prop where
 | mk (j k:Nat) (es:List D) (ej:σ[j]?=some (.lst es)) (h1:Nat.blt k es.length=true) (h2:Nat.ble es.length lim=true):EW σ d (.cell j) (.int (Int.ofNat k)) (σ.set j (.lst (es.set k d)))
theorem GU {a b d:D} {σ':Sto} (e:cR σ a b d=some σ'):EW σ d a b σ':=by
 cases a with
 | cell j=>cases b with
  | int i=>cases i with
   | ofNat k =>
    replace e:(match σ[j]? with | some (.lst ds)=>if Nat.blt k ds.length && Nat.ble ds.length lim then some (σ.set j (.lst (ds.set k d))) else Option.none | _=>Option.none)=some σ':=e
    cases ej:σ[j]? with
    | none=>rw [ej] at e;exact nn e
    | some c=>cases c with
     | lst es =>
      rw [ej] at e
      replace e:(if Nat.blt k es.length && Nat.ble es.length lim then some (σ.set j (.lst (es.set k d))) else Option.none)=some σ':=e
      cases hc:Nat.blt k es.length && Nat.ble es.length lim with
      | false=>rw [hc] at e;exact nn e
      | true=>rw [hc] at e;exact Option.some.inj e ▸ .mk j k es ej (ak hc).1 (ak hc).2
     | _=>rw [ej] at e;exact nn e
   | negSucc=>exact nn e
  | _=>exact nn e
 | _=>exact nn e
theorem u5 {ov iv v:Value} {a b d:D} {σ':Sto} (I:Inv prog w B (L :: fr₀) γ σ s.heap) (ha:Den prog w s.heap (L :: fr₀) γ ov a) (hb:Den prog w s.heap (L :: fr₀) γ iv b) (hd:Den prog w s.heap (L :: fr₀) γ v d) (e:cR σ a b d=some σ') {Q:Unit->Shared->Prop} {E':Value->Shared->Prop}
  (hq:∀ h',Step (L :: fr₀) (L :: fr₀) s.heap γ h' γ->Inv prog w B (L :: fr₀) γ σ' h'->Q () { s with heap:=h' }):wpAny (model prog w) A (setItem ov iv v) Q E' s:=by
 obtain ⟨j,k,es,ej,h1,h2⟩:=GU e
 obtain ⟨c,us,ec,rfl,hp,hdd,e1,e2⟩:=cI I ha ej
 obtain ⟨t,rfl⟩:=hb.int_at
 have hk:k < us.length:=hdd.length ▸ Nat.le_of_ble_eq_true h1
 refine nk hp (Int.natCast_nonneg k) (F7 (Nat.le_trans (Nat.le_of_lt (Nat.le_of_ble_eq_true h1)) (bk h2))) (Int.ofNat_lt.mpr hk) fun h' hp' hs'=>?_
 obtain ⟨st₄,I₄⟩:=fk (ks:=L :: fr₀) I ec e1 e2 (fun _ h=>h) hs' hp' (hdd.set hd k)
 exact hq h' st₄ I₄
theorem Ic (S:Sound prog w B E) (F:Fc A cx env outer L dp) (P:Pre prog w B cx env outer L fr₀ ρ γ σ s.heap) (n:Nat) (o i:Expr) (p:Pos) (v:Expr) (pos:Pos) (h:aG E dp ρ (.asgS (aa n cx o) (aa n cx i) (aa n cx v)) σ ≠ .no) :
  WS prog w B cx L fr₀ A (exec (.Assign [.Subscript o i p] v pos) env) s γ (aG E dp ρ (.asgS (aa n cx o) (aa n cx i) (aa n cx v)) σ):=by
 refine dI h fun r hr h=>?_
 refine wpAny_Assign_Subscript (bB S F P n v hr h fun u d σ₁ γ₁ s₁ st P₁ rs hd er=>?_) (by cases v <;> rfl)
 refine iK S F st rs P₁ n o er h fun ov a σ₂ γ₂ s₂ st₂ st₂' P₂ rs₂ ha er₂=>?_
 refine iK S F st₂ rs₂ P₂ n i er₂ h fun iv b σ₃ γ₃ s₃ st₃ st₃' P₃ rs₃ hb er₃=>?_
 obtain ⟨σ₄,hs,er₄⟩:=nh er₃ h
 exact u5 P₃.inv (Den.step st₃' ha) hb (Den.step st₃' (Den.step st₂' hd)) hs fun h' st₄ I₄=>fL (s':={ s₃ with heap:=h' }) er₄ ((st₃.trans st₄).weaken b8) (P₃.step st₄ I₄) (Rest.trans rs₃ .refl)
end
end Mine.Internal
end
section
namespace Mine.Internal
open PySem PySem.W PySem.Calls PyProof.Rows PyProof.V
section
variable {prog:Program} {w:World} {B:Heap} {mg mb:Str->Option Value} {E:Ev} {A:Around} {cx:Cx} {env:Env} {outer:List Env} {L:Addr} {dp:Nat} {fr₀ fr ks:List Addr} {ρ ρ':Loc} {γ γ₁:Gam} {σ:Sto} {s s₁:Shared} {z:Bool} {K:Frag}
theorem uv {test:Expr} {body:List Stmt} {Rs:Result->Shared->Prop}
  (h:wpAny (model prog w) A (isTrue test env (eval test env)) (fun b s₁=>if b then wpAny (model prog w) A (execs body env) (fun f s₂=>match f with
    | .next | .cont=>codeAny (model prog w) A (.whileLoop test body [] env) Rs s₂
    | .brk=>Rs (.ok .next) s₂
    | .ret v=>Rs (.ok (.ret v)) s₂) (notedBy (model prog w) A env fun e s'=>Rs (.error e) s') s₁ else Rs (.ok .next) s₁) (notedBy (model prog w) A env fun e s'=>Rs (.error e) s') s) :
  codeAny (model prog w) A (.whileLoop test body [] env) Rs s:=by
 refine codeAny_of_tree ?_
 show wpAny _ _ ((whileTurn test body [] env).onRaise (fun x=>do noteFrame x env;theTreesLotGoes x)) _ _ s
 refine wpAny_noted ?_
 unfold whileTurn
 refine wpAny_bind (wpAny_mono h (fun b s₁ h₁=>?_) fun _ _ q=>q)
 cases b with
 | false=>exact wpAny_bind (wpAny_execs_nil (wpAny_pure h₁))
 | true =>
  refine wpAny_bind (wpAny_mono h₁ (fun f s₂ h₂=>?_) fun _ _ q=>q)
  cases f with
  | next=>exact wpAny_pure (And.intro rfl h₂)
  | cont=>exact wpAny_pure (And.intro rfl h₂)
  | brk=>exact wpAny_pure h₂
  | ret v=>exact wpAny_pure h₂
theorem zf {target:Expr} {it:Value} {body:List Stmt} {Rs:Result->Shared->Prop}
  (h:wpAny (model prog w) A (pyNext it) (fun r s₁=>match r with
   | none=>Rs (.ok .next) s₁
   | some v=>wpAny (model prog w) A (letOwnedTupleGo target it v) (fun _ s₁' =>
     wpAny (model prog w) A (assign target env v) (fun _ s₂=>wpAny (model prog w) A (execs body env) (fun f s₃=>match f with
      | .next | .cont=>codeAny (model prog w) A (.forLoop target it body [] env) Rs s₃
      | .brk=>Rs (.ok .next) s₃
      | .ret v=>Rs (.ok (.ret v)) s₃) (notedBy (model prog w) A env fun e s'=>Rs (.error e) s') s₂) (notedBy (model prog w) A env fun e s'=>Rs (.error e) s') s₁') (notedBy (model prog w) A env fun e s'=>Rs (.error e) s') s₁)
   (notedBy (model prog w) A env fun e s'=>Rs (.error e) s') s) :
  codeAny (model prog w) A (.forLoop target it body [] env) Rs s:=by
 refine codeAny_of_tree ?_
 show wpAny _ _ ((forTurn target it body [] env).onRaise (fun x=>do noteFrame x env;theTreesLotGoes x)) _ _ s
 refine wpAny_noted ?_
 unfold forTurn
 refine wpAny_bind (wpAny_standAt (wpAny_bind (wpAny_onRaise (wpAny_mono h (fun r s₁ h₁=>?_) fun _ _ h'=>wpAny_standAt h'))))
 cases r with
 | none=>exact wpAny_pure (And.intro rfl (codeAny_block (wpAny_execs_nil h₁)))
 | some v =>
  refine wpAny_bind (wpAny_mono h₁ (fun _ s₁' h₁'=>?_) fun _ _ h'=>h')
  refine wpAny_bind (wpAny_mono h₁' (fun _ s₂ h₂=>wpAny_bind (wpAny_mono h₂ (fun f s₃ h₃=>?_) fun _ _ h'=>h')) fun _ _ h'=>h')
  cases f with
  | next=>exact wpAny_pure (And.intro rfl h₃)
  | cont=>exact wpAny_pure (And.intro rfl h₃)
  | brk=>exact wpAny_pure h₃
  | ret v=>exact wpAny_pure h₃
theorem Fc.frameL (F:Fc A cx env outer L dp):env.frame=some L:=by
 obtain ⟨name,a,cd,h⟩:=F.envEq
 rw [h];rfl
noncomputable def qu (prog:Program) (w:World) (B:Heap) (L:Addr) (fr₀:List Addr) (s:Shared) (γ:Gam) (r:R (Fl × Loc)):Value->Shared->Prop :=
 fun e s'=>∃ σ' γ',r=.err σ'∧Step (L :: fr₀) fr₀ s.heap γ s'.heap γ'∧Inv prog w B (L :: fr₀) γ' σ' s'.heap∧Rest s s'∧iF s.heap (some L) e s'.heap
theorem iF.mono {h₀ h₁:Heap} {fl:Option Addr} {e:Value} {h:Heap} (x:iF h₁ fl e h) (hm:eB h₀ h₁):iF h₀ fl e h:=by
 obtain ⟨a,oe,vs,rfl,h1,h2,h3,h4,T,oT,ts,k1,k2,k3⟩:=x
 exact ⟨a,oe,vs,rfl,hm.none h1,h2,h3,h4,T,oT,ts,k1,hm.none k2,k3⟩
theorem qu.trans {σ₁:Sto} {r:R (Fl × Loc)} {v:Value} {s':Shared} (x:Step (L :: fr₀) fr₀ s.heap γ s₁.heap γ₁) (I:Inv prog w B (L :: fr₀) γ₁ σ₁ s₁.heap) (y:Rest s s₁) (p:qu prog w B L fr₀ s₁ γ₁ r v s'):qu prog w B L fr₀ s γ r v s':=by
 obtain ⟨σ',γ',e,st,inv,rs,ex⟩:=p
 exact ⟨σ',γ',e,x.trans st,inv,y.trans rs,ex.mono (x.older I)⟩
theorem jt (F:Fc A cx env outer L dp) (P:Pre prog w B cx env outer L fr₀ ρ γ σ s.heap) {γ':Gam} {σ':Sto} {h':Heap} (st:Step (L :: fr₀) fr₀ s.heap γ h' γ') (I:Inv prog w B (L :: fr₀) γ' σ' h'):dj h' (env :: outer) (L :: fr₀):=by
 obtain ⟨⟨hk,⟨L',o,hf,hn,ho,hd⟩,hr⟩,hs⟩:=P.out
 have:L=L':=Option.some.inj (F.frameL.symm.trans hf)
 subst this
 obtain ⟨o',ho',hd'⟩:=I.ex L (.inl (.head _))
 exact ⟨⟨hk,⟨L,o',hf,hn,ho',hd'⟩,b9 hr fun a ha=>st.frames a (P.outs a ha)⟩,hs⟩
theorem o5 (F:Fc A cx env outer L dp) (P:Pre prog w B cx env outer L fr₀ ρ γ σ s.heap) {γ':Gam} {σ':Sto} {h':Heap} (st:Step (L :: fr₀) fr₀ s.heap γ h' γ') (I:Inv prog w B (L :: fr₀) γ' σ' h') (hl:gU prog w h' (L :: fr₀) γ' cx L ρ') :
  Pre prog w B cx env outer L fr₀ ρ' γ' σ' h':=⟨hl,I,jt F P st I,P.notin,P.outs⟩
theorem vj (F:Fc A cx env outer L dp) (P:Pre prog w B cx env outer L fr₀ ρ γ σ s.heap) {r:R (Fl × Loc)} {e:Value} {s':Shared} {Q:Value->Shared->Prop} (p:cY prog w B L fr₀ s γ r e s')
  (hq:∀ s'',qu prog w B L fr₀ s γ r e s''->Q e s''):notedBy (model prog w) A env Q e s':=by
 obtain ⟨fl,hfl,σ',γ',er,st,I,rs,ex⟩:=p
 have out:=jt F P st I
 have hsub:∀ a ∈ frs (env :: outer),a ∈ L :: fr₀:=out.2
 refine fD F.frames F.frameL out.1 ex hfl (st.older I) fun h' q t=>?_
 exact hq _ ⟨σ',γ',er,st.quiet q hsub,I.quiet q hsub (fun b o e=>⟨o,(P.inv.base b o e).1⟩),rs,t⟩
theorem jH (F:Fc A cx env outer L dp) (P:Pre prog w B cx env outer L fr₀ ρ γ σ s.heap) {r:R (Fl × Loc)} {e:Value} {s':Shared} (p:qu prog w B L fr₀ s γ r e s'):cameBackBy (model prog w) A env (cY prog w B L fr₀ s γ r) e s':=by
 obtain ⟨σ',γ',er,st,I,rs,t⟩:=p
 obtain ⟨a,oe,vs,rfl,h1,h2,h3,h4,T,oT,ts,k1,k2,k3,k4,k5,k6⟩:=id t
 unfold cameBackBy
 refine wpAny_bind (wpAny_field h2 h4 k1 ?_)
 rw [if_neg (show ¬ ((Value.ref T == Value.none)=true) from by simp)]
 rw [F.frameL]
 refine dg (fs:=[]) (n:=s.heap) t (fun _ h=>nomatch h) fun h' q t'=>?_
 exact ⟨some L,.inr rfl,σ',γ',er,st.quiet q (fun _ h=>nomatch h),I.quiet q (fun _ h=>nomatch h) (fun b o e=>⟨o,(P.inv.base b o e).1⟩),rs,t'.exc⟩
theorem cY.bind {r:R (Fl × Loc)} {k:Fl × Loc->Sto->R (Fl × Loc)} {e:Value} {s':Shared} (p:cY prog w B L fr₀ s γ r e s'):cY prog w B L fr₀ s γ (r.bind k) e s':=by
 obtain ⟨fl,h,p⟩:=p
 exact ⟨fl,h,p.bind⟩
noncomputable def dh (prog:Program) (w:World) (B:Heap) (cx:Cx) (L:Addr) (fr₀:List Addr) (s:Shared) (γ:Gam) (r:R (Fl × Loc)):Result->Shared->Prop:=fun res s'=>match res with
 | .ok f=>Post prog w B (L :: fr₀) fr₀ s γ (FlR prog w cx L fr₀) r f s'
 | .error e=>qu prog w B L fr₀ s γ r e s'
theorem dh.trans {σ₁:Sto} {r:R (Fl × Loc)} {v:Result} {s':Shared} (x:Step (L :: fr₀) fr₀ s.heap γ s₁.heap γ₁) (I:Inv prog w B (L :: fr₀) γ₁ σ₁ s₁.heap) (y:Rest s s₁) (p:dh prog w B cx L fr₀ s₁ γ₁ r v s'):dh prog w B cx L fr₀ s γ r v s':=by
 cases v with
 | ok f=>exact Post.trans x y p
 | error e=>exact qu.trans x I y p
noncomputable def rO (kn:Loc->Sto->R (Fl × Loc)) (p:Fl × Loc) (σ:Sto):R (Fl × Loc):=match p.1 with
 | .next=>kn p.2 σ
 | .brk=>.ok (.next,p.2) σ
 | .ret d=>.ok (.ret d,p.2) σ
theorem nQ (S:Sound prog w B E) (F:Fc A cx env outer L dp) {σ₁:Sto} {ρ₁:Loc} (st:Step (L :: fr₀) fr₀ s.heap γ s₁.heap γ₁) (rs:Rest s s₁) (P:Pre prog w B cx env outer L fr₀ ρ₁ γ₁ σ₁ s₁.heap) (k:Nat) (ss:List Stmt) {kn:Loc->Sto->R (Fl × Loc)} {r:R (Fl × Loc)} {c:Code}
  (hr:r=(E.b dp ρ₁ (ss.map (aF k cx)) σ₁).bind (rO kn)) (h:r ≠ .no)
  (hn:∀ ρ₂ σ₂ γ₂ s₂,Step (L :: fr₀) fr₀ s.heap γ s₂.heap γ₂->Step (L :: fr₀) fr₀ s₁.heap γ₁ s₂.heap γ₂->Pre prog w B cx env outer L fr₀ ρ₂ γ₂ σ₂ s₂.heap->Rest s s₂->r=kn ρ₂ σ₂->codeAny (model prog w) A c (dh prog w B cx L fr₀ s γ r) s₂) :
  wpAny (model prog w) A (execs ss env) (fun f s₃=>match f with
   | .next | .cont=>codeAny (model prog w) A c (dh prog w B cx L fr₀ s γ r) s₃
   | .brk=>dh prog w B cx L fr₀ s γ r (.ok .next) s₃
   | .ret v=>dh prog w B cx L fr₀ s γ r (.ok (.ret v)) s₃) (notedBy (model prog w) A env fun e s'=>dh prog w B cx L fr₀ s γ r (.error e) s') s₁:=by
 refine wpAny_mono (S.sb k ss F P (R.of_bind (hr ▸ h))) (fun f s₂ q=>?_) fun e s' q=>vj F P (hr ▸ q.bind) fun s'' x=>qu.trans st P.inv rs x
 obtain ⟨⟨fl,ρ₂⟩,σ₂,γ₂,er₂,st₂,I₂,rs₂,hf,hl⟩:=q
 have er:r=rO kn (fl,ρ₂) σ₂:=hr.trans (congrArg (·.bind (rO kn)) er₂)
 cases fl with
 | next =>
  obtain rfl:f=.next:=hf
  exact hn ρ₂ σ₂ γ₂ s₂ (st.trans st₂) st₂ (o5 F P st₂ I₂ hl) (rs.trans rs₂) er
 | brk =>
  obtain rfl:f=.brk:=hf
  exact er ▸ Post.ok (st.trans st₂) I₂ (rs.trans rs₂) ⟨rfl,hl⟩
 | ret d =>
  obtain ⟨v,rfl,hf⟩:=hf
  exact er ▸ Post.ok (st.trans st₂) I₂ (rs.trans rs₂) ⟨⟨v,rfl,hf⟩,hl⟩
theorem v7 {c:Code} {r₀:R (Fl × Loc)} (h:r₀ ≠ .no) (k:∀ r,r=r₀->r ≠ .no->codeAny (model prog w) A c (dh prog w B cx L fr₀ s γ r) s₁):codeAny (model prog w) A c (dh prog w B cx L fr₀ s γ r₀) s₁:=k r₀ rfl h
theorem E9 (S:Sound prog w B E) (F:Fc A cx env outer L dp) (P:Pre prog w B cx env outer L fr₀ ρ γ σ s.heap) (k:Nat) (c:Expr) (ss:List Stmt) (h:rG E dp ρ (aa k cx c) (ss.map (aF k cx)) σ ≠ .no) :
  codeAny (model prog w) A (.whileLoop c ss [] env) (dh prog w B cx L fr₀ s γ (rG E dp ρ (aa k cx c) (ss.map (aF k cx)) σ)) s:=by
 refine v7 h fun r hr h=>?_
 have hr:r=(E.t dp ρ (aa k cx c) σ).bind fun t σ=>if t then (E.b dp ρ (ss.map (aF k cx)) σ).bind (rO fun ρ σ=>E.w dp ρ (aa k cx c) (ss.map (aF k cx)) σ) else .ok (.next,ρ) σ:=hr
 refine uv (wpAny_mono (S.st k c F P (R.of_bind (hr ▸ h))) (fun t s₁ q=>?_) fun e s' q=>vj F P (hr ▸ aP.toS q.bind) fun s'' x=>x)
 obtain ⟨t',σ₁,γ₁,er,st,I,rs,ht⟩:=q
 obtain rfl:t=t':=ht
 have st':=st.weaken (b8 (L:=L))
 have P₁:=P.step st I
 rw [er] at hr
 cases t with
 | false =>
  obtain rfl:r=.ok (.next,ρ) σ₁:=hr
  exact Post.ok st' I rs ⟨rfl,P₁.loc⟩
 | true =>
  exact nQ S F st' rs P₁ k ss hr h fun ρ₂ σ₂ γ₂ s₂ stA _ P₂ rs₂ er₂=>by
   subst er₂
   exact codeAny_mono (S.sw k c ss F P₂ h) fun res s' q=>dh.trans (cx:=cx) stA P₂.inv rs₂ q
theorem DT (S:Sound prog w B E) (F:Fc A cx env outer L dp) (P:Pre prog w B cx env outer L fr₀ ρ γ σ s.heap) (n:Nat) (c:Expr) (ss:List Stmt) (pos:Pos) (h:aG E dp ρ (.whl (aa n cx c) (ss.map (aF n cx))) σ ≠ .no) :
  WS prog w B cx L fr₀ A (exec (.While c ss [] pos) env) s γ (aG E dp ρ (.whl (aa n cx c) (ss.map (aF n cx))) σ):=by
 simp only [aG] at h ⊢
 refine wpAny_While (codeAny_mono (S.sw n c ss F P h) fun res s' q=>?_)
 cases res with
 | ok f=>exact q
 | error e=>exact jH F P q
end
end Mine.Internal
end
section
namespace Mine.Internal
open PySem PySem.W PySem.Calls PyProof.Rows PyProof.V
section
variable {prog:Program} {w:World} {B:Heap} {mg mb:Str->Option Value} {E:Ev} {A:Around} {cx:Cx} {env:Env} {outer:List Env} {L:Addr} {dp:Nat} {fr₀ fr ks:List Addr} {ρ ρ':Loc} {γ γ₁:Gam} {σ:Sto} {s s₁:Shared} {z:Bool} {K:Frag}
noncomputable def uA (h : Heap) (it : Addr) : Prop := ∃ o n vs, h.get? it = some o ∧ o.cls = .type n ∧ n ∈ ["tuple_iterator", "list_iterator", "range_iterator"] ∧ o.data = .fields vs
theorem bS.obj {h:Heap} {it:Addr} {ds:List D} (x:bS prog w h fr γ it ds):uA h it:=by
 cases x with
 | tup hi _ _ _ _=>obtain ⟨o,ho,hc,hd⟩:=hi;exact ⟨o,_,_,ho,hc,by simp,hd⟩
 | lst hi _ _ _ _ _=>obtain ⟨o,ho,hc,hd⟩:=hi;exact ⟨o,_,_,ho,hc,by simp,hd⟩
 | rng hi=>exact ⟨_,_,_,hi,rfl,by simp,rfl⟩
theorem o4 {es:List Expr} {k:Nat} {p:Pos} {it:Addr} {v:Value} {Q:Unit->Shared->Prop} {E':Value->Shared->Prop} (x:uA s.heap it) (hq:Q () s):wpAny (model prog w) A (letOwnedTupleGo (.Tuple es k p) (.ref it) v) Q E' s:=by
 obtain ⟨o,n,vs,ho,hc,hm,hd⟩:=x
 have hn : (["enumerate", "zip", "dict_itemiterator", "dict_reverseitemiterator", "odict_iterator", "itertools.zip_longest", "itertools.pairwise"].contains n) = false := by
  simp only [List.mem_cons,List.not_mem_nil,or_false] at hm
  rcases hm with rfl | rfl | rfl <;> decide
 cases v with
 | ref a =>
  show wpAny _ _ (load it >>= _) _ _ _
  refine wpAny_bind (wpAny_load ho ?_)
  rw [hc,hd]
  show wpAny _ A (if (_ && _)=true then _ else _) Q E' s
  rw [hn,Bool.false_and,if_neg (by decide)]
  exact wpAny_pure hq
 | _=>exact wpAny_pure hq
theorem qY {target:Expr} {it:Addr} {v:Value} {Q:Unit->Shared->Prop} {E':Value->Shared->Prop} (x:uA s.heap it) (hq:Q () s):wpAny (model prog w) A (letOwnedTupleGo target (.ref it) v) Q E' s:=by
 cases target with
 | Tuple es k p=>exact o4 x hq
 | List es p=>exact o4 (es:=[]) (k:=0) (p:=p) x hq
 | _=>exact wpAny_pure hq
theorem Ao {n h h':Heap} {it:Addr} (hn:n.get? it=none) (x:uA h it) (hs:Heap.ExtBut it h h'):Quiet n [] h h':=by
 refine ⟨fun a o e _ hq=>?_,fun _ h=>nomatch h⟩
 by_cases q:a=it
 ·subst q
  obtain ⟨o',nm,vs,ho,_,_,hd⟩:=x
  rw [e] at ho;cases ho
  rcases hq with ⟨_,hq⟩ | hq
  ·rw [hn] at hq;cases hq
  ·exact absurd hd (hq vs)
 ·exact hs a o q e
theorem n9 {i n:Nat}:((List.range (n+1)).map fun (j:Nat)=>D.int ((i+j:Nat):Int))=.int (i:Int) :: ((List.range n).map fun (j:Nat)=>D.int ((i+1+j:Nat):Int)):=by
 rw [List.range_succ_eq_map,List.map_cons,List.map_map]
 congr 1
 apply List.map_congr_left
 intro j _
 simp only [Function.comp,Nat.succ_eq_add_one]
 exact congrArg (fun z:Nat=>D.int z) (Nat.succ_add i j).symm
theorem xg (hh:A.handled=none) {n:Heap} {it:Addr} {ds:List D} {Q:Option Value->Shared->Prop} {E':Value->Shared->Prop} (x:bS prog w s.heap fr γ it ds) (hn:n.get? it=none)
  (h0:ds=[]->∀ h',Quiet n [] s.heap h'->Q none { s with heap:=h' })
  (h1:∀ d r,ds=d :: r->∀ v h' tk,Quiet n [] s.heap h'->Den prog w h' fr γ v d->bS prog w h' fr γ it r->Q (some v) { s with heap:=h',toks:=tk }):wpAny (model prog w) A (pyNext (.ref it)) Q E' s:=by
 have hobj:=x.obj
 have qt:∀ {h'},Heap.ExtBut it s.heap h'->Quiet n [] s.heap h':=fun hs=>Ao hn hobj hs
 cases x with
 | tup hi hT hne hsoft hd =>
  rename_i a vs i
  have hT':s.heap.IsTuple a vs.toArray:=let ⟨o,ho,hc,n,hd⟩:=hT;⟨o,ho,hc,n,hd⟩
  have hi':s.heap.IsTupleIter it a i:=hi
  cases hv:vs[i]? with
  | none =>
   have hle:vs.length≤i:=by simpa using hv
   rw [List.drop_eq_nil_of_le hle] at hd
   cases hd
   exact wpAny_pyNext_tuple_end hh hi' hT' (by simpa using hv) fun h' he=>h0 rfl h' (qt he)
  | some v =>
   have hlt:=(List.getElem?_eq_some_iff.mp hv).1
   have hdr:vs.drop i=v :: vs.drop (i+1):=by rw [List.drop_eq_getElem_cons hlt];rw [(List.getElem?_eq_some_iff.mp hv).2]
   rw [hdr] at hd
   cases hd with
   | cons dv dr =>
    refine wpAny_pyNext_tuple_item hi' hT' (by simpa using hv) fun h' hi₁ hs=>?_
    have q:=qt hs.extBut
    have hT₁:IsTup h' a vs.toArray:=by
     obtain ⟨o,ho,hc,k,hd⟩:=hT
     exact ⟨o,q.keep _ _ ho (fun h=>nomatch h) (.inr fun vs e=>by rw [hd] at e;cases e),hc,k,hd⟩
    exact h1 _ _ rfl v h' s.toks q (dv.quiet q (fun _ h=>nomatch h)) (.tup hi₁ hT₁ hne hsoft (dr.quiet q (fun _ h=>nomatch h)))
 | lst hi hL hne hsoft hd hsz =>
  rename_i a vs i
  cases hv:vs[i]? with
  | none =>
   have hle:vs.length≤i:=by simpa using hv
   rw [List.drop_eq_nil_of_le hle] at hd
   cases hd
   exact wpAny_pyNext_list_end hh hi hL (by simpa using hv) fun h' he=>h0 rfl h' (qt he)
  | some v =>
   have hlt:=(List.getElem?_eq_some_iff.mp hv).1
   have hdr:vs.drop i=v :: vs.drop (i+1):=by rw [List.drop_eq_getElem_cons hlt];rw [(List.getElem?_eq_some_iff.mp hv).2]
   rw [hdr] at hd
   cases hd with
   | cons dv dr =>
    refine wpAny_pyNext_list_item hi hL (by simpa using hv) fun h' hi₁ hs=>?_
    have q:=qt hs.extBut
    exact h1 _ _ rfl v h' s.toks q (dv.quiet q (fun _ h=>nomatch h)) (.lst hi₁ (pJ hL q (fun h=>nomatch h)) hne hsoft (dr.quiet q (fun _ h=>nomatch h)) hsz)
 | rng hi =>
  rename_i i k
  cases k with
  | zero=>exact wpAny_pyNext_range_end hh hi (by simp) fun h' he=>h0 rfl h' (qt he)
  | succ k =>
   refine wpAny_pyNext_range_item hi (Int.natCast_pos.mpr (Nat.succ_pos k)) fun h' hi₁ hs=>?_
   rw [show ((i:Int)+1)=((i+1:Nat):Int) from rfl,show (((k+1:Nat):Int) - 1)=((k:Nat):Int) from Int.add_sub_cancel (k:Int) 1] at hi₁
   refine h1 _ _ n9 _ h' _ (qt hs.extBut) (.int _ _) (.rng hi₁)
theorem bS.step {h h':Heap} {γ':Gam} {it:Addr} {ds:List D} (I:Inv prog w B fr γ σ h) (st:Step fr ks h γ h' γ') (x:bS prog w h fr γ it ds):bS prog w h' fr γ' it ds:=by
 have hobj:=x.obj
 obtain ⟨oi,nm,vsi,hoi,_,_,hdi⟩:=hobj
 have hnit:¬ aX fr γ it:=fun q=>by
  obtain ⟨o,e,hd⟩:=I.ex it q
  rw [hoi] at e;cases e
  exact hd _ hdi
 have hki:∀ o,h.get? it=some o->h'.get? it=some o:=fun o e=>(st.keep it o e hnit).1
 cases x with
 | tup hi hT hne hsoft hd =>
  obtain ⟨o,ho,r⟩:=hi
  obtain ⟨o2,ho2,r2⟩:=hT
  exact .tup ⟨o,hki _ ho,r⟩ ⟨o2,(st.keep _ _ ho2 hsoft).1,r2⟩ hne (st.soft ho2 hsoft) (hd.step st)
 | lst hi hL hne hsoft hd hsz =>
  obtain ⟨o,ho,r⟩:=hi
  obtain ⟨o2,ho2,r2⟩:=hL
  exact .lst ⟨o,hki _ ho,r⟩ ⟨o2,(st.keep _ _ ho2 hsoft).1,r2⟩ hne (st.soft ho2 hsoft) (hd.step st) hsz
 | rng hi=>exact .rng (hki _ hi)
theorem ju {n h':Heap} (P:Pre prog w B cx env outer L fr₀ ρ γ σ s.heap) (hB:∀ b o,B.get? b=some o->∃ o',n.get? b=some o') (q:Quiet n [] s.heap h'):Pre prog w B cx env outer L fr₀ ρ γ σ h':=by
 refine ⟨?_,P.inv.quiet q (fun _ h=>nomatch h) hB,⟨?_,P.out.2⟩,P.notin,P.outs⟩
 ·obtain ⟨m,⟨o,es,ep,ho,hd,r⟩,k⟩:=P.loc
  exact ⟨m,⟨o,es,ep,q.keep _ _ ho (fun h=>nomatch h) (.inr fun vs e=>by rw [hd] at e;cases e),hd,r⟩,fun i x d e1 e2=>let ⟨v,a,b⟩:=k i x d e1 e2;⟨v,a,b.quiet q (fun _ h=>nomatch h)⟩⟩
 ·refine b9 P.out.1 fun a ha o e=>⟨o.slots,?_⟩
  obtain ⟨_,o',ho',hd'⟩:=P.out.1.mem ha
  rw [e] at ho';cases ho'
  exact q.keep _ _ e (fun h=>nomatch h) (.inr hd')
theorem DY (S:Sound prog w B E) (F:Fc A cx env outer L dp) {s₀:Shared} {γ₀:Gam} (k:Nat) (tg:Expr) (t:Tg) (ss:List Stmt) (it:Addr) (ds:List D) (P:Pre prog w B cx env outer L fr₀ ρ γ σ s.heap) (ht:qk cx tg=some t)
  (st₀:Step (L :: fr₀) fr₀ s₀.heap γ₀ s.heap γ) (rs₀:Rest s₀ s) (hB:∀ b o,B.get? b=some o->∃ o',s₀.heap.get? b=some o') (hn:s₀.heap.get? it=none) (hi:bS prog w s.heap (L :: fr₀) γ it ds) (h:oq E dp ρ t ds (ss.map (aF k cx)) σ ≠ .no) :
  codeAny (model prog w) A (.forLoop tg (.ref it) ss [] env) (dh prog w B cx L fr₀ s₀ γ₀ (oq E dp ρ t ds (ss.map (aF k cx)) σ)) s:=by
 have nofr:∀ a ∈ ([]:List Addr),a ∈ L :: fr₀:=fun _ h=>nomatch h
 refine v7 h fun z hr hz=>?_
 refine zf (xg F.hand (n:=s₀.heap) hi hn (fun e h' q=>?_) fun d r e v h' tk q' dv hi'=>?_)
 ·subst e
  obtain rfl:z=.ok (.next,ρ) σ:=hr
  have P':=ju P hB q
  exact Post.ok (s':={ s with heap:=h' }) (st₀.quiet q nofr) P'.inv rs₀ ⟨rfl,P'.loc⟩
 ·subst e
  have hr:z=(match bW ρ t d with | some ρ=>(E.b dp ρ (ss.map (aF k cx)) σ).bind (rO fun ρ σ=>E.f dp ρ t r (ss.map (aF k cx)) σ) | Option.none=>.no):=hr
  cases ha:bW ρ t d with
  | none=>rw [ha] at hr;exact absurd hr hz
  | some ρ₁ =>
   rw [ha] at hr
   refine qY hi'.obj ?_
   refine nv (s:={ s with heap:=h',toks:=tk }) F ht (ju P hB q') dv ha fun s₂ st₂ P₂ rs₂=>?_
   exact nQ S F (Step.trans (st₀.quiet q' nofr) st₂) (Rest.trans rs₀ rs₂) P₂ k ss hr hz fun ρ₃ σ₃ γ₃ s₃ st st₃ P₃ rs er=>by
    subst er
    exact S.sf k tg t ss it r F P₃ ht st rs hB hn ((hi'.step (ju P hB q').inv st₂).step P₂.inv st₃) hz
end
end Mine.Internal
end
section
namespace Mine.Internal
open PySem PySem.W PySem.Calls PyProof.Rows PyProof.V
section
variable {prog:Program} {w:World} {B:Heap} {mg mb:Str->Option Value} {E:Ev} {A:Around} {cx:Cx} {env:Env} {outer:List Env} {L:Addr} {dp:Nat} {fr₀ fr ks:List Addr} {ρ ρ':Loc} {γ γ₁:Gam} {σ:Sto} {s s₁:Shared} {z:Bool} {K:Frag}
theorem lV (F:Fc A cx env outer L dp) (P:Pre prog w B cx env outer L fr₀ ρ γ σ s.heap) {σ₁:Sto} {r:R (Fl × Loc)} {c:Code} {s₂:Shared} (st:Step (L :: fr₀) fr₀ s.heap γ s₁.heap γ₁) (I:Inv prog w B (L :: fr₀) γ₁ σ₁ s₁.heap) (rs:Rest s s₁)
  (h:codeAny (model prog w) A c (dh prog w B cx L fr₀ s₁ γ₁ r) s₂) :
  codeAny (model prog w) A c (fun res s'=>match res with | .ok f=>Post prog w B (L :: fr₀) fr₀ s γ (FlR prog w cx L fr₀) r f s' | .error e=>cameBackBy (model prog w) A env (cY prog w B L fr₀ s γ r) e s') s₂ :=
 codeAny_mono h fun res s' q=>by
  have q':=dh.trans (cx:=cx) st I rs q
  cases res with
  | ok f=>exact q'
  | error e=>exact jH F P q'
theorem CF (S:Sound prog w B E) {it:Expr} {n:Nat} {k:D->Sto->R (Fl × Loc)} {r:R (Fl × Loc)} (hr:r=(E.x dp ρ (aa n cx it) σ).bind k) (h:r ≠ .no):isSet it=false:=by
 cases hs:isSet it with
 | false=>rfl
 | true =>
  rw [AB hs,S.su] at hr
  exact absurd hr h
theorem BU {r:R (Fl × Loc)} {d:D} {k:List D->R (Fl × Loc)} (hr:r=(match d with | .tup ds=>k ds | _=>.no)) (h:r ≠ .no):∃ ds,d=.tup ds∧r=k ds:=by
 cases d with
 | tup ds=>exact ⟨ds,rfl,hr⟩
 | _=>exact absurd hr h
theorem zJ (P:Pre prog w B cx env outer L fr₀ ρ γ σ s.heap) {u:Value} {ds:List D} (hd:Den prog w s.heap (L :: fr₀) γ u (.tup ds)) {Q E':Value->Shared->Prop}
  (hq:∀ h' it,s.heap.get? it=none->Step (L :: fr₀) (L :: fr₀) s.heap γ h' γ->Pre prog w B cx env outer L fr₀ ρ γ σ h'->bS prog w h' (L :: fr₀) γ it ds->Q (.ref it) { s with heap:=h' }):wpAny (model prog w) A (pyIter u) Q E' s:=by
 obtain ⟨a,vs,rfl,hT,hsoft,hdd⟩:=hd.inv
 ·have hT':s.heap.IsTuple a vs.toArray:=let ⟨o,ho,hc,n,hd⟩:=hT;⟨o,ho,hc,n,hd⟩
  have k₁ := aC (h := s.heap) (o := { cls := .type "tuple_iterator", data := .fields #[.ref a, .int 0 0] })
  have stk:=Keeps.step (fr:=L :: fr₀) (ks:=L :: fr₀) (γ:=γ) k₁
  obtain ⟨ot,hot,hrest⟩:=id hT
  exact wpAny_pyIter_tuple hT' (hq _ _ (aZ _) stk (P.step stk (P.inv.keeps k₁)) (.tup (i:=0) ⟨_,Heap.get?_push_size _ rfl,rfl,rfl⟩ ⟨ot,k₁ _ _ hot,hrest⟩ (Nat.ne_of_lt (Heap.lt_size hot)) hsoft (by rw [List.drop_zero];exact hdd.step stk)))
theorem Oi (S:Sound prog w B E) (F:Fc A cx env outer L dp) (P:Pre prog w B cx env outer L fr₀ ρ γ σ s.heap) (n:Nat) (tg:Expr) (t:Tg) (it:Expr) (ss:List Stmt) (pos:Pos) (ht:qk cx tg=some t) (h:aG E dp ρ (.for_ t (aa n cx it) (ss.map (aF n cx))) σ ≠ .no) :
  WS prog w B cx L fr₀ A (exec (.For tg it ss [] pos) env) s γ (aG E dp ρ (.for_ t (aa n cx it) (ss.map (aF n cx))) σ):=by
 refine dI h fun r hr h=>?_
 refine wpAny_For (bB S F P n it hr h fun u d σ₁ γ₁ s₁ st P₁ rs hd er=>?_) (Az (CF S hr h))
 obtain ⟨ds,rfl,er⟩:=BU er h
 subst er
 exact zJ P₁ hd fun h' it hn st' P' hi=>lV F P (st.weaken b8) P₁.inv rs (S.sf (s₀:=s₁) n tg t ss _ _ F P' ht (st'.weaken b8) .refl (fun b o e=>⟨o,(P₁.inv.base b o e).1⟩) hn hi h)
theorem zg {r:R (Fl × Loc)} {d:D} {k:List D->R (Fl × Loc)} (hr:r=(match d with | .cell i=>(match σ[i]? with | some (.lst ds)=>if Nat.ble ds.length lim then k ds.reverse else .no | _=>.no) | _=>.no)) (h:r ≠ .no) :
  ∃ j ds,d=.cell j∧σ[j]?=some (.lst ds)∧Nat.ble ds.length lim=true∧r=k ds.reverse:=by
 cases d with
 | cell j =>
  replace hr:r=(match σ[j]? with | some (.lst ds)=>if Nat.ble ds.length lim then k ds.reverse else .no | _=>.no):=hr
  cases e:σ[j]? with
  | none=>rw [e] at hr;exact absurd hr h
  | some c=>cases c with
   | lst ds =>
    rw [e] at hr
    replace hr:r=(if Nat.ble ds.length lim then k ds.reverse else .no):=hr
    cases hb:Nat.ble ds.length lim with
    | true=>rw [hb] at hr;exact ⟨j,ds,rfl,e,hb,hr⟩
    | false=>rw [hb] at hr;exact absurd hr h
   | _=>rw [e] at hr;exact absurd hr h
 | _=>exact absurd hr h
theorem As (P:Pre prog w B cx env outer L fr₀ ρ γ σ s.heap) {u:Value} {j:Nat} {ds:List D} (hd:Den prog w s.heap (L :: fr₀) γ u (.cell j)) (ej:σ[j]?=some (.lst ds)) (hb:Nat.ble ds.length lim=true) {v:Expr} {k₀:Nat} {p₁ p₃ p₄:Pos} {Q E':Value->Shared->Prop}
  (hq:∀ h' tk l vs,Step (L :: fr₀) (L :: fr₀) s.heap γ h' γ->Pre prog w B cx env outer L fr₀ ρ γ σ h'->h'.IsList l vs.toArray->¬ aX (L :: fr₀) γ l->av prog w h' (L :: fr₀) γ vs ds.reverse->Q (.ref l) { s with heap:=h',toks:=tk }) :
  wpAny (model prog w) A (eval (.Slice none none (some (.UnaryOp .USub (.Constant (.int 1) k₀ p₃) p₄)) p₁) env) (fun i s₂=>wpAny (model prog w) A (subscriptTail v (.Slice none none (some (.UnaryOp .USub (.Constant (.int 1) k₀ p₃) p₄)) p₁) u i) Q E' s₂) E' s:=by
 refine wpAny_Slice ?_
 rw [evalPart_none,evalPart_some]
 refine wpAny_pure (wpAny_pure (nS fun tk₁ tk=>?_))
 obtain ⟨c,vs,ec,rfl,hl,hdd,_,_⟩:=bQ P.inv hd ej
 have k₁ := aC (h := s.heap) (o := { cls := .type "slice", data := .fields #[.none, .none, .int (-1) tk₁] })
 have I₂:=P.inv.keeps k₁
 have hl' := hl.push { cls := .type "slice", data := .fields #[.none, .none, .int (-1) tk₁] }
 refine tail_any (ops := [_, _]) (T := "list") hl'.typeIs slot_list_getitem.lookup (wpAny_getItem_list_slice hl' (Heap.IsSliceOf.new ..) .none .none (.int (-1) tk₁) (by simp) ?_ (by rw [List.size_toArray]; exact eo hdd (bk hb))) rfl
 rw [krv_pick]
 have k₂ := aC (h := s.heap.push { cls := .type "slice", data := .fields #[.none, .none, .int (-1) tk₁] }) (o := { cls := .type "list", data := .seq vs.toArray.toList.reverse.toArray })
 have stk:=Keeps.step (fr:=L :: fr₀) (ks:=L :: fr₀) (γ:=γ) (Keeps.trans k₁ k₂)
 exact hq _ tk _ vs.reverse stk (P.step stk (I₂.keeps k₂)) ⟨_,Heap.get?_push_size _ rfl,rfl,0,rfl⟩ (I₂.fresh (aZ _)) (hdd.step stk).reverse
theorem zH (P:Pre prog w B cx env outer L fr₀ ρ γ σ s.heap) {l:Addr} {vs:List Value} {ds:List D} (hl:s.heap.IsList l vs.toArray) (hn:¬ aX (L :: fr₀) γ l) (hd:av prog w s.heap (L :: fr₀) γ vs ds) (hb:ds.length < 2 ^ 62) {Q E':Value->Shared->Prop}
  (hq:∀ h' it,s.heap.get? it=none->Step (L :: fr₀) (L :: fr₀) s.heap γ h' γ->Pre prog w B cx env outer L fr₀ ρ γ σ h'->bS prog w h' (L :: fr₀) γ it ds->Q (.ref it) { s with heap:=h' }):wpAny (model prog w) A (pyIter (.ref l)) Q E' s:=by
 obtain ⟨ol,hol,hrest⟩:=id hl
 have k₁ := aC (h := s.heap) (o := { cls := .type "list_iterator", data := .fields #[.ref l, .int 0 0] })
 have stk:=Keeps.step (fr:=L :: fr₀) (ks:=L :: fr₀) (γ:=γ) k₁
 exact wpAny_pyIter_list hl (hq _ _ (aZ _) stk (P.step stk (P.inv.keeps k₁)) (.lst (i:=0) ⟨_,Heap.get?_push_size _ rfl,rfl,rfl⟩ ⟨ol,k₁ _ _ hol,hrest⟩ (Nat.ne_of_lt (Heap.lt_size hol)) hn (by rw [List.drop_zero];exact hd.step stk) (hd.length ▸ hb)))
theorem Ih (S:Sound prog w B E) (F:Fc A cx env outer L dp) (P:Pre prog w B cx env outer L fr₀ ρ γ σ s.heap) (n:Nat) (tg:Expr) (t:Tg) (it v:Expr) (ss:List Stmt) (pos:Pos) (ht:qk cx tg=some t) (hv:vB it=some v) (h:aG E dp ρ (.forv t (aa n cx v) (ss.map (aF n cx))) σ ≠ .no) :
  WS prog w B cx L fr₀ A (exec (.For tg it ss [] pos) env) s γ (aG E dp ρ (.forv t (aa n cx v) (ss.map (aF n cx))) σ):=by
 obtain ⟨k₀,p₃,p₄,p₁,p₂,rfl⟩:=Ar hv
 refine dI h fun r hr h=>?_
 refine wpAny_For (Subscript_ (bB S F P n v hr h fun u d σ₁ γ₁ s₁ st P₁ rs hd er=>?_)) (fun _=>rfl)
 obtain ⟨j,ds,rfl,ej,hb,er⟩:=zg (k:=fun l=>E.f dp ρ t l (ss.map (aF n cx)) σ₁) er h
 subst er
 refine As P₁ hd ej hb fun h₂ tk l vs st₂ P₂ hl hn hdd=>?_
 exact zH (s:={ s₁ with heap:=h₂,toks:=tk }) P₂ hl hn hdd (by rw [List.length_reverse];exact Nat.lt_of_le_of_lt (bk hb) (by decide)) fun h' it hn st' P' hi =>
  lV (s₁:={ s₁ with heap:=h₂,toks:=tk }) F P ((st.trans st₂).weaken b8) P₂.inv rs (S.sf (s₀:={ s₁ with heap:=h₂,toks:=tk }) n tg t ss _ _ F P' ht (st'.weaken b8) .refl (fun b o e=>⟨o,(P₂.inv.base b o e).1⟩) hn hi h)
theorem ze {r:R (Fl × Loc)} {d:D} {k:Nat->R (Fl × Loc)} (hr:r=(match d with | .int (.ofNat x)=>if Nat.ble x 1000 then k x else .no | _=>.no)) (h:r ≠ .no):∃ x:Nat,d=.int (x:Int)∧x≤1000∧r=k x:=by
 cases d with
 | int i=>cases i with
  | ofNat x =>
   replace hr:r=(if Nat.ble x 1000 then k x else .no):=hr
   cases hb:Nat.ble x 1000 with
   | true=>rw [hb] at hr;exact ⟨x,rfl,Nat.le_of_ble_eq_true hb,hr⟩
   | false=>rw [hb] at hr;exact absurd hr h
  | negSucc=>exact absurd hr h
 | _=>exact absurd hr h
theorem Io (k:Nat):Builtin.Range.rangeSize 0 (k:Int) 1=(k:Int):=by
 rw [rangeSize_one]
 split
 ·exact Int.sub_zero _
 ·next h=>exact Int.le_antisymm (Int.natCast_nonneg k) (Int.not_lt.mp h)
theorem zI (P:Pre prog w B cx env outer L fr₀ ρ γ σ s.heap) {u:Value} {k:Nat} (hk:k≤1000) (hd:Den prog w s.heap (L :: fr₀) γ u (.int (k:Int))) {Q:Value->Shared->Prop} {E':Value->Shared->Prop}
  (hq:∀ h₁ tk h' it,Step (L :: fr₀) (L :: fr₀) s.heap γ h₁ γ->Pre prog w B cx env outer L fr₀ ρ γ σ h₁->h₁.get? it=none->Step (L :: fr₀) (L :: fr₀) h₁ γ h' γ->Pre prog w B cx env outer L fr₀ ρ γ σ h'->bS prog w h' (L :: fr₀) γ it (cH k)->Q (.ref it) { s with heap:=h',toks:=tk }) :
  wpAny (model prog w) A (call (.type "range") [u]) (fun v s₁ => wpAny (model prog w) A (pyIter v) Q E' s₁) E' s := by
 have hp62:((2:Int) ^ 62) > 1000:=by decide
 have hsm:Builtin.Range.small 0 (k:Int) 1=true:=small_one (by decide) (by decide) (Int.le_trans (by decide) (Int.natCast_nonneg k)) (Int.lt_of_le_of_lt (Int.ofNat_le.mpr hk) hp62)
 have hsz:Builtin.Range.rangeSize 0 (k:Int) 1=(k:Int):=Io k
 obtain ⟨t,rfl⟩:=hd.int_at
 refine call_range_1 (wpAny_pyIter_range (IsRange.new ..) hsm ?_)
 rw [hsz]
 have k₁ := aC (h := s.heap) (o := { cls := .type "range", data := .fields #[.int 0 s.toks, .int (k : Int) t, .int 1 (s.toks + 1)] })
 have I₂:=P.inv.keeps k₁
 have st₁:=Keeps.step (fr:=L :: fr₀) (ks:=L :: fr₀) (γ:=γ) k₁
 have P₂:=P.step st₁ I₂
 dsimp only
 generalize s.heap.push { cls := .type "range", data := .fields #[.int 0 s.toks, .int (k : Int) t, .int 1 (s.toks + 1)] } = H1 at k₁ I₂ st₁ P₂ ⊢
 have k₃ := aC (h := H1) (o := { cls := .type "range_iterator", data := .fields #[rawInt 0, rawInt (k : Int), rawInt 1] })
 have st₃:=Keeps.step (fr:=L :: fr₀) (ks:=L :: fr₀) (γ:=γ) k₃
 have hi := bS.rng (prog := prog) (w := w) (h := H1.push { cls := .type "range_iterator", data := .fields #[rawInt 0, rawInt (k : Int), rawInt 1] }) (fr := L :: fr₀) (γ := γ) (it := H1.objs.size) (i := 0) (n := k) (Heap.get?_push_size _ rfl)
 have e0:((List.range k).map fun (j:Nat)=>D.int ((0+j:Nat):Int))=cH k:=by unfold cH;simp
 rw [e0] at hi
 exact hq H1 _ _ _ st₁ P₂ (aZ _) st₃ (P₂.step st₃ (I₂.keeps k₃)) hi
theorem Ig (S:Sound prog w B E) (G:bZ prog w B mg mb) (F:Fc A cx env outer L dp) (P:Pre prog w B cx env outer L fr₀ ρ γ σ s.heap) (n:Nat) (tg:Expr) (i:Nat) (it e:Expr) (ss:List Stmt) (pos:Pos) (ht:qk cx tg=some (.n i)) (he:rangeOf cx it=some e) (h:aG E dp ρ (.forR i (aa n cx e) (ss.map (aF n cx))) σ ≠ .no) :
  WS prog w B cx L fr₀ A (exec (.For tg it ss [] pos) env) s γ (aG E dp ρ (.forR i (aa n cx e) (ss.map (aF n cx))) σ):=by
 obtain ⟨r,p₁,p₂,rfl,c1,c2,c3⟩:=tY he
 obtain rfl:=lP c1
 have hpl:aW [e]=true:=(Bool.and_true _).trans c3
 refine dI h fun r hr h=>?_
 refine wpAny_For (wpAny_Call_NameR (ld_builtin (v := .type "range") (by decide) (by kernel_rfl) G F P c2 (by decide) (bz hpl (fun a e => nomatch e) ?_))) (fun _ => rfl)
 refine wpAny_items_cons (bB S F P n e hr h fun u d σ₁ γ₁ s₁ st P₁ rs hd er=>wpAny_items_nil ?_) (gn c3)
 obtain ⟨k,rfl,hk,er⟩:=ze er h
 subst er
 exact zI P₁ hk hd fun h₁ tk h' it st₁ P₂ hn st' P' hi =>
  lV (s₁:={ s₁ with heap:=h₁,toks:=tk }) F P ((st.trans st₁).weaken b8) P₂.inv rs (S.sf (s₀:={ s₁ with heap:=h₁,toks:=tk }) n tg (.n i) ss _ (cH k) F P' ht (st'.weaken b8) .refl (fun b o e=>⟨o,(P₂.inv.base b o e).1⟩) hn hi h)
theorem Oh (P:Pre prog w B cx env outer L fr₀ ρ γ σ s.heap) (pos:Pos):WS prog w B cx L fr₀ A (exec (.Break pos) env) s γ (aG E dp ρ .brk σ):=by
 exact wpAny_bind (wpAny_standAt (wpAny_pure (Post.here P.inv ⟨rfl,P.loc⟩)))
end
end Mine.Internal
end
section
namespace Mine.Internal
open PySem PySem.W PySem.Calls PyProof.Rows PyProof.V
noncomputable def rY (h:Heap) (fd:FuncData) (df:List Value):Prop:=(fd.defaults=.none∧df=[])∨∃ T o n,fd.defaults=.ref T∧h.get? T=some o∧o.data=.seq df.toArray n
theorem lU {ns:List Str} {vs:List Value} (hn:ns.Nodup) {i:Nat} {x:Str} (hx:ns[i]?=some x) (hl:vs.length≤ns.length):(ns.zip vs).lookup x=vs[i]?:=by
 induction ns generalizing vs i with
 | nil=>cases hx
 | cons a r ih =>
  rw [List.nodup_cons] at hn
  cases vs with
  | nil=>simp
  | cons v vs =>
   cases i with
   | zero=>cases hx;simp [List.lookup]
   | succ i =>
    have hne:x ≠ a:=fun q=>hn.1 (q ▸ List.mem_of_getElem? hx)
    simp only [List.zip_cons_cons,List.lookup,List.getElem?_cons_succ]
    rw [show (x == a)=false from by simpa using hne]
    exact ih hn.2 hx (by simpa using hl)
theorem mZ {ns:List Str} {vs:List Value} (hn:ns.Nodup) (hl:vs.length=ns.length):ns.filterMap (fun n=>((ns.zip vs).lookup n).map (n,·))=ns.zip vs:=by
 have key:∀ (l:List Str) (us:List Value) (k:Nat),l=ns.drop k->us=vs.drop k->l.filterMap (fun n=>((ns.zip vs).lookup n).map (n,·))=l.zip us:=by
  intro l
  induction l with
  | nil=>intro us k _ _;simp
  | cons a r ih =>
   intro us k e1 e2
   have hk:k < ns.length:=by
    rcases Nat.lt_or_ge k ns.length with h | h
    ·exact h
    ·rw [List.drop_eq_nil_of_le h] at e1;cases e1
   have ea:ns[k]?=some a:=by
    have:=congrArg List.head? e1
    rw [List.head?_cons,List.head?_drop] at this
    exact this.symm
   have hkv:k < vs.length:=hl ▸ hk
   have ev:vs.drop k=vs[k] :: vs.drop (k+1):=List.drop_eq_getElem_cons hkv
   have er:r=ns.drop (k+1):=by
    have:=congrArg List.tail e1
    rw [List.tail_cons,List.tail_drop] at this
    exact this
   rw [List.filterMap_cons,lU hn ea (Nat.le_of_eq hl),List.getElem?_eq_getElem hkv]
   rw [e2,ev,List.zip_cons_cons]
   simp only [Option.map_some]
   rw [ih _ (k+1) er rfl]
 simpa using key ns vs 0 (by simp) (by simp)
noncomputable def fN (r:List (Str × Value)) (p:Str × Value):List (Str × Value):=if (r.lookup p.1).isNone then r++[p] else r
theorem nJ {f:Str × Value->List (Str × Value)->Sem (ForInStep (List (Str × Value)))} (hf:∀ p r,f p r=pure (.yield (fN r p))):∀ (l:List (Str × Value)) (s:List (Str × Value)),
  forIn l s f=pure (l.foldl fN s)
 | [],s=>List.forIn_nil
 | p :: l,s=>by rw [List.forIn_cons,hf,pure_bind];exact nJ hf l _
theorem qM:∀ (b:List Str) (db:List Value) (r:List (Str × Value)),(∀ x ∈ b,(r.lookup x).isNone=false)->(b.zip db).foldl fN r=r
 | [],_,_,_=>rfl
 | _ :: _,[],_,_=>rfl
 | x :: b,d :: db,r,h=>by
  have e:fN r (x,d)=r:=if_neg (by rw [h x (.head _)];exact Bool.false_ne_true)
  rw [List.zip_cons_cons,List.foldl_cons,e]
  exact qM b db r fun y m=>h y (.tail _ m)
theorem qN:∀ (b:List Str) (db:List Value) (r:List (Str × Value)),b.Nodup->(∀ x ∈ b,r.lookup x=none)->(b.zip db).foldl fN r=r++b.zip db
 | [],_,r,_,_=>(List.append_nil r).symm
 | _ :: _,[],r,_,_=>(List.append_nil r).symm
 | x :: b,d :: db,r,n,h=>by
  have e:fN r (x,d)=r++[(x,d)]:=if_pos (by rw [h x (.head _)];rfl)
  rw [List.zip_cons_cons,List.foldl_cons,e,qN b db _ (List.nodup_cons.mp n).2 fun y m=>?_,List.append_assoc]
  ·rfl
  ·rw [List.lookup_append,h y (.tail _ m)]
   have:(y == x)=false:=beq_eq_false_iff_ne.mpr fun q=>(List.nodup_cons.mp n).1 (q ▸ m)
   simp only [Option.none_or,List.lookup,this]
theorem rX:∀ {ns:List Str} {vs:List Value} {x:Str},x ∉ ns->(ns.zip vs).lookup x=none
 | [],_,_,_=>rfl
 | _ :: _,[],_,_=>rfl
 | a :: ns,v :: vs,x,h=>by
  have:(x == a)=false:=beq_eq_false_iff_ne.mpr fun q=>h (q ▸ .head _)
  simp only [List.zip_cons_cons,List.lookup,this]
  exact rX fun m=>h (.tail _ m)
theorem mU:∀ {ns:List Str} {vs:List Value} {x:Str},ns.length=vs.length->x ∈ ns->((ns.zip vs).lookup x).isNone=false
 | a :: ns,v :: vs,x,hl,h=>by
  simp only [List.zip_cons_cons,List.lookup]
  cases e:x == a with
  | true=>rfl
  | false=>exact mU (Nat.succ.inj hl) ((List.mem_cons.mp h).resolve_left fun q=>beq_eq_false_iff_ne.mp e q)
theorem wL {N1 N2 Mn:List Str} {vs D1 D2:List Value} (hn:(N1++N2).Nodup) (hv:N1.length=vs.length) (hd:Mn.length=D1.length) (hM:∀ x ∈ Mn,x ∈ N1) :
  ((Mn++N2).zip (D1++D2)).foldl fN ((N1++N2).zip vs)=(N1++N2).zip (vs++D2):=by
 have e0:(N1++N2).zip vs=N1.zip vs:=by
  have:=List.zip_append (r₁:=N2) (r₂:=[]) hv
  rw [List.append_nil,List.zip_nil_right,List.append_nil] at this
  exact this
 rw [List.zip_append hd,List.foldl_append,e0,qM _ _ _ (fun x m=>mU hv (hM x m)),qN _ _ _ (List.nodup_append.mp hn).2.1 (fun x m=>rX fun q=>(List.nodup_append.mp hn).2.2 x q x m rfl),List.zip_append hv]
theorem KD {v n m:Nat} (hg:v≤n) (h:n - v≤m) (hm:m≤n):v - (n - m)=min (m - (n - v)) m∧n - m≤v:=by
 obtain ⟨a,rfl⟩:=Nat.exists_eq_add_of_le hg
 rw [Nat.add_sub_cancel_left] at h ⊢
 obtain ⟨b,rfl⟩:=Nat.exists_eq_add_of_le h
 have hb:b≤v:=Nat.le_of_add_le_add_left (Nat.add_comm v a ▸ hm)
 rw [Nat.add_sub_cancel_left,Nat.min_eq_left (Nat.le_add_left _ _),Nat.add_comm a b,Nat.add_sub_add_right,Nat.sub_sub_self hb]
 exact ⟨rfl,Nat.sub_le _ _⟩
theorem yT {ns:List Str} {vs df:List Value} (hn:ns.Nodup) (hg:vs.length≤ns.length) (hm:df.length≤ns.length) (hneed:ns.length - vs.length≤df.length) :
  ((ns.drop (ns.length - df.length)).zip df).foldl fN (ns.zip vs)=ns.zip (vs++df.drop (df.length - (ns.length - vs.length))):=by
 obtain ⟨v,hv⟩:∃ v,vs.length=v:=⟨_,rfl⟩
 obtain ⟨n,hnl⟩:∃ n,ns.length=n:=⟨_,rfl⟩
 obtain ⟨m,hml⟩:∃ m,df.length=m:=⟨_,rfl⟩
 rw [hv,hnl,hml] at hneed ⊢
 rw [hv,hnl] at hg
 rw [hml,hnl] at hm
 have hle:=KD hg hneed hm
 have l1:(ns.take v).length=v:=by rw [List.length_take,hnl];exact Nat.min_eq_left hg
 have ed:ns.drop (n - m)=(ns.take v).drop (n - m)++ns.drop v:=by
  have:=List.drop_append_of_le_length (l₁:=ns.take v) (l₂:=ns.drop v) (i:=n - m) (by rw [l1];exact hle.2)
  rw [List.take_append_drop] at this
  exact this
 have key:=wL (N1:=ns.take v) (N2:=ns.drop v) (Mn:=(ns.take v).drop (n - m)) (vs:=vs) (D1:=df.take (m - (n - v))) (D2:=df.drop (m - (n - v)))
  (by rw [List.take_append_drop];exact hn) (l1.trans hv.symm) (by rw [List.length_drop,l1,List.length_take,hml];exact hle.1) (fun x=>List.mem_of_mem_drop)
 rw [List.take_append_drop,List.take_append_drop,← ed] at key
 exact key
theorem uP {v n m:Nat} (hg:v≤n) (h:n - v≤m):v+(m - (m - (n - v)))=n:=by rw [Nat.sub_sub_self h,Nat.add_sub_cancel' hg]
theorem w4 {ns:List Str} {vs:List Value} {k:Nat} (hk:k≤vs.length) (hg:vs.length≤ns.length):(ns.take k).filter (fun n=>((ns.zip vs).lookup n).isNone)=[]:=by
 rw [List.filter_eq_nil_iff]
 intro x hx q
 have e0:=List.zip_append (l₁:=ns.take vs.length) (r₁:=ns.drop vs.length) (l₂:=vs) (r₂:=[]) (by rw [List.length_take];exact Nat.min_eq_left hg)
 rw [List.append_nil,List.zip_nil_right,List.append_nil,List.take_append_drop] at e0
 rw [e0,mU (by rw [List.length_take];exact Nat.min_eq_left hg)] at q
 ·cases q
 ·have:=List.take_sublist_take_left (l:=ns) hk
  exact this.subset hx
theorem BF {s:Shared} {fd:FuncData} {df:List Value} (hd:rY s.heap fd df):∃ x:Option (Array Value),(x.getD #[]).toList=df∧∀ {M:Model} {A:Around} {E:Value->Shared->Prop} {Q':Option (Array Value)->Shared->Prop},Q' x s->wpAny M A (seqItems? fd.defaults) Q' E s:=by
 rcases hd with ⟨e1,e2⟩ | ⟨T,o,n,e1,e2,e3⟩
 ·refine ⟨none,by rw [e2];rfl,fun hq'=>?_⟩
  rw [e1]
  exact wpAny_pure hq'
 ·refine ⟨some df.toArray,rfl,fun hq'=>?_⟩
  rw [e1]
  exact wpAny_seqItems e2 e3 hq'
theorem ux {α:Type} {M:Model} {A:Around} {Q:α->Shared->Prop} {E:Value->Shared->Prop} {s:Shared} {c:Prop} [Decidable c] {a b:Sem α} (hc:¬ c) (h:wpAny M A b Q E s):wpAny M A (if c then a else b) Q E s:=by rw [if_neg hc];exact h
theorem QK {α β:Type} {M:Model} {A:Around} {Q:α->Shared->Prop} {E:Value->Shared->Prop} {s:Shared} {a:β} {f:β->Sem α} (h:wpAny M A (f a) Q E s):wpAny M A (pure a >>= f) Q E s:=by rw [pure_bind];exact h
theorem ET {α:Type} {M:Model} {A:Around} {Q:α->Shared->Prop} {E:Value->Shared->Prop} {s:Shared} {l i r:List (Str × Value)} {f:Str × Value->List (Str × Value)->Sem (ForInStep (List (Str × Value)))} {k:List (Str × Value)->Sem α}
  (hf:∀ p r,f p r=pure (.yield (fN r p))) (hr:l.foldl fN i=r) (h:wpAny M A (k r) Q E s):wpAny M A (forIn l i f >>= k) Q E s:=by rw [nJ hf,hr,pure_bind];exact h
theorem Bp {α β γ:Type} {M:Model} {A:Around} {Q:α->Shared->Prop} {E:Value->Shared->Prop} {s:Shared} {i:β} {f:γ->β->Sem (ForInStep β)} {k:β->Sem α} (h:wpAny M A (k i) Q E s):wpAny M A (forIn ([]:List γ) i f >>= k) Q E s:=by rw [List.forIn_nil,pure_bind];exact h
theorem wg {s:Shared} {nm qn:Str} {ar:List Arg} {kd:List (Option Expr)} {ex:List Expr} {bo:FuncBody} {sc:Scope} {gl:Addr} {cl:List (Str × Addr)} {df0 k0 k1 k2:Value} {an:Option Addr} {k3 k4:Value} {k5:Addr} {vs d1 r:List Value} {x:Option (Array Value)} {M:Model} {A:Around} {E:Value->Shared->Prop} {Q:List (Str × Value)->Shared->Prop}
  (hgo:∀ {Q':Option (Array Value)->Shared->Prop},Q' x s->wpAny M A (seqItems? df0) Q' E s) (c2:(x.getD #[]).toList.drop ((x.getD #[]).toList.length - (ar.map (·.arg)).length)=d1)
  (c1:¬ ((decide (vs.length > (ar.map (·.arg)).length) && (none:Option Arg).isNone)=true)) (c3:¬ ((!(List.filter (fun n=>(((ar.map (·.arg)).zip vs).lookup n).isNone) ((ar.map (·.arg)).take ((ar.map (·.arg)).length - d1.length))).isEmpty)=true))
  (ha:(((ar.map (·.arg)).drop ((ar.map (·.arg)).length - d1.length)).zip d1).foldl fN ((ar.map (·.arg)).zip vs)=(ar.map (·.arg)).zip r) (hz:Q (List.filterMap (fun n=>(((ar.map (·.arg)).zip r).lookup n).map (n,·)) ((ar.map (·.arg):List Str)++([]:List Str))) s) :
  wpAny M A (bindArgs ⟨nm,qn,⟨[],ar,none,[],kd,none,ex⟩,bo,sc,gl,cl,df0,k0,k1,k2,an,k3,k4,k5⟩ ⟨vs,[]⟩) Q E s:=by
 subst c2
 unfold bindArgs
 refine Bp ?_
 refine wpAny_bind (hgo ?_)
 refine ux c1 ?_
 refine ux c3 ?_
 refine ET (fun p r=>?_) ha ?_
 ·show (if (r.lookup p.1).isNone=true then pure (ForInStep.yield (r++[p])) else pure (ForInStep.yield r))=_
  unfold fN
  cases (r.lookup p.1).isNone <;> rfl
 refine Bp ?_
 refine ux (c:=(!([]:List Str).isEmpty)=true) Bool.false_ne_true ?_
 exact wpAny_pure hz
theorem yD {s:Shared} {fd:FuncData} {vs df:List Value} (h1:fd.params.posonlyargs=[]) (h2:fd.params.kwonlyargs=[]) (h3:fd.params.vararg=none) (h4:fd.params.kwarg=none) (hn:(fd.params.args.map (·.arg)).Nodup) (hd:rY s.heap fd df)
  (hg:vs.length≤(fd.params.args.map (·.arg)).length) (hm:df.length≤(fd.params.args.map (·.arg)).length) (hneed:(fd.params.args.map (·.arg)).length - vs.length≤df.length) :
  BindsTo s fd ⟨vs,[]⟩ ((fd.params.args.map (·.arg)).zip (vs++df.drop (df.length - ((fd.params.args.map (·.arg)).length - vs.length)))):=by
 obtain ⟨nm,qn,⟨po,ar,va,ko,kd,kw,ex⟩,bo,sc,gl,cl,df0,k0,k1,k2,an,k3,k4,k5⟩:=fd
 cases h1
 cases h2
 cases h3
 cases h4
 obtain ⟨x,hx,hgo⟩:=BF hd
 intro M A E Q hq
 refine wg (d1:=df) (r:=vs++df.drop (df.length - ((ar.map (·.arg)).length - vs.length))) hgo (by rw [hx,Nat.sub_eq_zero_of_le hm];rfl) (fun q=>absurd (of_decide_eq_true (Bool.and_eq_true_iff.mp q).1) (Nat.not_lt.mpr hg))
  (by rw [w4 (Nat.sub_le_of_le_add (Nat.sub_le_iff_le_add'.mp hneed)) hg];exact Bool.false_ne_true) (yT hn hg hm hneed) ?_
 rw [List.append_nil,mZ hn (by rw [List.length_append,List.length_drop];exact uP hg hneed)]
 exact hq
end Mine.Internal
end
section
namespace Mine.Internal
open PySem PySem.W PySem.Calls PyProof.Rows PyProof.V
theorem nV:∀ {l:List Str},pS l=true->l.Nodup
 | [],_=>.nil
 | x :: r,h=>by
  simp only [pS,Bool.and_eq_true,Bool.not_eq_true',List.contains_eq_mem,decide_eq_false_iff_not] at h
  exact List.nodup_cons.mpr ⟨h.1,nV h.2⟩
structure Shape (ps:Arguments) (sc:Scope):Prop where
 po:ps.posonlyargs=[]
 ko:ps.kwonlyargs=[]
 va:ps.vararg=none
 kw:ps.kwarg=none
 fn:sc.kind=.function
 co:sc.isCoroutine=false
 ge:sc.isGenerator=false
 cell:∀ x ∈ sc.names,x.2 ≠ .cell
 nodup:(localNames ps sc).Nodup
 args:∀ x ∈ ps.args.map (·.arg),sc.names.lookup x=some .local
 dfl:ps.defaults.length≤ps.args.length
theorem Shape.of {ps:Arguments} {sc:Scope} (h:kC ps sc=true):Shape ps sc:=by
 obtain ⟨s1,h⟩:=ak h
 obtain ⟨s2,h⟩:=ak h
 obtain ⟨s3,h⟩:=ak h
 obtain ⟨s4,h⟩:=ak h
 obtain ⟨s5,h⟩:=ak h
 obtain ⟨s6,h⟩:=ak h
 obtain ⟨s7,h⟩:=ak h
 obtain ⟨s8,h⟩:=ak h
 obtain ⟨s9,h⟩:=ak h
 obtain ⟨s10,s11⟩:=ak h
 exact ⟨List.isEmpty_iff.mp s1,List.isEmpty_iff.mp s2,Option.isNone_iff_eq_none.mp s3,Option.isNone_iff_eq_none.mp s4,beq_iff_eq.mp s5,(Bool.not_eq_true' _).mp s6,(Bool.not_eq_true' _).mp s7,fun x hx=>bne_iff_ne.mp (List.all_eq_true.mp s8 x hx),nV s9,fun x hx=>beq_iff_eq.mp (List.all_eq_true.mp s10 x hx),Nat.le_of_ble_eq_true s11⟩
inductive kR (B:Heap) (a:Nat) (ps:Arguments) (bd:List Stmt) (sc:Scope):Prop where
 | mk (o:Obj) (fd:FuncData) (vs:List Value) (ds:List D) (ho:B.get? a=some o) (hd:o.data=.func fd) (hp:fd.params=ps) (hb:fd.body=.stmts bd) (hs:fd.scope=sc) (hg:fd.globals=mainGlobals) (hbi:fd.builtins=builtinsNs) (hc:fd.closure=[]) (hcd:B.CodeRec fd.code fd.qualname)
  (hdf:rY B fd vs) (hds:d9 ps.defaults=some ds) (hdd:∀ prog w h fr γ,av prog w h fr γ vs ds) (hsh:kC ps sc=true)
noncomputable def Jc (B:Heap):Prop:=∀ a at' ps bd sc,nM.lookup a=some at'->at'.find=some (ps,bd,sc)->kR B a ps bd sc
theorem iE {ns:List Str} {vs:List Value} (hn:ns.Nodup) (hl:vs.length=ns.length) {i:Nat} {x:Str} (hx:ns[i]?=some x):(ns.zip vs).reverse.lookup x=vs[i]?:=by
 have hnd:((ns.zip vs).map (·.1)).Nodup:=by rw [List.map_fst_zip (Nat.le_of_eq hl.symm)];exact hn
 have key:∀ (l:List (Str × Value)),(l.map (·.1)).Nodup->l.reverse.lookup x=l.lookup x:=by
  intro l
  induction l with
  | nil=>intro _;rfl
  | cons p r ih =>
   intro h
   rw [List.map_cons,List.nodup_cons] at h
   rw [List.reverse_cons,List.lookup_append,ih h.2]
   obtain ⟨k,v⟩:=p
   simp only [List.lookup]
   cases hk:(x == k) with
   | true =>
    have:x=k:=beq_iff_eq.mp hk
    subst this
    have hno:r.lookup x=none:=by
     rw [List.lookup_eq_none_iff]
     intro q hq
     have hne:x ≠ q.1:=fun e=>h.1 (List.mem_map.mpr ⟨q,hq,e.symm⟩)
     simpa using hne
    rw [hno];rfl
   | false=>cases r.lookup x <;> rfl
 rw [key _ hnd,lU hn hx (Nat.le_of_eq hl)]
section
variable {prog:Program} {w:World} {B:Heap} {mg mb:Str->Option Value} {E:Ev} {A:Around} {cx:Cx} {env:Env} {outer:List Env} {L:Addr} {dp:Nat} {fr₀ fr ks:List Addr} {ρ ρ':Loc} {γ γ₁:Gam} {σ:Sto} {s s₁:Shared} {z:Bool} {K:Frag}
theorem fQ:∀ {es:List Expr} {ds:List D},d9 es=some ds->es.length=ds.length:=by
 intro es
 induction es with
 | nil=>intro ds h;exact Option.some.inj h ▸ rfl
 | cons e r ih =>
  intro ds h
  replace h:(match sR e,d9 r with | some d,some ds=>some (d :: ds) | _,_=>none)=some ds:=h
  cases h1:sR e with
  | none=>rw [h1] at h;exact nomatch h
  | some d =>
   rw [h1] at h
   cases h2:d9 r with
   | none=>rw [h2] at h;exact nomatch h
   | some ds'=>rw [h2] at h;exact Option.some.inj h ▸ congrArg (·+1) (ih h2)
theorem cG.to {h:Heap} {fr₁ fr₂:List Addr} (hs:∀ x,aX fr₂ γ x->aX fr₁ γ x∨h.get? x=none) {c:CA}:∀ {x:Cell},cG prog w h fr₁ γ c x->cG prog w h fr₂ γ c x
 | .lst ds,⟨e1,e2,vs,hp,q⟩=>⟨e1,e2,vs,hp,q.to hs fun _ _ e=>e⟩
 | .obj fs',⟨e1,mA,ho,r⟩=>⟨e1,mA,ho,fun f d e=>let ⟨v,h1,h2⟩:=r f d e;⟨v,h1,h2.to hs fun _ _ e=>e⟩⟩
 | .junk,_=>trivial
theorem gP {L:Addr} {fr:List Addr} {γ:Gam} {x:Addr} (h:aX fr γ x):aX (L :: fr) γ x:=h.imp (fun m=>.tail _ m) id
theorem j6 {L:Addr} {fr:List Addr} {γ:Gam} {x:Addr} (hx:x ≠ L) (h:aX (L :: fr) γ x):aX fr γ x:=h.imp (fun m=>(List.mem_cons.mp m).elim (fun q=>absurd q hx) id) id
theorem Inv.enter {h h₀:Heap} (I:Inv prog w B fr γ σ h) (k:Keeps h h₀) (hL:h.get? L=none) {oL:Obj} (hoL:h₀.get? L=some oL) (hd:∀ vs,oL.data ≠ .fields vs):Inv prog w B (L :: fr) γ σ h₀:=by
 have hs:∀ x,aX (L :: fr) γ x->aX fr γ x∨h.get? x=none:=fun x q=>by
  by_cases e:x=L
  ·exact .inr (e ▸ hL)
  ·exact .inl (j6 e q)
 refine ⟨I.len,fun i c x e1 e2=>((I.cells i c x e1 e2).to hs).move (fun a _ o e=>k a o e) (Keeps.step (ks:=[]) k),I.apart,fun x m q=>?_,fun x q=>?_,fun b o e=>?_⟩
 ·rcases List.mem_cons.mp q with q | q
  ·obtain ⟨o,e,_⟩:=I.ex x (.inr m)
   rw [q,hL] at e;cases e
  ·exact I.off x m q
 ·by_cases e:x=L
  ·exact ⟨oL,e ▸ hoL,hd⟩
  ·obtain ⟨o,h1,h2⟩:=I.ex x (j6 e q)
   exact ⟨o,k _ _ h1,h2⟩
 ·obtain ⟨h1,h2⟩:=I.base b o e
  exact ⟨k b o h1,fun q=>h2 (j6 (fun e=>by rw [e,hL] at h1;cases h1) q)⟩
theorem Inv.leave {h:Heap} (I:Inv prog w B (L :: fr) γ σ h):Inv prog w B fr γ σ h :=
 ⟨I.len,fun i c x e1 e2=>(I.cells i c x e1 e2).to fun x q=>.inl (gP q),I.apart,fun x m q=>I.off x m (.tail _ q),fun x q=>I.ex x (gP q),fun b o e=>let ⟨h1,h2⟩:=I.base b o e;⟨h1,fun q=>h2 (gP q)⟩⟩
theorem Step.leave {h h':Heap} {γ':Gam} (st:Step (L :: fr) ks h γ h' γ') (hL:h.get? L=none):Step fr ks h γ h' γ' :=
 ⟨st.pre,fun a o e n=>st.keep a o e fun q=>n (j6 (fun e'=>by rw [e',hL] at e;cases e) q),st.frames⟩
set_option backward.match.sparseCases true in
noncomputable def Oe:Flow->Value
 | .ret v=>v
 | _=>.none
noncomputable def l9 (n:Nat) (vs dv:List Value):List Value:=vs++dv.drop (dv.length - (n - vs.length))
noncomputable def Jb (prog:Program) (w:World) (B:Heap) (a:Nat) (ps:Arguments) (bd:List Stmt) (sc:Scope) (dv:List Value):Prop :=
 ∀ {A:Around} {s:Shared} {vs:List Value} {L:Addr} {Q E':Value->Shared->Prop},A.depth < 1000->Keeps B s.heap->s.heap.NoLimit->vs.length≤ps.args.length->ps.args.length - vs.length≤dv.length->s.heap.objs.size=L ->
  (∀ nm cd h₀,h₀.Ns L (fun x=>((ps.args.map (·.arg)).zip (l9 ps.args.length vs dv)).reverse.lookup x)->Keeps s.heap h₀ ->
   wpAny (model prog w) (A.deeper (envOf nm sc L a cd)) (execs bd (envOf nm sc L a cd)) (fun f s'=>Q (Oe f) s')
    (fun e s'=>wpAny (model prog w) (A.deeper (envOf nm sc L a cd)) (leaving (envOf nm sc L a cd) e) (fun _ s''=>E' e s'') (fun e' s''=>E' e' s'') s') { s with heap:=h₀,toks:=s.toks+((ps.args.map (·.arg)).zip (l9 ps.args.length vs dv)).length }) ->
  wpAny (model prog w) A (call (.ref a) vs) Q E' s
theorem rY.keeps {B h:Heap} {fd:FuncData} {dv:List Value} (x:rY B fd dv) (k:Keeps B h):rY h fd dv:=x.imp id fun ⟨T,o,n,e1,e2,e3⟩=>⟨T,o,n,e1,k _ _ e2,e3⟩
theorem sM {B h:Heap} {cd:Value} {q:Str} (x:B.CodeRec cd q) (k:Keeps B h):h.CodeRec cd q:=let ⟨c,o,vs,t,e,g,r⟩:=x;⟨c,o,vs,t,e,k _ _ g,r⟩
theorem yF {fd:FuncData} {L a:Addr} (hg:fd.globals=mainGlobals) (hbi:fd.builtins=builtinsNs) (hc:fd.closure=[]):callEnv fd L a=envOf fd.qualname fd.scope L a fd.code:=by
 unfold callEnv newEnv envOf
 rw [hg,hbi,hc]
theorem qJ {a:Nat} {ps:Arguments} {bd:List Stmt} {sc:Scope} (X:kR B a ps bd sc):Shape ps sc∧∃ dv dd,d9 ps.defaults=some dd∧(∀ prog w h fr γ,av prog w h fr γ dv dd)∧dv.length=ps.defaults.length∧Jb prog w B a ps bd sc dv:=by
 obtain ⟨o,fd,dv,dd,ho,hd,hp,hb,hs,hg,hbi,hc,hcd,hdf,hds,hdd,hsh⟩:=X
 subst hp hs
 have sh:=Shape.of hsh
 have hl:dv.length=fd.params.defaults.length:=(hdd prog w B [] []).length.trans (fQ hds).symm
 refine ⟨sh,dv,dd,hds,hdd,hl,fun {A s vs L Q E'} hroom k hlim hn hneed hL h=>?_⟩
 have hm:(fd.params.args.map (·.arg)).length=fd.params.args.length:=List.length_map ..
 have hbind:=yD (s:=s) (fd:=fd) (vs:=vs) (df:=dv) sh.po sh.ko sh.va sh.kw (List.nodup_append.mp sh.nodup).1 (hdf.keeps k) (hm ▸ hn) (hm ▸ hl ▸ sh.dfl) (hm ▸ hneed)
 rw [hm] at hbind
 subst hL
 refine wpAny_call (codeAny_call_def hroom (k _ _ ho) hd hlim (sM hcd k) hb hbind sh.cell (fun x hx=>sh.args _ (List.of_mem_zip hx).1) (fun h₀ hns hk=>?_) sh.co sh.ge sh.fn)
 rw [yF hg hbi hc]
 exact h _ _ h₀ hns hk
theorem yU {r:ah} {as ds:List D} (h:fill r as=some ds):as.length≤r.np∧r.np - as.length≤r.dfl.length∧ds=as++r.dfl.drop (r.dfl.length - (r.np - as.length)):=by
 unfold fill at h
 dsimp only at h
 cases c:decide (as.length≤r.np) && decide (r.np - as.length≤r.dfl.length) with
 | false=>rw [c] at h;exact nomatch h
 | true=>rw [c] at h;exact ⟨of_decide_eq_true (ak c).1,of_decide_eq_true (ak c).2,(Option.some.inj h).symm⟩
noncomputable def ly (ps:Arguments) (sc:Scope):Cx:={ names:=localNames ps sc,scope:=sc,gl:=eO }
inductive FnAt (a:Nat) (r:ah):Prop where
 | mk (at':At) (ps:Arguments) (bd:List Stmt) (sc:Scope) (dd:List D) (h1:nM.lookup a=some at') (h2:at'.find=some (ps,bd,sc)) (h3:d9 ps.defaults=some dd) (h4:r={ np:=ps.args.length,nl:=(localNames ps sc).length,dfl:=dd,body:=bd.map (aF 60 (ly ps sc)) })
theorem LP {a:Nat} {r:ah} (ht:fnT a=some r):FnAt a r:=by
 obtain ⟨at',h1,hc⟩:=Option.bind_eq_some_iff.mp ht
 obtain ⟨⟨ps,bd,sc⟩,h2,hc⟩:=Option.bind_eq_some_iff.mp hc
 obtain ⟨dd,h3,hc⟩:=Option.bind_eq_some_iff.mp hc
 exact ⟨at',ps,bd,sc,dd,h1,h2,h3,(Option.some.inj hc).symm⟩
section
variable {ps:Arguments} {sc:Scope} {nm:Str} {a:Addr} {cd:Value} {h h₀:Heap}
theorem xG (hk:sc.kind=.function) {oL:Obj} (hoL:h₀.get? L=some oL) (hnf:∀ vs,oL.data ≠ .fields vs) (out:dj h outer fr) (k:Keeps h h₀):dj h₀ (envOf nm sc L a cd :: outer) (L :: fr) :=
 ⟨⟨fun q=>(nomatch hk.symm.trans q:False),⟨L,oL,rfl,uO L,hoL,hnf⟩,b9 out.1 fun _ _ o e=>⟨o.slots,k _ _ e⟩⟩,fun x hx=>(List.mem_cons.mp hx).elim (fun q=>q ▸ .head _) fun q=>.tail _ (out.2 x q)⟩
theorem xm {ds:List D} {vv:List Value} {n:Nat} (sh:Shape ps sc) (hns:h₀.Ns L (fun x=>((ps.args.map (·.arg)).zip vv).reverse.lookup x)) (k:Keeps h h₀) (hL:h.get? L=none) (hv:vv.length=ps.args.length) (dall:av prog w h fr γ vv ds) :
  gU prog w h₀ (L :: fr) γ (ly ps sc) L (ds.map some++List.replicate n Option.none):=by
 refine ⟨_,hns,fun i x d e1 e2=>?_⟩
 have hdl:ds.length=(ps.args.map (·.arg)).length:=dall.length.symm.trans (hv.trans (List.length_map ..).symm)
 rcases Nat.lt_or_ge i ds.length with hi | hi
 ·rw [List.getElem?_append_left (by rw [List.length_map];exact hi),List.getElem?_map] at e2
  obtain ⟨d',hd',e3⟩:=Option.map_eq_some_iff.mp e2
  obtain rfl:d'=d:=Option.some.inj e3
  have hxi:(ps.args.map (·.arg))[i]?=some x:=(List.getElem?_append_left (hdl ▸ hi)).symm.trans e1
  obtain ⟨v,hv',hdv⟩:=dall.get hd'
  refine ⟨v,(iE (List.nodup_append.mp sh.nodup).1 (hv.trans (List.length_map ..).symm) hxi).trans hv',Den.step (Keeps.step (ks:=[]) k) (Den.to (fun y q=>?_) (fun _ _ e=>e) hdv)⟩
  by_cases e:y=L
  ·exact .inr (e ▸ hL)
  ·exact .inl (j6 e q)
 ·rw [List.getElem?_append_right (by rw [List.length_map];exact hi)] at e2
  exact (nomatch List.eq_of_mem_replicate (List.mem_of_getElem? e2):False).elim
theorem xJ {ds:List D} {vv:List Value} {n:Nat} (sh:Shape ps sc) (hns:h₀.Ns L (fun x=>((ps.args.map (·.arg)).zip vv).reverse.lookup x)) (k:Keeps h h₀) (hL:h.get? L=none) (hv:vv.length=ps.args.length) (dall:av prog w h fr γ vv ds)
  (out:dj h outer fr) (I:Inv prog w B fr γ σ h):Pre prog w B (ly ps sc) (envOf nm sc L a cd) outer L fr (ds.map some++List.replicate n Option.none) γ σ h₀:=by
 have hLfr:L ∉ fr:=fun m=>by
  obtain ⟨o,e,_⟩:=I.ex L (.inl m)
  exact nomatch hL.symm.trans e
 obtain ⟨oL,_,_,hoL,hdL,_⟩:=id hns
 have hnf:∀ vs,oL.data ≠ .fields vs:=fun vs q=>nomatch hdL.symm.trans q
 exact ⟨xm sh hns k hL hv dall,I.enter k hL hoL hnf,xG sh.fn hoL hnf out k,hLfr,out.2⟩
theorem vC {a dp:Nat} (h:a+3 * (dp+1) < 692):a+1+3 * dp < 690:=by
 rw [Nat.add_right_comm]
 exact Nat.le_of_succ_le_succ (Nat.le_of_succ_le_succ h)
theorem vS {a dp k:Nat} (hk:k≤5) (h:a+10 * (dp+1) < 9005):a+k+10 * dp < 9000:=by
 rw [Nat.add_right_comm]
 exact Nat.lt_of_le_of_lt (Nat.add_le_add_left hk _) (Nat.lt_of_add_lt_add_right (n:=5) h)
theorem yS (sh:Shape ps sc) (hh:A.handled=none) (hfr:A.frames=some outer) (hroom:A.depth+3 * (dp+1) < 692) (hun:A.units+10 * (dp+1) < 9005):Fc (A.deeper (envOf nm sc L a cd)) (ly ps sc) (envOf nm sc L a cd) outer L dp:=by
 refine ⟨⟨_,_,_,rfl⟩,sh.fn,rfl,sh.nodup,hh,?_,?_,?_⟩
 ·show A.frames.map (envOf nm sc L a cd :: ·)=_
  rw [hfr];rfl
 ·exact vC hroom
 ·exact vS (by decide) hun
end
theorem xN {s₀:Heap} {a:R (Fl × Loc)} {f:Flow} {p:Fl × Loc} {s':Shared} {σ':Sto} {γ':Gam} (hL:s.heap.get? L=none) (k:Keeps s.heap s₀) (er:a=.ok p σ') (st:Step (L :: fr) fr s₀ γ s'.heap γ') (I:Inv prog w B (L :: fr) γ' σ' s'.heap) (rs:Rest s s') (hf:FlV prog w (L :: fr) s'.heap γ' f p.1) :
  Post prog w B fr fr s γ (aJ prog w fr) (a.bind fun p σ=>.ok (flD p.1) σ) (Oe f) s':=by
 refine .mk (flD p.1) σ' γ' (by rw [er];rfl) (((Keeps.step (ks:=fr) k).trans st).leave hL) I.leave rs ?_
 obtain ⟨fl,ρ'⟩:=p
 cases fl with
 | ret d =>
  obtain ⟨v,rfl,hf⟩:=hf
  exact Den.to (fun y q=>.inl (gP q)) (fun _ _ e=>e) hf
 | next=>exact hf ▸ .none
 | brk=>exact hf ▸ .none
theorem wI {cx:Cx} {s₀:Heap} {ρ:Loc} {σ:Sto} {a:R (Fl × Loc)} {e:Value} {s':Shared} (F:Fc A cx env outer L dp) (P:Pre prog w B cx env outer L fr ρ γ σ s₀) (I:Inv prog w B fr γ σ s.heap) (hL:s.heap.get? L=none) (k:Keeps s.heap s₀)
  (q:∃ fl,(fl=none∨fl=some L)∧aP prog w B (L :: fr) fr { s with heap:=s₀,toks:=s'.toks } γ a fl e s') (rs:Rest s s') :
  wpAny (model prog w) A (leaving env e) (fun _ s''=>aP prog w B fr fr s γ (a.bind fun p σ=>(R.ok (flD p.1) σ:R D)) none e s'') (fun e' s''=>aP prog w B fr fr s γ (a.bind fun p σ=>(R.ok (flD p.1) σ:R D)) none e' s'') s':=by
 obtain ⟨fl,hfl,σ',γ',er,st,I',_,ex⟩:=q
 have stt:=(Keeps.step (ks:=fr) (fr:=L :: fr) (γ:=γ) k).trans st
 have outA:=jt F P st I'
 unfold leaving
 have ex':=ex.mono (h₀:=s.heap) fun b o e=>⟨o,k _ _ e⟩
 have hB:∀ b o,B.get? b=some o->∃ o',s.heap.get? b=some o':=fun b o e=>⟨o,(I.base b o e).1⟩
 refine wpAny_bind (fD (n:=s.heap) F.frames F.frameL outA.1 ex' hfl (stt.older I') fun h' q t=>?_)
 have st2:=stt.quiet q outA.2
 have I2:=I'.quiet q outA.2 hB
 refine dg (fs:=[]) (n:=s.heap) t (fun _ h=>nomatch h) fun h'' q' t'=>?_
 exact .mk σ' γ' (by rw [er];rfl) ((st2.quiet q' (fun _ h=>nomatch h)).leave hL) (I2.quiet q' (fun _ h=>nomatch h) hB).leave rs t'.exc
theorem BH (G:bZ prog w B mg mb) (FN:Jc B) (S:Sound prog w B E) {a:Nat} {r:ah} (ht:fnT a=some r) {vs:List Value} {as ds:List D} (hh:A.handled=none) (hfr:A.frames=some outer) (hroom:A.depth+3 * (dp+1) < 692) (hun:A.units+10 * (dp+1) < 9005)
  (out:dj s.heap outer fr) (I:Inv prog w B fr γ σ s.heap) (da:av prog w s.heap fr γ vs as) (hf:fill r as=some ds) (hn:(E.b dp (ds.map some++List.replicate (r.nl - r.np) Option.none) r.body σ).bind (fun p σ=>(R.ok (flD p.1) σ:R D)) ≠ .no) :
  WP prog w B fr fr A (call (.ref a) vs) s γ (aJ prog w fr) ((E.b dp (ds.map some++List.replicate (r.nl - r.np) Option.none) r.body σ).bind fun p σ=>.ok (flD p.1) σ):=by
 obtain ⟨at',ps,bd,sc,dd,h1,h2,h3,rfl⟩:=LP ht
 obtain ⟨sh,dv,dd',h3',hdd,hdl,en⟩:=qJ (prog:=prog) (w:=w) (FN a at' ps bd sc h1 h2)
 obtain rfl:dd=dd':=Option.some.inj (h3.symm.trans h3')
 obtain ⟨f1,f2,rfl⟩:=yU hf
 have hl:vs.length=as.length:=da.length
 have hdl':dd.length=dv.length:=(fQ h3).symm.trans hdl.symm
 have hLn:s.heap.get? s.heap.objs.size=none:=aZ _
 have dall:av prog w s.heap fr γ (l9 ps.args.length vs dv) (as++dd.drop (dd.length - (ps.args.length - as.length))):=by
  unfold l9
  rw [hl,← hdl']
  exact da.append ((hdd prog w s.heap fr γ).drop _)
 have hv:(l9 ps.args.length vs dv).length=ps.args.length:=by
  unfold l9
  rw [List.length_append,List.length_drop]
  exact uP (hl ▸ f1) (hl ▸ hdl' ▸ f2)
 refine en (Nat.lt_of_le_of_lt (Nat.le_add_right _ _) (Nat.lt_trans hroom (by decide))) (fun b o e=>(I.base b o e).1) (G.nolim.keeps fun b o e=>(I.base b o e).1) (hl ▸ f1) (hl ▸ hdl' ▸ f2) rfl fun nm cd h₀ hns k=>?_
 have F:Fc (A.deeper (envOf nm sc s.heap.objs.size a cd)) (ly ps sc) (envOf nm sc s.heap.objs.size a cd) outer s.heap.objs.size dp:=yS sh hh hfr hroom hun
 have P:Pre prog w B (ly ps sc) (envOf nm sc s.heap.objs.size a cd) outer s.heap.objs.size fr ((as++dd.drop (dd.length - (ps.args.length - as.length))).map some++List.replicate ((localNames ps sc).length - ps.args.length) Option.none) γ σ h₀:=xJ sh hns k hLn hv dall out I
 refine wpAny_mono (S.sb (s:={ s with heap:=h₀,toks:=s.toks+_ }) 60 bd F P (R.of_bind hn)) (fun f s' q=>?_) fun e s' q=>?_
 ·obtain ⟨p,σ',γ',er,st,I',rs,hf,_⟩:=q
  exact xN hLn k er st I' rs hf
 ·obtain ⟨fl,hfl,σ',γ',er,st,I',rs,ex⟩:=q
  exact wI F P I hLn k ⟨fl,hfl,.mk σ' γ' er st I' rs ex⟩ rs
end
end Mine.Internal
end
section
namespace Mine.Internal
open PySem PySem.W PySem.Calls PyProof.Rows PyProof.V
open Sem (wp)
section
variable {prog:Program} {w:World} {A:Around} {E:Value->Shared->Prop} {h:Heap} {g:Array GenState} {d:Drawn} {t:Nat} {os:OsState}
variable {nm q:Str} {C N:Addr} {bs:List Value} {sn:List Str} {sub:List Value} {col:Option Bool} {dd:Option Addr} {k0 k1 k2 k3 k5:Option Value}
noncomputable def aY (h : Heap) (C : Addr) : Heap := (h.push { cls := .type "dict", data := .dict #[] }).push { cls := .ref C, dict := some h.objs.size, data := .plain }
theorem dc:(aY h C).get? (h.objs.size+1)=some { cls:=.ref C,dict:=some h.objs.size,data:=.plain }:=by unfold aY;heap_get
theorem ck:Keeps h (aY h C):=fun _ _ e=>Heap.get?_push_of_some _ (Heap.get?_push_of_some _ e)
theorem gX : (aY h C).get? h.objs.size = some { cls := .type "dict", data := .dict #[] } := Heap.get?_push_of_some _ (Heap.get?_push_at rfl rfl)
theorem n6:(aY h C).Inst (h.objs.size+1) C fun _=>none :=
 ⟨_,dc,rfl,fun c=>by simp,.inr ⟨h.objs.size,rfl,Nat.ne_of_lt (Nat.lt_succ_self _),Heap.Ns1.of_empty ⟨_,#[],_,gX,rfl,fun e he=>absurd he (by simp),fun _=>rfl⟩⟩⟩
theorem kj {mN:Str->Option Value} {rest:List Value} {fI:Addr} {oI:Obj} {Q:Fin->Shared->Prop}
  (hC : h.get? C = some (excClassObj nm q C N bs [.type "object"] true sn sub false col dd k0 k1 k2 k3 k5 "object.__new__")) (hn : h.Ns N mN) (hi : mN "__init__" = some (.ref fI))
  (hfI : h.get? fI = some oI) (hfc : oI.cls = .type "function")
  (hq:wpAny (model prog w) A (call (.ref fI) (.ref (h.objs.size+1) :: rest)) (fun r s'=>r=.none∧Q (.done (.ret (.ref (h.objs.size+1)))) s') E ⟨aY h C,g,d,t,os⟩) :
  wpAny (model prog w) A (Builtin.«type.__call__» ⟨.ref C :: rest,[]⟩) Q E ⟨h,g,d,t,os⟩:=by
 have F:=PySem.F.objNew
 have hmro : mroOf (.type "object") = pure [.type "object"] := by kernel_rfl
 have hlk : typeLookup (.type "object") "__init__" = pure (some (.builtin "object.__init__")) := by rw [typeLookup_type, builtinLookup_eq_fast]; kernel_rfl
 repeat (first | with_reducible refine wpAny_loadPart_at hC ?_ | with_reducible refine wpAny_madeBy_exc hC ?_ | wp_step)
 refine codeAny_call_builtin_code (Code.quiet_builtin _ F.quiet) (wpAny_check_obj_new F hC ?_)
 refine codeAny_obj_new F hC hn hi ?_
 show wpAny _ _ _ _ _ (⟨aY h C,g,d,t,os⟩:Shared)
 have hC₁:=ck (C:=C) _ _ hC
 have hfI₁:=ck (C:=C) _ _ hfI
 have hn₁:(aY h C).Ns N mN:=hn.keeps ck
 have hget:=dc (h:=h) (C:=C)
 have hcC : (Value.ref C :: [Value.type "object"]).contains (.ref C) = true := by simp
 unfold isInstance
 repeat (first | with_reducible refine wpAny_loadPart_at hget ?_ | (dsimp only;with_reducible refine wpAny_isSubtype_exc hC₁ ?_;rw [hcC]) | wp_step)
 show wpAny _ _ (typeLookup (.ref C) _) _ _ _
 refine wpAny_typeLookup_exc hC₁ hn₁ hmro hlk ?_
 rw [hi]
 refine wpAny_holding (wpAny_bind ?_)
 unfold bindSpecial
 refine wpAny_bind (wpAny_typeOf (T := "function") ⟨_, hfI₁, hfc⟩ ?_)
 rw [if_pos (by decide)]
 refine wpAny_pure (wpAny_bind (wpAny_mono hq (fun r s' hr=>?_) fun _ _ x=>x))
 obtain ⟨rfl,hQ⟩:=hr
 wp_walk
 exact hQ
theorem sI {mN:Str->Option Value} {rest:List Value} {fI:Addr} {oI:Obj} {Q:Value->Shared->Prop}
  (hC : h.get? C = some (excClassObj nm q C N bs [.type "object"] true sn sub false col dd k0 k1 k2 k3 k5 "object.__new__")) (hn : h.Ns N mN) (hi : mN "__init__" = some (.ref fI))
  (hfI : h.get? fI = some oI) (hfc : oI.cls = .type "function")
  (hq : wpAny (model prog w) (A.under (.builtin "type.__call__" ⟨.ref C :: rest, []⟩)) (call (.ref fI) (.ref (h.objs.size + 1) :: rest)) (fun r s' => r = .none ∧ Q (.ref (h.objs.size + 1)) s') E ⟨aY h C, g, d, t, os⟩) :
  wpAny (model prog w) A (call (.ref C) rest) Q E ⟨h,g,d,t,os⟩:=by
 have f1:=tc_lookup
 have f2:=tc_bind (.ref C)
 have hT : (⟨h, g, d, t, os⟩ : Shared).TypeIs (.ref C) "type" := ⟨_, hC, rfl⟩
 refine wpAny_call (codeAny_of_tree ?_)
 show wpAny _ _ (callAny (.ref C) _) _ _ _
 repeat (any_goals (first | assumption | with_reducible refine wpAny_loadPart_at hC ?_ | wp_step))
 refine ⟨rfl,?_⟩
 exact codeAny_call_builtin_at (Code.quiet_builtin _ (by decide +kernel)) entry_typeCall (wpAny_check_type_call_sub hC (kj hC hn hi hfI hfc hq))
end
section
variable {prog:Program} {w:World} {B:Heap} {mg mb:Str->Option Value} {E:Ev} {A:Around} {cx:Cx} {env:Env} {outer:List Env} {L:Addr} {dp:Nat} {fr₀ fr ks:List Addr} {ρ ρ':Loc} {γ γ₁:Gam} {σ:Sto} {s s₁:Shared} {z:Bool} {K:Frag}
noncomputable def uw (E:Ev) (dp:Nat) (d:D) (σ:Sto):R D:=(E.c dp jK [.cell σ.length,d] (σ++[.obj []])).bind fun r σ'=>(match r with | .none=>.ok (.cell σ.length) σ' | _=>.no)
theorem ye {x:D} {a r:R D} (hr:r=match x with | .none=>a | _=>.no) (h:r ≠ .no):x=.none∧r=a:=by
 cases x with
 | none=>exact ⟨rfl,hr⟩
 | _=>exact absurd hr h
theorem sY {h:Heap} (I:Inv prog w B fr γ σ h):Step fr fr h γ (aY h aO) (γ++[⟨h.objs.size+1,h.objs.size,h.objs.size+1⟩])∧Inv prog w B fr (γ++[⟨h.objs.size+1,h.objs.size,h.objs.size+1⟩]) (σ++[.obj []]) (aY h aO) ∧
  Den prog w (aY h aO) fr (γ++[⟨h.objs.size+1,h.objs.size,h.objs.size+1⟩]) (.ref (h.objs.size+1)) (.cell σ.length):=by
 have h1:h.get? (h.objs.size+1)=none∧∃ o,(aY h aO).get? (h.objs.size+1)=some o∧∀ vs,o.data ≠ .fields vs:=⟨Heap.get?_none_of_le (Nat.le_succ _),_,dc,fun vs e=>by cases e⟩
 have h0:h.get? h.objs.size=none∧∃ o,(aY h aO).get? h.objs.size=some o∧∀ vs,o.data ≠ .fields vs:=⟨aZ _,_,gX,fun vs e=>by cases e⟩
 obtain ⟨st,mk⟩:=I.new (ks:=fr) (c:=⟨h.objs.size+1,h.objs.size,h.objs.size+1⟩) ck fun x hx=>by
  rcases List.mem_cons.mp hx with rfl | hx
  ·exact h1
  ·rcases List.mem_cons.mp hx with rfl | hx
   ·exact h0
   ·exact List.mem_singleton.mp hx ▸ h1
 exact ⟨st,mk (.obj []) ⟨rfl,_,⟨n6,⟨_,dc,rfl,rfl⟩,fun x hx=>nb hx⟩,fun f d hl=>nn hl⟩,Den.cell (c:=⟨h.objs.size+1,h.objs.size,h.objs.size+1⟩) (by rw [← I.len,List.getElem?_append_right (Nat.le_refl _),Nat.sub_self];rfl)⟩
theorem ql {vs : List Value} (hfr : A.frames = some outer) : (A.under (.builtin "type.__call__" ⟨vs, []⟩)).frames = some outer := by
 rw [show (A.under (.builtin "type.__call__" ⟨vs, []⟩)).frames = A.frames.map (([] : List Env) ++ ·) from by rw [← pushEnvs_eq]; rfl, hfr]
 rfl
theorem sJ (W:cL B) (S:Sound prog w B E) {v:Value} {d:D} (hh:A.handled=none) (hfr:A.frames=some outer) (hroom:A.depth+3 * (dp+1) < 692) (hun:A.units+10 * (dp+1) < 9005)
  (out:dj s.heap outer fr) (hsub:∀ a ∈ frs outer,a ∈ fr) (I:Inv prog w B fr γ σ s.heap) (da:Den prog w s.heap fr γ v d) (hn:uw E dp d σ ≠ .no) :
  WP prog w B fr fr A (call (.ref aO) [v]) s γ (aJ prog w fr) (uw E dp d σ):=by
 refine cF hn fun q hq hn=>?_
 have hq:q=(E.c dp jK [.cell σ.length,d] (σ++[.obj []])).bind fun r σ'=>(match r with | .none=>.ok (.cell σ.length) σ' | _=>.no):=hq
 obtain ⟨nm,q,N,bs,sn,sub,col,dd,k0,k1,k2,k3,k5,mN,hC,hN,g1,g2,g3,g4,g5,g6,⟨oI,hoI,hcI⟩,g8⟩:=W
 obtain ⟨h,g,dr,t,os⟩:=s
 obtain ⟨st,I₁,hcell⟩:=sY I
 refine sI (I.base _ _ hC).1 (kI I hN) g5 (I.base _ _ hoI).1 hcI ?_
 have hd1 : (A.under (.builtin "type.__call__" ⟨.ref aO :: [v], []⟩)).depth = A.depth + 1 := rfl
 have hu1 : (A.under (.builtin "type.__call__" ⟨.ref aO :: [v], []⟩)).units = A.units + 1 := rfl
 refine wpAny_mono (S.sc (s:=⟨aY h aO,g,dr,t,os⟩) jK [_,_] [_,_] hh (ql hfr) (by rw [hd1];exact Nat.lt_trans (vC hroom) (by decide)) (by rw [hu1];exact Nat.lt_trans (vS (k:=1) (by decide) hun) (by decide)) (out.step st fun a ha=>hsub a ha) I₁ (.cons hcell (.cons (Den.step st da) .nil)) (R.of_bind (hq ▸ hn))) (fun r s' p=>?_) fun e s' p=>?_
 ·obtain ⟨b,σ',γ',er,st',I',rs,rel⟩:=p
  rw [er] at hq
  obtain ⟨rfl,rfl⟩:=ye hq hn
  exact ⟨rel.inv,Post.ok (s:=⟨h,g,dr,t,os⟩) (st.trans st') I' (Rest.trans ⟨rfl,rfl,rfl⟩ rs) (Den.step st' hcell)⟩
 ·obtain ⟨σ',γ',er,st',I',rs,ex⟩:=p
  exact ⟨σ',γ',by rw [hq,er];rfl,st.trans st',I',Rest.trans ⟨rfl,rfl,rfl⟩ rs,ex.mono (st.older I₁)⟩
end
end Mine.Internal
end
section
namespace Mine.Internal
open PySem PySem.W PySem.Calls PyProof.Rows PyProof.V
open Sem (wp)
open Builtin Builtin.ObjectAttr
inductive dO (h:Heap) (mN mL:Str->Option Value):Prop where
 | mk (nm:Str) (q:Str) (N:Addr) (bs:List Value) (sn:List Str) (sub:List Value) (ab:Bool) (col:Option Bool) (dd:Option Addr) (k0 k1 k2 k3 k5:Option Value) (c0:Value) (dL:Option Addr) (cd:ClassData) (sl:Array (Option Value))
  (hC : h.get? gfA = some (excClassObj nm q gfA N bs bmX true sn sub ab col dd k0 k1 k2 k3 k5 "Exception.__new__")) (hN : h.Ns N mN) (hL : h.get? leA = some { cls := c0, dict := dL, data := .cls cd, slots := sl }) (hNL : h.Ns cd.ns mL)
theorem dO.keeps {h h':Heap} {mN mL:Str->Option Value} (x:dO h mN mL) (k:Keeps h h'):dO h' mN mL:=by
 obtain ⟨nm,q,N,bs,sn,sub,ab,col,dd,k0,k1,k2,k3,k5,c0,dL,cd,sl,a,b,c,d⟩:=x
 exact ⟨nm,q,N,bs,sn,sub,ab,col,dd,k0,k1,k2,k3,k5,c0,dL,cd,sl,k _ _ a,b.keeps k,k _ _ c,d.keeps k⟩
section
variable {M:Model} {A:Around} {E:Value->Shared->Prop} {h:Heap} {g:Array GenState} {d:Drawn} {t:Nat} {os:OsState} {mN mL:Str->Option Value}
theorem ji (X : dO h mN mL) {name : Str} {y : Option Value} {Q : Option Value → Shared → Prop} (hB : typeLookup (.type "Exception") name = pure y)
  (hq:Q ((mN name).or ((mL name).or y)) ⟨h,g,d,t,os⟩):wpAny M A (typeLookup (.ref gfA) name) Q E ⟨h,g,d,t,os⟩:=by
 obtain ⟨nm,q,N,bs,sn,sub,ab,col,dd,k0,k1,k2,k3,k5,c0,dL,cd,sl,hC,hN,hL,hNL⟩:=X
 have hrest:lookupAlong bmE name=pure y:=by rw [typeLookup_eq,PySem.F.store_Exception.mro] at hB;exact hB
 rw [typeLookup_eq]
 refine wpAny_bind (wpAny_mroOf_exc hC ?_)
 rw [lookupAlong_cons]
 refine wpAny_bind (wpAny_classOwn_exc hC hN ?_)
 cases h1:mN name with
 | some v=>rw [h1] at hq;exact wpAny_pure hq
 | none =>
  rw [h1] at hq
  show wpAny _ _ (lookupAlong (.ref leA :: bmE) name) _ _ _
  rw [lookupAlong_cons]
  refine wpAny_bind (wpAny_classOwn_cls hL hNL ?_)
  cases h2:mL name with
  | some v=>rw [h2] at hq;exact wpAny_pure hq
  | none=>rw [h2] at hq;show wpAny _ _ (lookupAlong bmE name) _ _ _;rw [hrest];exact wpAny_pure hq
end
section
variable {prog:Program} {w:World} {A:Around} {E:Value->Shared->Prop} {h:Heap} {g:Array GenState} {d:Drawn} {t:Nat} {os:OsState} {mN mL:Str->Option Value}
noncomputable def cP (h : Heap) (rest : List Value) : Heap := (h.push { cls := .type "tuple", data := .seq rest.toArray }).push { cls := .ref gfA, data := .fields #[.ref h.objs.size, .none, .none, .none, .bool false, .none] }
theorem iM {rest:List Value}:(cP h rest).get? (h.objs.size+1)=some { cls:=.ref gfA,data:=.fields #[.ref h.objs.size,.none,.none,.none,.bool false,.none] }:=by unfold cP;heap_get
theorem cj {rest:List Value}:Keeps h (cP h rest):=fun _ _ e=>Heap.get?_push_of_some _ (Heap.get?_push_of_some _ e)
theorem pq {M : Model} (X : dO h mN mL) {rest : List Value} {Q : Unit → Shared → Prop} (hq : Q () ⟨h, g, d, t, os⟩) : wpAny M A (checkBuiltinCall "Exception.__new__" ⟨.ref gfA :: rest, []⟩) Q E ⟨h, g, d, t, os⟩ := by
 obtain ⟨nm,q,N,bs,sn,sub,ab,col,dd,k0,k1,k2,k3,k5,c0,dL,cd,sl,hC,hN,hL,hNL⟩:=X
 exact wpAny_check_new_subU PySem.F.excBase_Exception (bmB:=bmX) rfl .base hC hq
theorem GF {R:Result->Shared->Prop} (X:dO h mN mL) {rest:List Value} (hq:R (.ok (.ret (.ref (h.objs.size+1)))) ⟨cP h rest,g,d,t,os⟩) (hrest:rest.length≤sizeLine) :
  codeAny (model prog w) A (.builtin "Exception.__new__" ⟨.ref gfA :: rest, []⟩) R ⟨h, g, d, t, os⟩ := by
 obtain ⟨nm,q,N,bs,sn,sub,ab,col,dd,k0,k1,k2,k3,k5,c0,dL,cd,sl,hC,hN,hL,hNL⟩:=X
 have F:=PySem.F.excBase_Exception
 have hends:=F.ends
 have hcB : (Value.ref gfA :: bmX).contains (.type "Exception") = true := by decide
 have hcA : (Value.ref gfA :: bmX).contains (.type "AttributeError") = false := by decide
 have hcN : (Value.ref gfA :: bmX).contains (.type "NameError") = false := by decide
 refine codeAny_builtinAt F.entry ?_
 unfold Builtin.«BaseException.__new__»
 refine _root_.PySem.wpAt_bind ?_
 show _root_.PySem.wpAt _ _ _ (stack >>= _) _ _ _
 refine _root_.PySem.wpAt_bind (_root_.PySem.wpAt_stack fun p below=>_root_.PySem.wpAt_of_wpAny ?_)
 wp_walk
 refine _root_.PySem.wpAt_of_wpAny ?_
 rw [F.owner]
 repeat (first | with_reducible refine wpAny_madeHere_exc F.canon hC ?_ | with_reducible refine wpAny_loadPart_at hC ?_ | (with_reducible refine wpAny_isSubtype_exc hC ?_;first | rw [hcB] | rw [hcA] | rw [hcN]) | wp_step)
 show R _ _
 rw [Heap.size_push]
 exact hq
theorem pB (X : dO h mN mL) {rest : List Value} {fI : Addr} {oI : Obj} {Q : Fin → Shared → Prop} (h1 : mN "__init__" = none) (h2 : mL "__init__" = some (.ref fI)) (hfI : h.get? fI = some oI) (hfc : oI.cls = .type "function")
  (hq:wpAny (model prog w) A (call (.ref fI) (.ref (h.objs.size+1) :: rest)) (fun r s'=>r=.none∧Q (.done (.ret (.ref (h.objs.size+1)))) s') E ⟨cP h rest,g,d,t,os⟩) (hrest:rest.length≤sizeLine) :
  wpAny (model prog w) A (Builtin.«type.__call__» ⟨.ref gfA :: rest,[]⟩) Q E ⟨h,g,d,t,os⟩:=by
 have F:=PySem.F.excBase_Exception
 have X':=X
 obtain ⟨nm,q,N,bs,sn,sub,ab,col,dd,k0,k1,k2,k3,k5,c0,dL,cd,sl,hC,hN,hL,hNL⟩:=X'
 repeat (first | with_reducible refine wpAny_loadPart_at hC ?_ | with_reducible refine wpAny_madeBy_exc hC ?_ | wp_step)
 refine codeAny_call_builtin_code (Code.quiet_builtin _ F.quiet) (pq X ?_)
 refine GF X ?_ hrest
 show wpAny _ _ _ _ _ (⟨cP h rest,g,d,t,os⟩:Shared)
 have X₁:dO (cP h rest) mN mL:=X.keeps cj
 have hC₁:=cj (rest:=rest) _ _ hC
 have hfI₁:=cj (rest:=rest) _ _ hfI
 have hget:=iM (h:=h) (rest:=rest)
 have hcC:(Value.ref gfA :: bmX).contains (.ref gfA)=true:=by simp
 unfold isInstance
 repeat (first | with_reducible refine wpAny_loadPart_at hget ?_ | (dsimp only;with_reducible refine wpAny_isSubtype_exc hC₁ ?_;rw [hcC]) | wp_step)
 show wpAny _ _ (typeLookup (.ref gfA) _) _ _ _
 refine ji X₁ F.init.lookup ?_
 rw [h1,h2]
 refine wpAny_holding (wpAny_bind ?_)
 unfold bindSpecial
 refine wpAny_bind (wpAny_typeOf (T := "function") ⟨_, hfI₁, hfc⟩ ?_)
 rw [if_pos (by decide)]
 refine wpAny_pure (wpAny_bind (wpAny_mono hq (fun r s' hr=>?_) fun _ _ x=>x))
 obtain ⟨rfl,hQ⟩:=hr
 wp_walk
 exact hQ
theorem BZ (X : dO h mN mL) {rest : List Value} {fI : Addr} {oI : Obj} {Q : Value → Shared → Prop} (h1 : mN "__init__" = none) (h2 : mL "__init__" = some (.ref fI)) (hfI : h.get? fI = some oI) (hfc : oI.cls = .type "function")
  (hq : wpAny (model prog w) (A.under (.builtin "type.__call__" ⟨.ref gfA :: rest, []⟩)) (call (.ref fI) (.ref (h.objs.size + 1) :: rest)) (fun r s' => r = .none ∧ Q (.ref (h.objs.size + 1)) s') E ⟨cP h rest, g, d, t, os⟩) (hrest : rest.length ≤ sizeLine) :
  wpAny (model prog w) A (call (.ref gfA) rest) Q E ⟨h,g,d,t,os⟩:=by
 have X':=X
 obtain ⟨nm,q,N,bs,sn,sub,ab,col,dd,k0,k1,k2,k3,k5,c0,dL,cd,sl,hC,hN,hL,hNL⟩:=X'
 have f1:=tc_lookup
 have f2:=tc_bind (.ref gfA)
 have hT : (⟨h, g, d, t, os⟩ : Shared).TypeIs (.ref gfA) "type" := ⟨_, hC, rfl⟩
 refine wpAny_call (codeAny_of_tree ?_)
 show wpAny _ _ (callAny (.ref gfA) _) _ _ _
 repeat (any_goals (first | assumption | with_reducible refine wpAny_loadPart_at hC ?_ | wp_step))
 refine ⟨rfl,?_⟩
 exact codeAny_call_builtin_at (Code.quiet_builtin _ (by decide +kernel)) entry_typeCall (wpAny_check_type_call_sub hC (pB X h1 h2 hfI hfc hq hrest))
theorem sV {pl : Sem Bool} {s : Shared} {Q : Value × List Value → Shared → Prop} (hq : Q (.builtin "Exception.__init__", []) { s with toks := s.toks + 1 }) : wpAny (model prog w) A (getMethod (.type "Exception") (Str.ofString "__init__") pl) Q E s := by
 have X:Frag.In ([]:Frag) s.heap:=fun a o e=>by cases e
 have hstub : opaqueClassAbove (.type "Exception") = pure none := by unfold opaqueClassAbove; dsimp only; rw [show Manifest.isStub "Exception" = false by decide +kernel]; rfl
 have ht : typeOf (.type "Exception") = pure (.type "type") := by first | rfl | kernel_rfl
 have L0 : Looks (model prog w) s.heap (typeOf (.type "Exception")) (.type "type") := Looks.of_pure ht
 have hg : findIn ([] : Frag) (.type "type") "__getattribute__" = some (some (.builtin "type.__getattribute__")) := type_tga
 unfold getMethod specialOf
 refine wpAny_bind (wpAny_bind (L0.here ((looks_findIn X hg).here ?_)))
 dsimp only
 rw [if_pos canon_tga]
 refine wpAny_bind (wpAny_mono (Q:=fun v=>Q (v,[])) (E:=E) ?_ (fun _ _ z=>wpAny_pure z) fun _ _ z=>z)
 have LO : Looks (model prog w) s.heap (opaqueClassAbove (.type "Exception")) none := Looks.of_pure hstub
 refine cls_open X LO L0 hg (looks_hook X (r := none) (by rfl)) (by show subIn _ _ _ = _; rfl) (r := .val (.builtin "Exception.__init__")) (by kernel_rfl) ?_
 show wpAny _ _ (ret (.builtin "Exception.__init__")) _ _ _
 refine wpAny_pure ?_
 show wpAny _ _ (handedOut (.builtin "Exception.__init__")) _ _ _
 rw [handedOut_of (by kernel_rfl)]
 exact wpAny_pure hq
theorem n7 {M:Model} (X:dO h mN mL) {e:Addr} {oe:Obj} {rest:List Value} {Q:Unit->Shared->Prop} (he:h.get? e=some oe) (hcls:oe.cls=.ref gfA) (hq:Q () ⟨h,g,d,t,os⟩) :
  wpAny M A (checkBuiltinCall "Exception.__init__" ⟨.ref e :: rest, []⟩) Q E ⟨h, g, d, t, os⟩ := by
 obtain ⟨nm,q,N,bs,sn,sub,ab,col,dd,k0,k1,k2,k3,k5,c0,dL,cd,sl,hC,hN,hL,hNL⟩:=X
 have F:=PySem.F.excBase_Exception
 have hcB : (Value.ref gfA :: bmX).contains (.type "Exception") = true := by decide
 have hshort:=F.noStar
 simp only [checkBuiltinCall,F.initKind,F.initSplit,F.initRow]
 repeat (first | (with_reducible refine wpAny_loadPart_at he ?_;rw [hcls]) | with_reducible refine wpAny_loadPart_at hC ?_ | (with_reducible refine wpAny_isSubtype_exc hC ?_;rw [hcB]) | wp_step)
 refine wpAny_onRaise ?_
 rw [show ∀ (a b : String) (n : Nat), Bind.check ⟨.positional, "*", "Exception", .self, [⟨"args", .varPos, false⟩]⟩ a b n (List.map (fun x => x.fst) ({ pos := Value.ref e :: rest } : Args).kw) = pure () from
  fun a b n=>check_star_args _ _ _ _ _ _]
 exact wpAny_pure hq
theorem pA (X:dO h mN mL) {e:Addr} {t0:Addr} {m:Value} {Q:Value->Shared->Prop}
  (hget:h.get? e=some { cls:=.ref gfA,data:=.fields #[.ref t0,.none,.none,.none,.bool false,.none] })
  (hq:∀ h' t1 tk,(∀ b o,b ≠ e->h.get? b=some o->h'.get? b=some o)->h'.get? e=some { cls:=.ref gfA,data:=.fields #[.ref t1,.none,.none,.none,.bool false,.none] }->Q .none ⟨h',g,d,tk,os⟩) :
  wpAny (model prog w) A (call (.builtin "Exception.__init__") [.ref e, m]) Q E ⟨h, g, d, t, os⟩ := by
 have F:=PySem.F.excBase_Exception
 have hrest:([m]:List Value).length≤sizeLine:=by rw [sizeLine_eq];show 1≤_;decide
 refine wpAny_call (codeAny_call_builtin F.init.plain F.initEntry (n7 X hget rfl ?_))
 wp_walk
 have hget₁ : (h.push { cls := .type "tuple", data := .seq #[m] }).get? e = some { cls := .ref gfA, data := .fields #[.ref t0, .none, .none, .none, .bool false, .none] } := Heap.get?_push_of_some _ hget
 refine hq _ h.objs.size t (fun b o hb eb=>(Heap.get?_update_other _ _ (Ne.symm hb)).trans (Heap.get?_push_of_some _ eb)) ?_
 rw [Heap.get?_update_self _ hget₁ rfl]
 rfl
structure kY (h:Heap) (x:Addr) (mA:Str->Option Value) (name:Str) (v:Value) (h':Heap):Prop where
 inst:h'.Inst x gfA (fun y=>if y=name then some v else mA y)
 keep:∀ b o,b ≠ x->(∀ o₀ dx,h.get? x=some o₀->o₀.dict=some dx->b ≠ dx)->h.get? b=some o->h'.get? b=some o
 same:∀ o₀,h.get? x=some o₀->∃ o₁,h'.get? x=some o₁∧o₁.cls=o₀.cls∧o₁.data=o₀.data
 dict:∀ o₁ dx,h'.get? x=some o₁->o₁.dict=some dx->h.get? dx=none∨∃ o₀,h.get? x=some o₀∧o₀.dict=some dx
theorem Ak {N:Addr} {m:Str->Option Value} {name:Str} {v:Value} {tk:Tok} {Q:Fin->Shared->Prop} {ns:List Str} (hN:h.Ns1 N m) (hw:Within m ns) (hsz:ns.length+1≤sizeLine) (hq:∀ h' t',h'.Ns1 N (fun y=>if y=name then some v else m y)->Heap.SameBut N h h'->Q (.done (.ret .none)) ⟨h',g,d,t',os⟩) :
  wpAny (model prog w) A (storeInDict N (.str name tk) name v) Q E ⟨h,g,d,t,os⟩:=by
 unfold storeInDict newKeyGuard
 refine wpAny_bind (wpAny_pure (wpAny_bind (wpAny_nsSet1 hN fun h' hn' hs=>?_)))
 obtain ⟨oD,esD,epD,hoD,hdD,hcD⟩:=hn'.count (Within.cons name v hw)
 refine wpAny_bind (wpAny_lookBehind hoD (by rw [hdD];exact pastItsLine_dict (Nat.le_trans hcD (by rw [List.length_cons];exact Nat.le_succ_of_le hsz))) ?_)
 wp_walk
 exact hq h' _ hn' hs
theorem stored_new {x:Addr} {o:Obj} {mA:Str->Option Value} {name:Str} {v:Value} {h':Heap} (hx:h.get? x=some o) (hc:o.cls=.ref gfA) (hnc:∀ c,o.data ≠ .cls c) (hmA:∀ y,mA y=none)
  (hn : h'.Ns1 h.objs.size (fun y => if y = name then some v else none)) (hs : Heap.SameBut h.objs.size ((h.push { cls := .type "dict", data := .dict #[] }).update x fun o => { cls := o.cls, dict := some h.objs.size, data := o.data, slots := o.slots }) h') : kY h x mA name v h' := by
 have hxs:x ≠ h.objs.size:=Nat.ne_of_lt (Heap.lt_size hx)
 have hx₁ : (h.push { cls := .type "dict", data := .dict #[] }).get? x = some o := Heap.get?_push_of_some _ hx
 have hxu : ((h.push { cls := .type "dict", data := .dict #[] }).update x fun o => { cls := o.cls, dict := some h.objs.size, data := o.data, slots := o.slots }).get? x = some { cls := o.cls, dict := some h.objs.size, data := o.data, slots := o.slots } := by
  refine Heap.get?_update_self _ hx₁ ?_
  have hfr:=(Heap.get?_some_iff.mp hx).2
  obtain ⟨oc,od,odt,osl⟩:=o
  cases odt <;> first | rfl | exact hfr
 have hx':h'.get? x=some { cls:=o.cls,dict:=some h.objs.size,data:=o.data,slots:=o.slots }:=(hs.2 x hxs).trans hxu
 refine ⟨⟨_,hx',hc,hnc,.inr ⟨h.objs.size,rfl,hxs.symm,?_⟩⟩,fun b ob hbx _ hb=>?_,fun o₀ h₀=>⟨_,hx',Option.some.inj (hx.symm.trans h₀) ▸ rfl,Option.some.inj (hx.symm.trans h₀) ▸ rfl⟩,fun o₁ dx e1 e2=>?_⟩
 ·obtain rfl:mA=fun _=>none:=funext hmA
  exact hn
 ·exact (hs.2 b (Nat.ne_of_lt (Heap.lt_size hb))).trans ((Heap.get?_update_ne _ _ _ _ hbx).trans (Heap.get?_push_of_some _ hb))
 ·obtain rfl:=Option.some.inj (hx'.symm.trans e1)
  exact .inl (Option.some.inj e2 ▸ aZ _)
theorem ue {x dx:Addr} {o:Obj} {mA:Str->Option Value} {name:Str} {v:Value} {h':Heap} (hx:h.get? x=some o) (hc:o.cls=.ref gfA) (hnc:∀ c,o.data ≠ .cls c) (hdx:o.dict=some dx) (hne:dx ≠ x)
  (hn:h'.Ns1 dx (fun y=>if y=name then some v else mA y)) (hs:Heap.SameBut dx h h'):kY h x mA name v h' :=
 have hx':=(hs.2 x hne.symm).trans hx
 ⟨⟨o,hx',hc,hnc,.inr ⟨dx,hdx,hne,hn⟩⟩,fun b ob _ hbd hb=>(hs.2 b (hbd o dx hx hdx)).trans hb,fun o₀ h₀=>⟨o,hx',Option.some.inj (hx.symm.trans h₀) ▸ rfl,Option.some.inj (hx.symm.trans h₀) ▸ rfl⟩,fun o₁ dx' e1 e2=>.inr ⟨o,hx,Option.some.inj (hx'.symm.trans e1) ▸ e2⟩⟩
theorem lJ (X : dO h mN mL) {x : Addr} {mA : Str → Option Value} {name : Str} {v : Value} {tk : Tok} {Q : Fin → Shared → Prop} {ns : List Str} (h1 : mN name = none) (h2 : mL name = none) (hB : typeLookup (.type "Exception") name = pure none) (I : h.Inst x gfA mA)
  (hq:∀ h' tk',kY h x mA name v h'->Q (.done (.ret .none)) ⟨h',g,d,tk',os⟩) (hw:Within mA ns) (hsz:ns.length+1≤sizeLine) :
  wpAny (model prog w) A (Builtin.«object.__setattr__» ⟨[.ref x,.str name tk,v],[]⟩) Q E ⟨h,g,d,t,os⟩:=by
 obtain ⟨o,hx,hc,hnc,hd⟩:=I
 have SF:=PySem.F.store_Exception
 have hpass:=SF.passes (.ref x)
 obtain ⟨nm,q,N,bs,sn,sub,ab,col,dd,k0,k1,k2,k3,k5,c0,dL,cd,sl,hC,hN,hL,hNL⟩:=id X
 unfold Builtin.«object.__setattr__»
 have hp2 : refuseLoop (.ref x) "__setattr__" bmX = pure () := by rw [refuseLoop_ref]; exact hpass
 repeat (first | rw [refuse_eq] | (rw [refuseLoop_ref,hp2]) | (with_reducible refine wpAny_loadPart_at hx ?_;rw [hc]) | with_reducible refine wpAny_mroOf_exc hC ?_ | (with_reducible refine ji X hB ?_;rw [h1,h2]) | wp_step)
 clear hC hN hL hNL X hp2 hpass SF
 rcases hd with ⟨hdn,hmA⟩ | ⟨dx,hdx,hne,hns⟩
 ·rw [hdn,if_neg (by simp [typeHasDict])]
  split
  ·rename_i hcd;cases hcd
  split
  ·rename_i c hcd;exact absurd hcd (hnc c)
  ·have hx₁ : (h.push { cls := .type "dict", data := .dict #[] }).get? x = some o := Heap.get?_push_of_some _ hx
   refine wpAny_bind (wpAny_alloc' (wpAny_bind (wpAny_update' hx₁ (wpAny_pure ?_))))
   have hgd : ((h.push { cls := .type "dict", data := .dict #[] }).update x fun o => { cls := o.cls, dict := some h.objs.size, data := o.data, slots := o.slots }).get? h.objs.size = some { cls := .type "dict", data := .dict #[] } :=
    (Heap.get?_update_ne _ _ _ _ (Nat.ne_of_gt (Heap.lt_size hx))).trans (Heap.get?_push_at rfl rfl)
   exact Ak (Heap.Ns1.of_empty ⟨_,#[],_,hgd,rfl,fun e he=>absurd he (by simp),fun _=>rfl⟩) Within.nil (by rw [sizeLine_eq];decide) fun h' t' hn hs=>hq h' t' (stored_new hx hc hnc hmA hn hs)
 ·rw [hdx]
  exact wpAny_pure (Ak hns hw hsz fun h' t' hn hs=>hq h' t' (ue hx hc hnc hdx hne hn hs))
theorem qT {M:Model} (X:dO h mN mL) {x:Addr} {o:Obj} {nameV v:Value} {Q:Unit->Shared->Prop} (hx:h.get? x=some o) (hc:o.cls=.ref gfA) (hq:Q () ⟨h,g,d,t,os⟩) :
  wpAny M A (checkBuiltinCall "object.__setattr__" ⟨[.ref x, nameV, v], []⟩) Q E ⟨h, g, d, t, os⟩ := by
 have SF:=PySem.F.store_Exception
 obtain ⟨nm,q,N,bs,sn,sub,ab,col,dd,k0,k1,k2,k3,k5,c0,dL,cd,sl,hC,hN,hL,hNL⟩:=X
 have hcB : (Value.ref gfA :: bmX).contains (.type "object") = true := by decide
 have ha:=SF.args (.ref x) nameV v
 simp only [checkBuiltinCall,SF.kind,SF.split]
 refine wpAny_bind ?_
 unfold isInstance
 repeat (first | (with_reducible refine wpAny_loadPart_at hx ?_;rw [hc]) | (with_reducible refine wpAny_isSubtype_exc hC ?_;rw [hcB]) | wp_step)
 exact hq
theorem n8 (X : dO h mN mL) {x : Addr} {mA : Str → Option Value} {name : Str} {v : Value} {tk : Tok} {R : Result → Shared → Prop} {ns : List Str} (h1 : mN name = none) (h2 : mL name = none) (hB : typeLookup (.type "Exception") name = pure none) (I : h.Inst x gfA mA)
  (hq:∀ h' tk',kY h x mA name v h'->R (.ok (.ret .none)) ⟨h',g,d,tk',os⟩) (hw:Within mA ns) (hsz:ns.length+1≤sizeLine) :
  codeAny (model prog w) A (.call (.builtin "object.__setattr__") ⟨[.ref x, .str name tk, v], []⟩) R ⟨h, g, d, t, os⟩ := by
 have SF:=PySem.F.store_Exception
 obtain ⟨o,hx,hc,_⟩:=id I
 exact codeAny_call_builtin SF.slot.plain SF.entry (qT X hx hc (lJ X h1 h2 hB I hq hw hsz))
theorem qU (X : dO h mN mL) {x : Addr} {mA : Str → Option Value} {name : Str} {v : Value} {Q : Unit → Shared → Prop} {ns : List Str} (g1 : mN "__setattr__" = none) (g2 : mL "__setattr__" = none) (h1 : mN name = none) (h2 : mL name = none) (hB : typeLookup (.type "Exception") name = pure none) (I : h.Inst x gfA mA)
  (hq:∀ h' tk',kY h x mA name v h'->Q () ⟨h',g,d,tk',os⟩) (hw:Within mA ns) (hsz:ns.length+1≤sizeLine) :
  wpAny (model prog w) A (setAttr (.ref x) name v) Q E ⟨h,g,d,t,os⟩:=by
 obtain ⟨o,hx,hc,_⟩:=id I
 have f3:=PySem.F.store_Exception.slot.bind (.ref x)
 have f4:=PySem.F.store_Exception.slot.lookup
 unfold setAttr callSpecial? specialOf
 repeat (any_goals (first | assumption | (with_reducible refine wpAny_loadPart_at hx ?_;rw [hc]) | (with_reducible refine ji X f4 ?_;rw [g1,g2]) | wp_step))
 refine n8 X h1 h2 hB I (fun h' tk' I'=>?_) hw hsz
 repeat (any_goals (first | assumption | wp_step))
 exact hq h' tk' I'
end
end Mine.Internal
end
section
namespace Mine.Internal
open PySem PySem.W PySem.Calls PyProof.Rows PyProof.V
noncomputable def sN (s:String):Str:=Str.ofString s
noncomputable def rdE {α:Type} (d:α) (n:Pos->α) (a:Expr->Pos->α) (c:Expr->List Expr->Pos->α):Expr->α
 | .Name _ p=>n p
 | .Attribute o _ p=>a o p
 | .Call f as _ p=>c f as p
 | _=>d
noncomputable def rdS {α:Type} (d:α) (e:Expr->Pos->α) (a:List Expr->Expr->Pos->α):Stmt->α
 | .Expr x p=>e x p
 | .Assign ts v p=>a ts v p
 | _=>d
noncomputable def d0:Pos:=⟨0,0,0,0⟩
noncomputable def dE : Expr := .Name (sN "") d0
noncomputable def eP:Expr->Pos:=rdE d0 (fun p=>p) (fun _ p=>p) (fun _ _ p=>p)
noncomputable def eF:Expr->Expr:=rdE dE (fun _=>dE) (fun o _=>o) (fun f _ _=>f)
noncomputable def eA (k:Nat):Expr->Expr:=rdE dE (fun _=>dE) (fun _ _=>dE) (fun _ as _=>as.getD k dE)
noncomputable def sP (k:Nat) (b:List Stmt):Pos:=rdS d0 (fun _ p=>p) (fun _ _ p=>p) (b.getD k (.Break d0))
noncomputable def sE (k:Nat) (b:List Stmt):Expr:=rdS dE (fun x _=>x) (fun _ v _=>v) (b.getD k (.Break d0))
noncomputable def sT (k:Nat) (b:List Stmt):Expr:=rdS dE (fun _ _=>dE) (fun ts _ _=>ts.headD dE) (b.getD k (.Break d0))
noncomputable def lN (b:List Stmt):List Stmt :=
 [.Expr (.Call (.Attribute (.Name (sN "Exception") (eP (eF (eF (sE 0 b))))) (sN "__init__") (eP (eF (sE 0 b)))) [.Name (sN "self") (eP (eA 0 (sE 0 b))), .Name (sN "message") (eP (eA 1 (sE 0 b)))] [] (eP (sE 0 b))) (sP 0 b),
 .Assign [.Attribute (.Name (sN "self") (eP (eF (sT 1 b)))) (sN "message") (eP (sT 1 b))] (.Name (sN "message") (eP (sE 1 b))) (sP 1 b),
 .Assign [.Attribute (.Name (sN "self") (eP (eF (sT 2 b)))) (sN "spot") (eP (sT 2 b))] (.Name (sN "spot") (eP (sE 2 b))) (sP 2 b)]
noncomputable def zx (ps:Arguments) (sc:Scope) (b:List Stmt):Bool :=
 (eP (eF (sE 0 b))).endLine == (eP (sE 0 b)).line && (sc.names.lookup (sN "Exception") == some .globalImplicit && (ps.args.map (·.arg)) == [sN "self", sN "message", sN "spot"])
inductive kT (ps:Arguments) (sc:Scope):List Stmt->Prop where
 | mk (q1 ap q2 q3 cp q4 q5 q6 q7 q8 q9 q10 q11 q12 : Pos) (hl : (ap.endLine == cp.line) = true) (he : sc.names.lookup (sN "Exception") = some .globalImplicit) (hn : ps.args.map (·.arg) = [sN "self", sN "message", sN "spot"]) :
  kT ps sc [.Expr (.Call (.Attribute (.Name (sN "Exception") q1) (sN "__init__") ap) [.Name (sN "self") q2, .Name (sN "message") q3] [] cp) q4, .Assign [.Attribute (.Name (sN "self") q5) (sN "message") q6] (.Name (sN "message") q7) q8, .Assign [.Attribute (.Name (sN "self") q9) (sN "spot") q10] (.Name (sN "spot") q11) q12]
theorem GO {ps:Arguments} {b:List Stmt} {sc:Scope} (e:b=lN b) (h:zx ps sc b=true):kT ps sc b:=by
 obtain ⟨h1,h⟩:=Bool.and_eq_true_iff.mp h
 obtain ⟨h2,h3⟩:=Bool.and_eq_true_iff.mp h
 rw [e]
 exact .mk _ _ _ _ _ _ _ _ _ _ _ _ _ _ h1 (beq_iff_eq.mp h2) (beq_iff_eq.mp h3)
theorem kT.names {ps : Arguments} {bd : List Stmt} {sc : Scope} (V : kT ps sc bd) : ps.args.map (·.arg) = [sN "self", sN "message", sN "spot"] := V.rec fun _ _ _ _ _ _ _ _ _ _ _ _ _ _ _ _ h => h
structure uB (mN mL:Str->Option Value):Prop where
 a1 : mN "__setattr__" = none
 a2 : mL "__setattr__" = none
 m1 : mN "message" = none
 m2 : mL "message" = none
 s1 : mN "spot" = none
 s2 : mL "spot" = none
structure d8 (B:Heap) (mg mb:Str->Option Value):Prop where
 cls : ∃ mN mL, dO B mN mL ∧ mN "__init__" = none ∧ mL "__init__" = some (.ref cy) ∧ uB mN mL
 fn:∃ ps bd sc,kR B cy ps bd sc∧kT ps sc bd
 fnc : ∃ o, B.get? cy = some o ∧ o.cls = .type "function"
 exc : mg "Exception" = none ∧ mb "Exception" = some (.type "Exception")
section
variable {prog:Program} {w:World} {B:Heap} {mg mb:Str->Option Value} {E:Value->Shared->Prop} {A:Around} {fr:List Addr} {γ:Gam} {σ:Sto}
theorem qL (x : Str) (hx : x = sN "message" ∨ x = sN "spot") : typeLookup (.type "Exception") x = pure none := by
 rw [typeLookup_type,builtinLookup_eq_fast]
 rcases hx with rfl | rfl <;> kernel_rfl
noncomputable def At3 (L e : Addr) (m sp : Value) (h : Heap) : Prop := ∃ mm, h.Ns L mm ∧ mm (sN "self") = some (.ref e) ∧ mm (sN "message") = some m ∧ mm (sN "spot") = some sp
theorem At3.mono {L e:Addr} {m sp:Value} {h h':Heap} (x:At3 L e m sp h) (k:∀ o,h.get? L=some o->h'.get? L=some o):At3 L e m sp h':=by
 obtain ⟨mm,⟨o,es,ep,ho,r⟩,y⟩:=x
 exact ⟨mm,⟨o,es,ep,k o ho,r⟩,y⟩
structure gT (p:Addr->Option Obj) (e:Addr) (h:Heap):Prop where
 keep:∀ b o,p b=some o->h.get? b=some o
 obj:∃ o vs,h.get? e=some o∧o.cls=.ref gfA∧o.data=.fields vs∧vs[1]?=some .none∧∀ dx,o.dict=some dx->p dx=none
theorem gT.store {p:Addr->Option Obj} {e:Addr} {h h':Heap} (he:p e=none) (F:gT p e h) (kp:∀ b o,b ≠ e->(∀ o₀ dx,h.get? e=some o₀->o₀.dict=some dx->b ≠ dx)->h.get? b=some o->h'.get? b=some o)
  (hs:∀ o₀,h.get? e=some o₀->∃ o₁,h'.get? e=some o₁∧o₁.cls=o₀.cls∧o₁.data=o₀.data) (dn:∀ o₁ dx,h'.get? e=some o₁->o₁.dict=some dx->h.get? dx=none∨∃ o₀,h.get? e=some o₀∧o₀.dict=some dx):gT p e h':=by
 obtain ⟨k,o,vs,ho,hc,hd,hv,hx⟩:=F
 obtain ⟨o₁,h1,c,d⟩:=hs o ho
 refine ⟨fun b o' hb=>kp b o' (fun q=>?_) (fun o₀ dx e1 e2 q=>?_) (k b o' hb),o₁,vs,h1,c.trans hc,d.trans hd,hv,fun dx q=>?_⟩
 ·rw [q,he] at hb
  exact nn hb
 ·rw [q,hx dx ((Option.some.inj (ho.symm.trans e1)) ▸ e2)] at hb
  exact nn hb
 ·rcases dn o₁ dx h1 q with n | ⟨o₀,e1,e2⟩
  ·cases hp:p dx with
   | none=>rfl
   | some y=>exact nn (n.symm.trans (k dx y hp))
  ·exact hx dx ((Option.some.inj (ho.symm.trans e1)) ▸ e2)
section
variable {sc : Scope} {nm : Str} {L a e : Addr} {cd m sp : Value} {Q E' : Value → Shared → Prop} {s : Shared} {p : Pos} (hk : sc.kind = .function) (hl : ∀ x ∈ [sN "self", sN "message", sN "spot"], sc.names.lookup x = some .local) (T : At3 L e m sp s.heap)
include hk hl T
theorem pM (hq : Q (.ref e) s) : wpAny (model prog w) A (eval (.Name (sN "self") p) (envOf nm sc L a cd)) Q E' s := let ⟨_, hn, h1, _, _⟩ := T
 wpAny_Name (wpAny_loadName_local (env:=envOf nm sc L a cd) hk (hl _ (.head _)) hn h1 hq) (by decide)
theorem zP (hq : Q m s) : wpAny (model prog w) A (eval (.Name (sN "message") p) (envOf nm sc L a cd)) Q E' s := let ⟨_, hn, _, h1, _⟩ := T
 wpAny_Name (wpAny_loadName_local (env:=envOf nm sc L a cd) hk (hl _ (.tail _ (.head _))) hn h1 hq) (by decide)
theorem Cs (hq : Q sp s) : wpAny (model prog w) A (eval (.Name (sN "spot") p) (envOf nm sc L a cd)) Q E' s := let ⟨_, hn, _, _, h1⟩ := T
 wpAny_Name (wpAny_loadName_local (env:=envOf nm sc L a cd) hk (hl _ (.tail _ (.tail _ (.head _)))) hn h1 hq) (by decide)
end
section
variable {sc : Scope} {nm : Str} {L a e : Addr} {cd m sp : Value} {Q : Flow → Shared → Prop} {E' : Value → Shared → Prop} {mN mL : Str → Option Value} {pp : Addr → Option Obj} {h : Heap} {g : Array GenState} {d : Drawn} {t : Nat} {os : OsState} {q1 q2 q3 q4 : Pos} (hk : sc.kind = .function) (hl : ∀ x ∈ [sN "self", sN "message", sN "spot"], sc.names.lookup x = some .local)
 (X:dO h mN mL) (Y:uB mN mL) (he:pp e=none) (T:At3 L e m sp h) (F:gT pp e h)
include hk hl X Y he T F
theorem zy {r : List Stmt} (I : h.Inst e gfA fun _ => none) (hq : ∀ h' tk, h'.Inst e gfA (fun y => if y = sN "message" then some m else none) → gT pp e h' → wpAny (model prog w) A (execs r (envOf nm sc L a cd)) Q E' ⟨h', g, d, tk, os⟩) :
  wpAny (model prog w) A (execs (.Assign [.Attribute (.Name (sN "self") q1) (sN "message") q2] (.Name (sN "message") q3) q4 :: r) (envOf nm sc L a cd)) Q E' ⟨h, g, d, t, os⟩ := by
 refine wpAny_execs_cons (plainObj_wpAny_Assign_Attribute (zP hk hl T (pM hk hl T ?_)) rfl)
 exact qU X Y.a1 Y.a2 Y.m1 Y.m2 (qL _ (.inl rfl)) I (fun h' tk S=>hq h' tk S.inst (F.store he S.keep S.same S.dict)) Within.nil (by rw [sizeLine_eq];show 1≤_;decide)
theorem wX (I : h.Inst e gfA (fun y => if y = sN "message" then some m else none)) (hq : ∀ h' tk, gT pp e h' → Q .next ⟨h', g, d, tk, os⟩) :
  wpAny (model prog w) A (execs [.Assign [.Attribute (.Name (sN "self") q1) (sN "spot") q2] (.Name (sN "spot") q3) q4] (envOf nm sc L a cd)) Q E' ⟨h, g, d, t, os⟩ := by
 refine wpAny_execs_cons (plainObj_wpAny_Assign_Attribute (Cs hk hl T (pM hk hl T ?_)) rfl)
 refine qU X Y.a1 Y.a2 Y.s1 Y.s2 (qL _ (.inr rfl)) I (ns := [sN "message"]) (fun h' tk S => wpAny_execs_nil (hq h' tk (F.store he S.keep S.same S.dict))) (fun y hy => ?_) (by rw [sizeLine_eq]; show 2 ≤ _; decide)
 by_cases q : y = sN "message"
 ·rw [q];exact .head _
 ·exact absurd (if_neg q) hy
end
noncomputable def ny (h₀ h₁:Heap) (L:Addr) (b:Addr):Option Obj:=if b=L then h₁.get? L else h₀.get? b
structure fU (h₀ h₁:Heap) (L e:Addr):Prop where
 free:∀ b o,h₀.get? b=some o->b ≠ L
 keep:Keeps h₀ h₁
 obj:h₀.get? e=none
 ne:e ≠ L
section
variable {h₀ h₁ h':Heap} {L e:Addr} {m sp:Value} (X:fU h₀ h₁ L e)
include X
theorem fU.he:ny h₀ h₁ L e=none:=(if_neg X.ne).trans X.obj
theorem fU.hk {b:Addr} {o:Obj} (q:ny h₀ h₁ L b=some o):h₁.get? b=some o:=by
 by_cases c:b=L
 ·exact c ▸ (if_pos c).symm.trans q
 ·exact X.keep _ _ ((if_neg c).symm.trans q)
theorem fU.h0 (F:gT (ny h₀ h₁ L) e h'):Keeps h₀ h':=fun b o q=>F.keep b o ((if_neg (X.free b o q)).trans q)
theorem fU.at3 (T:At3 L e m sp h₁) (F:gT (ny h₀ h₁ L) e h'):At3 L e m sp h':=T.mono fun o q=>F.keep _ o ((if_pos rfl).trans q)
theorem fU.fresh {c:Value} {vs:Array Value} (kp:∀ b o,b ≠ e->h₁.get? b=some o->h'.get? b=some o) (hg:h'.get? e=some { cls:=.ref gfA,data:=.fields vs }) (hv:vs[1]?=some .none):gT (ny h₀ h₁ L) e h' :=
 ⟨fun b o q=>kp b o (fun c=>ns (q.symm.trans (c ▸ X.he))) (X.hk q),_,_,hg,rfl,rfl,hv,fun _ q=>ns q.symm⟩
end
theorem zC {h:Heap} {e:Addr} {vs:Array Value} (hg:h.get? e=some { cls:=.ref gfA,data:=.fields vs }):h.Inst e gfA fun _=>none:=⟨_,hg,rfl,fun c=>by simp,.inl ⟨rfl,fun _=>rfl⟩⟩
theorem wV (G : bZ prog w B mg mb) (FO : d8 B mg mb) {mN mL : Str → Option Value} (X : dO B mN mL) (Y : uB mN mL) {ps : Arguments} {bd : List Stmt} {sc : Scope} (V : kT ps sc bd) (hk : sc.kind = .function) (hl : ∀ x ∈ [sN "self", sN "message", sN "spot"], sc.names.lookup x = some .local)
  {h₀ h₁:Heap} {L e t0:Addr} (Z:fU h₀ h₁ L e) (hB:Keeps B h₀) {nm:Str} {cd m sp:Value} (T:At3 L e m sp h₁) {g:Array GenState} {d:Drawn} {t:Nat} {os:OsState} {Q:Flow->Shared->Prop} (hget:h₁.get? e=some { cls:=.ref gfA,data:=.fields #[.ref t0,.none,.none,.none,.bool false,.none] })
  (hq:∀ h' tk,gT (ny h₀ h₁ L) e h'->Q .next ⟨h',g,d,tk,os⟩):wpAny (model prog w) A (execs bd (envOf nm sc L cy cd)) Q E ⟨h₁,g,d,t,os⟩:=by
 obtain ⟨q1,ap,q2,q3,cp,q4,q5,q6,q7,q8,q9,q10,q11,q12,i11,i12,_⟩:=V
 have kB:=hB.trans Z.keep
 refine wpAny_execs_cons (wpAny_Expr_any (MethodCall_ (Name_function_global (env:=envOf nm sc L cy cd) hk i12 (loadGlobal_builtin (env:=envOf nm sc L cy cd) (G.g.keeps kB) FO.exc.1 (G.b.keeps kB) FO.exc.2 ?_) (by decide)) (fC (by show (true && (ap.endLine == cp.line) && Nat.blt 2 30)=true;rw [i11];rfl) rfl)) (by show (sc.kind == .module && _)=false;rw [hk];rfl) rfl)
 refine sV (bz rfl (fun a e=>by cases e) ?_)
 refine wpAny_items_cons (pM hk hl T ?_) rfl
 refine wpAny_items_cons (zP hk hl T (wpAny_items_nil ?_)) rfl
 refine pA (X.keeps kB) hget fun h₂ t1 tk₂ kp₂ hget₂=>?_
 have F₂:=Z.fresh (c:=m) kp₂ hget₂ rfl
 refine zy hk hl (X.keeps (hB.trans (Z.h0 F₂))) Y Z.he (Z.at3 T F₂) F₂ (zC hget₂) fun h₃ tk₃ I₃ F₃=>?_
 exact wX hk hl (X.keeps (hB.trans (Z.h0 F₃))) Y Z.he (Z.at3 T F₃) F₃ I₃ hq
theorem sX (G:bZ prog w B mg mb) (FO:d8 B mg mb) {h h₀:Heap} {g:Array GenState} {d:Drawn} {t:Nat} {os:OsState} {e t0:Addr} {m sp:Value} {Q:Value->Shared->Prop} (hB:Keeps B h₀) (hk:Keeps h₀ h) (he:h₀.get? e=none) (hroom:A.depth < 1000)
  (hget:h.get? e=some { cls:=.ref gfA,data:=.fields #[.ref t0,.none,.none,.none,.bool false,.none] })
  (hq:∀ h' tk,Keeps h₀ h'->(∃ oe vs,h'.get? e=some oe∧oe.cls=.ref gfA∧oe.data=.fields vs∧vs[1]?=some .none)->Q .none ⟨h',g,d,tk,os⟩) :
  wpAny (model prog w) A (call (.ref cy) [.ref e,m,sp]) Q E ⟨h,g,d,t,os⟩:=by
 obtain ⟨mN,mL,X,_,_,Y⟩:=FO.cls
 obtain ⟨ps,bd,sc,XF,V⟩:=FO.fn
 obtain ⟨sh,dv,dd,_,_,hdl,en⟩:=qJ (prog:=prog) (w:=w) XF
 have hns:=V.names
 have h3:ps.args.length=3:=(List.length_map ..).symm.trans (congrArg List.length hns)
 have kB:Keeps B h:=hB.trans hk
 have hb:l9 ps.args.length [.ref e,m,sp] dv=[.ref e,m,sp]:=by
  rw [h3]
  exact congrArg ([.ref e,m,sp]++·) (List.drop_length (l:=dv))
 refine en (s:=⟨h,g,d,t,os⟩) hroom kB (G.nolim.keeps kB) (h3 ▸ Nat.le_refl 3) (h3 ▸ Nat.zero_le _) rfl fun nm cd h₁ hN k₁=>?_
 rw [hb,hns] at hN
 have hLn:∀ {o},h.get? h.objs.size ≠ some o:=fun q=>ns (q.symm.trans (aZ _))
 have Z:fU h₀ h₁ h.objs.size e:=⟨fun b o q c=>hLn (c ▸ hk _ _ q),hk.trans k₁,he,fun c=>hLn (c ▸ hget)⟩
 refine wV G FO X Y V sh.fn (hns ▸ sh.args) Z hB ⟨_,hN,rfl,rfl,rfl⟩ (k₁ _ _ hget) fun h' tk F=>?_
 obtain ⟨o,vs,y1,y2,y3,y4,_⟩:=F.obj
 exact hq h' tk (Z.h0 F) ⟨o,vs,y1,y2,y3,y4⟩
end
end Mine.Internal
end
section
namespace Mine.Internal
open PySem PySem.W PySem.Calls PyProof.Rows PyProof.V
noncomputable def kU (h:Heap) (e:Addr):Prop:=∃ oe vs,h.get? e=some oe∧oe.cls=.ref gfA∧oe.data=.fields vs∧vs[1]?=some .none
section
variable {prog:Program} {w:World} {A:Around} {E:Value->Shared->Prop} {env:Env}
theorem zk {s:Shared} {x:Sem Value} {Q:Flow->Shared->Prop} (hh:A.handled=none)
  (h:wpAny (model prog w) A x (fun v s₁=>∃ e mN mL,v=.ref e∧dO s₁.heap mN mL∧kU s₁.heap e∧E (.ref e) s₁) E s):wpAny (model prog w) A (raiseStmt env (some x) none) Q E s:=by
 have hcB : (Value.ref gfA :: bmX).contains (.type "BaseException") = true := by decide
 unfold raiseStmt
 refine wpAny_bind (wpAny_mono h (fun v s₁ h₁=>?_) fun _ _ x=>x)
 obtain ⟨e,mN,mL,rfl,X,⟨oe,vs,he,hc,hd,hv⟩,hE⟩:=h₁
 obtain ⟨nm,q,N,bs,sn,sub,ab,col,dd,k0,k1,k2,k3,k5,c0,dL,cd,sl,hC,hN,hL,hNL⟩:=X
 obtain ⟨oc,od,odt,osl⟩:=oe
 simp only at hc hd
 subst hc hd
 obtain ⟨hp,g,d,tk,os⟩:=s₁
 repeat (first | with_reducible refine wpAny_loadPart_at he ?_ | with_reducible refine wpAny_loadPart_at hC ?_ | (dsimp only;with_reducible refine wpAny_isSubtype_exc hC ?_;rw [hcB]) | wp_step)
 rw [hv]
 refine wpAny_pure ?_
 rw [if_neg (by decide)]
 exact wpAny_pure (wpAny_raiseNew_none hh hE)
end
section
variable {prog:Program} {w:World} {B:Heap} {mg mb:Str->Option Value} {E:Ev} {A:Around} {cx:Cx} {env:Env} {outer:List Env} {L:Addr} {dp:Nat} {fr₀ fr ks:List Addr} {ρ ρ':Loc} {γ γ₁:Gam} {σ:Sto} {s s₁:Shared} {z:Bool} {K:Frag}
theorem Den.glob_at {h:Heap} {fr:List Addr} {γ:Gam} {v:Value} {a:Nat} (d:Den prog w h fr γ v (.glob a)):v=.ref a:=d.inv
theorem C6 {E':Value->Shared->Prop} (G:bZ prog w B mg mb) (FO:d8 B mg mb) {m sp:Value} {Q:Value->Shared->Prop} (hB:Keeps B s.heap) (hroom:A.depth < 900)
  (hq:∀ e h' tk,s.heap.get? e=none->Keeps s.heap h'->kU h' e->Q (.ref e) { s with heap:=h',toks:=tk }):wpAny (model prog w) A (call (.ref gfA) [m,sp]) Q E' s:=by
 obtain ⟨mN,mL,X,x1,x2,_⟩:=FO.cls
 obtain ⟨oI,hoI,hcI⟩:=FO.fnc
 obtain ⟨h,g,d,t,os⟩:=s
 refine BZ (X.keeps hB) x1 x2 (hB _ _ hoI) hcI ?_ (by rw [sizeLine_eq];show 2≤_;decide)
 have he:h.get? (h.objs.size+1)=none:=Heap.get?_none_of_le (Nat.le_succ _)
 refine sX (h₀:=h) (e:=h.objs.size+1) G FO hB cj he (Nat.lt_of_le_of_lt hroom (by decide)) iM fun h' tk kk hnf=>?_
 exact ⟨rfl,hq _ h' tk he kk hnf⟩
theorem DS (HX : Facts prog w B mg mb K) (FO : d8 B mg mb) (S : Sound prog w B E) (F : Fc A cx env outer L dp) (P : Pre prog w B cx env outer L fr₀ ρ γ σ s.heap) (n : Nat) (x : Str) (np cp pos : Pos) (m p : Expr) (hx : isS x "GrammarFault" = true) (hpl : aW [m, p] = true) (hg : cx.glob x = some (.glob gfA))
  (h:aG E dp ρ (.raise (aa n cx m) (aa n cx p)) σ ≠ .no):WS prog w B cx L fr₀ A (exec (.Raise (some (.Call (.Name x np) [m,p] [] cp)) none pos) env) s γ (aG E dp ρ (.raise (aa n cx m) (aa n cx p)) σ):=by
 obtain ⟨hm,hp⟩:=ak hpl
 obtain ⟨mN,mL,X,_⟩:=FO.cls
 refine dI h fun r hr h=>?_
 show wpAny _ _ (do
  standAt pos
  raiseStmt env (some (do let v ← eval (.Call (.Name x np) [m,p] [] cp) env;standAt pos;pure v)) none) _ _ s
 refine wpAny_bind (wpAny_standAt (zk F.hand (wpAny_bind (wpAny_mono (Q:=fun v s₁=>∃ e mN mL,v=.ref e∧dO s₁.heap mN mL∧kU s₁.heap e∧cY prog w B L fr₀ s γ r (.ref e) s₁) ?_ (fun v s₁ q=>wpAny_bind (wpAny_standAt (wpAny_pure q))) fun _ _ q=>q))))
 refine wpAny_Call_NameR (ld_global HX.G F P hg fun v hv=>?_)
 obtain rfl:=hv.glob_at
 refine dw hpl (P:=K.In) (fun hh hK=>keeps_K HX.KB.keepG hh hK) ?_
 refine wpAny_items_cons (bB S F P n m hr h fun u d σ₁ γ₁ s₁ st P₁ rs hd er=>?_) (gn hm)
 refine wpAny_items_cons (iK S F st rs P₁ n p er h fun v d₂ σ₂ γ₂ s₂ st₂ st₂' P₂ rs₂ hd₂ er₂=>wpAny_items_nil ⟨Inv.frag HX.KB P₂.inv,?_⟩) (gn (ak hp).1)
 have hB:Keeps B s₂.heap:=fun b o e=>(P₂.inv.base b o e).1
 refine C6 HX.G FO hB (Nat.lt_of_le_of_lt (Nat.le_add_right _ _) (Nat.lt_trans F.room (by decide))) fun e h' tk he kk hnf=>?_
 refine ⟨e,mN,mL,rfl,X.keeps (hB.trans kk),hnf,none,.inl rfl,.mk σ₂ γ₂ er₂ ((st₂.weaken b8).trans (Keeps.step kk)) (P₂.inv.keeps kk) (Rest.trans rs₂ ⟨rfl,rfl,rfl⟩) ?_⟩
 obtain ⟨oe,vs,h1,h2,h3,h4⟩:=hnf
 exact ⟨e,oe,vs,rfl,(st₂.older P₂.inv).none he,h1,h2,h3,.inl ⟨rfl,h4⟩⟩
end
end Mine.Internal
end
section
namespace Mine.Internal
open PySem PySem.W PySem.Calls PyProof.Rows PyProof.V
section
variable {prog:Program} {w:World} {B:Heap} {mg mb:Str->Option Value} {E:Ev} {A A':Around} {cx:Cx} {env:Env} {outer:List Env} {L:Addr} {dp:Nat} {fr₀ fr ks:List Addr} {ρ ρ':Loc} {γ γ₁:Gam} {σ:Sto} {s s₁:Shared} {z:Bool} {K:Frag}
theorem tC {x:Str} {pos:Pos} {d:D} (G:bZ prog w B mg mb) (F:Fc A cx env outer L dp) (I:Inv prog w B fr γ σ s.heap) (e:cx.glob x=some d) {Q:Value->Shared->Prop} {E':Value->Shared->Prop}
  (hq:∀ v,Den prog w s.heap fr γ v d->Q v s):wpAny (model prog w) A' (eval (.Name x pos) env) Q E' s:=by
 obtain ⟨h1,h2⟩:=nN F e
 obtain ⟨hd,v,hv,hden⟩:=G.tab x d h2
 obtain ⟨name,a,cd,rfl⟩:=F.envEq
 exact Name_function_global (env:=envOf name cx.scope L a cd) F.kind h1 (loadGlobal_global (env:=envOf name cx.scope L a cd) (G.g.keeps fun b o e=>(I.base b o e).1) hv (hq v (hden _ _ _ I.base))) hd
theorem jl {n h h':Heap} {fs:List Addr} (x:gU prog w h (L :: fr₀) γ cx L ρ) (q:Quiet n fs h h') (hf:∀ a ∈ fs,a ∈ L :: fr₀):gU prog w h' (L :: fr₀) γ cx L ρ:=by
 obtain ⟨m,⟨o,es,ep,ho,hd,r⟩,k⟩:=x
 have hn:h'.Ns L m:=by
  by_cases hL:L ∈ fs
  ·obtain ⟨sl,e⟩:=q.frames L hL o ho
   exact ⟨_,es,ep,e,hd,r⟩
  ·exact ⟨o,es,ep,q.keep _ _ ho hL (.inr fun vs e=>by rw [hd] at e;cases e),hd,r⟩
 exact ⟨m,hn,fun i x d e1 e2=>let ⟨v,a,b⟩:=k i x d e1 e2;⟨v,a,b.quiet q hf⟩⟩
theorem IU {i:Nat} {x:X} {d:D} {σ₁:Sto} (e:E.x dp ρ x σ=.ok d σ₁):aG E dp ρ (.try_ i x) σ=.ok (.next,put ρ i d) σ₁:=by
 unfold aG
 dsimp only
 rw [e]
theorem Ei {i:Nat} {x:X} {σ₁:Sto} (e:E.x dp ρ x σ=.err σ₁):aG E dp ρ (.try_ i x) σ=.ok (.ret .none,ρ) σ₁:=by
 unfold aG
 dsimp only
 rw [e]
theorem wo (FO:d8 B mg mb) {M:Model} {n:Heap} {fl:Option Addr} {e:Value} {Q:Bool->Shared->Prop} {E':Value->Shared->Prop} (k:Keeps B s.heap) (t:iF n fl e s.heap) (hq:Q true s):wpAny M A (excMatches e (.ref gfA)) Q E' s:=by
 obtain ⟨a,oe,vs,rfl,h1,h2,h3,h4,hrest⟩:=t
 obtain ⟨mN,mL,X,_⟩:=FO.cls
 obtain ⟨nm,q,N,bs,sn,sub,ab,col,dd,k0,k1,k2,k3,k5,c0,dL,cd,sl,hC,hN,hL,hNL⟩:=X.keeps k
 obtain ⟨h,g,d,tk,os⟩:=s
 exact wpAny_excMatches_sub_self (bm:=bmX) hC h2 h3 (by decide) hq
theorem Ol (HX:Facts prog w B mg mb K) (FO:d8 B mg mb) (S:Sound prog w B E) (F:Fc A cx env outer L dp) (P:Pre prog w B cx env outer L fr₀ ρ γ σ s.heap) (n:Nat) (x gN:Str) (p1 p2 p3 p4 p5 p6 p7:Pos) (k₀:Nat) (i:Nat) (v:Expr) (hi:cx.slot x=some i) (hs:nt v=true) (hg:cx.glob gN=some (.glob gfA))
  (h:aG E dp ρ (.try_ i (aa n cx v)) σ ≠ .no) :
  WS prog w B cx L fr₀ A (exec (.Try [.Assign [.Name x p1] v p2] [.ExceptHandler (some (.Name gN p3)) none [.Return (some (.Constant .none k₀ p4)) p5] p6] [] [] p7) env) s γ (aG E dp ρ (.try_ i (aa n cx v)) σ):=by
 have hne:E.x dp ρ (aa n cx v) σ ≠ .no:=fun e=>h (show (match E.x dp ρ (aa n cx v) σ with | .ok d σ=>_ | .err σ=>_ | .no=>_)=_ by rw [e])
 refine dI h fun r hr h=>?_
 refine wpAny_Try_except (wpAny_execs_cons (wpAny_Assign_Name (wpAny_mono (S.sx n v F P hne) (fun u s₁ q=>?_) fun e s₁ q=>?_) (bY hs)))
 ·obtain ⟨d,σ₁,γ₁,er,st,I,rs,hd⟩:=q
  replace hr:r=.ok (.next,put ρ i d) σ₁:=hr.trans (IU er)
  exact gp F hi _ _ _ _ _ _ _ _ (P.step st I) hd fun s₂ st₂ P₂ rs₂=>wpAny_execs_nil (wpAny_execs_nil (fL hr ((st.weaken b8).trans st₂) P₂ (rs.trans rs₂)))
 ·obtain ⟨σ₁,γ₁,er,st,I,rs,ex⟩:=q
  replace hr:r=.ok (.ret .none,ρ) σ₁:=hr.trans (Ei er)
  have P₁:=P.step st I
  have hB:∀ b o,B.get? b=some o->∃ o',s.heap.get? b=some o':=fun b o e=>⟨o,(P.inv.base b o e).1⟩
  refine fD (n:=s.heap) F.frames F.frameL P₁.out.1 ex (.inl rfl) (st.older I) fun h₂ q₂ t₂=>?_
  refine dg (fs:=[]) (n:=s.heap) t₂ (fun _ h=>nomatch h) fun h₃ q₃ t₃=>?_
  have st₃:=((st.weaken (b8 (L:=L))).quiet q₂ P₁.out.2).quiet q₃ (fun _ h=>nomatch h)
  have I₃:=(I.quiet q₂ P₁.out.2 hB).quiet q₃ (fun _ h=>nomatch h) hB
  have l₃:=jl (jl P₁.loc q₂ P₁.out.2) q₃ (fun _ h=>nomatch h)
  refine wpAny_handleBy_cons (codeAny_handlers_test (tC (s:={ s₁ with heap:=h₃ }) HX.G F I₃ hg fun c hc=>?_)) (fun q=>by obtain ⟨a,_,_,rfl,_⟩:=t₃;cases q)
  obtain rfl:=hc.glob_at
  refine wo FO (s:={ s₁ with heap:=h₃ }) (fun b o e=>(I₃.base b o e).1) t₃ ?_
  simp only [if_true]
  refine codeAny_handlers_suite (dg (fs:=[]) (n:=s.heap) (s:={ s₁ with heap:=h₃ }) t₃ (fun _ h=>nomatch h) fun h₄ q₄ t₄=>?_)
  refine wpAny_execs_cons (wpAny_Return_some (wpAny_Constant_none ?_))
  exact .mk (s':={ s₁ with heap:=h₄ }) _ _ _ hr (st₃.quiet q₄ (fun _ h=>nomatch h)) (I₃.quiet q₄ (fun _ h=>nomatch h) hB) rs ⟨⟨_,rfl,.none⟩,jl l₃ q₄ (fun _ h=>nomatch h)⟩
end
end Mine.Internal
end
section
namespace Mine.Internal
open PySem PySem.W PySem.Calls PyProof.Rows PyProof.V
theorem uT {cx : Cx} {x : Str} (hx : isS x "GrammarFault" = true) (hgl : cx.gl = eO) (h : kF (cx.glob x) = true) : cx.glob x = some (.glob gfA) := by
 obtain rfl:=lP hx
 have ht : eO.lookup (Str.ofString "GrammarFault") = some (.glob gfA) := by kernel_rfl
 by_cases hk : (cx.kind (Str.ofString "GrammarFault") == some .globalImplicit) = true
 ·exact (if_pos hk).trans (hgl ▸ ht)
 ·exact nb ((congrArg kF (if_neg hk)).symm.trans h)
section
variable {prog:Program} {w:World} {B:Heap} {mg mb:Str->Option Value} {E:Ev} {A:Around} {cx:Cx} {env:Env} {outer:List Env} {L:Addr} {dp:Nat} {fr₀ fr ks:List Addr} {ρ ρ':Loc} {γ γ₁:Gam} {σ:Sto} {s s₁:Shared} {z:Bool} {K:Frag}
noncomputable def kg (prog:Program) (w:World) (B:Heap) (E:Ev) (A:Around) (cx:Cx) (env:Env) (L:Addr) (dp:Nat) (fr₀:List Addr) (ρ:Loc) (γ:Gam) (σ:Sto) (s:Shared) (stm:Stmt) (x:SS):Prop :=
 aG E dp ρ x σ ≠ .no->WS prog w B cx L fr₀ A (exec stm env) s γ (aG E dp ρ x σ)
theorem rC {e:Stmt}:kg prog w B E A cx env L dp fr₀ ρ γ σ s e .un:=fun h=>absurd rfl h
theorem rB {e:Stmt} {b:Bool} {x:SS} (k:b=true->kg prog w B E A cx env L dp fr₀ ρ γ σ s e x):kg prog w B E A cx env L dp fr₀ ρ γ σ s e (ifU .un b x):=by
 cases b with
 | true=>exact k rfl
 | false=>exact rC
theorem AP {α:Type} {e:Stmt} {o:Option α} {u:SS} {f:α->SS} (n:o=none->kg prog w B E A cx env L dp fr₀ ρ γ σ s e u) (k:∀ a,o=some a->kg prog w B E A cx env L dp fr₀ ρ γ σ s e (f a)):kg prog w B E A cx env L dp fr₀ ρ γ σ s e (opU u o f):=by
 cases o with
 | none=>exact n rfl
 | some a=>exact k a rfl
theorem jN {α:Type} {e:Stmt} {o:Option α} {f:α->SS} (k:∀ a,o=some a->kg prog w B E A cx env L dp fr₀ ρ γ σ s e (f a)):kg prog w B E A cx env L dp fr₀ ρ γ σ s e (opU .un o f):=AP (fun _=>rC) k
theorem OC {e:Stmt} {t:Tg} {f:Nat->SS} (k:∀ i,t=.n i->kg prog w B E A cx env L dp fr₀ ρ γ σ s e (f i)):kg prog w B E A cx env L dp fr₀ ρ γ σ s e (tgN t f):=by
 cases t with
 | n i=>exact k i rfl
 | ns=>exact rC
theorem Ii (HX:Facts prog w B mg mb K) (FO:d8 B mg mb) (S:Sound prog w B E) (F:Fc A cx env outer L dp) (P:Pre prog w B cx env outer L fr₀ ρ γ σ s.heap) (k:Nat) (stm:Stmt):kg prog w B E A cx env L dp fr₀ ρ γ σ s stm (aF k cx stm):=by
 cases k with
 | zero=>exact rC
 | succ n =>
  show kg prog w B E A cx env L dp fr₀ ρ γ σ s stm (F3 cx (aa n cx) (aF n cx) stm (Be stm))
  cases Be stm with
  | ret e p=>exact Oj S F P n _ _
  | ex x p=>exact rB fun hs=>QA S F P n _ _ hs
  | asgA o a ap v p=>exact jN fun a' hf=>Ib HX.W S F P n _ _ _ _ _ _ hf
  | asgS=>exact Ic S F P n _ _ _ _ _
  | asgN x p v pos=>exact jN fun i hi=>rB fun hs=>u0 S F P n x p i v pos hi hs
  | bW es kk p v pos=>exact jN fun is hi=>rB fun hs=>rA S F P n es kk p is v pos hi hs
  | aug x p v pos=>exact jN fun i hi=>Og S F P n _ _ _ _ _ hi
  | augA o a ap op v p=>exact jN fun a' hf=>jN fun op' hop=>Ie HX.W S F P n _ _ _ _ _ _ _ _ hf hop
  | ifs=>exact QB S F P n _ _ _ _
  | whl=>exact DT S F P n _ _ _
  | for_ t it b pos=>exact jN fun tg ht=>AP (fun hr=>AP (fun hv=>Oi S F P n t tg it b pos ht) fun v hv=>Ih S F P n t tg it v b pos ht hv) fun e' hr=>OC fun i hi=>by subst hi;exact Ig S HX.G F P n t i it e' b pos ht hr
  | raise x xp m q cp p=>exact rB fun hc=>DS HX FO S F P n _ _ _ _ _ _ (ak (ak hc).1).1 (ak (ak hc).1).2 (uT (ak (ak hc).1).1 F.gl (ak hc).2)
  | brk p=>exact fun _=>Oh P _
  | try_ x p1 v p2 gN p3 k₀ p4 p5 p6 p7=>exact jN fun i hi=>rB fun hc=>Ol HX FO S F P n _ _ _ _ _ _ _ _ _ _ i _ hi (ak (ak hc).1).2 (uT (ak (ak hc).1).1 F.gl (ak hc).2)
  | un=>exact rC
theorem DU (HX:Facts prog w B mg mb K) (FO:d8 B mg mb) (S:Sound prog w B E) (F:Fc A cx env outer L dp) (P:Pre prog w B cx env outer L fr₀ ρ γ σ s.heap) (k:Nat) (ss:List Stmt) (h:rE E dp ρ (ss.map (aF k cx)) σ ≠ .no) :
  WS prog w B cx L fr₀ A (execs ss env) s γ (rE E dp ρ (ss.map (aF k cx)) σ):=by
 cases ss with
 | nil=>exact wpAny_execs_nil (Post.here P.inv ⟨rfl,P.loc⟩)
 | cons st r =>
  refine dI h fun q hr h=>?_
  have hr:q=(aG E dp ρ (aF k cx st) σ).bind (DX E dp (r.map (aF k cx))):=hr
  refine wpAny_execs_cons (wpAny_mono (Ii HX FO S F P k st (R.of_bind (hr ▸ h))) (fun f s₁ p=>?_) fun _ _ p=>hr ▸ p.bind)
  obtain ⟨⟨fl,ρ₁⟩,σ₁,γ₁,er,st₁,I₁,rs₁,hf,hl⟩:=p
  obtain rfl:q=DX E dp (r.map (aF k cx)) (fl,ρ₁) σ₁:=hr.trans (congrArg (·.bind (DX E dp (r.map (aF k cx)))) er)
  cases fl with
  | next =>
   obtain rfl:f=.next:=hf
   exact qm st₁ I₁ rs₁ (S.sb k r F (o5 F P st₁ I₁ hl) h)
  | brk =>
   obtain rfl:f=.brk:=hf
   exact Post.ok st₁ I₁ rs₁ ⟨rfl,hl⟩
  | ret d =>
   obtain ⟨v,rfl,hf⟩:=hf
   exact Post.ok st₁ I₁ rs₁ ⟨⟨v,rfl,hf⟩,hl⟩
end
end Mine.Internal
end
section
namespace Mine.Internal
open PySem PySem.W PySem.Calls PyProof.Rows PyProof.V
structure uz (prog:Program) (w:World) (B:Heap) (mg mb:Str->Option Value) (K:Frag):Prop extends Facts prog w B mg mb K where
 FO:d8 B mg mb
 FN:Jc B
section
variable {prog:Program} {w:World} {B:Heap} {mg mb:Str->Option Value} {E:Ev} {A:Around} {outer:List Env} {dp:Nat} {fr:List Addr} {γ:Gam} {σ:Sto} {s:Shared} {z:Bool} {K:Frag}
inductive FY (E:Ev) (dp f:Nat) (ds:List D) (σ:Sto) (r:R D):Prop
 | words (d:D) (hf:f=aO) (hd:ds=[d]) (e:r=uw E dp d σ)
 | fn (q:ah) (as:List D) (ht:fnT f=some q) (hf:fill q ds=some as) (e:r=(E.b dp (as.map some++List.replicate (q.nl - q.np) Option.none) q.body σ).bind fun p σ=>.ok (flD p.1) σ)
theorem uI {f:Nat} {ds:List D} {r:R D} (hr:r=jO z fnT E (dp+1) f ds σ) (h:r ≠ .no):FY E dp f ds σ r:=by
 cases hw:Nat.beq f aO with
 | true =>
  have hr:=hr.trans (if_pos hw)
  cases ds with
  | nil=>exact absurd hr h
  | cons d t=>cases t with
   | nil=>exact .words d (Nat.eq_of_beq_eq_true hw) rfl hr
   | cons _ _=>exact absurd hr h
 | false =>
  have hr:=hr.trans (if_neg (Bool.not_eq_true _ ▸ hw))
  cases ht:fnT f with
  | none=>rw [ht] at hr;exact absurd hr h
  | some q =>
   rw [ht] at hr
   cases hf:fill q ds with
   | none=>exact absurd (hr.trans (by show (match fill q ds with | some _=>_ | Option.none=>_)=_;rw [hf])) h
   | some as=>exact .fn q as ht hf (hr.trans (by show (match fill q ds with | some _=>_ | Option.none=>_)=_;rw [hf]))
theorem DW (HX:uz prog w B mg mb K) (S:Sound prog w B E) (f:Nat) (vs:List Value) (ds:List D) (hh:A.handled=none) (hfr:A.frames=some outer) (hroom:A.depth+3 * dp < 692) (hun:A.units+10 * dp < 9005) (out:dj s.heap outer fr) (I:Inv prog w B fr γ σ s.heap) (dd:av prog w s.heap fr γ vs ds)
  (h:jO z fnT E dp f ds σ ≠ .no):WP prog w B fr fr A (call (.ref f) vs) s γ (aJ prog w fr) (jO z fnT E dp f ds σ):=by
 cases dp with
 | zero=>exact absurd rfl h
 | succ dp =>
  refine cF h fun r hr h=>?_
  cases uI hr h with
  | words d hf hd e =>
   obtain rfl:=hf
   obtain rfl:=hd
   subst e
   obtain ⟨v,_,rfl,dv,dn⟩:=dd.inv
   obtain rfl:=dn.inv
   exact sJ HX.W S hh hfr hroom hun out out.2 I dv h
  | fn q as ht hf e =>
   subst e
   exact BH HX.G HX.FN S ht hh hfr hroom hun out I dd hf h
theorem u7 (HX:uz prog w B mg mb K) (S:Sound prog w B E):Sound prog w B (step z fnT E) where
 su:=fun _ _ _=>rfl
 sk:=fun dp a ds σ h=>by
  cases dp with
  | zero=>exact absurd rfl h
  | succ dp =>
   cases uI (z:=z) rfl h with
   | words d hf _ _=>exact .inl hf
   | fn q as ht _ _=>exact .inr (by rw [ht];rfl)
 sx:=fun k e F P h=>vQ (z:=z) HX.toFacts S F P k e h
 st:=fun k e F P h=>E5 (z:=z) HX.toFacts S F P k e h
 sl:=fun k pos es F P h=>E0 S F P k pos es h
 sb:=fun k ss F P h=>DU HX.toFacts HX.FO S F P k ss h
 sw:=fun k c ss F P h=>E9 S F P k c ss h
 sf:=fun k tg t ss it ds F P ht st rs hB hn hi h=>DY S F k tg t ss it ds P ht st rs hB hn hi h
 sc:=fun f vs ds hh hfr hroom hun out I dd h=>DW (z:=z) HX S f vs ds hh hfr hroom hun out I dd h
theorem xT (HX:uz prog w B mg mb K) (n:Nat):Sound prog w B (evn z fnT n):=by
 induction n with
 | zero=>exact u9
 | succ n ih=>exact u7 HX ih
end
end Mine.Internal
end
section
namespace Mine.Internal
open PySem PySem.W PySem.Calls PyProof.Rows PyProof.V
theorem both {α β γ:Type} {x:Option α} {f:α->β} {g:α->γ} {y:β} {z:γ} (a:x.map f=some y) (b:x.map g=some z):∃ s,x=some s∧f s=y∧g s=z:=by
 obtain ⟨s,h1,h2⟩:=Option.map_eq_some_iff.mp a
 rw [h1] at b
 exact ⟨s,h1,h2,Option.some.inj b⟩
theorem ran (w:World) (os:OsState):∃ s,Av w os=some s∧uZ w s=vE os∧v5 s=vF w:=by
 have e:=World.withFollow_self w ng
 cases hb:w.params.followText ng <;> rw [hb] at e
 ·have a:=both (Oa w os) (Ob w os);rwa [e] at a
 ·have a:=both (Oc w os) (Od w os);rwa [e] at a
theorem Bv (life:Life):absHeap .nil 0 life=⟨#[],life⟩:=by simp [absHeap,BT.list]
theorem xU {w:World} {os:OsState} {s:SharedT} (h:startT w os=some s):s.abs=⟨boot_heap w.params,#[],boot_drawn,boot_toks,os⟩:=by
 obtain ⟨⟨t,n⟩,h1,h2⟩:=Option.map_eq_some_iff.mp h
 subst h2
 have:=oz (life:=(boot_heap w.params).life) h1
 show Shared.mk (absHeap t n (boot_heap w.params).life) _ _ _ _=_
 rw [this,Bv]
 exact congrArg (fun x=>(⟨⟨x,_⟩,_,_,_,_⟩:Shared)) Array.empty_append
theorem wj (w : World) : ((boot_heap w.params).isNs mainGlobals, (boot_heap w.params).objs.size, (boot_heap w.params).nsMap mainGlobals "__annotations__") = (true, m0, K5) := by kernel_rfl
theorem Kl (w:World):(fencedOpening treeTable pw w 9184).map (fun s=>(s.heap,s.gens,s.drawn,s.toks))=some (boot_heap w.params,Array.mk [],boot_drawn,boot_toks) :=
 boot_open (p:=pw) (N:=9184) (by kernel_rfl) (by rfl) (fun s=>by kernel_rfl) w
theorem M5:LeftO pw q0 pO Xt0 (Hook.obs fJ) (Hook.val fJ) 9184 false:=fun w=>by
 obtain ⟨⟨h,gs,d,k,os⟩,hs,hv⟩:=Option.map_eq_some_iff.mp (Kl w)
 obtain ⟨rfl,rfl,rfl,rfl⟩:h=boot_heap w.params∧gs=#[]∧d=boot_drawn∧k=boot_toks:=by simpa using hv
 obtain ⟨sT,h1,h2,h5⟩:=ran w os
 obtain ⟨st,h3,h4⟩:=Option.bind_eq_some_iff.mp h1
 rw [← vD] at h4
 have r:=Ax h4
 rw [xU h3] at r
 obtain ⟨z1,z2,z3⟩:_∧_∧_:=by simpa only [Prod.mk.injEq] using wj w
 unfold uZ vE nZ at h2
 unfold v5 vF at h5
 rw [← PySem.W.Fast.te4187177175401517315] at h2
 obtain ⟨l1,l2,l4,l5⟩:_∧_∧_∧_:=by simpa only [Prod.mk.injEq] using h2
 obtain ⟨m1,m2⟩:=Prod.mk.inj h5
 have l3:CI (wO sT)=Ej w:=by unfold CI Ej;rw [m1,l5,m2]
 have t:topFrom treeTable pw w 9184 ⟨boot_heap w.params,#[],boot_drawn,boot_toks,os⟩=some sT.abs:=by
  unfold topFrom
  dsimp only
  rw [z1,z2,z3,r]
  show (match staticsOk (importedModules pw.main.body) (boot_heap w.params) sT.abs.heap && namesBound pw sT.abs.heap && gensDone sT.abs && laidKept (boot_heap w.params) sT.abs.heap with | true=>_ | false=>_)=_
  rw [l1]
 rw [← BY] at l3
 unfold openEnds
 rw [hs,Option.bind_some,t,Option.map_some]
 exact congrArg some (Prod.ext l2 l3)
end Mine.Internal
end
section
namespace Mine.Internal
open PySem PySem.W PySem.Calls PyProof.Rows PyProof.V
section
variable {w:World} {prog:Program} {B:Heap} {g:Get}
theorem tN (hg:∀ a o,g a=some o->B.get? a=some o) {N:Addr} {es:Array DictEntry} (e:nsE g N=some es):B.Ns N fun x=>nsFind es x:=by
 obtain ⟨o,h1,e⟩:=Option.bind_eq_some_iff.mp e
 obtain ⟨es',h2,e⟩:=Option.bind_eq_some_iff.mp e
 obtain ⟨h3,e⟩:=Ad e
 obtain ⟨n,h4⟩:=uN h2
 exact Option.some.inj e ▸ ⟨o,es',n,hg _ _ h1,h4,uf h3,fun _=>rfl⟩
theorem isNone_none {α:Type} {o:Option α} (h:o.isNone=true):o=none:=Option.isNone_iff_eq_none.mp h
theorem pC {es:Array DictEntry} {x:Str} {v:Value} (h:hasB es x v=true):nsFind es x=some v:=let ⟨_,q,h⟩:=aK h;beq_iff_eq.mp h ▸ q
theorem cA {es:Array DictEntry} {l:List String} (h:ri es l=true) {x:String} (m:x ∈ l):nsFind es (Str.ofString x)=none:=isNone_none (List.all_eq_true.mp h x m)
noncomputable def kAt (l:List (Option Value)) (i:Nat):Option Value:=(l[i]?).getD none
theorem Im {l:List (Option Value)} (h:Nat.beq l.length 6=true):l=[kAt l 0,kAt l 1,kAt l 2,kAt l 3,kAt l 4,kAt l 5]:=by
 cases l with | nil=>exact nb h | cons a l=>cases l with | nil=>exact nb h | cons b l=>cases l with | nil=>exact nb h | cons c l=>cases l with | nil=>exact nb h | cons d l=>cases l with | nil=>exact nb h | cons x l=>cases l with | nil=>exact nb h | cons f l=>cases l with | cons=>exact nb h | nil=>rfl
theorem slot_of {l:List (Option Value)} {new:String} (h:OA l new=true):l=[kAt l 0,kAt l 1,kAt l 2,kAt l 3,some (.builtin new),kAt l 5]:=by
 obtain ⟨h1,h2⟩:=ak h
 obtain ⟨v,e,h3⟩:=aK h2
 obtain ⟨i,e1,e2⟩:=aK h3
 have e4:kAt l 4=some (.builtin new):=(congrArg (·.getD none) e).trans ((BG e1).trans (congrArg (fun i=>some (Value.builtin i)) (beq_iff_eq.mp e2)))
 exact e4 ▸ Im h1
theorem Ku {C:Addr} {bm:List Value} {ab:Bool} {cd:ClassData} (h:cdB C bm ab cd=true):cd.mro=.ref C :: bm∧cd.hasDict=true∧cd.hasDel=false∧(ab || !cd.abstract)=true:=by
 obtain ⟨m1,h⟩:=ak h
 obtain ⟨m2,h⟩:=ak h
 obtain ⟨m3,m4⟩:=ak h
 exact ⟨beq_iff_eq.mp m1,m2,(Bool.not_eq_true' _).mp m3,m4⟩
theorem HL {o : Obj} {cd : ClassData} {C : Addr} {bm : List Value} {l : List (Option Value)} (h1 : o.cls = .type "type") (h2 : o.data = .cls cd) (h3 : o.slots.toList = l) (h4 : cd.mro = .ref C :: bm) (h5 : cd.hasDict = true) (h6 : cd.hasDel = false) :
  o = ⟨.type "type", o.dict, .cls ⟨cd.name, cd.bases, .ref C :: bm, cd.ns, cd.qualname, true, cd.slotNames, cd.subclasses, cd.abstract, cd.collection, false⟩, ⟨l⟩⟩ := by
 obtain ⟨_,dict,_,⟨sl⟩⟩:=o
 obtain ⟨_,_,_,_,_,_,_,_,_,_,_⟩:=cd
 cases h1
 cases h2
 cases h3
 cases h4
 cases h5
 cases h6
 rfl
inductive J9 (B:Heap) (C:Addr) (bm:List Value) (ab:Bool) (nw:String) (es:Array DictEntry):Prop where
 | mk (nm q N bs sn sub a col dd k0 k1 k2 k3 k5) (h:B.get? C=some (excClassObj nm q C N bs bm true sn sub a col dd k0 k1 k2 k3 k5 nw)) (hb:(ab || !a)=true) (hn:B.Ns N fun x=>nsFind es x)
theorem uJ (hg:∀ a o,g a=some o->B.get? a=some o) {C:Addr} {bm:List Value} {ab:Bool} {nw:String} {es:Array DictEntry} (e:Gk g C bm ab nw=some es):J9 B C bm ab nw es:=by
 obtain ⟨o,h1,e⟩:=Option.bind_eq_some_iff.mp e
 obtain ⟨cd,h2,e⟩:=Option.bind_eq_some_iff.mp e
 obtain ⟨h3,e⟩:=Ad e
 obtain ⟨h4,h3⟩:=ak h3
 obtain ⟨h5,h6⟩:=ak h3
 obtain ⟨t,h4,h7⟩:=aK h4
 obtain ⟨m1,m2,m3,m4⟩:=Ku h5
 exact .mk _ _ _ _ _ _ _ _ _ _ _ _ _ _ ((hg _ _ h1).trans (congrArg some (HL ((kO h4).trans (congrArg Value.type (beq_iff_eq.mp h7))) (uK h2) (slot_of h6) m1 m2 m3))) m4 (tN hg e)
theorem G4:∀ f:Fa,f ∈ EY
 | .rows=>.head _
 | .at=>.tail _ (.head _)
 | .deep=>.tail _ (.tail _ (.head _))
theorem G7:∀ m:Wm,m ∈ EZ
 | .peek=>.head _
 | .take=>.tail _ (.head _)
 | .looks=>.tail _ (.tail _ (.head _))
 | .expect=>.tail _ (.tail _ (.tail _ (.head _)))
 | .name=>.tail _ (.tail _ (.tail _ (.tail _ (.head _))))
 | .deeper=>.tail _ (.tail _ (.tail _ (.tail _ (.tail _ (.head _)))))
 | .shallower=>.tail _ (.tail _ (.tail _ (.tail _ (.tail _ (.tail _ (.head _))))))
 | .splitClose=>.tail _ (.tail _ (.tail _ (.tail _ (.tail _ (.tail _ (.tail _ (.head _)))))))
theorem oZ (hg : ∀ a o, g a = some o → B.get? a = some o) {a : Addr} (h : fnB g a = true) : ∃ o, B.get? a = some o ∧ o.cls = .type "function" := by
 obtain ⟨o,h1,h⟩:=aK h
 obtain ⟨t,h2,h3⟩:=aK (ak h).1
 exact ⟨o,hg _ _ h1,beq_iff_eq.mp h3 ▸ kO h2⟩
theorem words_of (hg:∀ a o,g a=some o->B.get? a=some o) (e:Bo g=true):cL B:=by
 obtain ⟨es,q,e⟩:=aK e
 obtain ⟨e1,e⟩:=ak e
 obtain ⟨e2,e⟩:=ak e
 obtain ⟨e3,e⟩:=ak e
 obtain ⟨e4,e5⟩:=ak e
 obtain ⟨nm,qn,N,bs,sn,sub,a,col,dd,k0,k1,k2,k3,k5,h1,h2,h3⟩:=uJ hg q
 have e4:=fun m=>ak (List.all_eq_true.mp e4 m (G7 m))
 have ha:a=false:=by cases a with | true=>exact nb h2 | false=>rfl
 subst ha
 exact ⟨nm,qn,N,bs,sn,sub,col,dd,k0,k1,k2,k3,k5,_,h1,h3,cA e1 (.head _),cA e1 (.tail _ (.head _)),cA e1 (.tail _ (.tail _ (.head _))),fun f=>isNone_none (List.all_eq_true.mp e2 f (G4 f)),pC e3,fun m=>pC (e4 m).1,oZ hg e5,fun m=>oZ hg (e4 m).2⟩
theorem LU (hg : ∀ a o, g a = some o → B.get? a = some o) (e : gfB g = true) : ∃ mN mL, dO B mN mL ∧ mN "__init__" = none ∧ mL "__init__" = some (.ref cy) ∧ uB mN mL := by
 obtain ⟨es,q,e⟩:=aK e
 obtain ⟨o,h0,e⟩:=aK e
 obtain ⟨cd,h4,e⟩:=aK e
 obtain ⟨el,h5,e⟩:=aK e
 obtain ⟨e1,e⟩:=ak e
 obtain ⟨e2,e3⟩:=ak e
 have h6:B.get? leA=some ⟨o.cls,o.dict,.cls cd,o.slots⟩:=uK h4 ▸ hg _ _ h0
 obtain ⟨nm,qn,N,bs,sn,sub,a,col,dd,k0,k1,k2,k3,k5,h1,h2,h3⟩:=uJ hg q
 exact ⟨_,_,⟨nm,qn,N,bs,sn,sub,a,col,dd,k0,k1,k2,k3,k5,_,_,cd,_,h1,h3,h6,tN hg h5⟩,cA e1 (.head _),pC e3,cA e1 (.tail _ (.head _)),cA e2 (.head _),cA e1 (.tail _ (.tail _ (.head _))),cA e2 (.tail _ (.head _)),
  cA e1 (.tail _ (.tail _ (.tail _ (.head _)))),cA e2 (.tail _ (.tail _ (.head _)))⟩
theorem qP {h:Heap} {fr:List Addr} {γ:Gam} {v:Value} {d:D} (e:yY v d=true):Den prog w h fr γ v d:=by
 cases d with
 | none=>exact vh e ▸ .none
 | bool b=>cases v with
  | bool a=>exact beq_iff_eq.mp e ▸ .bool _
  | _=>exact nb e
 | int j=>cases v with
  | int i=>exact beq_iff_eq.mp e ▸ .int _ _
  | _=>exact nb e
 | str s =>
  obtain ⟨x,h1,h2⟩:=aK e
  obtain ⟨t,h1⟩:=kM h1
  exact h1 ▸ beq_iff_eq.mp h2 ▸ Den.str x.cps.toList t
 | glob b =>
  obtain ⟨x,h1,h2⟩:=aK e
  exact kJ h1 ▸ beq_iff_eq.mp h2 ▸ .glob _
 | _=>exact nb e
theorem jh {h:Heap} {fr:List Addr} {γ:Gam}:∀ {vs:List Value} {ds:List D},oY vs ds=true->av prog w h fr γ vs ds
 | [],_,e=>List.isEmpty_iff.mp e ▸ .nil
 | _ :: _,[],e=>nomatch e
 | v :: vs,d :: ds,e =>
  have:=ak e
  .cons (qP this.1) (jh this.2)
theorem Ed {h:Heap} {fr:List Addr} {γ:Gam} (hg:∀ a o,g a=some o->B.get? a=some o) (hB:∀ b o,B.get? b=some o->h.get? b=some o∧¬ aX fr γ b) {v:Value} {d:D} (e:Pa g v d=true):Den prog w h fr γ v d:=by
 cases d with
 | tup ds =>
  obtain ⟨a,h1,e⟩:=aK e
  obtain ⟨o,h2,e⟩:=aK e
  obtain ⟨e1,e2⟩:=ak e
  obtain ⟨t,h3,h4⟩:=aK e1
  obtain ⟨vs,h5,h6⟩:=aK e2
  obtain ⟨n,h5⟩:=vG h5
  obtain ⟨g1,g2⟩:=hB _ _ (hg _ _ h2)
  exact kJ h1 ▸ .tup (vs:=vs.toList) ⟨o,g1,beq_iff_eq.mp h4 ▸ kO h3,n,h5⟩ g2 (jh h6)
 | _=>exact qP e
theorem BJ (hg:∀ a o,g a=some o->B.get? a=some o) {cd:Value} {q:Str} (h:codeB g cd q=true):B.CodeRec cd q:=by
 obtain ⟨c,h1,h⟩:=aK h
 obtain ⟨o,h2,h⟩:=aK h
 obtain ⟨vs,h3,h⟩:=aK h
 obtain ⟨v,h4,h⟩:=aK h
 obtain ⟨x,h5,h⟩:=aK h
 obtain ⟨t,h5⟩:=kM h5
 exact ⟨c,o,vs,t,kJ h1,hg _ _ h2,BS h3,beq_iff_eq.mp h ▸ h5 ▸ h4⟩
theorem Kx (hg:∀ a o,g a=some o->B.get? a=some o) {fd:FuncData} {ds:List D} (h:dfB g fd.defaults ds=true):∃ vs,rY B fd vs∧∀ prog w h fr γ,av prog w h fr γ vs ds:=by
 unfold dfB at h
 cases e:CD fd.defaults with
 | true =>
  rw [e] at h
  exact ⟨[],.inl ⟨vh e,rfl⟩,fun _ _ _ _ _=>List.isEmpty_iff.mp h ▸ .nil⟩
 | false =>
  rw [e] at h
  obtain ⟨T,h1,h⟩:=aK h
  obtain ⟨o,h2,h⟩:=aK h
  obtain ⟨vs,h3,h⟩:=aK h
  obtain ⟨n,h3⟩:=vG h3
  exact ⟨vs.toList,.inr ⟨T,o,n,kJ h1,hg _ _ h2,h3⟩,fun _ _ _ _ _=>jh h⟩
theorem LQ (hg:∀ a o,g a=some o->B.get? a=some o) {a:Addr} (h:fnB g a=true) {ps:Arguments} {bd:List Stmt} {sc:Scope} (e:kr g a=some (ps,bd,sc)):kR B a ps bd sc:=by
 obtain ⟨o,h1,e⟩:=Option.bind_eq_some_iff.mp e
 obtain ⟨fd,h2,e⟩:=Option.bind_eq_some_iff.mp e
 obtain ⟨bd',h3,e⟩:=Option.map_eq_some_iff.mp e
 unfold fnB at h
 rw [h1] at h
 obtain ⟨fd',h4,h⟩:=aK (ak h).2
 cases h2.symm.trans h4
 obtain ⟨g1,h⟩:=ak h
 obtain ⟨g2,h⟩:=ak h
 obtain ⟨g3,h⟩:=ak h
 obtain ⟨g4,h⟩:=ak h
 obtain ⟨g5,g6⟩:=ak h
 obtain ⟨ds,g5,g7⟩:=aK g5
 obtain ⟨vs,g7,g8⟩:=Kx hg g7
 have h3:=E7 h3
 cases e
 exact ⟨o,fd,vs,ds,hg _ _ h1,BX h2,rfl,h3,rfl,Nat.eq_of_beq_eq_true g1,Nat.eq_of_beq_eq_true g2,List.isEmpty_iff.mp g3,BJ hg g4,g7,g5,g8,g6⟩
end
end Mine.Internal
end
section
namespace Mine.Internal
open PySem PySem.W PySem.Calls PyProof.Rows PyProof.V
section
variable {w:World} {prog:Program} {B:Heap} {g:Get} {mb:Str->Option Value}
inductive se (w:World) (k:List Nat) (d:D):DictEntry->Prop where
 | mk (t t':Tok):se w k d ⟨hashStr w ⟨k.toArray⟩,.str ⟨k.toArray⟩ t,.int (intD d) t'⟩
theorem HY {x:DictEntry} {k:List Nat} {d:D} (e:tF x=tG w (k,d)) (h1:(rH x.key).isSome=true) (h2:tB x.val=true):se w k d x:=by
 obtain ⟨s,hs⟩:=Option.isSome_iff_exists.mp h1
 obtain ⟨t,hk⟩:=kM hs
 obtain ⟨hh,ky,vl⟩:=x
 obtain rfl:ky=_:=hk
 clear h1 hs
 cases vl with
 | int i t' =>
  obtain ⟨e1,e⟩:=Prod.mk.inj e
  obtain ⟨e2,e3⟩:=Prod.mk.inj e
  obtain rfl:hh=_:=e1
  obtain rfl:i=_:=e3
  obtain ⟨⟨l⟩⟩:=s
  obtain rfl:l=k:=e2
  exact .mk t t'
 | _=>exact nb h2
noncomputable def sj (prog:Program) (w:World) (kvs:List (List Nat × D)) (es:List DictEntry):Prop:=(∀ e ∈ es,∃ k,(strKind prog w).is k e.key=true∧e.hash=(strKind prog w).hash k) ∧
  ∃ ps:List (Str × Value),Pairs (strKind prog w) es ps∧ps.map (·.1)=kvs.map (fun p=>(⟨p.1.toArray⟩:Str))∧FlatPairs PyData.str ps (pK kvs)
theorem Ag {kvs:List (List Nat × D)} {es:List DictEntry} {k:List Nat} {d:D} {x:DictEntry} (h:se w k d x) (hd:lQ [(k,d)]=true) (R:sj prog w kvs es):sj prog w ((k,d) :: kvs) (x :: es):=by
 obtain ⟨a,ps,b,c,q⟩:=R
 obtain ⟨t,t'⟩:=h
 cases d with
 | int j=>exact ⟨fun e he=>(List.mem_cons.mp he).elim (fun q=>q ▸ ⟨_,strKind_is prog w _ t,rfl⟩) (a e),(⟨_⟩,_) :: ps,.cons (strKind_is prog w _ t) rfl b,congrArg (_ :: ·) c,.cons (Flat.int _ _) q⟩
 | _=>exact nb hd
theorem Ah {kvs:List (List Nat × D)} (hk:lQ kvs=true):∀ {es:List DictEntry},es.map tF=kvs.map (tG w)->(es.all fun e=>(rH e.key).isSome && tB e.val)=true->sj prog w kvs es:=by
 induction kvs with
 | nil =>
  intro es e _
  cases es with
  | nil=>exact ⟨(fun _ h=>nomatch h),[],.nil,rfl,.nil⟩
  | cons _ _=>exact nomatch e
 | cons p r ih =>
  intro es e h
  cases es with
  | nil=>exact nomatch e
  | cons x es =>
   obtain ⟨hk1,hk2⟩:=ak hk
   obtain ⟨e1,e2⟩:=List.cons.inj e
   obtain ⟨h1,h2⟩:=ak h
   exact Ag (HY e1 (ak h1).1 (ak h1).2) (by show (_ && true)=true;rw [hk1];rfl) (ih hk2 e2 h2)
theorem GZ (hg : ∀ a o, g a = some o → B.get? a = some o) (e : gM g = some ("dict", true, fz.map (tG w))) :
  (∃ o,B.get? tE=some o)∧∀ h:Heap,(∀ o,B.get? tE=some o->h.get? tE=some o)->StrTab prog w h tE (pK fz):=by
 obtain ⟨o,q,e⟩:=Option.bind_eq_some_iff.mp e
 obtain ⟨t,q1,e⟩:=Option.bind_eq_some_iff.mp e
 obtain ⟨es,q2,e⟩:=Option.map_eq_some_iff.mp e
 obtain ⟨e1,e⟩:=Prod.mk.inj e
 obtain ⟨e2,e3⟩:=Prod.mk.inj e
 obtain ⟨h1,e2⟩:=ak e2
 obtain ⟨h2,e2⟩:=ak e2
 obtain ⟨n,q2⟩:=uN q2
 obtain ⟨a,ps,b,c,x⟩:=Ah (prog:=prog) (by kernel_rfl) e3 e2
 have hn:(fz.map (·.1)).Nodup:=by decide +kernel
 have hn:=nW hn
 rw [List.map_map] at hn
 exact ⟨⟨o,hg _ _ q⟩,fun h hh=>⟨by decide,ps,⟨o,es,n,hh _ (hg _ _ q),⟨e1 ▸ kO q1,isNone_none h1,Array.toList_eq_nil_iff.mp (List.isEmpty_iff.mp h2)⟩,q2,fun e he=>a e (Array.mem_toList_iff.mpr he),b,c ▸ hn⟩,x⟩⟩
theorem rm : eO.all (fun p => !uX p.2 || isS p.1 "LEVELS") = true := by kernel_rfl
theorem mem_lookup {α β:Type} [BEq α] [LawfulBEq α] {l:List (α × β)} {a:α} {b:β} (h:l.lookup a=some b):(a,b) ∈ l:=by
 rw [List.lookup_eq_some_iff] at h
 obtain ⟨l₁,l₂,e,_⟩:=h
 rw [e];simp
theorem CC : (nameList.all fun x => !(Str.ofString x == Str.ofString "__name__")) = true := by decide +kernel
theorem I6 (hg : ∀ a o, g a = some o → B.get? a = some o) {es : Array DictEntry} (e1 : eO.all (Of g es) = true) (e2 : hasB es (Str.ofString "LEVELS") (.ref tE) = true) (lv : gM g = some ("dict", true, fz.map (tG w))) {x : Str} {d : D} (hl : eO.lookup x = some d) :
  (x == ("__debug__" : Str)) = false ∧ ∃ v, nsFind es x = some v ∧ ∀ h fr γ, (∀ b o, B.get? b = some o → h.get? b = some o ∧ ¬ aX fr γ b) → Den prog w h fr γ v d := by
 have hm:=mem_lookup hl
 obtain ⟨c1,c2⟩:=ak (List.all_eq_true.mp e1 (x,d) hm)
 refine ⟨(Bool.not_eq_true' _).mp c1,?_⟩
 rcases Bool.or_eq_true_iff.mp c2 with hd | hv
 ·have hx : (!uX d || isS x "LEVELS") = true := List.all_eq_true.mp rm (x, d) hm
  rw [show uX d=true from hd] at hx
  obtain rfl:=lP hx
  obtain rfl : D.dct fz = d := Option.some.inj ((by rfl : eO.lookup (Str.ofString "LEVELS") = some (.dct fz)).symm.trans hl)
  obtain ⟨⟨oL,hoL⟩,hT⟩:=GZ (prog:=prog) hg lv
  exact ⟨_,pC e2,fun h fr γ hB=>.dct (hT h fun o e=>(hB _ _ e).1) (by kernel_rfl) (hB _ _ hoL).2⟩
 ·obtain ⟨v,hv',hv⟩:=aK hv
  exact ⟨v,hv',fun h fr γ hB=>Ed hg hB hv⟩
theorem C7 (hg : ∀ a o, g a = some o → B.get? a = some o) (e : Fz g = true) (lv : gM g = some ("dict", true, fz.map (tG w)))
  (hnl : B.NoLimit) (hb : B.Ns builtinsNs mb) (hbi : ∀ x, x ≠ Str.ofString "__name__" → mb x = bootBuiltins x) :
  ∃ mg, bZ prog w B mg mb ∧ mg "Exception" = none ∧ mb "Exception" = some (.type "Exception") := by
 obtain ⟨es,q,e⟩:=aK e
 obtain ⟨e1,e⟩:=ak e
 obtain ⟨e2,e⟩:=ak e
 obtain ⟨e3,e4⟩:=ak e
 exact ⟨fun x=>nsFind es x,⟨hnl,tN hg q,hb,fun x d hl=>I6 hg e1 e2 lv hl,fun x hx=>⟨cA e3 hx,hbi _ (ne_of_beq_false ((Bool.not_eq_true' _).mp (List.all_eq_true.mp CC x hx)))⟩⟩,isNone_none e4,(hbi _ (by decide)).trans (by kernel_rfl)⟩
theorem Qh (hg:∀ a o,g a=some o->B.get? a=some o):(kOf g).In B:=fun a o h=>by
 have:=mem_lookup h
 unfold kOf at this
 obtain ⟨x,_,hx⟩:=List.mem_filterMap.mp this
 obtain ⟨y,hy,hz⟩:=Option.map_eq_some_iff.mp hx
 cases hz
 exact hg _ _ hy
noncomputable abbrev tn : Option (Arguments × List Stmt × Scope) := (⟨some "LendError", "__init__", 0⟩ : At).find
theorem Cc:tn.map (fun x=>(x.2.1,zx x.1 x.2.2 x.2.1))=tn.map (fun x=>(lN x.2.1,true)):=by kernel_rfl
theorem wW:tn.isSome=true:=by kernel_rfl
theorem AE {o:Option (Arguments × List Stmt × Scope)} (h:o.isSome=true) (e:o.map (fun x=>(x.2.1,zx x.1 x.2.2 x.2.1))=o.map (fun x=>(lN x.2.1,true))):∃ ps bd sc,o=some (ps,bd,sc)∧kT ps sc bd:=by
 cases o with
 | none=>exact nb h
 | some x=>exact ⟨_,_,_,rfl,GO (congrArg Prod.fst (Option.some.inj e)) (congrArg Prod.snd (Option.some.inj e))⟩
theorem zW {α γ:Type} {f h:α->γ}:∀ {l:List α},l.map f=l.map h->∀ x ∈ l,f x=h x
 | [],_,_,m=>nomatch m
 | _ :: _,e,x,m=>(List.mem_cons.mp m).elim (fun q=>q ▸ (List.cons.inj e).1) (zW (List.cons.inj e).2 x)
theorem G6 (Y : G2 w B) (hnl : B.NoLimit) (hb : B.Ns builtinsNs mb) (hbi : ∀ x, x ≠ Str.ofString "__name__" → mb x = bootBuiltins x) : ∃ mg K, uz prog w B mg mb K := by
 obtain ⟨g,hg,e⟩:=Y
 have c:chk g=true:=congrArg Prod.fst e
 have fp:=zW (show fc.map (fun p=>kr g p.1)=fc.map (fun p=>p.2.find) from congrArg (fun x=>x.2.1) e)
 have lv:gM g=_:=congrArg (fun x=>x.2.2) e
 obtain ⟨c1,c⟩:=ak c
 obtain ⟨c2,c⟩:=ak c
 obtain ⟨c3,c⟩:=ak c
 obtain ⟨c4,c5⟩:=ak c
 have c1:=List.all_eq_true.mp c1
 have c2:=List.all_eq_true.mp c2
 obtain ⟨mg,G,e1,e2⟩:=C7 (prog:=prog) hg c5 lv hnl hb hbi
 have FN:∀ p ∈ fc,∀ {ps bd sc},p.2.find=some (ps,bd,sc)->kR B p.1 ps bd sc:=fun p hp ps bd sc h=>LQ hg (c1 p hp) ((fp p hp).trans h)
 refine ⟨mg,kOf g,⟨⟨G,words_of hg c3,⟨Qh hg,fun a ha=>c2 a ?_,c2 _ (.tail _ (.head _))⟩⟩,⟨LU hg c4,?_,oZ hg (c1 _ (.head _)),e1,e2⟩,fun a at' ps bd sc h1 h2=>FN (a,at') (.tail _ (mem_lookup h1)) h2⟩⟩
 ·rcases ha with rfl | ha
  ·exact .head _
  ·unfold fnT at ha
   cases hl:nM.lookup a with
   | none=>rw [hl] at ha;cases ha
   | some t=>exact .tail _ (.tail _ (List.mem_map.mpr ⟨(a,t),.tail _ (mem_lookup hl),rfl⟩))
 ·obtain ⟨ps,bd,sc,q,h⟩:=AE wW Cc
  exact ⟨ps,bd,sc,FN (cy,_) (.head _) q,h⟩
end
end Mine.Internal
end
section
namespace Mine.Internal
open PySem PySem.W PyProof.Rows PyProof.V
noncomputable def GX:Nat:=733
noncomputable def dY:ah:=(fnT GX).getD ⟨0,0,[],[]⟩
noncomputable def oH:Prop:=∀ ns:List Int,ns.length≤63->∃ n ρ σ,(evn false fnT n).b 128 (some (.fl (ns.map .int)) :: List.replicate (dY.nl - dY.np) none) dY.body []=.ok (.ret (.bool true),ρ) σ
theorem Cf {prog:Program} {w:World} {h:Heap} {fr:List Addr} {γ:Gam}:∀ {vs:List Value} {ns:List Int},IntsAre vs ns->av prog w h fr γ vs (ns.map .int):=by
 intro vs ns hi
 induction hi with
 | nil=>exact .nil
 | cons n t _ ih=>exact .cons (.int _ _) ih
theorem Cq {ps : Arguments} {bd : List Stmt} {sc : Scope} (hf : (⟨none, "law", 0⟩ : At).find = some (ps, bd, sc)) (hdef : ps.defaults = []) : dY = { np := ps.args.length, nl := (localNames ps sc).length, dfl := [], body := bd.map (aF 60 (ly ps sc)) } := by
 have h1 : nM.lookup GX = some ⟨none, "law", 0⟩ := by rfl
 unfold dY fnT
 rw [h1]
 unfold At.comp
 simp only [Option.bind_some,hf]
 unfold F2
 rw [hdef]
 rfl
theorem Co {prog:Program} {w:World} {B h:Heap} {L:Addr} {m:Str->Option Value} (F:Fr B L h m):Inv prog w B [L] [] [] h∧∃ oL,h.get? L=some oL∧∀ v,oL.data ≠ .fields v:=by
 obtain ⟨oL,esL,epL,hoL,hdL,_⟩:=id F.ns
 have hnf:∀ v,oL.data ≠ .fields v:=fun v q=>nomatch hdL.symm.trans q
 have soft1:∀ x,aX [L] [] x->x=L:=fun x q=>q.elim List.mem_singleton.mp fun q=>nomatch q
 refine ⟨⟨rfl,fun i c x e _=>nn (List.getElem?_nil.symm.trans e),fun i j c c' e _ _=>nn (List.getElem?_nil.symm.trans e),(fun x m=>nomatch m),fun x q=>⟨oL,soft1 x q ▸ hoL,hnf⟩,fun b o e=>⟨F.keep b o e,fun q=>?_⟩⟩,oL,hoL,hnf⟩
 exact absurd (soft1 _ q ▸ Heap.lt_size e) (Nat.not_lt.mpr F.above)
theorem Cp {prog : Program} {w : World} {B h : Heap} {L al : Addr} {vs : List Value} {ns : List Int} {m : Str → Option Value} {ps : Arguments} {sc : Scope} {k : Nat} (F : Fr B L h m) (I : Inv prog w B [L] [] [] h) (hm : m (Str.ofString "script") = some (.ref al)) (hL : B.IsList al vs.toArray) (hI : IntsAre vs ns) (hps : ps.args.map (·.arg) = [Str.ofString "script"]) :
  gU prog w h [L] [] (ly ps sc) L (some (.fl (ns.map .int)) :: List.replicate k none):=by
 refine ⟨m,F.ns,fun i x d e1 e2=>?_⟩
 cases i with
 | zero =>
  obtain rfl:D.fl (ns.map .int)=d:=Option.some.inj (Option.some.inj e2)
  have hx : some (Str.ofString "script") = some x := by
   have e1:(localNames ps sc)[0]?=some x:=e1
   unfold localNames at e1
   rw [hps] at e1
   exact e1
  obtain ⟨oa,hoa,hc,k,hd⟩:=id hL
  exact ⟨_,Option.some.inj hx ▸ hm,.fl ⟨oa,(I.base _ _ hoa).1,hc,k,hd⟩ (I.base _ _ hoa).2 (Cf hI)⟩
 | succ i=>exact nomatch List.eq_of_mem_replicate (List.mem_of_getElem? e2)
theorem Cr {prog : Program} {w : World} {B : Heap} {mb : Str → Option Value} {L a al : Addr} {cd : Value} {nm : Str} {vs : List Value} {ns : List Int} {m : Str → Option Value} {s : Shared} {bd : List Stmt} {sc : Scope} {Q : Flow → Shared → Prop} {E' : Value → Shared → Prop} (Y : G2 w B) (hnl : B.NoLimit) (hb : B.Ns builtinsNs mb) (hbi : ∀ x, x ≠ Str.ofString "__name__" → mb x = bootBuiltins x)
  (F : Fr B L s.heap m) (hm : m (Str.ofString "script") = some (.ref al)) (hL : B.IsList al vs.toArray) (hI : IntsAre vs ns) (hlen : ns.length ≤ 63) (pure : oH)
  (hfind : ∃ ps, (⟨none, "law", 0⟩ : At).find = some (ps, bd, sc) ∧ ps.args.map (·.arg) = [Str.ofString "script"] ∧ ps.defaults = [] ∧ kC ps sc = true)
  (hq:∀ s' m',Fr B L s'.heap m'->Rest s s'->Q (.ret (.bool true)) s') :
  wpAny (model prog w) (callerA.deeper (envOf nm sc L a cd)) (execs bd (envOf nm sc L a cd)) Q E' s:=by
 obtain ⟨mg,K,AO⟩:=G6 (prog:=prog) Y hnl hb hbi
 obtain ⟨ps,hf,hps,hdef,hsh⟩:=hfind
 obtain ⟨n,ρ',σ',hrun⟩:=pure ns hlen
 have sh:=Shape.of hsh
 have hrec:=Cq hf hdef
 obtain ⟨I,oL,hoL,hnf⟩:=Co (prog:=prog) (w:=w) F
 have hU:(callerA.deeper (envOf nm sc L a cd)).units+10 * 128 < 9000:=by
  simp only [PySem.Around.deeper,callerA]
  decide
 have Fc':Fc (callerA.deeper (envOf nm sc L a cd)) (ly ps sc) (envOf nm sc L a cd) [] L 128:=⟨⟨_,_,_,rfl⟩,sh.fn,rfl,sh.nodup,rfl,rfl,(by show (1+300+1)+3 * 128 < 690;decide),hU⟩
 have P:Pre prog w B (ly ps sc) (envOf nm sc L a cd) [] L [] (some (.fl (ns.map .int)) :: List.replicate (dY.nl - dY.np) none) [] [] s.heap :=
  ⟨Cp F I hm hL hI hps,I,⟨⟨fun q=>(nomatch sh.fn.symm.trans q:False),⟨L,oL,rfl,uO L,hoL,hnf⟩,trivial⟩,fun x hx=>hx⟩,(fun h=>nomatch h),(fun x hx=>nomatch hx)⟩
 rw [show dY.body=bd.map (aF 60 (ly ps sc)) from congrArg ah.body hrec] at hrun
 refine wpAny_mono ((xT (z:=false) AO n).sb 60 bd Fc' P (fun q=>nomatch hrun.symm.trans q)) (fun f s' q=>?_) fun e s' q=>?_
 ·obtain ⟨p,σ₂,γ₂,er,st,I₂,rs,hf',hl⟩:=q
  injection hrun.symm.trans er with er
  subst er
  obtain ⟨v,rfl,hv⟩:=hf'
  obtain rfl:v=_:=hv.inv
  obtain ⟨m',hn',_⟩:=hl
  exact hq s' m' ⟨hn',fun b o e=>(I₂.base b o e).1,F.above⟩ rs
 ·obtain ⟨fl,_,σ₂,γ₂,er,_⟩:=q
  exact nomatch hrun.symm.trans er
end Mine.Internal
end
section
namespace Mine.Internal
open PySem PySem.W PySem.Calls PyProof.Rows PyProof.V
theorem M6 {n:Nat} (h:¬ (63:Int) < (n:Int)):n≤63:=Int.ofNat_le.mp (Int.not_lt.mp h)
theorem join (pure:oH):PySem.Challenge.rw_sa0455_01.Holds:=by
 refine holds_law Om fun said=>?_
 refine holds_openN (q:=q0) (loose:=pO) (Xt:=Xt0) (XP:=XL q0 []) (Yf:=Hook.obs fJ) (Ya:=Hook.val fJ) (YP:=Hook.says fJ) (N:=9184) M5 (Hook.of fJ) (Hook.keeps fJ) (fun s e=>xl_of s (Bool.and_eq_true_iff.mp e).1) XL.keeps (by rfl) (by rfl) (by rfl) (fun s e=>recFacts_of (Bool.and_eq_true_iff.mp e).2) (by rfl) said ?c ⟨rfl,rfl,rfl,rfl,rfl,Pb⟩ ?hw ?hc
 case c=>decide +kernel
 case hw=>w_witness2
 case hc =>
  intro w s₀ s₁ mg mb G Y fa o pm cd doc dV kV ho hd hcd hD hmg hg args vals as hpre hlay hrd hwl hlo
  refine Ground.open G ?_
  intro T B D TE TW
  clear hmg D TE TW
  have TA:=at_of_top T
  wrow_args hpre hlay hrd hwl hlo
  all_goals (
   first | refine callC_kw (enter_call ?_) | refine enter_call ?_ | refine callC_kw (enter_callW ?_) | refine enter_callW ?_
   w_top on
   try refine codeAny_mono ?_ (fun _ _ g=>GoodW.toG g)
   have K0:=below_caller (Top.heap T)
   w_call any ho hd hcd hD T F
   have T0:=‹Top _ _ _ _ _ _›
   have F0:=‹Fr _ _ _ _›
   have L0:=‹Heap.IsList _ _ _›
   have I0:=‹IntsAre _ _›
   have c0:=‹¬ (63:Int) < _›
   have g0:=‹Shared.gens _=#[]›
   refine Cr Y T0.nolimit T0.b T0.builtins F0 ?_ L0 I0 (M6 c0) pure ⟨_,by rfl,by rfl,by rfl,by rfl⟩ (fun s' m' F' r=>?_)
   ·rfl
   ·exact goodW_bool F' (r.1.trans g0) (raisesW_false (by wrow_none_raised)) (by wrow_post) r.2.2)
end Mine.Internal
end
section
namespace Mine.Internal
open PySem
theorem xj : dY = Q.DK := by
  unfold dY GX
  rw [Q.Fw]
  rfl
theorem B9 : oH := by
  intro ns hn
  obtain ⟨n, ρ, σ, h⟩ := Q.zN ns hn
  refine ⟨n, ρ, σ, ?_⟩
  rw [xj]
  exact h
end Mine.Internal
end
theorem PySem.Challenge.cw_sa0455_01_holds : PySem.Challenge.rw_sa0455_01.Holds :=
  Mine.Internal.join Mine.Internal.B9
