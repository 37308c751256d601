import PyProof.Rows.All
import PyProof.CompFree
import PyProof.DictDisplay
import PyProof.ExcAttrAll.TypeError
import PyProof.StationsW
import PyProof.InstStoreFacts
import PyProof.RulesAs
import PyProof.NsDelKeeps
import PyProof.Rows.SortStr
import KE.KDictSum
import OpenK.KOwn
import KE.KIsAll
import KE.KSuper
import KE.KTryMore
import Wide.FinOn
import OpenK.AllK
import Wide.All
import PySem.Challenge.RW_sm0117_01
set_option compiler.extract_closed false
set_option genInjectivity false
set_option genSizeOf false
set_option genSizeOfSpec false
set_option genCtorIdx false
set_option bootstrap.genMatcherCode false
set_option backward.linearNoConfusionType false
set_option backward.match.sparseCases false
set_option Elab.async false
set_option tactic.hygienic false
set_option maxRecDepth 100000
set_option maxHeartbeats 4000000
set_option linter.all false
set_option linter.unusedVariables false
set_option linter.unusedSectionVars false
namespace Mine
section
open PySem
set_option genCtorIdx true in
inductive AV where
 | none | bool (b:Bool) | int (i:Int) | str (s:Str) | tup (vs:List AV) | rng (n:Int) | ref (i:Nat) | raw (v:Value)
 deriving Inhabited
set_option genCtorIdx true in
inductive AO where
 | list (xs:List AV)
 | sd (kvs:List (Str×AV))
 | idd (kvs:List (Int×AV))
 | inst (C:Addr) (d:Nat)
 | ns (fs:List (Str×AV))
 deriving Inhabited
noncomputable abbrev AS:=List AO
noncomputable abbrev Loc:=List (Str×AV)
set_option genCtorIdx true in
inductive Res (α:Type) where
 | ok (a:α) (σ:AS)
 | exc (m:Str) (σ:AS)
 | bad
noncomputable def Res.bind {α β:Type}:Res α→(α→AS→Res β)→Res β
 | .ok a σ,f=>f a σ
 | .exc m σ,_=>.exc m σ
 | .bad,_=>.bad
noncomputable def look {κ α:Type} [DecidableEq κ]:List (κ×α)→κ→Option α
 | [],_=>none
 | (y,v) :: r,x=>if y = x then some v else look r x
noncomputable def z1e {κ α:Type} [DecidableEq κ]:List (κ×α)→κ→α→List (κ×α)
 | [],x,v=>[(x,v)]
 | (y,w) :: r,x,v=>if y = x then (y,v) :: r else (y,w) :: z1e r x v
theorem z9e {κ α:Type} [DecidableEq κ] {y x:κ} {w v:α} {r:List (κ×α)}:z1e ((y,w) :: r) x v = if y = x then (y,v) :: r else (y,w) :: z1e r x v:=rfl
theorem zc0 {κ α:Type} [DecidableEq κ] {y x:κ} {v:α} {r:List (κ×α)}:look ((y,v) :: r) x = if y = x then some v else look r x:=rfl
noncomputable def z6x:List Str:=["kind","attrs","items","shared","loose","name","special","fn","group","number","parent","frame","locked","locks","values","at","rows","consts","env","place","stack","loops",
 "expr","depth","limit","most_frames","steps","next_number","base","globals","frames","out","warnings","handlers","restarts","targets","visible","current","dispatcher","signaller","warner","deparser","s4","message"].map Str.ofString
noncomputable def z2y (x:Str):Bool:=z6x.contains x
structure z1q where
 call:Addr→List AV→AS→Res AV
 kn:Addr→Bool
 cls:Addr→Bool
 glob:Str→Option Value
 meth:Addr→Str→Option Addr
 refusal:Addr
 sc:List (Str×NameKind)
 lvl:Bool
 frz:Addr→Option (List Int)
set_option genCtorIdx true in
inductive z0o where
 | next | brk | ret (v:AV)
 deriving Inhabited
noncomputable def tru:AV→Option Bool
 | .none=>some false
 | .bool b=>some b
 | _=>none
noncomputable def z2m {α:Type}:List (Option α)→Option (List α)
 | []=>some []
 | some a :: r=>(z2m r).map (a :: ·)
 | none :: _=>none
noncomputable def zjl:AV→Option Str
 | .str s=>some s
 | _=>none
noncomputable def z34 (σ:AS) (i:Nat):Option (List AV):=match σ[i]? with
 | some (.list xs)=>some xs
 | _=>none
noncomputable def rd:Nat→AS→AV→Option PyData
 | _,_,.none=>some .none
 | _,_,.bool b=>some (.bool b)
 | _,_,.int i=>some (.int i)
 | _,_,.str s=>if PyData.strOk s then some (.str s) else none
 | n + 1,σ,.tup vs=>(z2m (vs.map (rd n σ))).map .tuple
 | n + 1,σ,.ref i=>(z34 σ i).bind fun xs=>(z2m (xs.map (rd n σ))).map .list
 | _,_,_=>none
noncomputable def eqA (σ:AS) (a b:AV):Option Bool :=
 match rd 8 σ a,rd 8 σ b with
 | some x,some y=>some (PyData.eqv x y)
 | _,_=>none
noncomputable def zg7 (x:Str):List AV→Option Bool
 | []=>some false
 | a :: r=>(zjl a).bind fun y=>(zg7 x r).map fun b=>(y == x) || b
structure InA where
 C:Addr
 d:Nat
 fs:List (Str×AV)
noncomputable def nsOf:Option AO→Option (List (Str×AV))
 | some (.ns fs)=>some fs
 | _=>none
noncomputable def z3x (σ:AS) (i:Nat):Option InA:=match σ[i]? with
 | some (.inst C d)=>(nsOf σ[d]?).map fun fs=>⟨C,d,fs⟩
 | _=>none
noncomputable def z6y:AV→Option Nat
 | .ref i=>some i
 | _=>none
noncomputable def z4h:AV→Option Int
 | .int i=>some i
 | _=>none
noncomputable def zus:CmpOp→Int→Int→Option Bool
 | .Lt,a,b=>some (decide (a < b))
 | .LtE,a,b=>some (decide (a≤b))
 | .Gt,a,b=>some (decide (a > b))
 | .GtE,a,b=>some (decide (a ≥ b))
 | _,_,_=>none
noncomputable def isN:AV→AV→Option Bool
 | a,.none=>match a with
  | .none=>some true
  | .raw _=>none
  | _=>some false
 | _,_=>none
noncomputable def inA (σ:AS) (x:Str):AV→Option Bool
 | .tup vs=>zg7 x vs
 | .ref i=>(z34 σ i).bind (zg7 x)
 | _=>none
noncomputable def z8b (σ:AS) (op:CmpOp) (a b:AV):Option Bool:=match op with
 | .Eq=>eqA σ a b
 | .NotEq=>(eqA σ a b).map (!·)
 | .In=>(zjl a).bind fun x=>inA σ x b
 | .Is=>isN a b
 | .IsNot=>(isN a b).map (!·)
 | op=>(z4h a).bind fun x=>(z4h b).bind fun y=>zus op x y
noncomputable def binI:Operator→Int→Int→Option AV
 | .Add,a,b=>some (.int (a + b))
 | .Sub,a,b=>some (.int (a - b))
 | .Mod,a,b=>if 0 < b then some (.int (Int.fmod a b)) else none
 | .FloorDiv,a,b=>if 0 < b∧b < 1000 then some (.int (Int.fdiv a b)) else none
 | .Pow,a,b=>if a = 10∧b = 50 then some (.int (10 ^ 50)) else none
 | _,_,_=>none
noncomputable def zjm (op:Operator) (a b:AV):Option AV:=(z4h a).bind fun x=>(z4h b).bind fun y=>binI op x y
noncomputable def unA:UnaryOp→AV→Option AV
 | .USub,a=>(z4h a).map fun i=>.int (-i)
 | .Not,a=>(tru a).map fun b=>.bool (!b)
 | _,_=>none
noncomputable def Res.of {α:Type} (σ:AS):Option α→Res α
 | some a=>.ok a σ
 | none=>.bad
noncomputable def atI (xs:List AV) (i:Int):Option AV :=
 if 0≤i then xs[i.toNat]? else if 0≤i + xs.length then xs[(i + xs.length).toNat]? else none
noncomputable def zuj (o:Option AO) (i:Int):Option AV:=match o with
 | some (.list xs)=>if xs.length < 1000000 then atI xs i else none
 | some (.idd kvs)=>look kvs i
 | _=>none
noncomputable def zut (o:Option AO) (k:Str):Option AV:=match o with
 | some (.sd kvs)=>look kvs k
 | _=>none
noncomputable def subR (σ:AS) (j:Nat):AV→Option AV
 | .int i=>zuj σ[j]? i
 | .str k=>zut σ[j]? k
 | _=>none
noncomputable def zjn (σ:AS) (o k:AV):Option AV:=match o with
 | .ref j=>subR σ j k
 | .tup vs=>(z4h k).bind fun i=>if vs.length < 1000000 then atI vs i else none
 | .str s=>(z4h k).bind fun i=>if 0≤i∧i < 1000 then (s.cps[i.toNat]?).map fun c=>.str ⟨#[c]⟩ else none
 | _=>none
noncomputable def zre (σ:AS) (j:Nat) (o:Option AO) (i:Int) (v:AV):Option AS:=match o with
 | some (.list xs)=>if 0≤i∧i < xs.length∧xs.length < 1000000 then some (σ.set j (.list (xs.set i.toNat v))) else none
 | some (.idd kvs)=>if kvs.length < 100000 then some (σ.set j (.idd (z1e kvs i v))) else none
 | some (.sd [])=>some (σ.set j (.idd [(i,v)]))
 | _=>none
noncomputable def zuu (σ:AS) (j:Nat) (o:Option AO) (s:Str) (v:AV):Option AS:=match o with
 | some (.sd kvs)=>if kvs.length < 100000 then some (σ.set j (.sd (z1e kvs s v))) else none
 | _=>none
noncomputable def putR (σ:AS) (j:Nat) (k v:AV):Option AS:=match k with
 | .int i=>zre σ j σ[j]? i v
 | .str s=>zuu σ j σ[j]? s v
 | _=>none
noncomputable def z4w (σ:AS) (o k v:AV):Option AS:=(z6y o).bind fun j=>putR σ j k v
noncomputable def z8m:AV→Bool
 | .raw _=>false
 | _=>true
noncomputable def zae (I:z1q) (σ:AS) (o:AV) (x:Str):Option AV:=(z6y o).bind fun j=>(z3x σ j).bind fun n =>
 if (I.cls n.C && z2y x) = true then (look n.fs x).filter z8m else none
noncomputable def z35 (I:z1q) (σ:AS) (o:AV) (x:Str) (v:AV):Option AS:=(z6y o).bind fun j=>(z3x σ j).bind fun n =>
 if (I.cls n.C && (z2y x && decide (n.fs.length < 1000))) = true then some (σ.set n.d (.ns (z1e n.fs x v))) else none
noncomputable def zjo (σ:AS) (xs:List AV):Res AV:=if xs.length < 100000 then .ok (.ref σ.length) (σ++[.list xs]) else .bad
noncomputable def zrf:Option AO→Option Nat
 | some (.list xs)=>some xs.length
 | some (.sd kvs)=>some kvs.length
 | _=>none
noncomputable def zuv (σ:AS):AV→Option Nat
 | .ref i=>zrf σ[i]?
 | .str s=>some s.length
 | _=>none
noncomputable def zuw (σ:AS) (v:AV):Option AV:=(zuv σ v).bind fun n=>if n < 1000000 then some (.int n) else none
noncomputable def zux:AV→Option Addr
 | .raw (.ref C)=>some C
 | _=>none
noncomputable def zuy (I:z1q) (σ:AS) (o c:AV):Option AV:=(z6y o).bind fun i=>(zux c).bind fun C=>(z3x σ i).bind fun n =>
 if (I.cls n.C && I.cls C) = true then some (.bool (decide (n.C = C))) else none
noncomputable def xyO:Option AO→Bool
 | some (.sd [(a,_),(b,_)])=>decide (a = Str.ofString "x"∧b = Str.ofString "y")
 | _=>false
noncomputable def zuz (σ:AS) (o:AV):Res AV:=match z6y o with
 | some i=>if xyO σ[i]? = true then zjo σ [.str (Str.ofString "x"),.str (Str.ofString "y")] else .bad
 | none=>.bad
noncomputable def one (args:List AV) (f:AV→Res AV):Res AV:=match args with
 | [a]=>f a
 | _=>.bad
noncomputable def two (args:List AV) (f:AV→AV→Res AV):Res AV:=match args with
 | [a,b]=>f a b
 | _=>.bad
noncomputable def zd6 (I:z1q) (σ:AS) (b:String) (args:List AV):Res AV :=
 if b = "len" then one args fun a=>Res.of σ (zuw σ a)
 else if b = "isinstance" then two args fun a c=>Res.of σ (zuy I σ a c)
 else if b = "sorted" then one args (zuz σ)
 else .bad
noncomputable def zv0 (i:Int):Option AV:=if 0≤i∧i < 2 ^ 60 then some (.rng i) else none
noncomputable def znf (σ:AS) (b:String) (args:List AV):Res AV :=
 if b = "list" then one args fun a=>(Res.of σ ((z6y a).bind (z34 σ))).bind fun xs σ=>zjo σ xs
 else if b = "range" then one args fun a=>Res.of σ ((z4h a).bind zv0)
 else .bad
noncomputable def z6h (I:z1q) (f:Value) (args:List AV) (σ:AS):Res AV :=
 match f with
 | .builtin b=>zd6 I σ b args
 | .type t=>znf σ t args
 | .ref a=>if I.kn a = true then I.call a args σ else .bad
 | _=>.bad
noncomputable def appA (σ:AS) (i:Nat) (xs:List AV) (x:AV):Res AV:=.ok .none (σ.set i (.list (xs++[x])))
noncomputable def zr5 (σ:AS) (i:Nat) (xs:List AV):Res AV:=match xs.getLast? with
 | some x=>.ok x (σ.set i (.list xs.dropLast))
 | none=>.bad
noncomputable def zrg (σ:AS) (i:Nat) (xs:List AV):Res AV:=match xs with
 | x :: r=>.ok x (σ.set i (.list r))
 | []=>.bad
noncomputable def zrh (σ:AS) (i:Nat) (xs:List AV) (m:Str) (args:List AV):Res AV :=
 if m = Str.ofString "append" then one args (appA σ i xs)
 else if m = Str.ofString "pop" then match args with
  | []=>zr5 σ i xs
  | a :: r=>if r.isEmpty && decide (z4h a = some 0) then zrg σ i xs else .bad
 else .bad
set_option genCtorIdx true in
inductive MK where
 | list | dict | fn (f:Addr)
noncomputable def mkO (m:Str):Option AO→Option MK
 | some (.list _)=>if m = Str.ofString "append"∨m = Str.ofString "pop" then some .list else none
 | some (.sd _)=>if m = Str.ofString "get" then some .dict else none
 | some (.idd _)=>if m = Str.ofString "get" then some .dict else none
 | _=>none
noncomputable def mkI (I:z1q) (σ:AS) (i:Nat) (m:Str):Option MK:=(z3x σ i).bind fun n=>if I.cls n.C = true then (I.meth n.C m).map .fn else none
noncomputable def zaf (I:z1q) (σ:AS) (o:AV) (m:Str):Option MK:=(z6y o).bind fun i=>match mkO m σ[i]? with
 | some k=>some k
 | none=>mkI I σ i m
noncomputable def zv1 (o:Option AO) (k:AV):Option AV:=match o with
 | some (.sd kvs)=>(zjl k).map fun k=>(look kvs k).getD .none
 | _=>none
noncomputable def zv2 (o:Option AO) (k d:AV):Option AV:=match o with
 | some (.idd kvs)=>(z4h k).map fun k=>(look kvs k).getD d
 | some (.sd kvs)=>if kvs.isEmpty = true then (z4h k).map fun uu=>d else none
 | _=>none
noncomputable def zv3 (σ:AS) (i:Nat) (args:List AV):Option AV:=match args with
 | [k]=>zv1 σ[i]? k
 | [k,d]=>zv2 σ[i]? k d
 | _=>none
noncomputable def z6z (I:z1q) (k:MK) (σ:AS) (o:AV) (m:Str) (args:List AV):Res AV :=
 match k with
 | .list=>(Res.of σ (z6y o)).bind fun i σ=>(Res.of σ (z34 σ i)).bind fun xs σ=>if xs.length < 100000 then zrh σ i xs m args else .bad
 | .dict=>Res.of σ ((z6y o).bind fun i=>zv3 σ i args)
 | .fn f=>I.call f (o :: args) σ
noncomputable def z2g (args:List Expr):Bool:=args.all (fun | .Starred _ _=>false | _=>true) && decide (args.length < 29)
noncomputable def z1g (sc:List (Str×NameKind)) (x:Str):Bool :=
 match sc.lookup x with
 | some .local=>true
 | some .cell=>true
 | some .free=>true
 | _=>false
noncomputable def z43 (sc:List (Str×NameKind)) (x:Str):Bool:=sc.lookup x == some .globalImplicit
noncomputable def z4e (I:z1q) (ℓ:Loc) (x:Str):Option AV :=
 if z1g I.sc x then look ℓ x else if z43 I.sc x then (I.glob x).map .raw else none
noncomputable def z44 (σ:AS) (k:Nat):AV→Option (Option AV)
 | .ref i=>(z34 σ i).map fun xs=>xs[k]?
 | .rng n=>some (if (k:Int) < n then some (.int k) else none)
 | .str s=>some ((s.cps[k]?).map fun c=>.str ⟨#[c]⟩)
 | _=>none
set_option genCtorIdx true in
inductive Ctl (β:Type) where
 | go (b:β)
 | stop (b:β)
noncomputable def ctlK {β:Type} (f:β→AS→Res β) (σ:AS):Ctl β→Res β
 | .go b=>f b σ
 | .stop b=>.ok b σ
noncomputable def zag {β:Type} (next:β→AS→Res β):Res (Ctl β)→Res β
 | .ok c σ=>ctlK next σ c
 | .exc _ _=>.bad
 | .bad=>.bad
noncomputable def zg8 {β:Type} (body:AV→Res (Ctl β)) (next:β→AS→Res β) (b:β) (σ:AS):Option (Option AV)→Res β
 | none=>.bad
 | some o=>match o with
  | none=>.ok b σ
  | some x=>zag next (body x)
noncomputable def z1b {β:Type} (src:AV) (body:AV→β→AS→Res (Ctl β)):Nat→Nat→β→AS→Res β
 | 0,_,_,_=>.bad
 | n + 1,k,b,σ=>zg8 (fun x=>body x b σ) (z1b src body n (k + 1)) b σ (z44 σ k src)
noncomputable def loopW {β:Type} (turn:β→AS→Res (Ctl β)):Nat→β→AS→Res β
 | 0,_,_=>.bad
 | n + 1,b,σ=>zag (loopW turn n) (turn b σ)
noncomputable def z1i:Nat:=4000
noncomputable def zng (sc:List (Str×NameKind)):Bool :=
 !(z1g sc (Str.ofString "__debug__")) && (!(z43 sc (Str.ofString "__debug__")) && (!(z1g sc (Str.ofString "__classdict__")) && !decide (sc.lookup (Str.ofString "super") = some .globalImplicit)))
noncomputable def zv4 (I:z1q) (ℓ:Loc) (scope:Scope) (x y:Str):NameKind→Bool
 | .local=>decide (scope.names.lookup y = some .local) && (decide (y = x) || (look ℓ y).isNone)
 | .cell=>false
 | .free=>(decide (I.sc.lookup y = some .cell) || decide (I.sc.lookup y = some .free)) && !decide (y = x)
 | _=>true
noncomputable def z70 (I:z1q) (ℓ:Loc) (scope:Scope) (x:Str):Bool :=
 zng scope.names && decide ((scope.names.map (·.1)).Nodup) && decide (scope.kind = .function) && decide (scope.names.lookup x = some .local) && scope.names.all fun n=>zv4 I ℓ scope x n.1 n.2
inductive EV where
 | name (x:Str) (p:Pos) | str (s:Str) (k:Nat) (p:Pos) | int (c:Int) (k:Nat) (p:Pos) | attr (o:Expr) (x:Str) (p:Pos) | call (f:Expr) (as:List Expr) (kw:List Keyword) (p:Pos) | slice (a b c:Option Expr) (p:Pos) | other
noncomputable def ev:Expr→EV
 | .Name x p=>.name x p
 | .Constant c k p=>match c with
  | .str s=>.str s k p
  | .int i=>.int i k p
  | _=>.other
 | .Attribute o x p=>.attr o x p
 | .Call f as kw p=>.call f as kw p
 | .Slice a b c p=>.slice a b c p
 | _=>.other
noncomputable def EV.back:EV→Expr→Prop
 | .name x p,e=>e = .Name x p
 | .str s k p,e=>e = .Constant (.str s) k p
 | .int c k p,e=>e = .Constant (.int c) k p
 | .attr o x p,e=>e = .Attribute o x p
 | .call f as kw p,e=>e = .Call f as kw p
 | .slice a b c p,e=>e = .Slice a b c p
 | .other,_=>True
noncomputable def EV.lit:EV→Option Str
 | .str s _ _=>some s
 | _=>none
noncomputable def EV.nm:EV→Option Str
 | .name x _=>some x
 | _=>none
noncomputable def EV.int?:EV→Option Int
 | .int c _ _=>some c
 | _=>none
noncomputable def zjp (e:Expr):Option Str:=(ev e).lit
noncomputable def zjq (k:Option Expr):Option Str:=k.bind zjp
noncomputable def zd7 (e:Expr):Option Str:=(ev e).nm
noncomputable def z57 (ks:List (Option Expr)) (vs:List Expr):Bool:=ks.all (fun k=>(zjq k).isSome) && (ks.length == vs.length && decide (ks.length≤15))
noncomputable def zri:Const→Option AV
 | .none=>some .none
 | .bool b=>some (.bool b)
 | .int i=>some (.int i)
 | .str s=>some (.str s)
 | _=>none
noncomputable def z45:Expr→Bool
 | .Slice ..=>true
 | _=>false
noncomputable def litI (e:Option Expr):Option Int:=e.bind fun e=>(ev e).int?
noncomputable def EV.cut:EV→Option Int
 | .slice lo up st _=>if lo.isNone && st.isNone then litI up else none
 | _=>none
noncomputable def z9f (e:Expr):Option Int:=(ev e).cut
noncomputable def zv5 (σ:AS) (xs:List AV) (c:Int):Res AV:=if 0≤c∧xs.length < 1000000 then zjo σ (xs.take c.toNat) else .bad
noncomputable def zv6 (I:z1q) (σ:AS):AV→Option (List AV)
 | .ref j=>z34 σ j
 | .raw (.ref a)=>(I.frz a).map fun xs=>xs.map .int
 | _=>none
noncomputable def zr6 (I:z1q) (σ:AS) (o:AV) (c:Int):Res AV:=match zv6 I σ o with
 | some xs=>zv5 σ xs c
 | none=>.bad
noncomputable def z71 (I:z1q) (sc:List (Str×NameKind)):z1q:={ I with sc:=sc,lvl:=false }
noncomputable def zjr (elt:AV→AS→Res AV) (v:AV) (acc:List AV) (σ:AS):Res (Ctl (List AV)):=(elt v σ).bind fun y σ=>if acc.length < 100000 then .ok (.go (acc++[y])) σ else .bad
noncomputable def z4i (acc:List AV) (σ:AS):Res AV:=.ok (.ref σ.length) (σ++[.list acc])
noncomputable def z3y (src:AV) (elt:AV→AS→Res AV) (σ:AS):Res AV:=(z1b src (zjr elt) z1i 0 [] σ).bind z4i
noncomputable def z4j:BoolOp→Bool→Bool
 | .And,c=>!c
 | .Or,c=>c
noncomputable def tupA (σ:AS) (vs:List AV):Res AV:=if vs.length < 100000 then .ok (.tup vs) σ else .bad
noncomputable def newD (σ:AS) (kvs:List (Str×AV)):Res AV:=if (kvs.map (·.1)).Nodup then .ok (.ref σ.length) (σ++[.sd kvs]) else .bad
noncomputable def zv7 (I:z1q) (f:AV) (as:List AV) (σ:AS):Res AV:=match f with
 | .raw v=>z6h I v as σ
 | _=>.bad
mutual
noncomputable def z09:Expr→z1q→Loc→AS→Res AV
 | .Constant c _ _,_,_,σ=>Res.of σ (zri c)
 | .Name x _,I,ℓ,σ=>Res.of σ (z4e I ℓ x)
 | .BinOp l op r _,I,ℓ,σ=>(z09 l I ℓ σ).bind fun a σ=>(z09 r I ℓ σ).bind fun b σ=>Res.of σ (zjm op a b)
 | .UnaryOp op x _,I,ℓ,σ=>(z09 x I ℓ σ).bind fun a σ=>Res.of σ (unA op a)
 | .BoolOp op vs _,I,ℓ,σ=>zai op vs I ℓ σ
 | .IfExp t a b _,I,ℓ,σ=>(z20 t I ℓ (z09 t I ℓ) σ).bind fun c σ=>if c then z09 a I ℓ σ else z09 b I ℓ σ
 | .Compare l ops rs _,I,ℓ,σ=>match rs with
  | [r]=>match ops with
   | [op]=>(z09 l I ℓ σ).bind fun a σ=>(z09 r I ℓ σ).bind fun b σ=>Res.of σ ((z8b σ op a b).map .bool)
   | _=>.bad
  | _=>.bad
 | .Call f args kws pos,I,ℓ,σ=>if (kws.isEmpty && z2g args) = true then match f with
   | .Attribute o m apos=>if (apos.endLine == pos.line) = true then
     (z09 o I ℓ σ).bind fun ov σ=>(Res.of σ (zaf I σ ov m)).bind fun k σ=>(z38 args I ℓ σ).bind fun as σ=>z6z I k σ ov m as
    else .bad
   | .Name g _=>(Res.of σ (z4e I ℓ g)).bind fun fv σ=>(z38 args I ℓ σ).bind fun as σ=>zv7 I fv as σ
   | _=>.bad
  else .bad
 | .Attribute o x _,I,ℓ,σ=>(z09 o I ℓ σ).bind fun ov σ=>Res.of σ (zae I σ ov x)
 | .Subscript o i _,I,ℓ,σ=>if z45 i = true then (Res.of σ (z9f i)).bind fun c σ=>(z09 o I ℓ σ).bind fun ov σ=>zr6 I σ ov c
  else (z09 o I ℓ σ).bind fun ov σ=>(z09 i I ℓ σ).bind fun iv σ=>Res.of σ (zjn σ ov iv)
 | .List es _,I,ℓ,σ=>(z38 es I ℓ σ).bind fun vs σ=>zjo σ vs
 | .Tuple es _ _,I,ℓ,σ=>(z38 es I ℓ σ).bind fun vs σ=>tupA σ vs
 | .Dict ks vs _,I,ℓ,σ=>if z57 ks vs = true then (zah ks vs I ℓ σ).bind fun kvs σ=>newD σ kvs else .bad
 | .ListComp elt gens scope _,I,ℓ,σ=>match gens with
  | [⟨t,iter,ifs,a⟩]=>match zd7 t with
   | some x=>if (ifs.isEmpty && a == 0 && z70 I ℓ scope x) = true then (z09 iter I ℓ σ).bind fun src σ=>z3y src (fun v σ=>z09 elt (z71 I scope.names) (z1e ℓ x v) σ) σ else .bad
   | none=>.bad
  | _=>.bad
 | _,_,_,_=>.bad
noncomputable def z38:List Expr→z1q→Loc→AS→Res (List AV)
 | [],_,_,σ=>.ok [] σ
 | e :: es,I,ℓ,σ=>(z09 e I ℓ σ).bind fun v σ=>(z38 es I ℓ σ).bind fun vs σ=>.ok (v :: vs) σ
noncomputable def zah:List (Option Expr)→List Expr→z1q→Loc→AS→Res (List (Str×AV))
 | ks,[],_,_,σ=>if ks.isEmpty then .ok [] σ else .bad
 | ks,v :: vs,I,ℓ,σ=>match ks with
  | []=>.bad
  | k :: ks=>(Res.of σ (zjq k)).bind fun s σ=>(z09 v I ℓ σ).bind fun a σ=>(zah ks vs I ℓ σ).bind fun r σ=>.ok ((s,a) :: r) σ
noncomputable def zai:BoolOp→List Expr→z1q→Loc→AS→Res AV
 | _,[],_,_,_=>.bad
 | op,e :: es,I,ℓ,σ=>if es.isEmpty then z09 e I ℓ σ else (z09 e I ℓ σ).bind fun a σ=>(Res.of σ (tru a)).bind fun c σ=>if z4j op c then .ok a σ else zai op es I ℓ σ
noncomputable def z20:Expr→z1q→Loc→(AS→Res AV)→AS→Res Bool
 | .UnaryOp op x _,I,ℓ,_,σ=>if op = .Not then (z20 x I ℓ (z09 x I ℓ) σ).bind fun b σ=>.ok (!b) σ else .bad
 | .BoolOp op vs _,I,ℓ,_,σ=>zg0 op vs I ℓ σ
 | .Compare l ops rs _,I,ℓ,_,σ=>match rs with
  | [r]=>match ops with
   | [op]=>(z09 l I ℓ σ).bind fun a σ=>(z09 r I ℓ σ).bind fun b σ=>Res.of σ (z8b σ op a b)
   | _=>.bad
  | [m,r]=>match ops with
   | [op1,op2]=>if op2 = .LtE then (z09 l I ℓ σ).bind fun a σ=>(z09 m I ℓ σ).bind fun b σ =>
     (Res.of σ (z8b σ op1 a b)).bind fun c σ=>if c then (z09 r I ℓ σ).bind fun d σ=>Res.of σ (z8b σ .LtE b d) else .ok false σ
    else .bad
   | _=>.bad
  | _=>.bad
 | .Name _ _,_,_,whole,σ=>(whole σ).bind fun a σ=>Res.of σ (tru a)
 | .Constant _ _ _,_,_,whole,σ=>(whole σ).bind fun a σ=>Res.of σ (tru a)
 | .Call _ _ _ _,_,_,whole,σ=>(whole σ).bind fun a σ=>Res.of σ (tru a)
 | .Attribute _ _ _,_,_,whole,σ=>(whole σ).bind fun a σ=>Res.of σ (tru a)
 | _,_,_,_,_=>.bad
noncomputable def zg0:BoolOp→List Expr→z1q→Loc→AS→Res Bool
 | op,[],_,_,σ=>.ok (op == .And) σ
 | op,e :: es,I,ℓ,σ=>(z20 e I ℓ (z09 e I ℓ) σ).bind fun b σ=>if z4j op b then .ok b σ else zg0 op es I ℓ σ
end
noncomputable def z6i (I:z1q) (ℓ:Loc) (x:Str) (v:AV):Option Loc:=if z1g I.sc x then some (z1e ℓ x v) else none
noncomputable def z2j:Expr→Bool
 | .ListComp ..=>false
 | .SetComp ..=>false
 | .DictComp ..=>false
 | _=>true
noncomputable def z4o:Expr→Expr→Bool
 | .Tuple ..,.Tuple ..=>false
 | .List ..,_=>false
 | .Starred ..,_=>false
 | _,e=>z2j e
noncomputable def twoN:List Expr→Option (Str×Str)
 | [a,b]=>(zd7 a).bind fun x=>(zd7 b).map fun y=>(x,y)
 | _=>none
noncomputable def zrj:AV→Option (AV×AV)
 | .tup vs=>match vs with
  | [a,b]=>some (a,b)
  | _=>none
 | _=>none
noncomputable def z5u (t:Expr) (v:AV) (I:z1q) (ℓ:Loc) (σ:AS):Res Loc:=match t with
 | .Name x _=>Res.of σ (z6i I ℓ x v)
 | .Attribute o x _=>(z09 o I ℓ σ).bind fun ov σ=>(Res.of σ (z35 I σ ov x v)).bind fun σ' uu=>.ok ℓ σ'
 | .Subscript o i _=>(z09 o I ℓ σ).bind fun ov σ=>(z09 i I ℓ σ).bind fun iv σ=>(Res.of σ (z4w σ ov iv v)).bind fun σ' uu=>.ok ℓ σ'
 | .Tuple es _ _=>Res.of σ ((twoN es).bind fun n=>(zrj v).bind fun p=>(z6i I ℓ n.1 p.1).bind fun ℓ=>z6i I ℓ n.2 p.2)
 | _=>.bad
noncomputable def z2v:z0o×Loc→AS→Res (Ctl (z0o×Loc))
 | (.next,ℓ),σ=>.ok (.go (.next,ℓ)) σ
 | (.brk,ℓ),σ=>.ok (.stop (.next,ℓ)) σ
 | (.ret v,ℓ),σ=>.ok (.stop (.ret v,ℓ)) σ
noncomputable def zrk (op:Operator) (a b:AV):Option AV:=if op = .Add then zjm .Add a b else none
noncomputable def lit1:List Expr→Option Str
 | [e]=>zjp e
 | _=>none
noncomputable def EV.call1:EV→Option (Str×Str)
 | .call f args kws _=>if kws.isEmpty then (zd7 f).bind fun c=>(lit1 args).map fun m=>(c,m) else none
 | _=>none
noncomputable def zd8 (e:Expr):Option (Str×Str):=(ev e).call1
noncomputable def zc1 (e c:Option Expr):Option (Str×Str):=if c.isNone then e.bind zd8 else none
structure zuk where
 x:Str
 e:Expr
 c:Str
 n:Str
noncomputable def nm1:List Expr→Option Str
 | [t]=>zd7 t
 | _=>none
inductive SV where
 | asg (ts:List Expr) (e:Expr) (p:Pos) | ret (v:Option Expr) (p:Pos) | other
noncomputable def sv:Stmt→SV
 | .Assign ts e p=>.asg ts e p
 | .Return v p=>.ret v p
 | _=>.other
noncomputable def SV.back:SV→Stmt→Prop
 | .asg ts e p,s=>s = .Assign ts e p
 | .ret v p,s=>s = .Return v p
 | .other,_=>True
noncomputable def zv8 {α:Type}:List α→Option α
 | [a]=>some a
 | _=>none
noncomputable def SV.asg1:SV→Option (Str×Expr)
 | .asg ts e _=>(nm1 ts).map fun x=>(x,e)
 | _=>none
noncomputable def asg1 (b:List Stmt):Option (Str×Expr):=(zv8 b).bind fun s=>(sv s).asg1
noncomputable def EV.att:EV→Option (Str×Str)
 | .attr o x _=>(zd7 o).map fun n=>(n,x)
 | _=>none
noncomputable def znh (e:Expr):Option (Str×Str):=(ev e).att
noncomputable def SV.ret1:SV→Option (Str×Str)
 | .ret v _=>v.bind znh
 | _=>none
noncomputable def ret1 (b:List Stmt):Option (Str×Str):=(zv8 b).bind fun s=>(sv s).ret1
noncomputable def zrl:List ExceptHandler→Option (Str×Str)
 | [.ExceptHandler c n b _]=>(c.bind zd7).bind fun c=>n.bind fun n=>(ret1 b).bind fun r=>if r = (n,Str.ofString "message") then some (c,n) else none
 | _=>none
noncomputable def zjs (b:List Stmt) (hs:List ExceptHandler) (o f:List Stmt):Option zuk:=if o.isEmpty && f.isEmpty then (asg1 b).bind fun p=>(zrl hs).map fun q=>⟨p.1,p.2,q.1,q.2⟩ else none
noncomputable def zg9 (I:z1q) (c:Str):Bool:=z43 I.sc c && decide (I.glob c = some (.ref I.refusal))
noncomputable def tryR (I:z1q) (ℓ:Loc) (t:zuk):Res AV→Res (z0o×Loc)
 | .ok v σ=>(Res.of σ (z6i I ℓ t.x v)).bind fun ℓ σ=>.ok (.next,ℓ) σ
 | .exc m σ=>if zg9 I t.c = true then .ok (.ret (.str m),[]) σ else .bad
 | .bad=>.bad
mutual
noncomputable def z72:Stmt→z1q→Loc→AS→Res (z0o×Loc)
 | .Assign ts e _,I,ℓ,σ=>match ts with
  | [t]=>if z4o t e = true then (z09 e I ℓ σ).bind fun v σ=>(z5u t v I ℓ σ).bind fun ℓ σ=>.ok (.next,ℓ) σ else .bad
  | _=>.bad
 | .AugAssign t op e _,I,ℓ,σ=>match t with
  | .Name x _=>(Res.of σ (z4e I ℓ x)).bind fun a σ=>(z09 e I ℓ σ).bind fun b σ=>(Res.of σ (zrk op a b)).bind fun v σ=>(Res.of σ (z6i I ℓ x v)).bind fun ℓ σ=>.ok (.next,ℓ) σ
  | .Attribute o x _=>(z09 o I ℓ σ).bind fun ov σ=>(Res.of σ (zae I σ ov x)).bind fun a σ=>(z09 e I ℓ σ).bind fun b σ=>(Res.of σ (zrk op a b)).bind fun v σ=>(Res.of σ (z35 I σ ov x v)).bind fun σ' uu=>.ok (.next,ℓ) σ'
  | _=>.bad
 | .Return v _,I,ℓ,σ=>match v with
  | none=>.ok (.ret .none,ℓ) σ
  | some e=>(z09 e I ℓ σ).bind fun v σ=>.ok (.ret v,ℓ) σ
 | .Expr e _,I,ℓ,σ=>if z2j e = true then (z09 e I ℓ σ).bind fun uu σ=>.ok (.next,ℓ) σ else .bad
 | .Break _,_,ℓ,σ=>.ok (.brk,ℓ) σ
 | .If t a b _,I,ℓ,σ=>(z20 t I ℓ (z09 t I ℓ) σ).bind fun c σ=>if c then z39 a I ℓ σ else z39 b I ℓ σ
 | .For t iter body orelse _,I,ℓ,σ=>if orelse.isEmpty then (z09 iter I ℓ σ).bind fun src σ =>
   z1b src (fun v fl σ=>(z5u t v I fl.2 σ).bind fun ℓ σ=>(z39 body I ℓ σ).bind fun fl σ=>z2v fl σ) z1i 0 (.next,ℓ) σ else .bad
 | .While t body orelse _,I,ℓ,σ=>if orelse.isEmpty then
   loopW (fun fl σ=>(z20 t I fl.2 (z09 t I fl.2) σ).bind fun c σ=>if c then (z39 body I fl.2 σ).bind fun fl σ=>z2v fl σ else .ok (.stop (.next,fl.2)) σ) z1i (.next,ℓ) σ else .bad
 | .Raise e c _,I,_,σ=>(Res.of σ (zc1 e c)).bind fun p σ=>if zg9 I p.1 = true then .exc p.2 σ else .bad
 | .Try b hs o f _,I,ℓ,σ=>(Res.of σ (zjs b hs o f)).bind fun t σ=>if (I.lvl && (z2j t.e && decide (I.sc.lookup t.n = some .local))) = true then tryR I ℓ t (z09 t.e I ℓ σ) else .bad
 | _,_,_,_=>.bad
noncomputable def z39:List Stmt→z1q→Loc→AS→Res (z0o×Loc)
 | [],_,ℓ,σ=>.ok (.next,ℓ) σ
 | s :: ss,I,ℓ,σ=>(z72 s I ℓ σ).bind fun fl σ=>match fl with
  | (.next,ℓ)=>z39 ss I ℓ σ
  | fl=>.ok fl σ
end
structure zg1 where
 params:List Str
 dflt:List AV
 body:List Stmt
 sc:List (Str×NameKind)
structure Tab where
 kn:Addr→Bool
 fn:Addr→Option zg1
 cls:Addr→Option Addr
 glob:Str→Option Value
 meth:Addr→Str→Option Addr
 refusal:Addr
 frz:Addr→Option (List Int)
noncomputable def zc2:List Str→List AV→Loc→Loc
 | p :: ps,a :: as,ℓ=>zc2 ps as (z1e ℓ p a)
 | _,_,ℓ=>ℓ
noncomputable def zc3 (f:zg1) (args:List AV):Option Loc :=
 if args.length≤f.params.length∧f.params.length≤args.length + f.dflt.length then
  some (zc2 f.params (args++f.dflt.drop (args.length + f.dflt.length - f.params.length)) [])
 else none
noncomputable def endA (fl:z0o×Loc) (σ:AS):Res AV:=match fl.1 with
 | .ret v=>.ok v σ
 | .next=>.ok .none σ
 | .brk=>.bad
noncomputable def isNone:AV→Option Unit
 | .none=>some ()
 | _=>none
noncomputable def zni {α β:Type} (f:α→Res β):Option α→Res β
 | some a=>f a
 | none=>.bad
noncomputable def clA (j:Nat):Res AV→Res AV
 | .ok v σ=>zni (fun uu=>.ok (.ref j) σ) (isNone v)
 | .exc _ _=>.bad
 | .bad=>.bad
noncomputable def fnA (T:Tab) (call:Addr→List AV→AS→Res AV) (f:zg1) (args:List AV) (σ:AS):Res AV :=
 zni (fun ℓ=>(z39 f.body ⟨call,T.kn,fun C=>(T.cls C).isSome,T.glob,T.meth,T.refusal,f.sc,true,T.frz⟩ ℓ σ).bind endA) (zc3 f args)
noncomputable def zjt (T:Tab) (call:Addr→List AV→AS→Res AV) (a:Addr) (args:List AV) (σ:AS):Option zg1→Res AV
 | some f=>fnA T call f args σ
 | none=>zni (fun init=>clA (σ.length + 1) (call init (.ref (σ.length + 1) :: args) (σ++[.ns [],.inst a σ.length]))) (T.cls a)
noncomputable def z05 (T:Tab):Nat→Addr→List AV→AS→Res AV
 | 0,_,_,_=>.bad
 | d + 1,a,args,σ=>zjt T (z05 T d) a args σ (T.fn a)
section
variable {T:Tab} {d:Nat} {a i:Addr} {f:zg1} {args:List AV} {σ:AS} {ℓ:Loc}
theorem z73 (h:T.fn a = some f):z05 T (d + 1) a args σ = fnA T (z05 T d) f args σ:=congrArg (zjt T (z05 T d) a args σ) h
theorem z74 (h:T.fn a = none) (hc:T.cls a = some i):z05 T (d + 1) a args σ = clA (σ.length + 1) (z05 T d i (.ref (σ.length + 1) :: args) (σ++[.ns [],.inst a σ.length])):=(congrArg (zjt T (z05 T d) a args σ) h).trans (congrArg (zni _) hc)
theorem zju (h:T.fn a = none) (hc:T.cls a = none):z05 T (d + 1) a args σ = .bad:=(congrArg (zjt T (z05 T d) a args σ) h).trans (congrArg (zni _) hc)
theorem zrm {call} (h:zc3 f args = none):fnA T call f args σ = .bad:=congrArg (zni _) h
theorem zga {call} (h:zc3 f args = some ℓ):fnA T call f args σ = (z39 f.body ⟨call,T.kn,fun C=>(T.cls C).isSome,T.glob,T.meth,T.refusal,f.sc,true,T.frz⟩ ℓ σ).bind endA:=congrArg (zni _) h
end
end
section
theorem oAA {p1:Prop} {p2:Prop} {P:Prop} (h:p1∧p2) (k:p1→p2→P):P:=by
 obtain ⟨xp1,xp2⟩:=h
 exact k xp1 xp2
theorem zmh {p1:Prop} {p2:Prop} {p3:Prop} {P:Prop} (h:p1∧p2∧p3) (k:p1→p2→p3→P):P:=by
 obtain ⟨xp1,xp2,xp3⟩:=h
 exact k xp1 xp2 xp3
theorem zjv {p1:Prop} {p2:Prop} {p3:Prop} {p4:Prop} {P:Prop} (h:p1∧p2∧p3∧p4) (k:p1→p2→p3→p4→P):P:=by
 obtain ⟨xp1,xp2,xp3,xp4⟩:=h
 exact k xp1 xp2 xp3 xp4
theorem z3z {t1:Type} {p1:Prop} {p2:Prop} {p3:Prop} {p4:t1→Prop} {P:Prop} (h:p1∧p2∧p3∧∃ a1:t1,p4 a1) (k:p1→p2→p3→∀ a1:t1,p4 a1→P):P:=by
 obtain ⟨xp1,xp2,xp3,xa1,xp4⟩:=h
 exact k xp1 xp2 xp3 xa1 xp4
theorem zrn {t1:Type} {p1:Prop} {p2:t1→Prop} {p3:t1→Prop} {P:Prop} (h:p1∧∃ a1:t1,p2 a1∧p3 a1) (k:p1→∀ a1:t1,p2 a1→p3 a1→P):P:=by
 obtain ⟨xp1,xa1,xp2,xp3⟩:=h
 exact k xp1 xa1 xp2 xp3
theorem zgb {t1 t2:Type} {p1:Prop} {p2:t1→t2→Prop} {p3:t1→t2→Prop} {p4:t1→t2→Prop} {p5:t1→t2→Prop} {p6:t1→t2→Prop} {P:Prop} (h:p1∧∃ a1:t1,∃ a2:t2,p2 a1 a2∧p3 a1 a2∧p4 a1 a2∧p5 a1 a2∧p6 a1 a2) (k:p1→∀ a1:t1,∀ a2:t2,p2 a1 a2→p3 a1 a2→p4 a1 a2→p5 a1 a2→p6 a1 a2→P):P:=by
 obtain ⟨xp1,xa1,xa2,xp2,xp3,xp4,xp5,xp6⟩:=h
 exact k xp1 xa1 xa2 xp2 xp3 xp4 xp5 xp6
theorem z50 {t1 t2 t3 t4:Type} {p1:Prop} {p2:t1→t2→Prop} {p3:t1→t2→Prop} {p4:t1→t2→Prop} {p5:t1→t2→Prop} {p6:t1→t2→t3→t4→Prop} {P:Prop} (h:p1∧∃ a1:t1,∃ a2:t2,p2 a1 a2∧p3 a1 a2∧p4 a1 a2∧p5 a1 a2∧∃ a3:t3,∃ a4:t4,p6 a1 a2 a3 a4) (k:p1→∀ a1:t1,∀ a2:t2,p2 a1 a2→p3 a1 a2→p4 a1 a2→p5 a1 a2→∀ a3:t3,∀ a4:t4,p6 a1 a2 a3 a4→P):P:=by
 obtain ⟨xp1,xa1,xa2,xp2,xp3,xp4,xp5,xa3,xa4,xp6⟩:=h
 exact k xp1 xa1 xa2 xp2 xp3 xp4 xp5 xa3 xa4 xp6
theorem oEA {t1:Type} {p1:t1→Prop} {P:Prop} (h:∃ a1:t1,p1 a1) (k:∀ a1:t1,p1 a1→P):P:=by
 obtain ⟨xa1,xp1⟩:=h
 exact k xa1 xp1
theorem z0e {t1:Type} {p1:t1→Prop} {p2:t1→Prop} {P:Prop} (h:∃ a1:t1,p1 a1∧p2 a1) (k:∀ a1:t1,p1 a1→p2 a1→P):P:=by
 obtain ⟨xa1,xp1,xp2⟩:=h
 exact k xa1 xp1 xp2
theorem z1m {t1:Type} {p1:t1→Prop} {p2:t1→Prop} {p3:t1→Prop} {P:Prop} (h:∃ a1:t1,p1 a1∧p2 a1∧p3 a1) (k:∀ a1:t1,p1 a1→p2 a1→p3 a1→P):P:=by
 obtain ⟨xa1,xp1,xp2,xp3⟩:=h
 exact k xa1 xp1 xp2 xp3
theorem z8n {t1:Type} {p1:t1→Prop} {p2:t1→Prop} {p3:t1→Prop} {p4:t1→Prop} {P:Prop} (h:∃ a1:t1,p1 a1∧p2 a1∧p3 a1∧p4 a1) (k:∀ a1:t1,p1 a1→p2 a1→p3 a1→p4 a1→P):P:=by
 obtain ⟨xa1,xp1,xp2,xp3,xp4⟩:=h
 exact k xa1 xp1 xp2 xp3 xp4
theorem z1o {t1:Type} {p1:t1→Prop} {p2:t1→Prop} {p3:t1→Prop} {p4:t1→Prop} {p5:t1→Prop} {P:Prop} (h:∃ a1:t1,p1 a1∧p2 a1∧p3 a1∧p4 a1∧p5 a1) (k:∀ a1:t1,p1 a1→p2 a1→p3 a1→p4 a1→p5 a1→P):P:=by
 obtain ⟨xa1,xp1,xp2,xp3,xp4,xp5⟩:=h
 exact k xa1 xp1 xp2 xp3 xp4 xp5
theorem zgc {t1:Type} {p1:t1→Prop} {p2:t1→Prop} {p3:t1→Prop} {p4:t1→Prop} {p5:t1→Prop} {p6:t1→Prop} {p7:t1→Prop} {P:Prop} (h:∃ a1:t1,p1 a1∧p2 a1∧p3 a1∧p4 a1∧p5 a1∧p6 a1∧p7 a1) (k:∀ a1:t1,p1 a1→p2 a1→p3 a1→p4 a1→p5 a1→p6 a1→p7 a1→P):P:=by
 obtain ⟨xa1,xp1,xp2,xp3,xp4,xp5,xp6,xp7⟩:=h
 exact k xa1 xp1 xp2 xp3 xp4 xp5 xp6 xp7
theorem znj {t1 t2 t3:Type} {p1:t1→Prop} {p2:t1→Prop} {p3:t1→t2→t3→Prop} {P:Prop} (h:∃ a1:t1,p1 a1∧p2 a1∧∃ a2:t2,∃ a3:t3,p3 a1 a2 a3) (k:∀ a1:t1,p1 a1→p2 a1→∀ a2:t2,∀ a3:t3,p3 a1 a2 a3→P):P:=by
 obtain ⟨xa1,xp1,xp2,xa2,xa3,xp3⟩:=h
 exact k xa1 xp1 xp2 xa2 xa3 xp3
theorem z46 {t1 t2 t3 t4:Type} {p1:t1→Prop} {p2:t1→Prop} {p3:t1→t2→t3→t4→Prop} {p4:t1→t2→t3→t4→Prop} {p5:t1→t2→t3→t4→Prop} {p6:t1→t2→t3→t4→Prop} {P:Prop} (h:∃ a1:t1,p1 a1∧p2 a1∧∃ a2:t2,∃ a3:t3,∃ a4:t4,p3 a1 a2 a3 a4∧p4 a1 a2 a3 a4∧p5 a1 a2 a3 a4∧p6 a1 a2 a3 a4) (k:∀ a1:t1,p1 a1→p2 a1→∀ a2:t2,∀ a3:t3,∀ a4:t4,p3 a1 a2 a3 a4→p4 a1 a2 a3 a4→p5 a1 a2 a3 a4→p6 a1 a2 a3 a4→P):P:=by
 obtain ⟨xa1,xp1,xp2,xa2,xa3,xa4,xp3,xp4,xp5,xp6⟩:=h
 exact k xa1 xp1 xp2 xa2 xa3 xa4 xp3 xp4 xp5 xp6
theorem z58 {t1 t2:Type} {p1:t1→t2→Prop} {P:Prop} (h:∃ a1:t1,∃ a2:t2,p1 a1 a2) (k:∀ a1:t1,∀ a2:t2,p1 a1 a2→P):P:=by
 obtain ⟨xa1,xa2,xp1⟩:=h
 exact k xa1 xa2 xp1
theorem z27 {t1 t2:Type} {p1:t1→t2→Prop} {p2:t1→t2→Prop} {P:Prop} (h:∃ a1:t1,∃ a2:t2,p1 a1 a2∧p2 a1 a2) (k:∀ a1:t1,∀ a2:t2,p1 a1 a2→p2 a1 a2→P):P:=by
 obtain ⟨xa1,xa2,xp1,xp2⟩:=h
 exact k xa1 xa2 xp1 xp2
theorem z1c {t1 t2:Type} {p1:t1→t2→Prop} {p2:t1→t2→Prop} {p3:t1→t2→Prop} {P:Prop} (h:∃ a1:t1,∃ a2:t2,p1 a1 a2∧p2 a1 a2∧p3 a1 a2) (k:∀ a1:t1,∀ a2:t2,p1 a1 a2→p2 a1 a2→p3 a1 a2→P):P:=by
 obtain ⟨xa1,xa2,xp1,xp2,xp3⟩:=h
 exact k xa1 xa2 xp1 xp2 xp3
theorem z47 {t1 t2:Type} {p1:t1→t2→Prop} {p2:t1→t2→Prop} {p3:t1→t2→Prop} {p4:t1→t2→Prop} {P:Prop} (h:∃ a1:t1,∃ a2:t2,p1 a1 a2∧p2 a1 a2∧p3 a1 a2∧p4 a1 a2) (k:∀ a1:t1,∀ a2:t2,p1 a1 a2→p2 a1 a2→p3 a1 a2→p4 a1 a2→P):P:=by
 obtain ⟨xa1,xa2,xp1,xp2,xp3,xp4⟩:=h
 exact k xa1 xa2 xp1 xp2 xp3 xp4
theorem z6p {t1 t2:Type} {p1:t1→t2→Prop} {p2:t1→t2→Prop} {p3:t1→t2→Prop} {p4:t1→t2→Prop} {p5:t1→t2→Prop} {P:Prop} (h:∃ a1:t1,∃ a2:t2,p1 a1 a2∧p2 a1 a2∧p3 a1 a2∧p4 a1 a2∧p5 a1 a2) (k:∀ a1:t1,∀ a2:t2,p1 a1 a2→p2 a1 a2→p3 a1 a2→p4 a1 a2→p5 a1 a2→P):P:=by
 obtain ⟨xa1,xa2,xp1,xp2,xp3,xp4,xp5⟩:=h
 exact k xa1 xa2 xp1 xp2 xp3 xp4 xp5
theorem z3a {t1 t2 t3:Type} {p1:t1→t2→Prop} {p2:t1→t2→Prop} {p3:t1→t2→Prop} {p4:t1→t2→Prop} {p5:t1→t2→Prop} {p6:t1→t2→Prop} {p7:t1→t2→Prop} {p8:t1→t2→Prop} {p9:t1→t2→Prop} {p10:t1→t2→Prop} {p11:t1→t2→Prop} {p12:t1→t2→Prop} {p13:t1→t2→t3→Prop} {p14:t1→t2→t3→Prop} {p15:t1→t2→t3→Prop} {P:Prop} (h:∃ a1:t1,∃ a2:t2,p1 a1 a2∧p2 a1 a2∧p3 a1 a2∧p4 a1 a2∧p5 a1 a2∧p6 a1 a2∧p7 a1 a2∧p8 a1 a2∧p9 a1 a2∧p10 a1 a2∧p11 a1 a2∧p12 a1 a2∧∃ a3:t3,p13 a1 a2 a3∧p14 a1 a2 a3∧p15 a1 a2 a3) (k:∀ a1:t1,∀ a2:t2,p1 a1 a2→p2 a1 a2→p3 a1 a2→p4 a1 a2→p5 a1 a2→p6 a1 a2→p7 a1 a2→p8 a1 a2→p9 a1 a2→p10 a1 a2→p11 a1 a2→p12 a1 a2→∀ a3:t3,p13 a1 a2 a3→p14 a1 a2 a3→p15 a1 a2 a3→P):P:=by
 obtain ⟨xa1,xa2,xp1,xp2,xp3,xp4,xp5,xp6,xp7,xp8,xp9,xp10,xp11,xp12,xa3,xp13,xp14,xp15⟩:=h
 exact k xa1 xa2 xp1 xp2 xp3 xp4 xp5 xp6 xp7 xp8 xp9 xp10 xp11 xp12 xa3 xp13 xp14 xp15
theorem znk {t1 t2 t3 t4:Type} {p1:t1→t2→Prop} {p2:t1→t2→t3→t4→Prop} {P:Prop} (h:∃ a1:t1,∃ a2:t2,p1 a1 a2∧∃ a3:t3,∃ a4:t4,p2 a1 a2 a3 a4) (k:∀ a1:t1,∀ a2:t2,p1 a1 a2→∀ a3:t3,∀ a4:t4,p2 a1 a2 a3 a4→P):P:=by
 obtain ⟨xa1,xa2,xp1,xa3,xa4,xp2⟩:=h
 exact k xa1 xa2 xp1 xa3 xa4 xp2
theorem oEEEA {t1 t2 t3:Type} {p1:t1→t2→t3→Prop} {P:Prop} (h:∃ a1:t1,∃ a2:t2,∃ a3:t3,p1 a1 a2 a3) (k:∀ a1:t1,∀ a2:t2,∀ a3:t3,p1 a1 a2 a3→P):P:=by
 obtain ⟨xa1,xa2,xa3,xp1⟩:=h
 exact k xa1 xa2 xa3 xp1
theorem z4x {t1 t2 t3:Type} {p1:t1→t2→t3→Prop} {p2:t1→t2→t3→Prop} {P:Prop} (h:∃ a1:t1,∃ a2:t2,∃ a3:t3,p1 a1 a2 a3∧p2 a1 a2 a3) (k:∀ a1:t1,∀ a2:t2,∀ a3:t3,p1 a1 a2 a3→p2 a1 a2 a3→P):P:=by
 obtain ⟨xa1,xa2,xa3,xp1,xp2⟩:=h
 exact k xa1 xa2 xa3 xp1 xp2
theorem z5v {t1 t2 t3:Type} {p1:t1→t2→t3→Prop} {p2:t1→t2→t3→Prop} {p3:t1→t2→t3→Prop} {P:Prop} (h:∃ a1:t1,∃ a2:t2,∃ a3:t3,p1 a1 a2 a3∧p2 a1 a2 a3∧p3 a1 a2 a3) (k:∀ a1:t1,∀ a2:t2,∀ a3:t3,p1 a1 a2 a3→p2 a1 a2 a3→p3 a1 a2 a3→P):P:=by
 obtain ⟨xa1,xa2,xa3,xp1,xp2,xp3⟩:=h
 exact k xa1 xa2 xa3 xp1 xp2 xp3
theorem z1j {t1 t2 t3:Type} {p1:t1→t2→t3→Prop} {p2:t1→t2→t3→Prop} {p3:t1→t2→t3→Prop} {p4:t1→t2→t3→Prop} {P:Prop} (h:∃ a1:t1,∃ a2:t2,∃ a3:t3,p1 a1 a2 a3∧p2 a1 a2 a3∧p3 a1 a2 a3∧p4 a1 a2 a3) (k:∀ a1:t1,∀ a2:t2,∀ a3:t3,p1 a1 a2 a3→p2 a1 a2 a3→p3 a1 a2 a3→p4 a1 a2 a3→P):P:=by
 obtain ⟨xa1,xa2,xa3,xp1,xp2,xp3,xp4⟩:=h
 exact k xa1 xa2 xa3 xp1 xp2 xp3 xp4
theorem z75 {t1 t2 t3:Type} {p1:t1→t2→t3→Prop} {p2:t1→t2→t3→Prop} {p3:t1→t2→t3→Prop} {p4:t1→t2→t3→Prop} {p5:t1→t2→t3→Prop} {p6:t1→t2→t3→Prop} {p7:t1→t2→t3→Prop} {P:Prop} (h:∃ a1:t1,∃ a2:t2,∃ a3:t3,p1 a1 a2 a3∧p2 a1 a2 a3∧p3 a1 a2 a3∧p4 a1 a2 a3∧p5 a1 a2 a3∧p6 a1 a2 a3∧p7 a1 a2 a3) (k:∀ a1:t1,∀ a2:t2,∀ a3:t3,p1 a1 a2 a3→p2 a1 a2 a3→p3 a1 a2 a3→p4 a1 a2 a3→p5 a1 a2 a3→p6 a1 a2 a3→p7 a1 a2 a3→P):P:=by
 obtain ⟨xa1,xa2,xa3,xp1,xp2,xp3,xp4,xp5,xp6,xp7⟩:=h
 exact k xa1 xa2 xa3 xp1 xp2 xp3 xp4 xp5 xp6 xp7
theorem zro {t1 t2 t3 t4:Type} {p1:t1→t2→t3→t4→Prop} {P:Prop} (h:∃ a1:t1,∃ a2:t2,∃ a3:t3,∃ a4:t4,p1 a1 a2 a3 a4) (k:∀ a1:t1,∀ a2:t2,∀ a3:t3,∀ a4:t4,p1 a1 a2 a3 a4→P):P:=by
 obtain ⟨xa1,xa2,xa3,xa4,xp1⟩:=h
 exact k xa1 xa2 xa3 xa4 xp1
theorem z3p {t1 t2 t3 t4:Type} {p1:t1→t2→t3→t4→Prop} {p2:t1→t2→t3→t4→Prop} {P:Prop} (h:∃ a1:t1,∃ a2:t2,∃ a3:t3,∃ a4:t4,p1 a1 a2 a3 a4∧p2 a1 a2 a3 a4) (k:∀ a1:t1,∀ a2:t2,∀ a3:t3,∀ a4:t4,p1 a1 a2 a3 a4→p2 a1 a2 a3 a4→P):P:=by
 obtain ⟨xa1,xa2,xa3,xa4,xp1,xp2⟩:=h
 exact k xa1 xa2 xa3 xa4 xp1 xp2
theorem z6q {t1 t2 t3 t4:Type} {p1:t1→t2→t3→t4→Prop} {p2:t1→t2→t3→t4→Prop} {p3:t1→t2→t3→t4→Prop} {P:Prop} (h:∃ a1:t1,∃ a2:t2,∃ a3:t3,∃ a4:t4,p1 a1 a2 a3 a4∧p2 a1 a2 a3 a4∧p3 a1 a2 a3 a4) (k:∀ a1:t1,∀ a2:t2,∀ a3:t3,∀ a4:t4,p1 a1 a2 a3 a4→p2 a1 a2 a3 a4→p3 a1 a2 a3 a4→P):P:=by
 obtain ⟨xa1,xa2,xa3,xa4,xp1,xp2,xp3⟩:=h
 exact k xa1 xa2 xa3 xa4 xp1 xp2 xp3
theorem zaj {t1 t2 t3 t4:Type} {p1:t1→t2→t3→t4→Prop} {p2:t1→t2→t3→t4→Prop} {p3:t1→t2→t3→t4→Prop} {p4:t1→t2→t3→t4→Prop} {P:Prop} (h:∃ a1:t1,∃ a2:t2,∃ a3:t3,∃ a4:t4,p1 a1 a2 a3 a4∧p2 a1 a2 a3 a4∧p3 a1 a2 a3 a4∧p4 a1 a2 a3 a4) (k:∀ a1:t1,∀ a2:t2,∀ a3:t3,∀ a4:t4,p1 a1 a2 a3 a4→p2 a1 a2 a3 a4→p3 a1 a2 a3 a4→p4 a1 a2 a3 a4→P):P:=by
 obtain ⟨xa1,xa2,xa3,xa4,xp1,xp2,xp3,xp4⟩:=h
 exact k xa1 xa2 xa3 xa4 xp1 xp2 xp3 xp4
theorem z59 {t1 t2 t3 t4 t5:Type} {p1:t1→t2→t3→t4→t5→Prop} {p2:t1→t2→t3→t4→t5→Prop} {P:Prop} (h:∃ a1:t1,∃ a2:t2,∃ a3:t3,∃ a4:t4,∃ a5:t5,p1 a1 a2 a3 a4 a5∧p2 a1 a2 a3 a4 a5) (k:∀ a1:t1,∀ a2:t2,∀ a3:t3,∀ a4:t4,∀ a5:t5,p1 a1 a2 a3 a4 a5→p2 a1 a2 a3 a4 a5→P):P:=by
 obtain ⟨xa1,xa2,xa3,xa4,xa5,xp1,xp2⟩:=h
 exact k xa1 xa2 xa3 xa4 xa5 xp1 xp2
theorem zak {t1 t2 t3 t4 t5:Type} {p1:t1→t2→t3→t4→t5→Prop} {p2:t1→t2→t3→t4→t5→Prop} {p3:t1→t2→t3→t4→t5→Prop} {p4:t1→t2→t3→t4→t5→Prop} {p5:t1→t2→t3→t4→t5→Prop} {p6:t1→t2→t3→t4→t5→Prop} {P:Prop} (h:∃ a1:t1,∃ a2:t2,∃ a3:t3,∃ a4:t4,∃ a5:t5,p1 a1 a2 a3 a4 a5∧p2 a1 a2 a3 a4 a5∧p3 a1 a2 a3 a4 a5∧p4 a1 a2 a3 a4 a5∧p5 a1 a2 a3 a4 a5∧p6 a1 a2 a3 a4 a5) (k:∀ a1:t1,∀ a2:t2,∀ a3:t3,∀ a4:t4,∀ a5:t5,p1 a1 a2 a3 a4 a5→p2 a1 a2 a3 a4 a5→p3 a1 a2 a3 a4 a5→p4 a1 a2 a3 a4 a5→p5 a1 a2 a3 a4 a5→p6 a1 a2 a3 a4 a5→P):P:=by
 obtain ⟨xa1,xa2,xa3,xa4,xa5,xp1,xp2,xp3,xp4,xp5,xp6⟩:=h
 exact k xa1 xa2 xa3 xa4 xa5 xp1 xp2 xp3 xp4 xp5 xp6
theorem z2n {t1 t2 t3 t4 t5 t6 t7 t8 t9 t10 t11 t12 t13 t14 t15:Type} {p1:t1→t2→t3→t4→t5→t6→t7→t8→t9→t10→t11→t12→t13→t14→t15→Prop} {p2:t1→t2→t3→t4→t5→t6→t7→t8→t9→t10→t11→t12→t13→t14→t15→Prop} {P:Prop} (h:∃ a1:t1,∃ a2:t2,∃ a3:t3,∃ a4:t4,∃ a5:t5,∃ a6:t6,∃ a7:t7,∃ a8:t8,∃ a9:t9,∃ a10:t10,∃ a11:t11,∃ a12:t12,∃ a13:t13,∃ a14:t14,∃ a15:t15,p1 a1 a2 a3 a4 a5 a6 a7 a8 a9 a10 a11 a12 a13 a14 a15∧p2 a1 a2 a3 a4 a5 a6 a7 a8 a9 a10 a11 a12 a13 a14 a15) (k:∀ a1:t1,∀ a2:t2,∀ a3:t3,∀ a4:t4,∀ a5:t5,∀ a6:t6,∀ a7:t7,∀ a8:t8,∀ a9:t9,∀ a10:t10,∀ a11:t11,∀ a12:t12,∀ a13:t13,∀ a14:t14,∀ a15:t15,p1 a1 a2 a3 a4 a5 a6 a7 a8 a9 a10 a11 a12 a13 a14 a15→p2 a1 a2 a3 a4 a5 a6 a7 a8 a9 a10 a11 a12 a13 a14 a15→P):P:=by
 obtain ⟨xa1,xa2,xa3,xa4,xa5,xa6,xa7,xa8,xa9,xa10,xa11,xa12,xa13,xa14,xa15,xp1,xp2⟩:=h
 exact k xa1 xa2 xa3 xa4 xa5 xa6 xa7 xa8 xa9 xa10 xa11 xa12 xa13 xa14 xa15 xp1 xp2
theorem nn {t:Type} {b:t} {P:Prop} (h:none = some b):P:=nomatch h
theorem nf {P:Prop} (h:false = true):P:=nomatch h
theorem zrp {p1:Prop} {p2:Prop} {p3:Prop} {p4:Prop} {p5:Prop} {P:Prop} (h:p1∧p2∧p3∧p4∧p5) (k:p1→p2→p3→p4→p5→P):P:=by
 obtain ⟨xp1,xp2,xp3,xp4,xp5⟩:=h
 exact k xp1 xp2 xp3 xp4 xp5
theorem zal {t1 t2 t3:Type} {p1:t1→t2→t3→Prop} {p2:t1→t2→t3→Prop} {p3:t1→t2→t3→Prop} {p4:t1→t2→t3→Prop} {p5:t1→t2→t3→Prop} {P:Prop} (h:∃ a1:t1,∃ a2:t2,∃ a3:t3,p1 a1 a2 a3∧p2 a1 a2 a3∧p3 a1 a2 a3∧p4 a1 a2 a3∧p5 a1 a2 a3) (k:∀ a1:t1,∀ a2:t2,∀ a3:t3,p1 a1 a2 a3→p2 a1 a2 a3→p3 a1 a2 a3→p4 a1 a2 a3→p5 a1 a2 a3→P):P:=by
 obtain ⟨xa1,xa2,xa3,xp1,xp2,xp3,xp4,xp5⟩:=h
 exact k xa1 xa2 xa3 xp1 xp2 xp3 xp4 xp5
end
section
open PySem PySem.W PySem.Calls PyProof.Rows
structure Gd where
 prog:Program
 w:World
 T:Tab
 K:Frag
 h₀:Heap
noncomputable abbrev Gd.m (gd:Gd):Model:=model gd.prog gd.w
structure ExcAt (gd:Gd) (hs:Heap) (R:List Addr) (e:Addr) (m:Str) (vs:Array Value) (h:Heap):Prop where
 out:e ∉ R
 new0:gd.h₀.get? e = none
 newS:hs.get? e = none
 sz:1 < vs.size
 sub:∀ b o,hs.get? b = some o→∃ o',h.get? b = some o'
 obj:∃ dx,h.get? e = some { cls:=.ref gd.T.refusal,dict:=some dx,data:=.fields vs,slots:=#[] }∧dx ∉ R∧∃ od mm t,h.get? dx = some od∧od.cls = .type "dict"∧h.Ns dx mm∧mm (Str.ofString "message") = some (.str m t)
structure TbAt (gd:Gd) (hs:Heap) (R:List Addr) (e Tb:Addr) (h:Heap):Prop where
 out:Tb ∉ R
 new0:gd.h₀.get? Tb = none
 newS:hs.get? Tb = none
 ne:Tb ≠ e
 obj:∃ ts,h.get? Tb = some { cls:=.type "traceback",dict:=none,data:=.fields ts,slots:=#[] }∧ts[3]? = some .none
noncomputable def zv9 (gd:Gd) (hs:Heap) (R:List Addr) (_:AS) (e:Addr) (m:Str) (h:Heap):Prop:=∃ vs,ExcAt gd hs R e m vs h∧vs[1]? = some .none
noncomputable def Flying (gd:Gd) (hs:Heap) (R:List Addr) (_:AS) (e:Addr) (m:Str) (h:Heap):Prop:=∃ vs Tb,ExcAt gd hs R e m vs h∧vs[1]? = some (.ref Tb)∧TbAt gd hs R e Tb h
noncomputable def zgd (gd:Gd) (hs:Heap) (R:List Addr) (σ:AS) (e:Addr) (m:Str) (h:Heap):Prop:=zv9 gd hs R σ e m h∨Flying gd hs R σ e m h
noncomputable abbrev tupObj (o:Obj):Prop:=o.cls = .type "tuple"
mutual
inductive VRel (R:List Addr) (h:Heap):AV→Value→Prop
 | none:VRel R h .none .none
 | bool (b:Bool):VRel R h (.bool b) (.bool b)
 | int (i:Int) (t:Tok):VRel R h (.int i) (.int i t)
 | str (s:Str) (t:Tok):VRel R h (.str s) (.str s t)
 | raw (v:Value):VRel R h (.raw v) v
 | ref {i:Nat} {a:Addr}:R[i]? = some a→VRel R h (.ref i) (.ref a)
 | rng {n:Int} {a:Addr} {t u v:Tok}:h.get? a = some { cls:=.type "range",dict:=none,data:=.fields #[.int 0 t,.int n u,.int 1 v],slots:=#[] }→0≤n→n < 2 ^ 60→VRel R h (.rng n) (.ref a)
 | tup {vs:List AV} {a:Addr} {o:Obj} {n:Nat} {ws:Array Value}:h.get? a = some o→o.cls = .type "tuple"→o.data = .seq ws n→VRels R h vs ws.toList→VRel R h (.tup vs) (.ref a)
inductive VRels (R:List Addr) (h:Heap):List AV→List Value→Prop
 | nil:VRels R h [] []
 | cons {a:AV} {v:Value} {as:List AV} {vs:List Value}:VRel R h a v→VRels R h as vs→VRels R h (a :: as) (v :: vs)
end
noncomputable def Keep (R:List Addr) (h h':Heap):Prop :=
 ∀ b o,h.get? b = some o→b ∉ R→∃ o',h'.get? b = some o'∧o'.cls = o.cls∧o'.dict = o.dict∧o'.data = o.data∧(o.cls ≠ .type "frame"→o' = o)
noncomputable def VPairs {κ:Type} (R:List Addr) (h:Heap) (kvs:List (κ×AV)) (kws:List (κ×Value)):Prop :=
 kvs.map (·.1) = kws.map (·.1)∧VRels R h (kvs.map (·.2)) (kws.map (·.2))
variable (gd:Gd) in
inductive ORel (R:List Addr) (h:Heap) (a:Addr):AO→Prop
 | list {xs:List AV} {ws:Array Value} {n:Nat}:h.get? a = some (listOf ws n)→VRels R h xs ws.toList→ORel R h a (.list xs)
 | sd {kvs:List (Str×AV)} {kws:List (Str×Value)}:h.DictOf (strKind gd.prog gd.w) a kws→VPairs R h kvs kws→(a == sysModules) = false→ORel R h a (.sd kvs)
 | idd {kvs:List (Int×AV)} {kws:List (Int×Value)}:h.DictOf (intKind gd.prog gd.w) a kws→VPairs R h kvs kws→(a == sysModules) = false→ORel R h a (.idd kvs)
 | inst {C:Addr} {d:Nat} {dx:Addr}:R[d]? = some dx→h.get? a = some (instObj C dx)→ORel R h a (.inst C d)
 | ns {fs:List (Str×AV)} {m:Str→Option Value} {od:Obj}:h.get? a = some od→od.cls = .type "dict"→od.dict = none→(∃ es ep,od.data = .dict es ep∧es.size≤fs.length)→h.Ns a m→(∀ x,match look fs x with
   | some v=>z2y x = true∧∃ v',m x = some v'∧VRel R h v v'
   | none=>m x = none)→ORel R h a (.ns fs)
theorem z5w {R R':List Addr} (p:R <+: R') {i:Nat} {a:Addr} (e:R[i]? = some a):R'[i]? = some a:=by
 obtain ⟨T,rfl⟩:=p
 rw [List.getElem?_append_left]
 ·exact e
 ·exact (List.getElem?_eq_some_iff.mp e).1
theorem VRel.keep {R R':List Addr} {h h':Heap} (p:R <+: R') (k:∀ b o,h.get? b = some o→(o.cls = .type "tuple"∨o.cls = .type "range")→h'.get? b = some o) {a:AV} {v:Value} (x:VRel R h a v):VRel R' h' a v :=
 VRel.rec (motive_1:=fun a v uu=>VRel R' h' a v) (motive_2:=fun as vs uu=>VRels R' h' as vs) .none .bool .int .str .raw (fun e=>.ref (z5w p e)) (fun e a b=>.rng (k _ _ e (.inr rfl)) a b) (fun e c d uu r=>.tup (k _ _ e (.inl c)) c d r) .nil (fun uu uu a r=>.cons a r) x
theorem VRels.ind {R:List Addr} {h:Heap} {P:List AV→List Value→Prop} (n:P [] []) (c:∀ a v as vs,VRel R h a v→VRels R h as vs→P as vs→P (a :: as) (v :: vs)) {as:List AV} {vs:List Value} (x:VRels R h as vs):P as vs :=
 VRels.rec (motive_1:=fun uu uu uu=>True) (motive_2:=fun as vs uu=>P as vs) trivial (fun uu=>trivial) (fun uu uu=>trivial) (fun uu uu=>trivial) (fun uu=>trivial) (fun uu=>trivial) (fun uu uu uu=>trivial) (fun uu uu uu uu uu=>trivial) n (fun a r uu q=>c _ _ _ _ a r q) x
theorem VRels.keep {R R':List Addr} {h h':Heap} (p:R <+: R') (k:∀ b o,h.get? b = some o→(o.cls = .type "tuple"∨o.cls = .type "range")→h'.get? b = some o) {as:List AV} {vs:List Value} (x:VRels R h as vs):VRels R' h' as vs :=
 x.ind .nil fun uu uu uu uu a uu r=>.cons (a.keep p k) r
theorem VRels.nil' {R:List Addr} {h:Heap} {vs:List Value} (x:VRels R h [] vs):vs = []:=by cases x;rfl
theorem VRels.cons' {R:List Addr} {h:Heap} {a:AV} {as:List AV} {vs:List Value} (x:VRels R h (a :: as) vs):∃ v ws,vs = v :: ws∧VRel R h a v∧VRels R h as ws:=by cases x with | cons p q=>exact ⟨_,_,rfl,p,q⟩
theorem VRels.one {R:List Addr} {h:Heap} {a:AV} {vs:List Value} (x:VRels R h [a] vs):∃ v,vs = [v]∧VRel R h a v:=by
 refine z1c x.cons' fun v ws zq1n2 p q=>?_;obtain rfl:=zq1n2
 rw [q.nil'];exact ⟨v,rfl,p⟩
theorem VRels.two {R:List Addr} {h:Heap} {a b:AV} {vs:List Value} (x:VRels R h [a,b] vs):∃ v w,vs = [v,w]∧VRel R h a v∧VRel R h b w:=by
 refine z1c x.cons' fun v ws zq2n2 p q=>?_;obtain rfl:=zq2n2
 refine z0e q.one fun w zq3n1 q2=>?_;obtain rfl:=zq3n1
 exact ⟨v,w,rfl,p,q2⟩
theorem VRels.append {R:List Addr} {h:Heap} {as bs:List AV} {vs ws:List Value} (x:VRels R h as vs) (y:VRels R h bs ws):VRels R h (as++bs) (vs++ws) :=
 x.ind (P:=fun as vs=>VRels R h (as++bs) (vs++ws)) y fun uu uu uu uu a uu r=>.cons a r
theorem VRels.length {R:List Addr} {h:Heap} {as:List AV} {vs:List Value} (x:VRels R h as vs):as.length = vs.length :=
 x.ind (P:=fun as vs=>as.length = vs.length) rfl fun uu uu uu uu uu uu r=>congrArg (· + 1) r
theorem VRels.get {R:List Addr} {h:Heap} {as:List AV} {vs:List Value} (x:VRels R h as vs) {i:Nat} {a:AV} (e:as[i]? = some a):∃ v,vs[i]? = some v∧VRel R h a v:=by
 induction i generalizing as vs with
 | zero=>cases x with
  | nil=>exact nn e
  | cons q r=>simp only [List.getElem?_cons_zero,Option.some.injEq] at e ⊢;subst e;exact ⟨_,rfl,q⟩
 | succ n ih=>cases x with
  | nil=>exact nn e
  | cons q r=>rw [List.getElem?_cons_succ] at e ⊢;exact ih r e
theorem VRels.set {R:List Addr} {h:Heap} {as:List AV} {vs:List Value} (x:VRels R h as vs) {i:Nat} {a:AV} {v:Value} (e:VRel R h a v):VRels R h (as.set i a) (vs.set i v):=by
 induction i generalizing as vs with
 | zero=>cases x with
  | nil=>exact .nil
  | cons q r=>exact .cons e r
 | succ n ih=>cases x with
  | nil=>exact .nil
  | cons q r=>exact .cons q (ih r)
theorem VRels.dropLast {R:List Addr} {h:Heap} {as:List AV} {vs:List Value} (x:VRels R h as vs):VRels R h as.dropLast vs.dropLast :=
 x.ind (P:=fun as vs=>VRels R h as.dropLast vs.dropLast) .nil fun uu uu uu uu a q r=>by
  cases q with
  | nil=>exact .nil
  | cons b q=>exact .cons a r
theorem VRels.take {R:List Addr} {h:Heap} {as:List AV} {vs:List Value} (x:VRels R h as vs) (n:Nat):VRels R h (as.take n) (vs.take n):=by
 induction n generalizing as vs with
 | zero=>exact .nil
 | succ n ih=>cases x with
  | nil=>exact .nil
  | cons q r=>exact .cons q (ih r)
end
section
open PySem PySem.W
theorem z06 {A B:Type} (a:Nonempty A) (b:Nonempty B):Nonempty (A×B):=a.elim fun a=>b.elim fun b=>⟨(a,b)⟩
theorem zmi:Nonempty World:=⟨⟨fun uu uu=>0,{ strHash:=fun uu=>0,shareClass:=fun uu=>0,mergeTok:=id,idOf:=fun uu=>0,idOfShared:=fun uu uu=>0,followText:=fun uu=>false,idOfImm:=fun uu=>0 }⟩⟩
theorem nGd:Nonempty Gd:=zmi.elim fun w=>⟨⟨default,w,⟨fun uu=>false,fun uu=>none,fun uu=>none,fun uu=>none,fun uu uu=>none,0,fun uu=>none⟩,[],default⟩⟩
theorem zd9:Nonempty Model:=zmi.elim fun w=>⟨⟨fun uu=>pure (.done .next),default,w⟩⟩
theorem nSem {α:Type} [Inhabited α]:Nonempty (Sem α):=⟨pure default⟩
theorem z28:Nonempty Around:=⟨{}⟩
theorem z1v:Nonempty Shared:=⟨{}⟩
theorem zge:Nonempty Drawn:=⟨{}⟩
theorem zgf:Nonempty z1q:=⟨⟨fun uu uu uu=>.bad,fun uu=>false,fun uu=>false,fun uu=>none,fun uu uu=>none,0,[],false,fun uu=>none⟩⟩
theorem zrq:Nonempty zg1:=⟨⟨[],[],[],[]⟩⟩
noncomputable def e1 {T1:Type} (n:Nonempty (T1)) (P:T1→Prop):T1:=Classical.epsilon fun t=>¬ P t
theorem z2b {T1:Type} (n:Nonempty (T1)) {P:T1→Prop} (h:P (e1 n P)):∀ x1,P x1:=fun x1=>Classical.byContradiction fun q=>Classical.epsilon_spec (p:=fun t:T1=>¬ P t) ⟨x1,q⟩ h
noncomputable def e2 {T1 T2:Type} (n:Nonempty (T1×T2)) (P:T1→T2→Prop):T1×T2:=Classical.epsilon fun t=>¬ P t.1 t.2
noncomputable def e3 {T1 T2 T3:Type} (n:Nonempty (T1×T2×T3)) (P:T1→T2→T3→Prop):T1×T2×T3:=Classical.epsilon fun t=>¬ P t.1 t.2.1 t.2.2
theorem z36 {T1 T2 T3:Type} (n:Nonempty (T1×T2×T3)) {P:T1→T2→T3→Prop} (h:P (e3 n P).1 (e3 n P).2.1 (e3 n P).2.2):∀ x1 x2 x3,P x1 x2 x3:=fun x1 x2 x3=>Classical.byContradiction fun q=>Classical.epsilon_spec (p:=fun t:T1×T2×T3=>¬ P t.1 t.2.1 t.2.2) ⟨⟨x1,x2,x3⟩,q⟩ h
noncomputable def e5 {T1 T2 T3 T4 T5:Type} (n:Nonempty (T1×T2×T3×T4×T5)) (P:T1→T2→T3→T4→T5→Prop):T1×T2×T3×T4×T5:=Classical.epsilon fun t=>¬ P t.1 t.2.1 t.2.2.1 t.2.2.2.1 t.2.2.2.2
noncomputable def e7 {T1 T2 T3 T4 T5 T6 T7:Type} (n:Nonempty (T1×T2×T3×T4×T5×T6×T7)) (P:T1→T2→T3→T4→T5→T6→T7→Prop):T1×T2×T3×T4×T5×T6×T7:=Classical.epsilon fun t=>¬ P t.1 t.2.1 t.2.2.1 t.2.2.2.1 t.2.2.2.2.1 t.2.2.2.2.2.1 t.2.2.2.2.2.2
theorem z76 {T1 T2 T3 T4 T5 T6 T7:Type} (n:Nonempty (T1×T2×T3×T4×T5×T6×T7)) {P:T1→T2→T3→T4→T5→T6→T7→Prop} (h:P (e7 n P).1 (e7 n P).2.1 (e7 n P).2.2.1 (e7 n P).2.2.2.1 (e7 n P).2.2.2.2.1 (e7 n P).2.2.2.2.2.1 (e7 n P).2.2.2.2.2.2):∀ x1 x2 x3 x4 x5 x6 x7,P x1 x2 x3 x4 x5 x6 x7:=fun x1 x2 x3 x4 x5 x6 x7=>Classical.byContradiction fun q=>Classical.epsilon_spec (p:=fun t:T1×T2×T3×T4×T5×T6×T7=>¬ P t.1 t.2.1 t.2.2.1 t.2.2.2.1 t.2.2.2.2.1 t.2.2.2.2.2.1 t.2.2.2.2.2.2) ⟨⟨x1,x2,x3,x4,x5,x6,x7⟩,q⟩ h
end
section
open PySem PySem.W PySem.Calls PyProof.Rows
noncomputable def Frs (gd:Gd) (h:Heap) (fr:List Env):Prop :=
 ∀ env∈fr,env.scope.kind ≠ .module∧∃ L o,env.frame = some L∧gd.h₀.get? L = none∧h.get? L = some o∧o.cls = .type "frame"∧∃ es n,o.data = .dict es n
variable (gd:Gd) in
structure Iv (gd:Gd) (fr:List Env) (R:List Addr) (σ:AS) (h:Heap):Prop where
 stays:∀ b o,gd.h₀.get? b = some o→h.get? b = some o
 fresh:∀ a∈R,gd.h₀.get? a = none
 nodup:R.Nodup
 len:R.length = σ.length
 obj:∀ (i:Nat) (o:AO) (a:Addr),σ[i]? = some o→R[i]? = some a→ORel gd R h a o
 frames:Frs gd h fr
variable {gd:Gd} {h h' h'':Heap} {fr:List Env} {R R' R'':List Addr} {σ σ':AS}
theorem ORel.obj {a:Addr} {o:AO} (x:ORel gd R h a o):∃ b,h.get? a = some b∧b.cls ≠ .type "tuple"∧b.cls ≠ .type "range"∧b.cls ≠ .type "frame"∧b.cls ≠ .type "cell"∧(∀ v,b.data ≠ .cell v)∧(∀ vs,b.data ≠ .fields vs):=by
 induction x with
 | list e _=>exact ⟨_,e,by simp,by simp,by simp,by simp,by simp,by simp⟩
 | sd e _ _=>obtain ⟨o,es,ep,ho,hc,hd,_⟩:=e;exact ⟨o,ho,by rw [hc.1];simp,by rw [hc.1];simp,by rw [hc.1];simp,by rw [hc.1];simp,by rw [hd];simp,by rw [hd];simp⟩
 | idd e _ _=>obtain ⟨o,es,ep,ho,hc,hd,_⟩:=e;exact ⟨o,ho,by rw [hc.1];simp,by rw [hc.1];simp,by rw [hc.1];simp,by rw [hc.1];simp,by rw [hd];simp,by rw [hd];simp⟩
 | inst _ e=>exact ⟨_,e,by simp,by simp,by simp,by simp,by simp,by simp⟩
 | ns e c _ _ n _ =>
  obtain ⟨o',es,ep,ho',hd,_⟩:=n
  rw [e] at ho';obtain rfl:=Option.some.inj ho'
  exact ⟨_,e,by rw [c];simp,by rw [c];simp,by rw [c];simp,by rw [c];simp,by rw [hd];simp,by rw [hd];simp⟩
theorem ORel.keep {a:Addr} {o:AO} (p:R <+: R') (k:∀ b o,h.get? b = some o→(o.cls = .type "tuple"∨o.cls = .type "range")→h'.get? b = some o) (ka:∀ o,h.get? a = some o→h'.get? a = some o) (x:ORel gd R h a o):ORel gd R' h' a o:=by
 induction x with
 | list e r=>exact .list (ka _ e) (r.keep p k)
 | sd e r q=>refine z4x e fun o es ep ho z=>?_;exact .sd ⟨o,es,ep,ka _ ho,z⟩ ⟨r.1,r.2.keep p k⟩ q
 | idd e r q=>refine z4x e fun o es ep ho z=>?_;exact .idd ⟨o,es,ep,ka _ ho,z⟩ ⟨r.1,r.2.keep p k⟩ q
 | inst d e=>exact .inst (z5w p d) (ka _ e)
 | ns e c d zz n r =>
  refine z4x n fun o' es ep ho' z=>?_
  refine .ns (ka _ e) c d zz ⟨o',es,ep,ka _ ho',z⟩ fun x=>?_
  have:=r x
  revert this
  induction look _ x with
  | none=>exact id
  | some v=>exact fun ⟨q,v',a1,a2⟩=>⟨q,v',a1,a2.keep p k⟩
noncomputable def Up (h h':Heap):Prop:=∀ b o,h.get? b = some o→h'.get? b = some o
theorem Up.refl (h:Heap):Up h h:=fun uu uu e=>e
theorem Up.trans (x:Up h h') (y:Up h' h''):Up h h'':=fun b o e=>y b o (x b o e)
theorem Up.push (h:Heap) (o:Obj):Up h (h.push o):=fun uu uu e=>Heap.get?_push_of_some _ e
theorem Up.keepR (x:Up h h'):Keep R h h':=fun b o e uu=>⟨o,x b o e,rfl,rfl,rfl,fun uu=>rfl⟩
theorem Keep.refl:Keep R h h:=Up.keepR (Up.refl h)
structure Ext (R:List Addr) (h:Heap) (R':List Addr) (h':Heap):Prop where
 pre:R <+: R'
 new:∀ a∈R',a∈R∨h.get? a = none
 keep:Keep R h h'
 stay:∀ b o,h.get? b = some o→∃ o',h'.get? b = some o'
theorem Ext.refl:Ext R h R h:=⟨List.prefix_refl R,fun uu ha=>.inl ha,Keep.refl,fun uu o e=>⟨o,e⟩⟩
theorem Ext.trans (x:Ext R h R' h') (y:Ext R' h' R'' h''):Ext R h R'' h'':=by
 refine ⟨x.pre.trans y.pre,fun a ha=>?_,fun b o e hb=>?_,fun b o e=>(x.stay b o e).elim fun o' e'=>y.stay b o' e'⟩
 ·rcases y.new a ha with q | q
  ·exact x.new a q
  ·by_cases hR:a∈R
   ·exact .inl hR
   ·right
    cases e:h.get? a with
    | none=>rfl
    | some o=>refine z0e (x.keep a o e hR) fun o' e' uu=>?_;rw [e'] at q;exact nomatch q
 ·obtain hb':b ∉ R':=fun hm=>(x.new b hm).elim hb fun q=>by rw [e] at q;exact nomatch q
  refine z1o (x.keep b o e hb) fun o₁ e₁ c1 d1 a1 f1=>?_
  refine z1o (y.keep b o₁ e₁ hb') fun o₂ e₂ c2 d2 a2 f2=>?_
  exact ⟨o₂,e₂,c2.trans c1,d2.trans d1,a2.trans a1,fun q=>(f2 (c1 ▸ q)).trans (f1 q)⟩
theorem Ext.up (x:Up h h'):Ext R h R h':=⟨List.prefix_refl R,fun uu ha=>.inl ha,x.keepR,fun b o e=>⟨o,x b o e⟩⟩
theorem Keep.tups (k:Keep R h h') (i:Iv gd fr R σ h):∀ b o,h.get? b = some o→(o.cls = .type "tuple"∨o.cls = .type "range")→h'.get? b = some o:=by
 intro b o e c
 obtain hb:b ∉ R:=fun hm=>by
  refine oEA (List.mem_iff_getElem?.mp hm) fun j hj=>?_
  obtain hl:j < σ.length:=by rw [← i.len];exact (List.getElem?_eq_some_iff.mp hj).1
  refine z8n ((i.obj j _ b (List.getElem?_eq_getElem hl) hj).obj) fun ob e' c1 c2 uu=>?_
  rw [e] at e';obtain rfl:=Option.some.inj e'
  exact c.elim c1 c2
 refine z1o (k b o e hb) fun o' e' uu uu uu f=>?_
 rw [e',f (by rcases c with c | c <;> rw [c] <;> decide)]
theorem VRel.ext {a:AV} {v:Value} (x:VRel R h a v) (i:Iv gd fr R σ h) (k:Ext R h R' h'):VRel R' h' a v:=x.keep k.pre (k.keep.tups i)
theorem VRels.ext {a:List AV} {v:List Value} (x:VRels R h a v) (i:Iv gd fr R σ h) (k:Ext R h R' h'):VRels R' h' a v:=x.keep k.pre (k.keep.tups i)
theorem Iv.at (i:Iv gd fr R σ h) {j:Nat} {o:AO} (e:σ[j]? = some o):∃ a,R[j]? = some a∧ORel gd R h a o:=by
 have hl:j < R.length:=by rw [i.len];exact (List.getElem?_eq_some_iff.mp e).1
 exact ⟨R[j],List.getElem?_eq_getElem hl,i.obj j o _ e (List.getElem?_eq_getElem hl)⟩
theorem Iv.notFrame (i:Iv gd fr R σ h) {a:Addr} (ha:a∈R) {o:Obj} (e:h.get? a = some o):o.cls ≠ .type "frame":=by
 refine oEA (List.mem_iff_getElem?.mp ha) fun j hj=>?_
 obtain hl:j < σ.length:=by rw [← i.len];exact (List.getElem?_eq_some_iff.mp hj).1
 refine z1o ((i.obj j _ a (List.getElem?_eq_getElem hl) hj).obj) fun ob e' uu uu c uu=>?_
 rw [e] at e';obtain rfl:=Option.some.inj e';exact c
theorem Iv.lookup (i:Iv gd fr R σ h) {a:Addr} (ha:a∈R):∃ o,h.get? a = some o:=by
 refine oEA (List.mem_iff_getElem?.mp ha) fun j hj=>?_
 have hl:j < σ.length:=by rw [← i.len];exact (List.getElem?_eq_some_iff.mp hj).1
 refine z0e ((i.obj j _ a (List.getElem?_eq_getElem hl) hj).obj) fun ob e' uu=>?_
 exact ⟨ob,e'⟩
theorem Frs.keep (f:Frs gd h fr) (k:∀ b o,h.get? b = some o→o.cls = .type "frame"→∃ o',h'.get? b = some o'∧o'.cls = o.cls∧∃ es n,(∃ es' n',o.data = .dict es' n')→o'.data = .dict es n):Frs gd h' fr:=by
 intro env he
 refine z50 (f env he) fun hk L o a b c d es n q=>?_
 refine znj (k L o c d) fun o' x y es' n' z=>?_
 exact ⟨hk,L,o',a,b,x,y.trans d,es',n',z ⟨es,n,q⟩⟩
theorem Iv.up (i:Iv gd fr R σ h) (u:Up h h'):Iv gd fr R σ h' :=
 ⟨fun b o e=>u b o (i.stays b o e),i.fresh,i.nodup,i.len,fun j o a e r=>(i.obj j o a e r).keep (List.prefix_refl R) (fun b o e uu=>u b o e) (fun o e=>u a o e),
  i.frames.keep fun b o e uu=>⟨o,u b o e,rfl,by
   by_cases q:∃ es' n',o.data = .dict es' n'
   ·obtain ⟨es,n,q⟩:=q;exact ⟨es,n,fun uu=>q⟩
   ·exact ⟨#[],0,fun z=>absurd z q⟩⟩⟩
theorem Iv.adopt (i:Iv gd fr R σ h) {a:Addr} {o:AO} (hna:a ∉ R) (h0:gd.h₀.get? a = none) (x:ORel gd (R++[a]) h a o):Iv gd fr (R++[a]) (σ++[o]) h:=by
 refine ⟨i.stays,fun b hb=>?_,?_,by rw [List.length_append,List.length_append,i.len];rfl,fun j ob b e r=>?_,i.frames⟩
 ·rcases List.mem_append.mp hb with hb | hb
  ·exact i.fresh b hb
  ·rw [List.mem_singleton.mp hb];exact h0
 ·rw [List.nodup_append]
  refine ⟨i.nodup,by simp,fun b hb c hc e=>?_⟩
  rw [List.mem_singleton.mp hc] at e
  exact hna (e ▸ hb)
 ·by_cases hj:j < σ.length
  ·rw [List.getElem?_append_left hj] at e
   rw [List.getElem?_append_left (by rw [i.len];exact hj)] at r
   exact (i.obj j ob b e r).keep (List.prefix_append R [a]) (fun uu uu e uu=>e) (fun uu e=>e)
  ·have hj':j = σ.length:=by
    have:=(List.getElem?_eq_some_iff.mp e).1
    rw [List.length_append,List.length_singleton] at this
    lia
   obtain rfl:=hj'
   rw [List.getElem?_append_right (Nat.le_refl _),Nat.sub_self] at e
   rw [← i.len,List.getElem?_append_right (Nat.le_refl _),Nat.sub_self] at r
   obtain rfl:=Option.some.inj e;obtain rfl:=Option.some.inj r;exact x
theorem Iv.alloc (i:Iv gd fr R σ h) (u:Up h h') {a:Addr} {o:AO} (hn:h.get? a = none) (x:ORel gd (R++[a]) h' a o):Iv gd fr (R++[a]) (σ++[o]) h':=by
 obtain i':=i.up u
 obtain hna:a ∉ R:=fun hm=>by refine oEA (i.lookup hm) fun ob e=>?_;exact nn ((hn).symm.trans e)
 have h0:gd.h₀.get? a = none:=by
  cases q:gd.h₀.get? a with
  | none=>rfl
  | some ob=>have:=i.stays a ob q;exact nn ((hn).symm.trans this)
 refine ⟨i'.stays,fun b hb=>?_,?_,by rw [List.length_append,List.length_append,i.len];rfl,fun j ob b e r=>?_,i'.frames⟩
 ·rcases List.mem_append.mp hb with hb | hb
  ·exact i.fresh b hb
  ·rw [List.mem_singleton.mp hb];exact h0
 ·rw [List.nodup_append]
  refine ⟨i.nodup,by simp,fun b hb c hc e=>?_⟩
  rw [List.mem_singleton.mp hc] at e
  exact hna (e ▸ hb)
 ·by_cases hj:j < σ.length
  ·rw [List.getElem?_append_left hj] at e
   rw [List.getElem?_append_left (by rw [i.len];exact hj)] at r
   exact (i'.obj j ob b e r).keep (List.prefix_append R [a]) (fun uu uu e uu=>e) (fun uu e=>e)
  ·have hj':j = σ.length:=by
    have:=(List.getElem?_eq_some_iff.mp e).1
    rw [List.length_append,List.length_singleton] at this
    lia
   subst hj'
   rw [List.getElem?_append_right (Nat.le_refl _),Nat.sub_self] at e
   rw [← i.len,List.getElem?_append_right (Nat.le_refl _),Nat.sub_self] at r
   obtain rfl:=Option.some.inj e;obtain rfl:=Option.some.inj r;exact x
theorem Ext.alloc (u:Up h h') {a:Addr} (hn:h.get? a = none):Ext R h (R++[a]) h' :=
 ⟨List.prefix_append R [a],fun b hb=>(List.mem_append.mp hb).imp id fun q=>by rw [List.mem_singleton.mp q];exact hn,u.keepR,fun b o e=>⟨o,u b o e⟩⟩
theorem Iv.write (i:Iv gd fr R σ h) {j:Nat} {a:Addr} {o o':AO} (e:σ[j]? = some o) (r:R[j]? = some a) (s:Heap.SameBut a h h') (x:ORel gd R h' a o'):Iv gd fr R (σ.set j o') h'∧Ext R h R h':=by
 refine zgc ((i.obj j o a e r).obj) fun ob eo c1 c2 c3 c4 c5 c6=>?_
 have ha:a∈R:=List.mem_of_getElem? r
 have tups:∀ b o,h.get? b = some o→(o.cls = .type "tuple"∨o.cls = .type "range")→h'.get? b = some o:=fun b q eb c=>(s.2 b fun z=>by subst z;rw [eo] at eb;obtain rfl:=Option.some.inj eb;exact c.elim c1 c2).trans eb
 refine ⟨⟨fun b q eb=>(s.2 b fun z=>by subst z;exact nn ((i.fresh b ha).symm.trans eb)).trans (i.stays b q eb),i.fresh,i.nodup,by rw [List.length_set];exact i.len,fun k q b eq rq=>?_,?_⟩,⟨List.prefix_refl R,fun uu hb=>.inl hb,fun b q eb hb=>⟨q,(s.2 b fun z=>hb (z ▸ ha)).trans eb,rfl,rfl,rfl,fun uu=>rfl⟩,fun b q eb=>?_⟩⟩
 ·by_cases hk:j = k
  ·subst hk
   rw [r] at rq;obtain rfl:=Option.some.inj rq
   rw [List.getElem?_set_self (List.getElem?_eq_some_iff.mp e).1] at eq
   obtain rfl:=Option.some.inj eq;exact x
  ·rw [List.getElem?_set_ne hk] at eq
   refine (i.obj k q b eq rq).keep (List.prefix_refl R) tups fun o₁ e₁=>(s.2 b fun z=>hk ?_).trans e₁
   subst z
   exact (List.getElem?_inj (List.getElem?_eq_some_iff.mp r).1 i.nodup).mp (r.trans rq.symm)
 ·refine i.frames.keep fun b q eb c=>⟨q,(s.2 b fun z=>by subst z;rw [eo] at eb;obtain rfl:=Option.some.inj eb;exact c3 c).trans eb,rfl,?_⟩
  by_cases z:∃ es' n',q.data = .dict es' n'
  ·obtain ⟨es,n,z⟩:=z;exact ⟨es,n,fun uu=>z⟩
  ·exact ⟨#[],0,fun y=>absurd y z⟩
 ·by_cases z:b = a
  ·refine z0e x.obj fun ob' eo' uu=>?_
   exact ⟨ob',z ▸ eo'⟩
  ·exact ⟨q,(s.2 b z).trans eb⟩
theorem Iv.other (i:Iv gd fr R σ h) {a:Addr} {o o':Obj} (ha:a ∉ R) (h0:gd.h₀.get? a = none) (eo:h.get? a = some o) (hc1:o.cls ≠ .type "tuple") (hc2:o.cls ≠ .type "range") (s:∀ b,b ≠ a→∀ q,h.get? b = some q→h'.get? b = some q)
  (e':h'.get? a = some o') (ec:o'.cls = o.cls) (hd:o.cls = .type "frame"→∃ es n,o'.data = .dict es n):Iv gd fr R σ h':=by
 have tups:∀ b o,h.get? b = some o→(o.cls = .type "tuple"∨o.cls = .type "range")→h'.get? b = some o:=fun b q eb c=>s b (fun z=>by subst z;rw [eo] at eb;obtain rfl:=Option.some.inj eb;exact c.elim hc1 hc2) q eb
 refine ⟨fun b q eb=>s b (fun z=>by subst z;exact nn ((h0).symm.trans eb)) q (i.stays b q eb),i.fresh,i.nodup,i.len,fun j q b eq rq=>(i.obj j q b eq rq).keep (List.prefix_refl R) tups fun o₁ e₁=>s b (fun z=>ha (z ▸ List.mem_of_getElem? rq)) o₁ e₁,?_⟩
 refine i.frames.keep fun b q eb c=>?_
 by_cases z:b = a
 ·subst z
  rw [eo] at eb;obtain rfl:=Option.some.inj eb
  refine z58 (hd c) fun es n z=>?_
  exact ⟨o',e',ec,es,n,fun uu=>z⟩
 ·refine ⟨q,s b z q eb,rfl,?_⟩
  by_cases z:∃ es' n',q.data = .dict es' n'
  ·refine z58 z fun es n z=>?_;exact ⟨es,n,fun uu=>z⟩
  ·exact ⟨#[],0,fun y=>absurd y z⟩
end
section
open PySem PySem.W PySem.Calls PyProof.Rows
structure LocOk (gd:Gd) (env:Env) (ℓ:Loc) (R:List Addr) (h:Heap):Prop where
 kind:env.scope.kind = .function
 glob:env.globals = mainGlobals
 blt:env.builtins = builtinsNs
 out:env.locals ∉ R
 fresh:gd.h₀.get? env.locals = none
 obj:∃ o,h.get? env.locals = some o∧(o.cls = .type "frame"∨o.cls = .type "dict")
 ns:∃ m,h.Ns env.locals m∧∀ x v,look ℓ x = some v→env.kindOf x = some .local→∃ v',m x = some v'∧VRel R h v v'
 cdom:∀ x,env.kindOf x = some .cell∨env.kindOf x = some .free→∃ c,env.cells.lookup x = some c
 cel:∀ x v,look ℓ x = some v→env.kindOf x = some .cell∨env.kindOf x = some .free→∃ c v',env.cells.lookup x = some c∧h.IsCell c (some v')∧VRel R h v v'
 cells:∀ x c,(x,c)∈env.cells→c ∉ R∧gd.h₀.get? c = none∧c ≠ env.locals∧∃ v,h.get? c = some { cls:=.type "cell",data:=.cell v }
 apart:env.cells.Pairwise fun x y=>x.2 ≠ y.2
section
variable {gd:Gd} {h h':Heap} {fr:List Env} {R R':List Addr} {σ σ':AS} {env:Env} {ℓ:Loc}
theorem Keep.at (k:Ext R h R' h') {a:Addr} (ha:a ∉ R) {o:Obj} (e:h.get? a = some o):a ∉ R':=fun hm=>(k.new a hm).elim ha fun q=>by rw [e] at q;exact nomatch q
theorem Keep.isCell (k:Keep R h h') {c:Addr} (hc:c ∉ R) {v:Option Value} (e:h.get? c = some { cls:=.type "cell",data:=.cell v }):h'.get? c = some { cls:=.type "cell",data:=.cell v }:=by
 refine z1o (k c _ e hc) fun o' e' uu uu uu f=>?_
 rw [e',f (of_decide_eq_true rfl)]
theorem Keep.ns (k:Keep R h h') {a:Addr} (ha:a ∉ R) {m:Str→Option Value} (e:h.Ns a m):h'.Ns a m:=by
 refine z5v e fun o es ep ho hd r=>?_
 refine z1o (k a o ho ha) fun o' e' uu uu q uu=>?_
 exact ⟨o',es,ep,e',q.trans hd,r⟩
theorem LocOk.ext (L:LocOk gd env ℓ R h) (i:Iv gd fr R σ h) (k:Ext R h R' h'):LocOk gd env ℓ R' h':=by
 refine z0e L.obj fun o eo co=>?_
 refine z1m (k.keep _ o eo L.out) fun o' e' c' uu=>?_
 refine z0e L.ns fun m hn r=>?_
 refine ⟨L.kind,L.glob,L.blt,Keep.at k L.out eo,L.fresh,⟨o',e',by exact c' ▸ co⟩,⟨m,k.keep.ns L.out hn,fun x v a b=>?_⟩,L.cdom,fun x v a b=>?_,fun x c hm=>?_,L.apart⟩
 ·refine z0e (r x v a b) fun v' p q=>?_
  exact ⟨v',p,q.ext i k⟩
 ·refine z1c (L.cel x v a b) fun c v' p q z=>?_
  refine z3z (L.cells x c (mem_of_lookup p)) fun n1 uu uu v'' hv=>?_
  have:v'' = some v':=by
   refine z0e q fun o ho hd=>?_
   rw [hv] at ho;obtain rfl:=Option.some.inj ho
   simpa using hd
  subst this
  exact ⟨c,v',p,⟨_,k.keep.isCell n1 hv,rfl⟩,z.ext i k⟩
 ·refine z3z (L.cells x c hm) fun n1 n2 n3 v'' hv=>?_
  exact ⟨Keep.at k n1 hv,n2,n3,v'',k.keep.isCell n1 hv⟩
end
structure zrr (gd:Gd) (C init:Addr):Prop where
 makes:makesIn gd.K C = true
 ini:findIn gd.K (.ref C) "__init__" = some (some (.ref init))
 iniF:typeIn gd.K (.ref init) = some (.type "function")
 hga:findIn gd.K (.ref C) "__getattribute__" = some (some (.builtin "object.__getattribute__"))
 hgt:findIn gd.K (.ref C) "__getattr__" = some none
 set:findIn gd.K (.ref C) "__setattr__" = some (some (.builtin "object.__setattr__"))
 plain:plainOver gd.K C = true
 dict:∃ cd,clsIn gd.K C = some cd∧cd.hasDict = true
 attr:∀ x,z2y x = true→findIn gd.K (.ref C) x = some none
 meth:∀ m f,gd.T.meth C m = some f→z2y m = false∧findIn gd.K (.ref C) m = some (some (.ref f))∧typeIn gd.K (.ref f) = some (.type "function")∧keepIn gd.K (.ref f) = true
 kc:findIn gd.K (.ref C) "__class__" = some (some (.builtin "object.__class__"))
 mro:mroIn gd.K C (.type "object") = some true
structure zex (gd:Gd):Prop where
 kin:gd.K.In gd.h₀
 lim:gd.h₀.NoLimit
 sys:∃ o,gd.h₀.get? sysModules = some o
 glob:∃ mg mb,gd.h₀.Ns mainGlobals mg∧gd.h₀.Ns builtinsNs mb∧∀ x v,gd.T.glob x = some v→mg x = some v∨(mg x = none∧mb x = some v)
 cls:∀ C i,gd.T.cls C = some i→zrr gd C i
 kn:∀ a,gd.T.kn a = true→keepIn gd.K (.ref a) = true
 isi:∀ C C' i i',gd.T.cls C = some i→gd.T.cls C' = some i'→kitOne gd.K (.ref C') (.ref C) = some (decide (C' = C))
 exm:exmOne gd.K (.ref gd.T.refusal) (.ref gd.T.refusal) = some true
 frz:∀ a xs,gd.T.frz a = some xs→∃ ws n,gd.h₀.get? a = some (listOf ws n)∧∀ R h,VRels R h (xs.map .int) ws.toList
 clsg:specialIn gd.K (.builtin "object.__class__") "__get__" = some (some (.builtin "getset_descriptor.__get__"))∧takesIn gd.K (.builtin "object.__class__") = some true
section
variable {α β γ δ:Type} (gd:Gd) (fr:List Env)
noncomputable def PR (Rl:List Addr→Heap→α→β→Prop) (Q:β→Shared→Prop) (E:Value→Shared→Prop) (R:List Addr) (s:Shared):Res α→Prop
 | .ok a σ'=>∀ b R' h' tk,Ext R s.heap R' h'→Iv gd fr R' σ' h'→Rl R' h' a b→Q b { s with heap:=h',toks:=tk }
 | .exc m σ'=>∀ e R' h' tk,Ext R s.heap R' h'→Iv gd fr R' σ' h'→(∃ hs,(∀ b o,s.heap.get? b = some o→∃ o',hs.get? b = some o')∧Flying gd hs R' σ' e m h')→E (.ref e) { s with heap:=h',toks:=tk }
 | .bad=>False
end
section
variable {α β γ δ:Type} {gd:Gd} {fr:List Env} {Rl:List Addr→Heap→α→β→Prop} {Rl2:List Addr→Heap→γ→δ→Prop} {Q:β→Shared→Prop} {Q2:δ→Shared→Prop} {E:Value→Shared→Prop} {R R':List Addr} {s s':Shared} {r:Res α} {f:α→AS→Res γ}
noncomputable def Aft (R:List Addr) (s:Shared) (R':List Addr) (s':Shared):Prop:=Ext R s.heap R' s'.heap∧∃ h tk,s' = { s with heap:=h,toks:=tk }
theorem Aft.refl:Aft R s R s:=⟨Ext.refl,s.heap,s.toks,rfl⟩
theorem Aft.mk {h':Heap} {tk:Nat} (x:Ext R s.heap R' h'):Aft R s R' { s with heap:=h',toks:=tk }:=⟨x,h',tk,rfl⟩
theorem Aft.trans {R'':List Addr} {s'':Shared} (x:Aft R s R' s') (y:Aft R' s' R'' s''):Aft R s R'' s'':=by
 obtain ⟨a,h1,t1,rfl⟩:=x
 obtain ⟨b,h2,t2,rfl⟩:=y
 exact ⟨a.trans b,h2,t2,rfl⟩
theorem PR.shift (k:Aft R s R' s') (h:PR gd fr Rl Q E R s r):PR gd fr Rl Q E R' s' r:=by
 obtain ⟨k,h₁,t₁,rfl⟩:=k
 induction r with
 | ok a σ=>exact fun b R'' h' tk e i q=>h b R'' h' tk (k.trans e) i q
 | exc m σ=>exact fun b R'' h' tk e i q=>h b R'' h' tk (k.trans e) i (q.elim fun hs q=>⟨hs,fun b o eb=>(k.stay b o eb).elim fun o' e'=>q.1 b o' e',q.2⟩)
 | bad=>exact h
theorem PR.bind (h:PR gd fr Rl2 Q2 E R s (r.bind f)) :
  PR gd fr Rl (fun b s'=>∃ a σ' R',Aft R s R' s'∧Iv gd fr R' σ' s'.heap∧Rl R' s'.heap a b∧PR gd fr Rl2 Q2 E R' s' (f a σ')) E R s r:=by
 induction r with
 | ok a σ=>exact fun b R' h' tk e i q=>⟨a,σ,R',Aft.mk e,i,q,PR.shift (Aft.mk e) h⟩
 | exc m σ=>exact h
 | bad=>exact h
theorem PR.bind0 (k:Aft R s R' s') (h:PR gd fr Rl2 Q2 E R s (r.bind f)) :
  PR gd fr Rl (fun b s₂=>∃ a σ' R₂,Aft R' s' R₂ s₂∧Iv gd fr R₂ σ' s₂.heap∧Rl R₂ s₂.heap a b∧PR gd fr Rl2 Q2 E R s (f a σ')) E R' s' r:=by
 induction r with
 | ok a σ=>exact fun b R₂ h' tk e i q=>⟨a,σ,R₂,Aft.mk e,i,q,h⟩
 | exc m σ=>exact PR.shift (α:=α) (Rl:=Rl) (Q:=fun uu uu=>False) (r:=.exc m σ) k h
 | bad=>exact h
theorem PR.of_ok {a:α} {b:β} {σ:AS} (h:PR gd fr Rl Q E R s (.ok a σ)) (i:Iv gd fr R σ s.heap) (q:Rl R s.heap a b):Q b s:=by
 have:=h b R s.heap s.toks Ext.refl i q
 exact this
theorem PR.ok_tok {a:α} {b:β} {σ:AS} {tk:Nat} (h:PR gd fr Rl Q E R s (.ok a σ)) (i:Iv gd fr R σ s.heap) (q:Rl R s.heap a b):Q b { s with toks:=tk } :=
 h b R s.heap tk Ext.refl i q
theorem PR.of_of {σ:AS} {o:Option α} (h:PR gd fr Rl Q E R s (Res.of σ o)):∃ a,o = some a∧PR gd fr Rl Q E R s (.ok a σ):=by
 induction o with
 | none=>exact h.elim
 | some a=>exact ⟨a,rfl,h⟩
theorem PR.of_if {c:Prop} [Decidable c] (h:PR gd fr Rl Q E R s (if c then r else .bad)):c∧PR gd fr Rl Q E R s r:=by
 by_cases hc:c
 ·rw [if_pos hc] at h;exact ⟨hc,h⟩
 ·rw [if_neg hc] at h;exact h.elim
theorem PR.of_one {args:List AV} {f:AV→Res AV} {Q:β→Shared→Prop} {Rl:List Addr→Heap→AV→β→Prop} (h:PR gd fr Rl Q E R s (one args f)):∃ a,args = [a]∧PR gd fr Rl Q E R s (f a):=by
 rcases args with _ | ⟨a,_ | ⟨_,_⟩⟩
 ·exact h.elim
 ·exact ⟨a,rfl,h⟩
 ·exact h.elim
theorem PR.of_two {args:List AV} {f:AV→AV→Res AV} {Q:β→Shared→Prop} {Rl:List Addr→Heap→AV→β→Prop} (h:PR gd fr Rl Q E R s (two args f)):∃ a b,args = [a,b]∧PR gd fr Rl Q E R s (f a b):=by
 rcases args with _ | ⟨a,_ | ⟨b,_ | ⟨_,_⟩⟩⟩
 ·exact h.elim
 ·exact h.elim
 ·exact ⟨a,b,rfl,h⟩
 ·exact h.elim
theorem PR.ifn {c:Prop} [Decidable c] {r':Res α} (hc:¬ c) (h:PR gd fr Rl Q E R s (if c then r' else r)):PR gd fr Rl Q E R s r:=by
 rw [if_neg hc] at h;exact h
theorem PR.ifp {c:Prop} [Decidable c] {r':Res α} (hc:c) (h:PR gd fr Rl Q E R s (if c then r else r')):PR gd fr Rl Q E R s r:=by
 rw [if_pos hc] at h;exact h
theorem PR.of_bind {σ:AS} {o:Option α} (h:PR gd fr Rl2 Q2 E R s ((Res.of σ o).bind f)):∃ a,o = some a∧PR gd fr Rl2 Q2 E R s (f a σ):=by
 induction o with
 | none=>exact h.elim
 | some a=>exact ⟨a,rfl,h⟩
theorem PR.mono {Q':β→Shared→Prop} {E':Value→Shared→Prop} (h:PR gd fr Rl Q E R s r) (hQ:∀ b s',Q b s'→Q' b s') (hE:∀ e s',E e s'→E' e s'):PR gd fr Rl Q' E' R s r:=by
 induction r with
 | ok a σ=>exact fun b R' h' tk e i q=>hQ _ _ (h b R' h' tk e i q)
 | exc m σ=>exact fun b R' h' tk e i q=>hE _ _ (h b R' h' tk e i q)
 | bad=>exact h
end
noncomputable abbrev RV:List Addr→Heap→AV→Value→Prop:=VRel
noncomputable abbrev RVs:List Addr→Heap→List AV→List Value→Prop:=VRels
noncomputable def RB:List Addr→Heap→Bool→Bool→Prop:=fun uu uu a b=>a = b
noncomputable def zgg (gd:Gd) (fr:List Env) (A:Around) (C:Addr→List AV→AS→Res AV):Prop :=
 ∀ (a:Addr) (args:List AV) (vals:List Value) (σ:AS) (R:List Addr) (s:Shared) (Q E:Value→Shared→Prop),
  Iv gd fr R σ s.heap→VRels R s.heap args vals→PR gd fr RV Q E R s (C a args σ)→wpAny gd.m A (call (.ref a) vals) Q E s
structure Cx (gd:Gd) (fr:List Env) (A:Around) (env:Env) (I:z1q):Prop where
 top:zex gd
 hh:A.handled = none
 frames:A.frames = some fr
 units:A.units + 100 < cLine
 call:zgg gd fr A I.call
 glob:I.glob = gd.T.glob
 meth:I.meth = gd.T.meth
 kn:I.kn = gd.T.kn
 cls:∀ C,I.cls C = true→∃ i,gd.T.cls C = some i
 ref:I.refusal = gd.T.refusal
 frz:I.frz = gd.T.frz
 scl:∀ x,I.sc.lookup x = some .local→env.kindOf x = some .local
 scc:∀ x,I.sc.lookup x = some .cell∨I.sc.lookup x = some .free→env.kindOf x = some .cell∨env.kindOf x = some .free
 scg:∀ x,I.sc.lookup x = some .globalImplicit→env.kindOf x = some .globalImplicit
 dbg:z1g I.sc (Str.ofString "__debug__") = false∧z43 I.sc (Str.ofString "__debug__") = false
 cdict:z1g I.sc (Str.ofString "__classdict__") = false
 kind:env.scope.kind = .function
 super:env.kindOf (Str.ofString "super") ≠ some .globalImplicit
 lvl:I.lvl = true→∃ outer,fr = env :: outer∧env.frame = some env.locals
 room:A.depth + 1 < recursionLimit
theorem zam {sc:List (Str×NameKind)} {x:Str} (h:z1g sc x = true):sc.lookup x = some .local∨sc.lookup x = some .cell∨sc.lookup x = some .free:=by
 unfold z1g at h
 generalize sc.lookup x = o at h ⊢
 induction o with
 | none=>exact nf h
 | some k=>cases k <;> first | exact .inl rfl | exact .inr (.inl rfl) | exact .inr (.inr rfl) | exact nf h
theorem Cx.sc {gd:Gd} {fr:List Env} {A:Around} {env:Env} {I:z1q} (C:Cx gd fr A env I) (x:Str) :
  (z1g I.sc x = true→env.kindOf x = some .local∨env.kindOf x = some .cell∨env.kindOf x = some .free)∧(z43 I.sc x = true→env.kindOf x = some .globalImplicit):=by
 refine ⟨fun h=>?_,fun h=>C.scg x (by unfold z43 at h;simpa using h)⟩
 refine Or.elim (zam h) (fun e=>.inl (C.scl x e)) fun e=>.inr (C.scc x e)
noncomputable def SE (gd:Gd) (fr:List Env) (e:Expr):Prop :=
 ∀ (A:Around) (env:Env) (I:z1q) (ℓ:Loc) (σ:AS) (R:List Addr) (s:Shared) (Q E:Value→Shared→Prop),
  Cx gd fr A env I→Iv gd fr R σ s.heap→LocOk gd env ℓ R s.heap→PR gd fr RV Q E R s (z09 e I ℓ σ)→wpAny gd.m A (eval e env) Q E s
section
variable {gd:Gd} {fr:List Env} {A:Around} {env:Env} {I:z1q} {ℓ:Loc} {σ:AS} {R R':List Addr} {s s':Shared} {Q E:Value→Shared→Prop}
theorem LocOk.aft {σ:AS} (L:LocOk gd env ℓ R s.heap) (i:Iv gd fr R σ s.heap) (k:Aft R s R' s'):LocOk gd env ℓ R' s'.heap:=L.ext i k.1
theorem VRel.aft {a:AV} {v:Value} (x:VRel R s.heap a v) (i:Iv gd fr R σ s.heap) (k:Aft R s R' s'):VRel R' s'.heap a v:=x.ext i k.1
theorem VRels.aft {a:List AV} {v:List Value} (x:VRels R s.heap a v) (i:Iv gd fr R σ s.heap) (k:Aft R s R' s'):VRels R' s'.heap a v:=x.ext i k.1
theorem z9g (c:Const) (k:Nat) (pos:Pos):SE gd fr (.Constant c k pos):=by
 intro A env I ℓ σ R s Q E C i L h
 induction c with
 | none=>exact wpAny_Constant_none (PR.of_ok h i .none)
 | bool b=>exact wpAny_Constant_bool (PR.of_ok h i (.bool b))
 | int n=>exact wpAny_Constant_int (PR.ok_tok h i (.int n _))
 | str x=>exact wpAny_Constant_str (PR.ok_tok h i (.str x _))
 | _=>exact h.elim
theorem z9h {A':Around} (C:Cx gd fr A env I) (L:LocOk gd env ℓ R s.heap) (i:Iv gd fr R σ s.heap) {x:Str} {v:Value} (e:I.glob x = some v) (h:Q v s):wpAny gd.m A' (loadGlobal env x) Q E s:=by
 refine z1c C.top.glob fun mg mb hg hb r=>?_
 rw [C.glob] at e
 unfold loadGlobal
 rw [L.glob,L.blt]
 refine wpAny_bind (wpAny_nsGet (hg.keeps i.stays) ?_)
 rcases r x v e with q | ⟨q1,q2⟩
 ·exact q ▸ wpAny_pure h
 ·rw [q1]
  refine wpAny_bind (wpAny_nsGet (hb.keeps i.stays) ?_)
  exact q2 ▸ wpAny_pure h
theorem z77 {A':Around} (C:Cx gd fr A env I) (L:LocOk gd env ℓ R s.heap) (i:Iv gd fr R σ s.heap) {x:Str} {a:AV} (e:z4e I ℓ x = some a) (h:∀ v,VRel R s.heap a v→Q v s):(x == ("__debug__" : Str)) = false∧wpAny gd.m A' (loadName env x) Q E s:=by
 unfold z4e at e
 have hd:(x == ("__debug__" : Str)) = false:=by
  cases q:(x == ("__debug__" : Str)) with
  | false=>rfl
  | true =>
   have q:=eq_of_beq q
   subst q
   rw [if_neg (by rw [C.dbg.1];decide),if_neg (by rw [C.dbg.2];decide)] at e
   exact nn e
 refine ⟨hd,?_⟩
 split at e
 ·rename_i hl
  refine z0e L.ns fun m hn r=>?_
  rcases (C.sc x).1 hl with k | k | k
  ·refine z0e (r x a e k) fun v' p q=>?_
   exact wpAny_loadName_local C.kind k hn p (h v' q)
  ·refine z1c (L.cel x a e (.inl k)) fun c v' p q z=>?_
   exact wpAny_loadName_cell C.kind k p q (h v' z)
  ·refine z1c (L.cel x a e (.inr k)) fun c v' p q z=>?_
   by_cases hx:x = ("__classdict__" : Str)
   ·subst hx
    exact nf ((C.cdict).symm.trans hl)
   ·exact wpAny_loadName_free C.kind k p q (h v' z) (by simpa using hx)
 ·split at e
  ·rename_i hg
   refine z0e (Option.map_eq_some_iff.mp e) fun v hv zq19n2=>?_;obtain rfl:=zq19n2
   have k:=(C.sc x).2 hg
   exact ks_loadName_global C.kind k (z9h C L i hv (h v (.raw v)))
  ·exact nn e
theorem zc4 (x:Str) (pos:Pos):SE gd fr (.Name x pos):=by
 intro A env I ℓ σ R s Q E C i L h
 refine z0e (PR.of_of h) fun a e h=>?_
 obtain ⟨hd,z⟩:=z77 (Q:=Q) (E:=E) C L i e fun v q=>PR.of_ok h i q
 exact wpAny_Name z hd
end
end
section
open PySem PySem.W PySem.Calls PyProof.Rows PySem.SeqAt
section
variable {gd:Gd} {h:Heap} {fr:List Env} {R:List Addr} {σ:AS}
theorem z0x {α:Type} {p:Prop} [Decidable p] {o:Option α} {a:α} (e:(if p then o else none) = some a):p∧o = some a:=by
 by_cases h:p
 ·rw [if_pos h] at e;exact ⟨h,e⟩
 ·exact nn ((if_neg h).symm.trans e)
set_option tactic.hygienic true in
theorem z5x (e:Expr):(ev e).back e:=by
 cases e <;> first | trivial | rfl | skip
 rename_i c k p
 cases c <;> first | trivial | rfl
theorem zan {α:Type} {a:Option α} {l:List (Option α)} {r:List α} (e:z2m (a :: l) = some r):∃ x y,a = some x∧z2m l = some y∧r = x :: y:=by
 induction a with
 | none=>exact nn e
 | some x =>
  refine z0e (Option.map_eq_some_iff.mp e) fun y h1 zq0n2=>?_;obtain rfl:=zq0n2
  exact ⟨x,y,rfl,h1,rfl⟩
theorem z78 {i:Nat} {xs:List AV} (e:z34 σ i = some xs):σ[i]? = some (.list xs):=by
 unfold z34 at e
 cases q:σ[i]? with
 | none=>rw [q] at e;exact nn e
 | some o=>rw [q] at e;cases o <;> cases e;rfl
theorem z5y {h:Heap} (i:Iv gd fr R σ h) {j:Nat} {b:Addr} {xs:List AV} (e:z34 σ j = some xs) (r:R[j]? = some b):∃ ws n,h.get? b = some (listOf ws n)∧VRels R h xs ws.toList:=by
 cases i.obj j _ b (z78 e) r with
 | list eo vr=>exact ⟨_,_,eo,vr⟩
theorem zda (i:Iv gd fr R σ h):∀ (n:Nat) {a:AV} {v:Value} {d:PyData},rd n σ a = some d→VRel R h a v→(∃ as,Reads h v d as)∧d.canLay0 = true∧d.depth≤n:=by
 have all:∀ (n:Nat),(∀ {a:AV} {v:Value} {d:PyData},rd n σ a = some d→VRel R h a v→(∃ as,Reads h v d as)∧d.canLay0 = true∧d.depth≤n) →
   ∀ {as:List AV} {vs:List Value} {ds:List PyData},z2m (as.map (rd n σ)) = some ds→VRels R h as vs→(∃ bs,ReadsAll h vs ds bs)∧PyData.canLayAll0 ds = true∧PyData.depthAll ds≤n:=by
  intro n ih as
  induction as with
  | nil=>intro vs ds e x;obtain rfl:=Option.some.inj e;cases x;exact ⟨⟨_,.nil⟩,rfl,Nat.zero_le _⟩
  | cons a as ia =>
   intro vs ds e x
   rw [List.map_cons] at e
   refine z1c (zan e) fun d ds' h1 h2 zq1n4=>?_;obtain rfl:=zq1n4
   cases x with
   | cons xa xr =>
    refine zmh (ih h1 xa) fun zq2n0 c l=>?_;obtain ⟨p,q⟩:=zq2n0
    refine zmh (ia h2 xr) fun zq3n0 c' l'=>?_;obtain ⟨p',q'⟩:=zq3n0
    exact ⟨⟨_,.cons q q'⟩,Bool.and_eq_true_iff.mpr ⟨c,c'⟩,Nat.max_le.mpr ⟨l,l'⟩⟩
 intro n
 induction n with
 | zero =>
  intro a v d e x
  cases x with
  | none=>obtain rfl:=Option.some.inj e;exact ⟨⟨_,.none⟩,rfl,Nat.zero_le _⟩
  | bool b=>obtain rfl:=Option.some.inj e;exact ⟨⟨_,.bool _⟩,rfl,Nat.zero_le _⟩
  | int k t=>obtain rfl:=Option.some.inj e;exact ⟨⟨_,.int _ _⟩,rfl,Nat.zero_le _⟩
  | str z t =>
   refine oAA (z0x e) fun hs e=>?_
   obtain rfl:=Option.some.inj e;exact ⟨⟨_,.str _ _⟩,hs,Nat.zero_le _⟩
  | _=>exact nn e
 | succ n ih =>
  intro a v d e x
  cases x with
  | none=>obtain rfl:=Option.some.inj e;exact ⟨⟨_,.none⟩,rfl,Nat.zero_le _⟩
  | bool b=>obtain rfl:=Option.some.inj e;exact ⟨⟨_,.bool _⟩,rfl,Nat.zero_le _⟩
  | int k t=>obtain rfl:=Option.some.inj e;exact ⟨⟨_,.int _ _⟩,rfl,Nat.zero_le _⟩
  | str z t =>
   refine oAA (z0x e) fun hs e=>?_
   obtain rfl:=Option.some.inj e;exact ⟨⟨_,.str _ _⟩,hs,Nat.zero_le _⟩
  | raw v=>exact nn e
  | rng a b c=>exact nn e
  | @ref j a r =>
   refine z0e (Option.bind_eq_some_iff.mp e) fun xs hx e=>?_
   refine z0e (Option.map_eq_some_iff.mp e) fun ds h1 zq4n2=>?_;obtain rfl:=zq4n2
   refine z27 (z5y i hx r) fun ws n eo vr=>?_
   refine zmh (all _ ih h1 vr) fun zq5n0 c l=>?_;obtain ⟨p,q⟩:=zq5n0
   exact ⟨⟨_,.list eo rfl rfl q⟩,c,Nat.succ_le_succ l⟩
  | tup eo ec ed vr =>
   refine z0e (Option.map_eq_some_iff.mp e) fun ds h1 zq6n2=>?_;obtain rfl:=zq6n2
   refine zmh (all n ih h1 vr) fun zq7n0 c l=>?_;obtain ⟨p,q⟩:=zq7n0
   exact ⟨⟨_,.tuple eo ec ed q⟩,c,Nat.succ_le_succ l⟩
end
section
variable {gd:Gd} {fr:List Env} {R:List Addr} {σ:AS} {A:Around} {s:Shared} {E Q:Value→Shared→Prop} {a b:AV} {u v:Value}
theorem z9i {h:Heap} {x:Str} {t:Tok}:∀ {as:List AV} {vs:List Value} {c:Bool},zg7 x as = some c→VRels R h as vs→(∀ y∈vs,∀ A s,EqAt A s y (.str x t) (match y with | .str z _=>z == x | _=>false))∧vs.any (fun y=>match y with | .str z _=>z == x | _=>false) = c
 | []=>fun e r=>by obtain rfl:=Option.some.inj e;cases r;exact ⟨by simp,rfl⟩
 | a :: as=>fun e r=>by
  cases r with
  | cons ra rr =>
   cases ra with
   | str z tz =>
    refine z0e (Option.map_eq_some_iff.mp e) fun c' h1 zr02=>?_;obtain rfl:=zr02
    obtain ⟨p,q⟩:=z9i h1 rr
    refine ⟨fun y hy=>?_,by rw [List.any_cons,q]⟩
    refine Or.elim (List.mem_cons.mp hy) (fun zo10=>?_) (fun hy=>?_)
    ·obtain rfl:=zo10;exact fun A s=>EqAt.str_str z tz x t
    ·exact p y hy
   | _=>exact nn e
theorem z3b {h:Heap} {i:Int} (e:z4h a = some i) (x:VRel R h a v):∃ t,v = .int i t:=by
 cases x <;> cases e;exact ⟨_,rfl⟩
theorem z8o {h:Heap} {z:Str} (e:zjl a = some z) (x:VRel R h a v):∃ t,v = .str z t:=by
 cases x <;> cases e;exact ⟨_,rfl⟩
set_option tactic.hygienic true in
theorem z3l {h:Heap} {j:Nat} (e:z6y a = some j) (x:VRel R h a v):∃ b,v = .ref b∧R[j]? = some b:=by
 cases x <;> cases e;rename_i q;exact ⟨_,rfl,q⟩
theorem zgh {h:Heap} {vs:List AV} (x:VRel R h (.tup vs) v):∃ t ws,v = .ref t∧IsTup h t ws∧VRels R h vs ws.toList:=by
 cases x with
 | tup eo ec ed vr=>exact ⟨_,_,rfl,⟨_,eo,ec,_,ed⟩,vr⟩
theorem zmj (i:Iv gd fr R σ s.heap) {c:Bool} (e:eqA σ a b = some c) (x:VRel R s.heap a u) (y:VRel R s.heap b v) :
  ∃ da db as bs,Reads s.heap u da as∧Reads s.heap v db bs∧(da.canLay0 = true∧db.canLay0 = true∧min da.depth db.depth < 100)∧PyData.eqv da db = c:=by
 unfold eqA at e
 cases h1:rd 8 σ a with
 | none=>rw [h1] at e;exact nn e
 | some da =>
  cases h2:rd 8 σ b with
  | none=>rw [h1,h2] at e;exact nn e
  | some db =>
   rw [h1,h2] at e
   obtain p:=zda i 8 h1 x
   obtain q:=zda i 8 h2 y
   obtain ⟨as,pa⟩:=p.1
   obtain ⟨bs,qb⟩:=q.1
   exact ⟨da,db,as,bs,pa,qb,⟨p.2.1,q.2.1,Nat.lt_of_le_of_lt (Nat.min_le_left ..) (Nat.lt_of_le_of_lt p.2.2 (by decide))⟩,Option.some.inj e⟩
theorem znl {op:CmpOp} {p q:Int} {t t':Tok} {c:Bool} (e:zus op p q = some c) (h:Q (.bool c) s):wpAny gd.m A (compareOp op (.int p t) (.int q t')) Q E s:=by
 cases op <;> cases e
 ·exact PyProof.Rows.lt_int h
 ·exact PyProof.Rows.le_int h
 ·exact PyProof.Rows.gt_int h
 ·exact PyProof.Rows.ge_int h
theorem zmk {c:Bool} (e:isN a b = some c) (x:VRel R s.heap a u) (y:VRel R s.heap b v):v = .none∧(u == .none) = c:=by
 revert R s a b u v c;refine no_implicit_lambda% (z76 (z06 inferInstance (z06 z1v (z06 inferInstance (z06 inferInstance (z06 inferInstance (z06 inferInstance inferInstance)))))) ?_);generalize (e7 _ _).1 = R;generalize (e7 _ _).2.1 = s;generalize (e7 _ _).2.2.1 = a;generalize (e7 _ _).2.2.2.1 = b;generalize (e7 _ _).2.2.2.2.1 = u;generalize (e7 _ _).2.2.2.2.2.1 = v;generalize (e7 _ _).2.2.2.2.2.2 = c;unhygienic intros
 cases y <;> first | (exact nn e;done) | skip
 cases x <;> cases e <;> exact ⟨rfl,rfl⟩
theorem zrs (i:Iv gd fr R σ s.heap) {z:Str} {tz:Tok} {c:Bool} (e:inA σ z b = some c) (y:VRel R s.heap b v) (h:Q (.bool c) s):wpAny gd.m A (compareOp .In (.str z tz) v) Q E s:=by
 cases b with
 | tup vs =>
  refine z1c (zgh y) fun t ws zq12n2 it vr=>?_;obtain rfl:=zq12n2
  obtain p:=z9i (t:=tz) e vr
  refine in_tupleAt _ it (fun y hy=>p.1 y (by simpa using hy) _ _) ?_
  rw [← Array.any_toList,p.2];exact h
 | ref j =>
  refine z0e (Option.bind_eq_some_iff.mp e) fun xs e1 e2=>?_
  refine z0e (z3l rfl y) fun l zq14n1 r=>?_;obtain rfl:=zq14n1
  refine z27 (z5y i e1 r) fun ws n eo vr=>?_
  obtain p:=z9i (t:=tz) e2 vr
  refine in_listAt _ ⟨_,eo,rfl,_,rfl⟩ (fun y hy=>p.1 y (by simpa using hy) _ _) ?_
  rw [← Array.any_toList,p.2];exact h
 | _=>exact nn e
theorem z9j (hu:A.units + 100 < cLine) (i:Iv gd fr R σ s.heap) {op:CmpOp} {c:Bool} (e:z8b σ op a b = some c) (x:VRel R s.heap a u) (y:VRel R s.heap b v) (h:Q (.bool c) s):wpAny gd.m A (compareOp op u v) Q E s:=by
 obtain itg:(z4h a).bind (fun x=>(z4h b).bind fun y=>zus op x y) = some c→wpAny gd.m A (compareOp op u v) Q E s:=fun e=>by
  refine z0e (Option.bind_eq_some_iff.mp e) fun p e1 e=>?_
  refine z0e (Option.bind_eq_some_iff.mp e) fun q e2 e=>?_
  refine oEA (z3b e1 x) fun t zq18n1=>?_;obtain rfl:=zq18n1
  refine oEA (z3b e2 y) fun t' zq19n1=>?_;obtain rfl:=zq19n1
  exact znl e h
 induction op with
 | Eq =>
  refine zaj (zmj i e x y) fun da db as bs p q c1 zq20n7=>?_;obtain rfl:=zq20n7
  exact compareEq_reads p q c1.1 c1.2.1 (Nat.lt_trans (Nat.add_lt_add_left c1.2.2 _) hu) h
 | NotEq =>
  refine z0e (Option.map_eq_some_iff.mp e) fun c' e' zq21n2=>?_;obtain rfl:=zq21n2
  refine zaj (zmj i e' x y) fun da db as bs p q c1 zq22n7=>?_;obtain rfl:=zq22n7
  exact compareNe_reads p q c1.1 c1.2.1 (Nat.lt_trans (Nat.add_lt_add_left c1.2.2 _) hu) h
 | In =>
  refine z0e (Option.bind_eq_some_iff.mp e) fun z e1 e2=>?_
  refine oEA (z8o e1 x) fun tz zq24n1=>?_;obtain rfl:=zq24n1
  exact zrs i e2 y h
 | Is =>
  refine oAA (zmk e x y) fun zq25n0 zq25n1=>?_;obtain rfl:=zq25n0;obtain rfl:=zq25n1
  exact is_none h
 | IsNot =>
  refine z0e (Option.map_eq_some_iff.mp e) fun c' e' zq26n2=>?_;obtain rfl:=zq26n2
  refine oAA (zmk e' x y) fun zq27n0 zq27n1=>?_;obtain rfl:=zq27n0;obtain rfl:=zq27n1
  exact isNot_none h
 | _=>exact itg e
theorem znm {op:Operator} {c:AV} {p q:Int} {t t':Tok} (e:binI op p q = some c) (h:∀ r tk,VRel R s.heap c r→Q r { s with toks:=tk }):wpAny gd.m A (binaryOp op (.int p t) (.int q t')) Q E s:=by
 induction op with
 | Add=>obtain rfl:=Option.some.inj e;exact PyProof.Rows.add_int (h _ _ (.int _ _))
 | Sub=>obtain rfl:=Option.some.inj e;exact PyProof.Rows.sub_int (h _ _ (.int _ _))
 | Mod =>
  obtain ⟨hb,e⟩:=z0x e
  obtain rfl:=Option.some.inj e
  exact PyProof.Rows.mod_int' (Int.ne_of_gt hb) (h _ _ (.int _ _))
 | FloorDiv =>
  obtain ⟨hb,e⟩:=z0x e
  obtain rfl:=Option.some.inj e
  exact PyProof.Rows.floordiv_int (Int.ne_of_gt hb.1) (h _ _ (.int _ _)) (.inl (PyProof.noPylong_small (by omega)))
 | Pow =>
  obtain ⟨hb,e⟩:=z0x e
  obtain ⟨rfl,rfl⟩:=hb
  obtain rfl:=Option.some.inj e
  exact PyProof.Rows.pow_int_small (by decide) (by decide) (by decide) (h _ _ (.int _ _))
 | _=>exact nn e
theorem znn {op:Operator} {c:AV} (e:zjm op a b = some c) (x:VRel R s.heap a u) (y:VRel R s.heap b v) (h:∀ r tk,VRel R s.heap c r→Q r { s with toks:=tk }):wpAny gd.m A (binaryOp op u v) Q E s:=by
 refine z0e (Option.bind_eq_some_iff.mp e) fun p e1 e=>?_
 refine z0e (Option.bind_eq_some_iff.mp e) fun q e2 e=>?_
 refine oEA (z3b e1 x) fun t zq34n1=>?_;obtain rfl:=zq34n1
 refine oEA (z3b e2 y) fun t' zq35n1=>?_;obtain rfl:=zq35n1
 exact znm e h
end
end
section
open PySem PySem.W PySem.Calls PyProof.Rows PySem.SeqAt
section
variable {gd:Gd} {fr:List Env} {A:Around} {env:Env} {I:z1q} {ℓ:Loc} {σ:AS} {R R':List Addr} {s s':Shared} {Q E:Value→Shared→Prop}
noncomputable def SL (gd:Gd) (fr:List Env) (es:List Expr):Prop :=
 ∀ (A:Around) (env:Env) (I:z1q) (ℓ:Loc) (σ:AS) (R:List Addr) (s:Shared) (pos:Pos) (Q:List Value→Shared→Prop) (E:Value→Shared→Prop),
  Cx gd fr A env I→Iv gd fr R σ s.heap→LocOk gd env ℓ R s.heap→PR gd fr RVs Q E R s (z38 es I ℓ σ)→wpAny gd.m A (spliced (backTo pos (starEach es env))) Q E s
noncomputable def ST (gd:Gd) (fr:List Env) (e:Expr):Prop :=
 ∀ (A:Around) (env:Env) (I:z1q) (ℓ:Loc) (σ:AS) (R:List Addr) (s:Shared) (Q:Bool→Shared→Prop) (E:Value→Shared→Prop),
  Cx gd fr A env I→Iv gd fr R σ s.heap→LocOk gd env ℓ R s.heap→PR gd fr RB Q E R s (z20 e I ℓ (z09 e I ℓ) σ)→wpAny gd.m A (isTrue e env (eval e env)) Q E s
noncomputable def SA (gd:Gd) (fr:List Env) (op:BoolOp) (es:List Expr):Prop :=
 ∀ (A:Around) (env:Env) (I:z1q) (ℓ:Loc) (σ:AS) (R:List Addr) (s:Shared) (Q:Bool→Shared→Prop) (E:Value→Shared→Prop),
  Cx gd fr A env I→Iv gd fr R σ s.heap→LocOk gd env ℓ R s.heap→PR gd fr RB Q E R s (zg0 op es I ℓ σ)→wpAny gd.m A (allTrue op es env) Q E s
noncomputable def SO (gd:Gd) (fr:List Env) (op:BoolOp) (es:List Expr):Prop :=
 ∀ (A:Around) (env:Env) (I:z1q) (ℓ:Loc) (σ:AS) (R:List Addr) (s:Shared) (pos:Pos) (Q E:Value→Shared→Prop),
  Cx gd fr A env I→Iv gd fr R σ s.heap→LocOk gd env ℓ R s.heap→PR gd fr RV Q E R s (zai op es I ℓ σ)→wpAny gd.m A (boolOp pos op (evalEach es env)) Q E s
theorem SE.then {e:Expr} (S:SE gd fr e) {γ δ:Type} {Rl2:List Addr→Heap→γ→δ→Prop} {Q2:δ→Shared→Prop} {f:AV→AS→Res γ} (C:Cx gd fr A env I) (i:Iv gd fr R σ s.heap) (L:LocOk gd env ℓ R s.heap)
  (h:PR gd fr Rl2 Q2 E R s ((z09 e I ℓ σ).bind f))
  (k:∀ a v σ' R' s',Aft R s R' s'→Iv gd fr R' σ' s'.heap→LocOk gd env ℓ R' s'.heap→VRel R' s'.heap a v→PR gd fr Rl2 Q2 E R' s' (f a σ')→Q v s'):wpAny gd.m A (eval e env) Q E s :=
 S A env I ℓ σ R s Q E C i L ((PR.bind (Rl:=RV) h).mono (fun v s' zm=>z1j zm fun a σ' R' t i' q z=>k a v σ' R' s' t i' (L.aft i t) q z) fun uu uu z=>z)
theorem ST.then {e:Expr} (S:ST gd fr e) {γ δ:Type} {Rl2:List Addr→Heap→γ→δ→Prop} {Q2:δ→Shared→Prop} {f:Bool→AS→Res γ} {Q:Bool→Shared→Prop} (C:Cx gd fr A env I) (i:Iv gd fr R σ s.heap) (L:LocOk gd env ℓ R s.heap)
  (h:PR gd fr Rl2 Q2 E R s ((z20 e I ℓ (z09 e I ℓ) σ).bind f))
  (k:∀ a σ' R' s',Aft R s R' s'→Iv gd fr R' σ' s'.heap→LocOk gd env ℓ R' s'.heap→PR gd fr Rl2 Q2 E R' s' (f a σ')→Q a s'):wpAny gd.m A (isTrue e env (eval e env)) Q E s :=
 S A env I ℓ σ R s Q E C i L ((PR.bind (Rl:=RB) h).mono (fun v s' zm=>z1j zm fun a σ' R' t i' q z=>by subst q;exact k _ σ' R' s' t i' (L.aft i t) z) fun uu uu z=>z)
theorem SL.then {es:List Expr} (S:SL gd fr es) {pos:Pos} {γ δ:Type} {Rl2:List Addr→Heap→γ→δ→Prop} {Q2:δ→Shared→Prop} {f:List AV→AS→Res γ} {Q:List Value→Shared→Prop} (C:Cx gd fr A env I) (i:Iv gd fr R σ s.heap) (L:LocOk gd env ℓ R s.heap)
  (h:PR gd fr Rl2 Q2 E R s ((z38 es I ℓ σ).bind f))
  (k:∀ a v σ' R' s',Aft R s R' s'→Iv gd fr R' σ' s'.heap→LocOk gd env ℓ R' s'.heap→VRels R' s'.heap a v→PR gd fr Rl2 Q2 E R' s' (f a σ')→Q v s'):wpAny gd.m A (spliced (backTo pos (starEach es env))) Q E s :=
 S A env I ℓ σ R s pos Q E C i L ((PR.bind (Rl:=RVs) h).mono (fun v s' zm=>z1j zm fun a σ' R' t i' q z=>k a v σ' R' s' t i' (L.aft i t) q z) fun uu uu z=>z)
theorem zjw {l r:Expr} {op:Operator} {pos:Pos} (Sl:SE gd fr l) (Sr:SE gd fr r):SE gd fr (.BinOp l op r pos):=by
 intro A env I ℓ σ R s Q E C i L h
 refine wpAny_BinOp (Sl.then C i L h fun a u σ₁ R₁ s₁ t₁ i₁ L₁ x h=>?_)
 refine Sr.then C i₁ L₁ h fun b v σ₂ R₂ s₂ t₂ i₂ L₂ y h=>?_
 refine z0e (PR.of_of h) fun c e h=>?_
 exact znn e (x.aft i₁ t₂) y fun r tk q=>PR.ok_tok h i₂ q
theorem zjx {op:CmpOp} {r:Expr} {I:z1q} {ℓ:Loc} {σ:AS} (h:z09 r I ℓ σ ≠ .bad):behindInMarks op r = false:=by
 cases r <;> first | rfl | exact absurd rfl h
theorem zdb {γ:Type} {op:CmpOp} {r:Expr} {σ':AS} {f:AV→AS→Res γ} {δ:Type} {Rl2:List Addr→Heap→γ→δ→Prop} {Q2:δ→Shared→Prop} (h:PR gd fr Rl2 Q2 E R s ((z09 r I ℓ σ').bind f)):behindInMarks op r = false :=
 zjx (I:=I) (ℓ:=ℓ) (σ:=σ') fun e=>by rw [e] at h;exact h.elim
theorem zjy {l r:Expr} {op:CmpOp} {pos:Pos} {Q:Value→Shared→Prop} {s:Shared}
  (h:wpAny gd.m A (eval l env) (fun a s₁=>behindInMarks op r = false∧wpAny gd.m A (eval r env) (fun b s₂=>wpAny gd.m A (compareOp op a b) Q E s₂) E s₁) E s) :
  wpAny gd.m A (eval (.Compare l [op] [r] pos) env) Q E s:=fun Γ p hΓ=>by
 rw [eval_Compare1,Sem.wp_bind']
 refine Sem.wp_mono _ Γ _ (fun a p₁ s₁ h₁=>?_) (fun uu uu uu h'=>h') _ _ (h Γ p hΓ)
 refine oAA h₁ fun hm h₁=>?_
 simp only [markedBehindIn_of_false hm,Sem.wp_bind',Sem.wp_holding,Sem.wp_cmd_standAt,Sem.wp_operate]
 exact Sem.wp_mono _ Γ _ (fun b uu s₂ h₂=>h₂ Γ _ hΓ) (fun uu uu uu h'=>h') _ _ (h₁ Γ p₁ hΓ)
theorem zao {l r:Expr} {op:CmpOp} {pos:Pos} {Q:Bool→Shared→Prop} {s:Shared} {whole:Sem Value}
  (h:wpAny gd.m A (eval l env) (fun a s₁=>behindInMarks op r = false∧wpAny gd.m A (eval r env) (fun b s₂=>wpAny gd.m A (compareOp op a b) (fun c s₃=>wpAny gd.m A (truthy c) Q E s₃) E s₂) E s₁) E s) :
  wpAny gd.m A (isTrue (.Compare l [op] [r] pos) env whole) Q E s:=fun Γ p hΓ=>by
 rw [isTrue_Compare1,Sem.wp_bind']
 refine Sem.wp_mono _ Γ _ (fun a p₁ s₁ h₁=>?_) (fun uu uu uu h'=>h') _ _ (h Γ p hΓ)
 refine oAA h₁ fun hm h₁=>?_
 simp only [markedBehindIn_of_false hm,Sem.wp_bind',Sem.wp_holding,Sem.wp_cmd_standAt,Sem.wp_operate]
 exact Sem.wp_mono _ Γ _ (fun b uu s₂ h₂=>Sem.wp_mono _ Γ _ (fun c p₃ s₃ h₃=>h₃ Γ p₃ hΓ) (fun uu uu uu h'=>h') _ _ (h₂ Γ _ hΓ)) (fun uu uu uu h'=>h') _ _ (h₁ Γ p₁ hΓ)
theorem Cx.u (C:Cx gd fr A env I):A.units + 100 < cLine:=C.units
theorem zey {l r:Expr} {op:CmpOp} {pos:Pos} (Sl:SE gd fr l) (Sr:SE gd fr r):SE gd fr (.Compare l [op] [r] pos):=by
 intro A env I ℓ σ R s Q E C i L h
 refine zjy (Sl.then C i L h fun a u σ₁ R₁ s₁ t₁ i₁ L₁ x h=>⟨zdb h,?_⟩)
 refine Sr.then C i₁ L₁ h fun b v σ₂ R₂ s₂ t₂ i₂ L₂ y h=>?_
 refine z0e (PR.of_of h) fun c e h=>?_
 refine z0e (Option.map_eq_some_iff.mp e) fun c' e2 zq4n2=>?_;obtain rfl:=zq4n2
 exact z9j C.u i₂ e2 (x.aft i₁ t₂) y (PR.of_ok h i₂ (.bool c'))
theorem zgi {a:AV} {v:Value} {b:Bool} {Q:Bool→Shared→Prop} (e:tru a = some b) (x:VRel R s.heap a v) (h:Q b s):wpAny gd.m A (truthy v) Q E s:=by
 cases x <;> cases e
 ·exact fun uu uu uu=>h
 ·exact wpAny_truthy_bool h
theorem zez {l r:Expr} {op:CmpOp} {pos:Pos} (Sl:SE gd fr l) (Sr:SE gd fr r):ST gd fr (.Compare l [op] [r] pos):=by
 intro A env I ℓ σ R s Q E C i L h
 refine zao (Sl.then C i L h fun a u σ₁ R₁ s₁ t₁ i₁ L₁ x h=>⟨zdb h,?_⟩)
 refine Sr.then C i₁ L₁ h fun b v σ₂ R₂ s₂ t₂ i₂ L₂ y h=>?_
 refine z0e (PR.of_of h) fun c e h=>?_
 exact z9j C.u i₂ e (x.aft i₁ t₂) y (wpAny_truthy_bool (PR.of_ok h i₂ rfl))
theorem zno {x:Expr} {op:UnaryOp} {pos:Pos} (Sx:SE gd fr x):SE gd fr (.UnaryOp op x pos):=by
 intro A env I ℓ σ R s Q E C i L h
 refine wpAny_UnaryOp (Sx.then C i L h fun a u σ₁ R₁ s₁ t₁ i₁ L₁ x h=>?_)
 refine z0e (PR.of_of h) fun c e h=>?_
 induction op with
 | USub =>
  refine z0e (Option.map_eq_some_iff.mp e) fun b e2 zq7n2=>?_;obtain rfl:=zq7n2
  refine oEA (z3b e2 x) fun t zq8n1=>?_;obtain rfl:=zq8n1
  exact PyProof.Rows.neg_int (PR.ok_tok h i₁ (.int _ _))
 | Not =>
  refine z0e (Option.map_eq_some_iff.mp e) fun b e2 zq9n2=>?_;obtain rfl:=zq9n2
  exact not_value (zgi e2 x (PR.of_ok h i₁ (.bool _)))
 | _=>exact nn e
theorem zjz {t a b:Expr} {pos:Pos} (St:ST gd fr t) (Sa:SE gd fr a) (Sb:SE gd fr b):SE gd fr (.IfExp t a b pos):=by
 intro A env I ℓ σ R s Q E C i L h
 refine wpAny_IfExp (St.then C i L h fun c σ₁ R₁ s₁ t₁ i₁ L₁ h=>?_)
 induction c with
 | true=>exact Sa A env I ℓ σ₁ R₁ s₁ Q E C i₁ L₁ h
 | false=>exact Sb A env I ℓ σ₁ R₁ s₁ Q E C i₁ L₁ h
theorem zrt {x:Expr} {pos:Pos} (Sx:ST gd fr x):ST gd fr (.UnaryOp .Not x pos):=by
 intro A env I ℓ σ R s Q E C i L h
 exact wpAny_isTrue_Not (Sx.then C i L h fun c σ₁ R₁ s₁ t₁ i₁ L₁ h=>PR.of_ok h i₁ rfl)
theorem zgj {op:BoolOp} {es:List Expr} {pos:Pos} (S:SA gd fr op es):ST gd fr (.BoolOp op es pos):=by
 intro A env I ℓ σ R s Q E C i L h
 exact wpAny_isTrue_BoolOp (S A env I ℓ σ R s Q E C i L h)
theorem z6r {e:Expr} (hf:∀ env whole,isTrue e env whole = (do let v ← whole;standAt e.pos;holding [v] (truthy v))) (ht:∀ I ℓ whole σ,z20 e I ℓ whole σ = (whole σ).bind fun a σ=>Res.of σ (tru a)) (S:SE gd fr e):ST gd fr e:=by
 intro A env I ℓ σ R s Q E C i L h
 rw [ht] at h
 rw [hf]
 refine wpAny_bind (S.then C i L h fun a u σ₁ R₁ s₁ t₁ i₁ L₁ x h=>wpAny_bind (wpAny_standAt (wpAny_holding ?_)))
 refine z0e (PR.of_of h) fun b e h=>?_
 exact zgi e x (PR.of_ok h i₁ rfl)
theorem znp (x:Str) (pos:Pos):ST gd fr (.Name x pos):=z6r (fun uu uu=>rfl) (fun uu uu uu uu=>rfl) (zc4 x pos)
theorem zk0 (c:Const) (k:Nat) (pos:Pos):ST gd fr (.Constant c k pos):=z6r (fun uu uu=>rfl) (fun uu uu uu uu=>rfl) (z9g c k pos)
theorem znq {f:Expr} {args:List Expr} {kw:List Keyword} {pos:Pos} (S:SE gd fr (.Call f args kw pos)):ST gd fr (.Call f args kw pos):=z6r (fun uu uu=>rfl) (fun uu uu uu uu=>rfl) S
theorem znr {o:Expr} {x:Str} {pos:Pos} (S:SE gd fr (.Attribute o x pos)):ST gd fr (.Attribute o x pos):=z6r (fun uu uu=>rfl) (fun uu uu uu uu=>rfl) S
theorem zru (op:BoolOp):SA gd fr op []:=by
 intro A env I ℓ σ R s Q E C i L h
 cases op
 ·exact wpAny_allTrue_And_nil (PR.of_ok h i rfl)
 ·exact wpAny_allTrue_Or_nil (PR.of_ok h i rfl)
theorem zns {op:BoolOp} {e:Expr} {es:List Expr} (Se:ST gd fr e) (Ss:SA gd fr op es):SA gd fr op (e :: es):=by
 intro A env I ℓ σ R s Q E C i L h
 cases op
 ·refine wpAny_allTrue_And_cons (Se.then C i L h fun c σ₁ R₁ s₁ t₁ i₁ L₁ h=>?_)
  induction c with
  | true=>exact Ss A env I ℓ σ₁ R₁ s₁ Q E C i₁ L₁ h
  | false=>exact PR.of_ok h i₁ rfl
 ·refine wpAny_allTrue_Or_cons (Se.then C i L h fun c σ₁ R₁ s₁ t₁ i₁ L₁ h=>?_)
  induction c with
  | true=>exact PR.of_ok h i₁ rfl
  | false=>exact Ss A env I ℓ σ₁ R₁ s₁ Q E C i₁ L₁ h
theorem zrv {op:BoolOp} {e:Expr} (Se:SE gd fr e):SO gd fr op [e]:=by
 intro A env I ℓ σ R s pos Q E C i L h
 exact Se A env I ℓ σ R s Q E C i L h
set_option backward.match.sparseCases true in
theorem znt {op:BoolOp} {e e':Expr} {es:List Expr} (Se:SE gd fr e) (Ss:SO gd fr op (e' :: es)):SO gd fr op (e :: e' :: es):=by
 intro A env I ℓ σ R s pos Q E C i L h
 show wpAny _ _ (do
  let v ← eval e env
  standAt pos
  let t ← holding [v] (truthy v)
  match op,t with
  | .And,false | .Or,true=>pure v
  | _,_=>boolOp pos op (evalEach (e' :: es) env)) Q E s
 refine wpAny_bind (Se.then C i L h fun a u σ₁ R₁ s₁ t₁ i₁ L₁ x h=>wpAny_bind (wpAny_standAt (wpAny_bind (wpAny_holding ?_))))
 refine z0e (PR.of_bind h) fun b e1 h=>?_
 refine zgi e1 x ?_
 cases op <;> cases b
 ·exact wpAny_pure (PR.of_ok h i₁ x)
 ·exact Ss A env I ℓ σ₁ R₁ s₁ pos Q E C i₁ L₁ h
 ·exact Ss A env I ℓ σ₁ R₁ s₁ pos Q E C i₁ L₁ h
 ·exact wpAny_pure (PR.of_ok h i₁ x)
theorem zgk {op:BoolOp} {es:List Expr} {pos:Pos} (S:SO gd fr op es):SE gd fr (.BoolOp op es pos):=by
 intro A env I ℓ σ R s Q E C i L h
 exact S A env I ℓ σ R s pos Q E C i L h
theorem zml:SL gd fr []:=by
 intro A env I ℓ σ R s pos Q E C i L h
 exact wpAny_items_nil (PR.of_ok h i .nil)
theorem zf0 {e:Expr} {rest:List Expr} {pos:Pos} {Q:List Value→Shared→Prop} (hn:∀ e' p,e ≠ .Starred e' p)
  (h:wpAny gd.m A (eval e env) (fun v s₁=>wpAny gd.m A (spliced (backTo pos (starEach rest env))) (fun vs s₂=>Q (v :: vs) s₂) E s₁) E s):wpAny gd.m A (spliced (backTo pos (starEach (e :: rest) env))) Q E s:=by
 cases e <;> first | exact absurd rfl (hn _ _) | exact wpAny_items_cons h
theorem zgl {e:Expr} {es:List Expr} (Se:SE gd fr e) (Ss:SL gd fr es):SL gd fr (e :: es):=by
 intro A env I ℓ σ R s pos Q E C i L h
 refine zf0 (fun e' p q=>?_) (Se.then C i L h fun a u σ₁ R₁ s₁ t₁ i₁ L₁ x h=>?_)
 ·subst q;exact h.elim
 ·exact Ss.then C i₁ L₁ h fun as vs σ₂ R₂ s₂ t₂ i₂ L₂ y h=>PR.of_ok h i₂ (.cons (x.aft i₁ t₂) y)
end
end
section
open PySem PySem.W PySem.Calls PyProof.Rows PySem.SeqAt
section
variable {gd:Gd} {fr:List Env} {A:Around} {env:Env} {I:z1q} {ℓ:Loc} {σ σ':AS} {R R':List Addr} {s s':Shared} {Q E:Value→Shared→Prop}
theorem z2o (h:Heap):h.get? h.objs.size = none:=Heap.get?_none_of_le (Nat.le_refl _)
theorem z79 {α:Type} {R:List α} {σ:AS} {a:α} (e:R.length = σ.length):(R++[a])[σ.length]? = some a:=by
 rw [← e,List.getElem?_append_right (Nat.le_refl _),Nat.sub_self];rfl
theorem zf1 {as:List AV} {vs:List Value} (i:Iv gd fr R σ s.heap) (x:VRels R s.heap as vs) (h:PR gd fr RV Q E R s (zjo σ as)):wpAny gd.m A (newList vs) Q E s:=by
 refine oAA (PR.of_if h) fun hl h=>?_
 obtain hlen:vs.length < 100000:=by rw [← x.length];exact hl
 refine wpAny_newObj_type ?_ (by show vs.toArray.size≤sizeLine;rw [List.size_toArray,sizeLine_eq];lia)
 obtain u:=Up.push s.heap { cls:=.type "list",data:=.seq vs.toArray }
 obtain e1:=Ext.alloc (R:=R) u (z2o s.heap)
 exact h _ _ _ s.toks e1 (i.alloc u (z2o _) (.list (n:=0) (ws:=vs.toArray) (Heap.get?_push_size _ rfl) (x.ext i e1))) (.ref (z79 i.len))
theorem zc5 {as:List AV} {vs:List Value} (i:Iv gd fr R σ s.heap) (x:VRels R s.heap as vs) (hl:as.length < 100000) (h:∀ v h',Up s.heap h'→Iv gd fr R σ h'→VRel R h' (.tup as) v→Q v { s with heap:=h' }):wpAny gd.m A (newTuple vs) Q E s:=by
 obtain hlen:vs.length < 100000:=by rw [← x.length];exact hl
 refine wpAny_newObj_type ?_ (by show vs.toArray.size≤sizeLine;rw [List.size_toArray,sizeLine_eq];lia)
 obtain u:=Up.push s.heap { cls:=.type "tuple",data:=.seq vs.toArray }
 exact h _ _ u (i.up u) (.tup (n:=0) (ws:=vs.toArray) (Heap.get?_push_size _ rfl) rfl rfl (x.ext i (Ext.up u)))
theorem znu {es:List Expr} {pos:Pos} (S:SL gd fr es):SE gd fr (.List es pos):=by
 intro A env I ℓ σ R s Q E C i L h
 exact List_ (S.then C i L h fun as vs σ₁ R₁ s₁ t₁ i₁ L₁ x h=>zf1 i₁ x h)
theorem zk1 {es:List Expr} {k:Nat} {pos:Pos} (S:SL gd fr es):SE gd fr (.Tuple es k pos):=by
 intro A env I ℓ σ R s Q E C i L h
 refine Tuple_ (S.then C i L h fun as vs σ₁ R₁ s₁ t₁ i₁ L₁ x h=>?_)
 refine oAA (PR.of_if h) fun hl h=>?_
 exact zc5 i₁ x hl fun v h' u i' q=>h v R₁ h' s₁.toks (Ext.up u) i' q
theorem zc6 {o:Expr} {attr:Str} {whole:Sem Value} (hs:env.kindOf (Str.ofString "super") ≠ some .globalImplicit) (h:wpAny gd.m A whole Q E s):wpAny gd.m A (attributeBase o attr env whole) Q E s:=by
 obtain main:∀ id p pos,wpAny gd.m A (attributeBase (.Call (.Name id p) [] [] pos) attr env whole) Q E s:=fun id p pos=>by
  have hq:(env.kindOf (Str.ofString "super") != some .globalImplicit) = true:=by
   rw [bne_iff_ne];exact hs
  have hq':((id != Str.ofString "super" || attr == Str.ofString "__class__" || env.kindOf (Str.ofString "super") != some .globalImplicit || env.kindOf (Str.ofString "__class__") != some .free)) = true:=by
   rw [hq,Bool.or_true,Bool.true_or]
  show wpAny gd.m A (if _ = true then _ else _) Q E s
  rw [if_pos hq']
  exact h
 cases o with
 | Call f as kw pos =>
  cases f with
  | Name id p =>
   induction as with
   | nil =>
    induction kw with
    | nil=>exact main id p pos
    | cons _ _=>exact h
   | cons _ _=>exact h
  | _=>exact h
 | _=>exact h
structure InstR (R:List Addr) (h:Heap) (n:InA) (b dx:Addr) (m:Str→Option Value) (od:Obj):Prop where
 rd:R[n.d]? = some dx
 get:h.get? b = some (instObj n.C dx)
 gd:h.get? dx = some od
 cls:od.cls = .type "dict"
 dict:od.dict = none
 size:∃ es ep,od.data = .dict es ep∧es.size≤n.fs.length
 ns:h.Ns dx m
 fld:∀ x,match look n.fs x with
   | some v=>z2y x = true∧∃ v',m x = some v'∧VRel R h v v'
   | none=>m x = none
theorem InstR.at {h:Heap} {n:InA} {b dx:Addr} {m:Str→Option Value} {od:Obj} (r:InstR R h n b dx m od):InstAt h b (instObj n.C dx) n.C (some od):=⟨r.get,rfl,rfl,r.gd⟩
set_option tactic.hygienic true in
theorem z7a {j:Nat} {n:InA} (e:z3x σ j = some n):σ[j]? = some (.inst n.C n.d)∧σ[n.d]? = some (.ns n.fs):=by
 unfold z3x at e
 cases q:σ[j]? with
 | none=>rw [q] at e;exact nn e
 | some o =>
  rw [q] at e
  cases o <;> first | (exact nn e;done) | skip
  refine z0e (Option.map_eq_some_iff.mp e) fun fs e2 zq2n2=>?_;obtain rfl:=zq2n2
  refine ⟨rfl,?_⟩
  rename_i d
  show σ[d]? = _
  cases q2:σ[d]? with
  | none=>rw [q2] at e2;exact nn e2
  | some o=>rw [q2] at e2;cases o <;> cases e2;rfl
theorem z9k {h:Heap} (i:Iv gd fr R σ h) {j:Nat} {n:InA} {b:Addr} (e:z3x σ j = some n) (r:R[j]? = some b):∃ dx m od,InstR R h n b dx m od:=by
 refine oAA (z7a e) fun e1 e2=>?_
 cases i.obj j _ b e1 r with
 | inst r2 g =>
  cases i.obj n.d _ _ e2 r2 with
  | ns eo c q z n r=>exact ⟨_,_,_,r2,g,eo,c,q,z,n,r⟩
theorem z7b {h:Heap} {a:Addr} {m:Str→Option Value} {od:Obj} (n:h.Ns a m) (e:h.get? a = some od) (x:Str):lookIn x od = some (m x):=by
 refine z1j n fun o es ep ho hd hk hm=>?_
 rw [e] at ho;obtain rfl:=Option.some.inj ho
 unfold lookIn
 rw [hd]
 dsimp only
 have:=hm x
 unfold nsFind findBy at this
 rw [← this,← Array.find?_toList]
 cases q:es.toList.find? (fun e=>e.key.isStr x) with
 | some en=>rfl
 | none =>
  rw [if_neg]
  ·rfl
  ·simp only [List.any_eq_true,not_exists,not_and]
   intro en hen
   refine z58 (hk en (by simpa using hen)) fun n t hn=>?_
   simp [DictEntry.refKey,hn]
theorem z5a {C:Addr} {cd:ClassData} {od:Obj} {x:Str} {v:Value} (h1:clsIn gd.K C = some cd) (h2:cd.hasDict = true) (h3:findIn gd.K (.ref C) x = some none) (h4:lookIn x od = some (some v)):findObj gd.K C (some od) x = some (.value v):=by
 refine (?_:(clsIn gd.K C).bind _ = _)
 rw [h1]
 rw [h3]
 refine (?_:(W.ownOf cd (some od) x).bind _ = _)
 rw [show W.ownOf cd (some od) x = some (some v) from (if_pos h2).trans h4];rfl
theorem zc7 {α:Type} {o:Option α} {p:α→Bool} {a:α} (e:o.filter p = some a):o = some a∧p a = true:=by
 induction o with
 | none=>exact nn e
 | some b=>simp only [Option.filter] at e;split at e <;> cases e;exact ⟨rfl,by assumption⟩
theorem zgm {h:Heap} {a:AV} {u:Value} (x:VRel R h a u) (n:z8m a = true):handedIn u = true:=by
 cases x <;> first | rfl | exact nf n
theorem z8p (C:Cx gd fr A env I) (i:Iv gd fr R σ s.heap) {o a:AV} {x:Str} {v:Value} {ex:Bool} (e:zae I σ o x = some a) (q:VRel R s.heap o v) (h:∀ u,VRel R s.heap a u→Q u { s with toks:=s.toks + 1 }):wpAny gd.m A (getAttr v x ex) Q E s:=by
 refine z0e (Option.bind_eq_some_iff.mp e) fun j e1 e=>?_
 refine z0e (Option.bind_eq_some_iff.mp e) fun n e2 e=>?_
 refine oAA (z0x e) fun hc e=>?_
 obtain e:=zc7 e
 obtain hc:=Bool.and_eq_true_iff.mp hc
 refine z0e (z3l e1 q) fun b zq9n1 r=>?_;obtain rfl:=zq9n1
 refine oEEEA (z9k i e2 r) fun dx m od J=>?_
 obtain F:=J.fld x
 rw [e.1] at F
 refine z0e F.2 fun u hu hv=>?_
 refine oEA (C.cls n.C hc.1) fun ini hini=>?_
 obtain CO:=C.top.cls n.C ini hini
 refine oEA CO.dict fun cd hcd=>?_
 exact get_value (C.top.kin.keeps i.stays) J.at CO.hga (z5a hcd.1 hcd.2 (CO.attr x hc.2) ((z7b J.ns J.gd x).trans (congrArg some hu))) (zgm hv e.2) (h u hv)
theorem znv {o:Expr} {x:Str} {pos:Pos} (So:SE gd fr o):SE gd fr (.Attribute o x pos):=by
 intro A env I ℓ σ R s Q E C i L h
 rw [arm_eval_Attribute]
 refine wpAny_bind (zc6 C.super (So.then C i L h fun a u σ₁ R₁ s₁ t₁ i₁ L₁ q h=>wpAny_bind (wpAny_standAt (wpAny_bind (wpAny_holding ?_)))))
 refine z0e (PR.of_of h) fun b e h=>?_
 exact z8p C i₁ e q fun y hy=>wpAny_bind (wpAny_letTemporaryGo (wpAny_pure (PR.ok_tok h i₁ hy)))
end
end
section
open PySem PySem.W PySem.Calls PyProof.Rows PySem.SeqAt
theorem z7c {M:Model} {A:Around} {E:Value→Shared→Prop} {s:Shared} {a:Addr} {o:Obj} {es:Array DictEntry} {ep:Nat} {m:Str→Option Value} {name:Str} {v:Value} {Q:Unit→Shared→Prop}
  (ho:s.heap.get? a = some o) (hd:o.data = .dict es ep) (hk:StrKeys es) (hm:∀ n,nsFind es n = m n)
  (hQ:∀ h' o' es' ep',h'.get? a = some o'→o'.cls = o.cls→o'.dict = o.dict→o'.data = .dict es' ep'→es'.size = (if (m name).isSome then es.size else es.size + 1)→h'.Ns a (fun x=>if x = name then some v else m x)→Heap.SameBut a s.heap h'→Q () { s with heap:=h',toks:=s.toks + 1 }) :
  wpAny M A (nsSet a name v) Q E s:=fun Γ p uu=>by
 simp only [nsSet,strHash,Sem.wp_bind',Sem.wp_cmd_ask,Sem.wp_pure',Sem.wp_cmd_mkText]
 rw [Sem.wp_loadPart_of M Γ _ p { s with toks:=s.toks + 1 } (o:=o) _ ho]
 have hany:es.any (·.refKey) = false:=by
  rw [Array.any_eq_false'];intro e he;refine z58 (hk e he) fun n t h=>?_;simp [DictEntry.refKey,h]
 simp only [hd,aRefKeyMayBeTheName_eq,aRefKeyMayBeTheNameByArray,hany,Bool.and_false,Bool.false_eq_true,if_false,Sem.wp_cmd_updatePart]
 refine ⟨by rw [ho];rfl,?_⟩
 obtain ⟨c,d,dt,sl⟩:=o
 dsimp only at hd
 subst hd
 obtain hfm:=hm name
 unfold nsFind at hfm
 rw [findBy_of_findIdx?] at hfm
 cases hi:es.findIdx? (·.key.isStr name) with
 | some i =>
  rw [hi] at hfm
  obtain hlt:i < es.size:=(Array.findIdx?_eq_some_iff_getElem.mp hi).1
  obtain hs:(m name).isSome = true:=by rw [← hfm];simp [hlt]
  obtain g:=Heap.get?_update_self (Obj.putName name (if name.cps.isEmpty = true then 0 else reduceHash (M.w.params.strHash name.cps)) (Value.str name s.toks) v) ho (by simp only [Obj.putName_eq,Obj.putNameByArray,hi];rfl)
  refine hQ _ _ (es.modify i fun e=>{ e with val:=v }) ep g (by simp only [Obj.putName_eq,Obj.putNameByArray,hi]) (by simp only [Obj.putName_eq,Obj.putNameByArray,hi]) (by simp only [Obj.putName_eq,Obj.putNameByArray,hi]) (by rw [if_pos hs,Array.size_modify]) ⟨_,_,ep,g,by simp only [Obj.putName_eq,Obj.putNameByArray,hi];rfl,hk.modify _ _,fun x=>?_⟩ (Heap.SameBut.update ..)
  refine (?_:_ = if x = name then some v else m x)
  rw [← hm];exact findBy_modify (fun n v=>v.isStr n) Value.isStr_inj es name x v i hi
 | none =>
  rw [hi] at hfm
  obtain hs:¬ (m name).isSome = true:=by rw [← hfm];simp
  obtain g:=Heap.get?_update_self (Obj.putName name (if name.cps.isEmpty = true then 0 else reduceHash (M.w.params.strHash name.cps)) (Value.str name s.toks) v) ho (by simp only [Obj.putName_eq,Obj.putNameByArray,hi];rfl)
  refine hQ _ _ (es.push ⟨_,.str name s.toks,v⟩) (ep + 1) g (by simp only [Obj.putName_eq,Obj.putNameByArray,hi]) (by simp only [Obj.putName_eq,Obj.putNameByArray,hi]) (by simp only [Obj.putName_eq,Obj.putNameByArray,hi];rfl) (by rw [if_neg hs,Array.size_push]) ⟨_,_,ep + 1,g,by simp only [Obj.putName_eq,Obj.putNameByArray,hi];rfl,hk.push _ _ _ _,fun x=>?_⟩ (Heap.SameBut.update ..)
  refine (?_:_ = if x = name then some v else m x)
  rw [← hm]
  exact findBy_push (fun n v=>v.isStr n) es name x _ _ v (fun y=>by
   refine (?_:(name == y) = decide (y = name))
   by_cases h:y = name
   ·cases h;rfl
   ·have:¬ name = y:=fun e=>h e.symm
    simp [h,this]) hi
theorem z1w {κ α:Type} [DecidableEq κ] (x:κ) (v:α) (y:κ):∀ l:List (κ×α),look (z1e l x v) y = if y = x then some v else look l y
 | []=>by
  refine (?_:(if x = y then some v else none) = _)
  by_cases h:x = y
  ·rw [if_pos h,if_pos h.symm]
  ·rw [if_neg h,if_neg fun e=>h e.symm];rfl
 | (z,u) :: r=>by
  rw [z9e]
  by_cases hz:z = x
  ·subst hz
   rw [if_pos rfl]
   refine (?_:(if z = y then some v else look r y) = _)
   by_cases h:z = y
   ·rw [if_pos h,if_pos h.symm]
   ·rw [if_neg h,if_neg fun e=>h e.symm]
    refine (?_:_ = (if z = y then some u else look r y))
    rw [if_neg h]
  ·rw [if_neg hz]
   refine (?_:(if z = y then some u else look (z1e r x v) y) = _)
   rw [z1w x v y r]
   by_cases h:z = y
   ·subst h
    rw [if_pos rfl,if_neg hz]
    refine (?_:_ = (if z = z then some u else look r z))
    rw [if_pos rfl]
   ·refine (if_neg h).trans ?_
    refine (?_:_ = (if y = x then some v else (if z = y then some u else look r y)))
    rw [if_neg h]
theorem z7d {κ α:Type} [DecidableEq κ] (x:κ) (v:α):∀ l:List (κ×α),(z1e l x v).length = if (look l x).isSome then l.length else l.length + 1
 | []=>rfl
 | (z,u) :: r=>by
  rw [z9e,zc0]
  by_cases hz:z = x
  ·rw [if_pos hz,if_pos hz];rfl
  ·rw [if_neg hz,if_neg hz,List.length_cons,z7d x v r,List.length_cons]
   by_cases h:(look r x).isSome = true
   ·rw [if_pos h,if_pos h]
   ·rw [if_neg h,if_neg h]
section
variable {gd:Gd} {fr:List Env} {A:Around} {env:Env} {I:z1q} {ℓ:Loc} {σ σ':AS} {R R':List Addr} {s s':Shared} {E:Value→Shared→Prop}
theorem InstR.put {h':Heap} {n:InA} {b dx:Addr} {m:Str→Option Value} {od o₂:Obj} {es es':Array DictEntry} {ep ep':Nat} {x:Str} {a:AV} {u:Value} (J:InstR R s.heap n b dx m od) (hd:od.data = .dict es ep) (hx:z2y x = true) (y:VRel R s.heap a u)
  (g2:h'.get? dx = some o₂) (k1:o₂.cls = od.cls) (k2:o₂.dict = od.dict) (k3:o₂.data = .dict es' ep') (k4:es'.size = (if (m x).isSome then es.size else es.size + 1)) (n':h'.Ns dx (fun z=>if z = x then some u else m z)) (hs:Heap.SameBut dx s.heap h'):ORel gd R h' dx (.ns (z1e n.fs x a)):=by
 have tups:∀ b o,s.heap.get? b = some o→(o.cls = .type "tuple"∨o.cls = .type "range")→h'.get? b = some o:=fun b q eb c=>(hs.2 b fun z=>by subst z;rw [J.gd] at eb;obtain rfl:=Option.some.inj eb;rw [J.cls] at c;simp at c).trans eb
 refine .ns g2 (k1.trans J.cls) (k2.trans J.dict) ⟨es',ep',k3,?_⟩ n' fun z=>?_
 ·refine z27 J.size fun es₂ ep₂ hd₂ hz₂=>?_
  rw [hd] at hd₂;cases hd₂
  rw [k4,z7d]
  obtain hx:=J.fld x
  cases q:look n.fs x with
  | none=>rw [q] at hx;dsimp only at hx;exact hx ▸ Nat.succ_le_succ hz₂
  | some w=>rw [q] at hx;refine z0e hx.2 fun v' a1 uu=>?_;exact a1 ▸ hz₂
 ·rw [z1w]
  by_cases hz:z = x
  ·rw [if_pos hz,if_pos hz]
   exact ⟨hz ▸ hx,u,rfl,y.keep (List.prefix_refl R) tups⟩
  ·rw [if_neg hz,if_neg hz]
   obtain hz:=J.fld z
   cases q:look n.fs z with
   | none=>rw [q] at hz;exact hz
   | some w=>rw [q] at hz;refine z0e hz.2 fun v' a1 a2=>?_;exact ⟨hz.1,v',a1,a2.keep (List.prefix_refl R) tups⟩
theorem z8q (C:Cx gd fr A env I) (i:Iv gd fr R σ s.heap) {o a:AV} {x:Str} {v u:Value} {Q:Unit→Shared→Prop} (e:z35 I σ o x a = some σ') (q:VRel R s.heap o v) (y:VRel R s.heap a u)
  (h:∀ h' tk,Iv gd fr R σ' h'→Ext R s.heap R h'→Q () { s with heap:=h',toks:=tk }):wpAny gd.m A (setAttr v x u) Q E s:=by
 revert gd fr A env I σ σ' R s E o a x v u Q;refine no_implicit_lambda% (z76 (z06 nGd (z06 inferInstance (z06 z28 (z06 inferInstance (z06 zgf (z06 inferInstance inferInstance)))))) ?_);generalize (e7 _ _).1 = gd;generalize (e7 _ _).2.1 = fr;generalize (e7 _ _).2.2.1 = A;generalize (e7 _ _).2.2.2.1 = env;generalize (e7 _ _).2.2.2.2.1 = I;generalize (e7 _ _).2.2.2.2.2.1 = σ;generalize (e7 _ _).2.2.2.2.2.2 = σ';refine no_implicit_lambda% (z36 (z06 inferInstance (z06 z1v inferInstance)) ?_);generalize (e3 _ _).1 = R;generalize (e3 _ _).2.1 = s;generalize (e3 _ _).2.2 = E;unhygienic intros;revert o a x v u Q;refine no_implicit_lambda% (z36 (z06 inferInstance (z06 inferInstance inferInstance)) ?_);generalize (e3 _ _).1 = o;generalize (e3 _ _).2.1 = a;generalize (e3 _ _).2.2 = x;refine no_implicit_lambda% (z36 (z06 inferInstance (z06 inferInstance inferInstance)) ?_);generalize (e3 _ _).1 = v;generalize (e3 _ _).2.1 = u;generalize (e3 _ _).2.2 = Q;unhygienic intros
 refine z0e (Option.bind_eq_some_iff.mp e) fun j e1 e=>?_
 refine z0e (Option.bind_eq_some_iff.mp e) fun n e2 e=>?_
 refine oAA (z0x e) fun hc e=>?_
 obtain rfl:=Option.some.inj e
 obtain hc:=Bool.and_eq_true_iff.mp hc
 obtain hc2:=Bool.and_eq_true_iff.mp hc.2
 refine z0e (z3l e1 q) fun b zq8n1 r=>?_;obtain rfl:=zq8n1
 refine oEEEA (z9k i e2 r) fun dx m od J=>?_
 refine oEA (C.cls n.C hc.1) fun ini hini=>?_
 obtain CO:=C.top.cls n.C ini hini
 refine oEA CO.dict fun cd hcd=>?_
 obtain X:gd.K.In s.heap:=C.top.kin.keeps i.stays
 obtain LC:=looks_clsIn (M:=gd.m) X hcd.1
 refine set_plain X J.at CO.set ?_
 refine osa_open (s:={ s with toks:=s.toks + 1 }) X J.at CO.plain (show takerIn gd.K n.C x = some none by unfold takerIn;rw [CO.attr x hc2.1];rfl) fun bb=>?_
 dsimp only
 refine z1j (id J.ns) fun o' es ep ho' hd hk hm=>?_
 obtain ho'':o' = od:=by rw [J.gd] at ho';exact (Option.some.inj ho').symm
 subst ho''
 refine wpAny_bind (wpAny_pure (wpAny_bind (wpAny_bind (wpAny_loadPart (s:={ s with toks:=s.toks + 1 }) J.get (wpAny_bind (LC _ _ _ _ (fun uu uu e=>e) ?_))))))
 rw [hcd.2]
 refine wpAny_pure (a:=some dx) (wpAny_bind (wpAny_pure (wpAny_bind ?_)))
 refine z7c (s:={ s with toks:=s.toks + 1 }) J.gd hd hk hm fun h' o₂ es' ep' g2 k1 k2 k3 k4 n' hs=>?_
 have hz:es'.size≤sizeLine + 1:=by
  rw [k4,sizeLine_eq]
  refine z27 J.size fun es₂ ep₂ hd₂ hz₂=>?_
  rw [hd] at hd₂;cases hd₂
  have:=of_decide_eq_true hc2.2
  split <;> lia
 obtain w1:=i.write (z7a e2).2 J.rd hs (J.put hd hc2.1 y g2 k1 k2 k3 k4 n' hs)
 exact wpAny_bind (wpAny_lookBehind (s:={ s with heap:=h',toks:=s.toks + 1 + 1 }) g2 (k3 ▸ pastItsLine_dict hz) (wpAny_pure (h h' _ w1.1 w1.2)))
end
end
section
open PySem PySem.W PySem.Calls PyProof.Rows PySem.SeqAt
section
variable {κ:Type} [DecidableEq κ] {R:List Addr} {h:Heap}
theorem VPairs.cons_inv {x:κ} {a:AV} {kvs:List (κ×AV)} {kws:List (κ×Value)} (p:VPairs R h ((x,a) :: kvs) kws):∃ v r,kws = (x,v) :: r∧VRel R h a v∧VPairs R h kvs r:=by
 obtain ⟨e,q⟩:=p
 induction kws with
 | nil=>cases e
 | cons y r =>
  obtain ⟨y,v⟩:=y
  simp only [List.map_cons,List.cons.injEq] at e
  obtain ⟨rfl,e⟩:=e
  cases q with
  | cons q1 q2=>exact ⟨v,r,rfl,q1,e,q2⟩
theorem VPairs.nil_inv {kws:List (κ×Value)} (p:VPairs R h ([]:List (κ×AV)) kws):kws = []:=by
 obtain ⟨e,q⟩:=p
 induction kws with
 | nil=>rfl
 | cons y r=>cases e
theorem VPairs.cons' {x:κ} {a:AV} {v:Value} {kvs:List (κ×AV)} {kws:List (κ×Value)} (q:VRel R h a v) (p:VPairs R h kvs kws):VPairs R h ((x,a) :: kvs) ((x,v) :: kws) :=
 ⟨by rw [List.map_cons,List.map_cons,p.1],.cons q p.2⟩
theorem VPairs.length {kvs:List (κ×AV)} {kws:List (κ×Value)} (p:VPairs R h kvs kws):kvs.length = kws.length:=by
 have:=congrArg List.length p.1
 simpa using this
theorem VPairs.look {kvs:List (κ×AV)} {kws:List (κ×Value)} (p:VPairs R h kvs kws) (k:κ):match look kvs k with
  | some a=>∃ v,valueAt kws k = some v∧VRel R h a v
  | none=>valueAt kws k = none:=by
 induction kvs generalizing kws with
 | nil=>rw [p.nil_inv];rfl
 | cons x kvs ih =>
  obtain ⟨x,a⟩:=x
  refine z1c p.cons_inv fun v r zq5n2 q p'=>?_;obtain rfl:=zq5n2
  have:=ih p'
  rw [zc0];unfold valueAt
  rw [List.find?_cons]
  by_cases hx:x = k
  ·subst hx
   simp only [if_true,decide_true,Option.map_some]
   exact ⟨v,rfl,q⟩
  ·rw [if_neg hx]
   simp only [decide_eq_false hx]
   exact this
theorem z8c {x k:κ} (hx:x ≠ k) (u v:Value) (r:List (κ×Value)):stored ((x,u) :: r) k v = (x,u) :: stored r k v:=by
 unfold stored
 simp only [List.any_cons,decide_eq_false hx,Bool.false_or,List.map_cons,if_neg hx,List.cons_append]
 split <;> rfl
theorem z8d {x:κ} (u v:Value) (r:List (κ×Value)) (hn:x ∉ r.map (·.1)):stored ((x,u) :: r) x v = (x,v) :: r:=by
 unfold stored
 simp only [List.any_cons,decide_true,Bool.true_or,if_true,List.map_cons]
 rw [map_store_of_not_mem r x v hn]
theorem VPairs.store {kvs:List (κ×AV)} {kws:List (κ×Value)} (p:VPairs R h kvs kws) (hn:(kws.map (·.1)).Nodup) {k:κ} {a:AV} {v:Value} (q:VRel R h a v):VPairs R h (z1e kvs k a) (stored kws k v):=by
 induction kvs generalizing kws with
 | nil=>rw [p.nil_inv];exact VPairs.cons' q ⟨rfl,.nil⟩
 | cons x kvs ih =>
  obtain ⟨x,b⟩:=x
  refine z1c p.cons_inv fun u r zq7n2 q' p'=>?_;obtain rfl:=zq7n2
  simp only [List.map_cons,List.nodup_cons] at hn
  rw [z9e]
  by_cases hx:x = k
  ·subst hx
   rw [if_pos rfl,z8d u v r hn.1]
   exact VPairs.cons' q p'
  ·rw [if_neg hx,z8c hx]
   exact VPairs.cons' q' (ih p' hn.2)
theorem VPairs.keep {R':List Addr} {h':Heap} {kvs:List (κ×AV)} {kws:List (κ×Value)} (p:VPairs R h kvs kws) (pr:R <+: R') (k:∀ b o,h.get? b = some o→(o.cls = .type "tuple"∨o.cls = .type "range")→h'.get? b = some o):VPairs R' h' kvs kws :=
 ⟨p.1,p.2.keep pr k⟩
end
section
variable {gd:Gd} {fr:List Env} {A:Around} {env:Env} {I:z1q} {ℓ:Loc} {σ σ':AS} {R R':List Addr} {s s':Shared} {Q E:Value→Shared→Prop}
theorem zdc {xs:List AV} {i:Int} {a:AV} (e:atI xs i = some a):∃ j:Nat,xs[j]? = some a∧j < xs.length∧((0≤i∧i = j)∨(i < 0∧i + xs.length = j)):=by
 unfold atI at e
 by_cases h0:0≤i
 ·rw [if_pos h0] at e
  exact ⟨i.toNat,e,(List.getElem?_eq_some_iff.mp e).1,.inl ⟨h0,(Int.toNat_of_nonneg h0).symm⟩⟩
 ·rw [if_neg h0] at e
  refine oAA (z0x e) fun h1 e=>?_
  exact ⟨_,e,(List.getElem?_eq_some_iff.mp e).1,.inr ⟨Int.not_le.mp h0,(Int.toNat_of_nonneg h1).symm⟩⟩
theorem z6a {a:Addr} {ws:Array Value} {n:Nat} {h:Heap} (e:h.get? a = some (listOf ws n)):h.IsList a ws:=⟨_,e,rfl,n,rfl⟩
theorem z4k {j n:Nat} (h:j < n):seqIndex? (j:Int) n = some j:=by
 obtain e1:¬ ((j:Int) < 0):=by lia
 refine (if_pos (by simp only [Bool.and_eq_true,decide_eq_true_eq];lia)).trans ?_;rfl
theorem zgn {sl value:Expr} (hs:∀ o i,subscripted sl false o i = operate [o,i] (getItem o i)) {vs:List AV} {k:Int} {tk:Tok} {c:AV} {u:Value} (e:(if vs.length < 1000000 then atI vs k else none) = some c) (x:VRel R s.heap (.tup vs) u)
  (h:∀ r tk,VRel R s.heap c r→Q r { s with toks:=tk }):wpAny gd.m A (subscriptTail value sl u (.int k tk)) Q E s:=by
 refine oAA (z0x e) fun hl e=>?_
 refine z1c (zgh x) fun t ws zq10n2 it vr=>?_;obtain rfl:=zq10n2
 refine z1m (zdc e) fun j q hj p=>?_
 refine z0e (vr.get q) fun r q1 q2=>?_
 obtain hw:ws.size = vs.length:=by rw [vr.length];rfl
 refine tail_any it.typeIs slot_tuple_getitem.lookup (PyProof.Rows.getItem_tuple it (by lia) (by lia) (j:=j) ?_ (x:=r) (by rw [← Array.getElem?_toList];exact q1) (h _ s.toks q2)) (hs _ _)
 rw [hw]
 rcases p with p | p
 ·rw [p.2];exact z4k hj
 ·rw [seqIndex_neg p.1 (by lia),p.2];rfl
theorem zgo {sl value:Expr} (hs:∀ o i,subscripted sl false o i = operate [o,i] (getItem o i)) {z:Str} {tz:Tok} {k:Int} {tk:Tok} {c:AV} (e:(if 0≤k∧k < 1000 then (z.cps[k.toNat]?).map fun c=>AV.str ⟨#[c]⟩ else none) = some c)
  (h:∀ r tk,VRel R s.heap c r→Q r { s with toks:=tk }):wpAny gd.m A (subscriptTail value sl (.str z tz) (.int k tk)) Q E s:=by
 refine oAA (z0x e) fun hk e=>?_
 refine z0e (Option.map_eq_some_iff.mp e) fun ch q1 zq14n2=>?_;obtain rfl:=zq14n2
 obtain hl:k.toNat < z.cps.size:=(Array.getElem?_eq_some_iff.mp q1).1
 have hz:z.length = z.cps.size:=rfl
 refine tail_any (typeIs_str s _ _) F.slot_str_getitem.lookup (P.getItem_str (c:=ch) (by simp only [Bool.or_eq_false_iff,decide_eq_false_iff_not];lia) ?_ (h _ _ (.str _ _))) (hs _ _)
 have:seqIndex? k z.length = some k.toNat:=by
  have:=z4k (j:=k.toNat) (n:=z.length) ‹_›
  rwa [Int.toNat_of_nonneg hk.1] at this
 exact this ▸ q1
theorem znw {sl value:Expr} (hs:∀ o i,subscripted sl false o i = operate [o,i] (getItem o i)) (i:Iv gd fr R σ s.heap) {l:Addr} {j:Nat} {k:Int} {tk:Tok} {c:AV} (e:zuj σ[j]? k = some c) (r1:R[j]? = some l)
  (h:∀ r tk,VRel R s.heap c r→Q r { s with toks:=tk }):wpAny gd.m A (subscriptTail value sl (.ref l) (.int k tk)) Q E s:=by
 cases q:σ[j]? with
 | none=>rw [q] at e;exact nn e
 | some o =>
  rw [q] at e
  induction i.obj j o l q r1 with
  | @list xs ws n eo vr =>
   refine oAA (z0x e) fun hl e=>?_
   refine z1m (zdc e) fun j q hj p=>?_
   refine z0e (vr.get q) fun r q1 q2=>?_
   obtain hw:ws.size = xs.length:=by rw [vr.length];rfl
   rw [Array.getElem?_toList] at q1
   obtain il:=z6a eo
   refine tail_any (Heap.IsList.typeIs (s:=s) il) slot_list_getitem.lookup ?_ (hs _ _)
   rcases p with p | p
   ·rw [p.2];exact wpAny_getItem_list il (Int.natCast_nonneg j) (by lia) q1 (h _ s.toks q2)
   ·obtain e':(k + ws.size).toNat = j:=by lia
    exact wpAny_getItem_list_neg il p.1 (by lia) (by lia) (by rw [e'];exact q1) (h _ s.toks q2)
  | @idd kvs kws eo vr nm =>
   have:=vr.look k
   rw [show look kvs k = some c from e] at this
   refine z0e this fun r q1 q2=>?_
   exact tail_any (Heap.DictOf.typeIs eo) slot_dict_getitem.lookup (wpAny_getItem_of (knd:=intKind gd.prog gd.w) (k:=k) (by simp [intKind,Value.isInt]) eo.mapOf q1 (h _ _ q2)) (hs _ _)
  | _=>exact nn e
theorem znx {sl value:Expr} (hs:∀ o i,subscripted sl false o i = operate [o,i] (getItem o i)) (i:Iv gd fr R σ s.heap) {l:Addr} {j:Nat} {k:Str} {tk:Tok} {c:AV} (e:zut σ[j]? k = some c) (r1:R[j]? = some l)
  (h:∀ r tk,VRel R s.heap c r→Q r { s with toks:=tk }):wpAny gd.m A (subscriptTail value sl (.ref l) (.str k tk)) Q E s:=by
 cases q:σ[j]? with
 | none=>rw [q] at e;exact nn e
 | some o =>
  rw [q] at e
  induction i.obj j o l q r1 with
  | @sd kvs kws eo vr nm =>
   have:=vr.look k
   rw [show look kvs k = some c from e] at this
   refine z0e this fun r q1 q2=>?_
   exact tail_any (Heap.DictOf.typeIs eo) slot_dict_getitem.lookup (wpAny_getItem_of (knd:=PySem.strKind gd.prog gd.w) (k:=k) (by simp [PySem.strKind,Value.isStrOf]) eo.mapOf q1 (h _ _ q2)) (hs _ _)
  | _=>exact nn e
theorem zrw {sl value:Expr} (hs:∀ o i,subscripted sl false o i = operate [o,i] (getItem o i)) {a b c:AV} {u v:Value} (i:Iv gd fr R σ s.heap) (e:zjn σ a b = some c) (x:VRel R s.heap a u) (y:VRel R s.heap b v)
  (h:∀ r tk,VRel R s.heap c r→Q r { s with toks:=tk }):wpAny gd.m A (subscriptTail value sl u v) Q E s:=by
 cases a with
 | tup vs =>
  refine z0e (Option.bind_eq_some_iff.mp e) fun k e1 e=>?_
  refine oEA (z3b e1 y) fun t zq21n1=>?_;obtain rfl:=zq21n1
  exact zgn hs e x h
 | str z =>
  refine z0e (Option.bind_eq_some_iff.mp e) fun k e1 e=>?_
  refine oEA (z3b e1 y) fun t zq23n1=>?_;obtain rfl:=zq23n1
  refine oEA (z8o rfl x) fun t' zq24n1=>?_;obtain rfl:=zq24n1
  exact zgo hs e h
 | ref j =>
  refine z0e (z3l rfl x) fun l zq25n1 r=>?_;obtain rfl:=zq25n1
  cases b with
  | int k=>refine oEA (z3b rfl y) fun t zq26n1=>?_;obtain rfl:=zq26n1;exact znw hs i e r h
  | str k=>refine oEA (z8o rfl y) fun t zq27n1=>?_;obtain rfl:=zq27n1;exact znx hs i e r h
  | _=>exact nn e
 | _=>exact nn e
theorem zny {i:Expr} (hi:z45 i = false) (o j:Value):subscripted i false o j = operate [o,j] (getItem o j):=by
 cases i <;> first | rfl | cases hi
theorem zrx {o i:Expr} {pos:Pos} (hi:z45 i = false) (So:SE gd fr o) (Si:SE gd fr i):SE gd fr (.Subscript o i pos):=by
 intro A env I ℓ σ R s Q E C iv L h
 obtain h':=PR.ifn (hi ▸ Bool.false_ne_true) h
 refine Subscript_ (So.then C iv L h' fun a u σ₁ R₁ s₁ t₁ i₁ L₁ x h=>?_)
 refine Si.then C i₁ L₁ h fun b v σ₂ R₂ s₂ t₂ i₂ L₂ y h=>?_
 refine z0e (PR.of_of h) fun c e h=>?_
 exact zrw (zny hi) i₂ e (x.aft i₁ t₂) y fun r tk q=>PR.ok_tok h i₂ q
end
end
section
open PySem PySem.W PySem.Calls PyProof.Rows PySem.SeqAt
section
variable {gd:Gd} {fr:List Env} {A:Around} {env:Env} {I:z1q} {ℓ:Loc} {σ σ':AS} {R R':List Addr} {s s':Shared} {Q E:Value→Shared→Prop}
theorem zmm:∀ {es:List Expr},z2g es = true→(starEach es env).any (·.1) = false:=by
 intro es h
 unfold z2g at h
 replace h:=(Bool.and_eq_true_iff.mp h).1
 induction es with
 | nil=>rfl
 | cons e es ih =>
  refine oAA (Bool.and_eq_true_iff.mp (List.all_cons ▸ h)) fun h1 h2=>?_
  cases e <;> first | exact absurd h1 Bool.false_ne_true | (exact ih h2)
theorem z8r {pos:Pos}:∀ {l:List (Bool×Sem Value)},(backTo pos l).any (·.1) = l.any (·.1):=by
 intro l
 exact List.any_map
theorem z7e:∀ {es:List Expr},(starEach es env).length = es.length
 | []=>rfl
 | e :: es=>by cases e <;> (show (starEach es env).length + 1 = _;rw [z7e];rfl)
theorem zap {M:Model} {f:Value} {args:List (Bool×Sem Value)} {Q:Args→Shared→Prop} (hp:args.any (·.1) = false) (h:wpAny M A (spliced args) (fun vs s'=>Q ⟨vs,[]⟩ s') E s):wpAny M A (evalArgs f true args []) Q E s:=by
 induction args with
 | nil =>
  exact wpAny_bind (wpAny_mono h (fun vs s' h'=>wpAny_bind (wpAny_pure (wpAny_holding (wpAny_bind (wpAny_pure (wpAny_bind (wpAny_pure (wpAny_pure h')))))))) fun uu uu x=>x)
 | cons x rest =>
  obtain ⟨b,x⟩:=x
  induction b with
  | false=>exact evalArgs_plain h
  | true=>cases hp
noncomputable def KV (K:Frag):Value→Prop
 | .ref a=>keepIn K (.ref a) = true
 | .builtin _=>True
 | .type _=>True
 | _=>False
theorem z51 {f:Value} {first:List Value} {pos:Pos} {es:List Expr} (hp:z2g es = true)
  (h:wpAny gd.m A (spliced (backTo pos (starEach es env))) (fun vs s₁=>(KV gd.K f∧gd.K.In s₁.heap)∧wpAny gd.m A (call f (first++vs)) Q E s₁) E s) :
  wpAny gd.m A (callWith pos f first (backTo pos (starEach es env)) []) Q E s:=by
 obtain hn:(backTo pos (starEach es env)).any (·.1) = false:=by refine (z8r).trans ?_;exact zmm hp
 refine callWith_of (P:=fun h=>KV gd.K f∧gd.K.In h) (by rw [hn];rfl) (fun hp X=>?_) (zap hn h)
 obtain ⟨hf,X⟩:=X
 induction f with
 | ref a=>exact keeps_K hf hp X
 | builtin b=>exact ⟨.machine,.inr (.inl rfl),Looks.of_pure rfl⟩
 | type b=>exact ⟨.machine,.inr (.inl rfl),Looks.of_pure rfl⟩
 | _=>exact hf.elim
noncomputable def MKf (k:MK) (m:Str) (f:Value):Prop:=match k with
 | .list=>(m = Str.ofString "append"∧f = .builtin "list.append")∨(m = Str.ofString "pop"∧f = .builtin "list.pop")
 | .dict=>f = .builtin "dict.get"
 | .fn a=>f = .ref a
theorem zry (i:Iv gd fr R σ s.heap) {j:Nat} {a:Addr} {m:Str} {k:MK} {pl:Sem Bool} {Q:Value×List Value→Shared→Prop} (e:mkO m σ[j]? = some k) (r:R[j]? = some a)
  (h:∀ f,KV gd.K f→MKf k m f→Q (f,[.ref a]) s):wpAny gd.m A (getMethod (.ref a) m pl) Q E s:=by
 cases q:σ[j]? with
 | none=>rw [q] at e;exact nn e
 | some o =>
  rw [q] at e
  induction i.obj j o a q r with
  | list eo vr =>
   obtain ⟨hm,e⟩:=z0x e
   obtain rfl:=Option.some.inj e
   obtain tI:=Heap.IsList.typeIs (s:=s) (z6a eo)
   rcases hm with rfl | rfl
   ·exact getMethod_builtin tI F.plainAttrs_list F.slot_list_append F.type_list_append (fun b hb=>by cases hb;exact ⟨_,eo,rfl⟩) (h _ trivial (.inl ⟨rfl,rfl⟩))
   ·exact getMethod_builtin tI F.plainAttrs_list F.slot_list_pop F.type_list_pop (fun b hb=>by cases hb;exact ⟨_,eo,rfl⟩) (h _ trivial (.inr ⟨rfl,rfl⟩))
  | sd eo vr nm =>
   obtain ⟨rfl,e⟩:=z0x e
   cases e
   obtain ⟨ob,es,ep,g,hc,_⟩:=id eo
   exact getMethod_builtin (Heap.DictOf.typeIs (s:=s) eo) F.plainAttrs_dict F.slot_dict_get F.type_dict_get (fun b hb=>by cases hb;exact ⟨_,g,hc.2.1⟩) (h _ trivial rfl)
  | idd eo vr nm =>
   obtain ⟨rfl,e⟩:=z0x e
   cases e
   obtain ⟨ob,es,ep,g,hc,_⟩:=id eo
   exact getMethod_builtin (Heap.DictOf.typeIs (s:=s) eo) F.plainAttrs_dict F.slot_dict_get F.type_dict_get (fun b hb=>by cases hb;exact ⟨_,g,hc.2.1⟩) (h _ trivial rfl)
  | _=>exact nn e
theorem zgp (C:Cx gd fr A env I) (i:Iv gd fr R σ s.heap) {o:AV} {m:Str} {k:MK} {v:Value} {pl:Sem Bool} {Q:Value×List Value→Shared→Prop} (e:zaf I σ o m = some k) (q:VRel R s.heap o v)
  (h:∀ f,KV gd.K f→MKf k m f→Q (f,[v]) s):wpAny gd.m A (getMethod v m pl) Q E s:=by
 refine z0e (Option.bind_eq_some_iff.mp e) fun j e1 e=>?_
 refine z0e (z3l e1 q) fun a zq9n1 r=>?_;obtain rfl:=zq9n1
 cases hO:mkO m σ[j]? with
 | some k'=>rw [hO] at e;obtain rfl:=Option.some.inj e;exact zry i hO r h
 | none =>
  rw [hO] at e
  refine z0e (Option.bind_eq_some_iff.mp e) fun n e2 e=>?_
  refine oAA (z0x e) fun hc e=>?_
  refine z0e (Option.map_eq_some_iff.mp e) fun f h2 zq12n2=>?_;obtain rfl:=zq12n2
  refine oEEEA (z9k i e2 r) fun dx mm od J=>?_
  refine oEA (C.cls n.C hc) fun ini hini=>?_
  obtain CO:=C.top.cls n.C ini hini
  rw [C.meth] at h2
  obtain M:=CO.meth m f h2
  refine method_fn (C.top.kin.keeps i.stays) J.at CO.hga CO.hgt M.2.1 M.2.2.1 ?_ (h _ M.2.2.2 rfl)
  obtain F:=J.fld m
  unfold shadowIn
  dsimp only
  rw [z7b J.ns J.gd m]
  cases z:look n.fs m with
  | none=>rw [z] at F;dsimp only at F;rw [F];rfl
  | some v=>rw [z] at F;obtain F:=F.1;exact nf ((M.1).symm.trans F)
theorem zaq {α:Type}:∀ l:List α,0 < l.length→l.eraseIdx (l.length - 1) = l.dropLast
 | [],h=>by simp at h
 | [a],_=>rfl
 | a :: b :: r,_=>by
  show (a :: b :: r).eraseIdx (r.length + 1) = a :: (b :: r).dropLast
  rw [List.eraseIdx_cons_succ]
  have:=zaq (b :: r) (by simp)
  rw [← this];rfl
theorem zar {n:Nat} (h:n < 1000000):n≤sizeLine:=by rw [sizeLine_eq];lia
theorem z40 {a:Addr} {ws:Array Value} {n:Nat} {h h':Heap} (eo:h.get? a = some (listOf ws n)) (hs:Heap.SameBut a h h'):∀ b o,h.get? b = some o→(o.cls = .type "tuple"∨o.cls = .type "range")→h'.get? b = some o :=
 fun b o eb c=>(hs.2 b fun z=>by subst z;rw [eo] at eb;obtain rfl:=Option.some.inj eb;rcases c with c | c <;> simp at c).trans eb
theorem zdd {a:Addr} {ws:Array Value} {n:Nat} {h:Heap} (eo:h.get? a = some (listOf ws n)) (k:Nat):∃ n',(h.update a (Obj.mapSeq fun xs=>xs.eraseIdxIfInBounds k)).get? a = some (listOf (ws.eraseIdxIfInBounds k) n'):=by
 obtain ⟨n',hn'⟩:∃ n',Obj.mapSeq (fun xs=>xs.eraseIdxIfInBounds k) (listOf ws n) = listOf (ws.eraseIdxIfInBounds k) n':=⟨_,rfl⟩
 obtain g:=Heap.get?_update_self (Obj.mapSeq fun xs=>xs.eraseIdxIfInBounds k) eo (by rw [hn'];rfl)
 rw [hn'] at g
 exact ⟨n',g⟩
theorem zrz (i:Iv gd fr R σ s.heap) {j:Nat} {a:Addr} {xs args:List AV} {vs:List Value} (e:σ[j]? = some (.list xs)) (r:R[j]? = some a) (hl:xs.length < 100000) (qs:VRels R s.heap args vs) (h:PR gd fr RV Q E R s (one args (appA σ j xs))):wpAny gd.m A (call (.builtin "list.append") (.ref a :: vs)) Q E s:=by
 refine z0e (PR.of_one h) fun y zq15n1 h=>?_;obtain rfl:=zq15n1
 refine z0e qs.one fun v zq16n1 q=>?_;obtain rfl:=zq16n1
 cases i.obj j _ a e r with
 | @list _ ws n eo vr =>
  obtain hw:ws.size = xs.length:=by rw [vr.length];rfl
  refine append_at eo (fun h' hs he=>?_) (zar (by lia))
  obtain w1:=i.write e r hs (o':=.list (xs++[y])) (.list he (by rw [Array.toList_push];exact (vr.append (.cons q .nil)).keep (List.prefix_refl R) (z40 eo hs)))
  exact h _ R h' s.toks w1.2 w1.1 .none
theorem zs0 (i:Iv gd fr R σ s.heap) {j:Nat} {a:Addr} {xs:List AV} (e:σ[j]? = some (.list xs)) (r:R[j]? = some a) (hl:xs.length < 100000) (h:PR gd fr RV Q E R s (zr5 σ j xs)):wpAny gd.m A (call (.builtin "list.pop") [.ref a]) Q E s:=by
 cases i.obj j _ a e r with
 | @list _ ws n eo vr =>
  obtain hw:ws.size = xs.length:=by rw [vr.length];rfl
  cases hy:xs.getLast? with
  | none=>unfold zr5 at h;rw [hy] at h;exact h.elim
  | some y =>
   unfold zr5 at h;rw [hy] at h
   rw [List.getLast?_eq_getElem?] at hy
   obtain hlen:=(List.getElem?_eq_some_iff.mp hy).1
   refine z0e (vr.get hy) fun u h1 h2=>?_
   rw [Array.getElem?_toList,← hw] at h1
   refine call_meets F.slot_list_pop ⟨_,eo,rfl⟩ F.entry_list_pop (F.args_list_pop_1 _) (MeetsSeq.list_pop_last a ws n u h1 (zar (by lia))) ⟨eo,?_⟩
   obtain hs:Heap.SameBut a s.heap (s.heap.update a (Obj.mapSeq fun xs=>xs.eraseIdxIfInBounds (ws.size - 1))):=Heap.SameBut.update ..
   refine oEA (zdd eo (ws.size - 1)) fun n' g=>?_
   have z:(ws.eraseIdxIfInBounds (ws.size - 1)).toList = ws.toList.dropLast:=by
    unfold Array.eraseIdxIfInBounds
    rw [dif_pos (by lia),Array.toList_eraseIdx]
    obtain hz:ws.size = ws.toList.length:=by simp
    rw [hz]
    exact zaq _ (by rw [← hz];lia)
   obtain w1:=i.write e r hs (o':=.list xs.dropLast) (.list g (by exact z ▸ (vr.dropLast).keep (List.prefix_refl R) (z40 eo hs)))
   exact h _ R _ s.toks w1.2 w1.1 (h2.keep (List.prefix_refl R) (z40 eo hs))
theorem znz (i:Iv gd fr R σ s.heap) {j:Nat} {a:Addr} {xs:List AV} {t:Tok} (e:σ[j]? = some (.list xs)) (r:R[j]? = some a) (hl:xs.length < 100000) (h:PR gd fr RV Q E R s (zrg σ j xs)):wpAny gd.m A (call (.builtin "list.pop") [.ref a,.int 0 t]) Q E s:=by
 cases i.obj j _ a e r with
 | @list _ ws n eo vr =>
  obtain hw:ws.size = xs.length:=by rw [vr.length];rfl
  induction xs with
  | nil=>exact h.elim
  | cons y l =>
   refine z1c vr.cons' fun u us e1 h2 v2=>?_
   obtain h1:ws[0]? = some u:=by rw [← Array.getElem?_toList,e1];rfl
   obtain hpos:0 < ws.size:=by rw [hw];simp
   refine call_meets F.slot_list_pop ⟨_,eo,rfl⟩ F.entry_list_pop (F.args_list_pop_2 _ _) (MeetsSeq.list_pop_at a ws n 0 _ 0 u (by decide) (z4k hpos) h1 (zar (by lia))) ⟨eo,?_⟩
   obtain hs:Heap.SameBut a s.heap (s.heap.update a (Obj.mapSeq fun xs=>xs.eraseIdxIfInBounds 0)):=Heap.SameBut.update ..
   refine oEA (zdd eo 0) fun n' g=>?_
   have z:(ws.eraseIdxIfInBounds 0).toList = us:=by
    unfold Array.eraseIdxIfInBounds
    rw [dif_pos hpos,Array.toList_eraseIdx,e1];rfl
   obtain w1:=i.write e r hs (o':=.list l) (.list g (by exact z ▸ v2.keep (List.prefix_refl R) (z40 eo hs)))
   exact h _ R _ s.toks w1.2 w1.1 (h2.keep (List.prefix_refl R) (z40 eo hs))
theorem zo0 (i:Iv gd fr R σ s.heap) {j:Nat} {a:Addr} {k b:AV} {v:Value} (e:zv1 σ[j]? k = some b) (r:R[j]? = some a) (q:VRel R s.heap k v) (h:∀ u tk,VRel R s.heap b u→Q u { s with toks:=tk }):wpAny gd.m A (call (.builtin "dict.get") [.ref a,v]) Q E s:=by
 cases hx:σ[j]? with
 | none=>rw [hx] at e;exact nn e
 | some o =>
  rw [hx] at e
  induction i.obj j o a hx r with
  | @sd kvs kws eo vr nm =>
   refine z0e (Option.map_eq_some_iff.mp e) fun kk e1 zq21n2=>?_;obtain rfl:=zq21n2
   refine oEA (z8o e1 q) fun t zq22n1=>?_;obtain rfl:=zq22n1
   refine call_meetsIn F.slot_dict_get eo.typeIs F.entry_dict_get (F.args_dict_get_2 _ _) (meets_dict_get (knd:=PySem.strKind gd.prog gd.w) (k:=kk) a (by simp [PySem.strKind,Value.isStrOf]) nm) ⟨_,eo.mapOf,?_⟩
   show Q _ _
   have:=vr.look kk
   cases z:look kvs kk with
   | none=>rw [z] at this h;dsimp only at this;exact this ▸ h _ _ .none
   | some b=>rw [z] at this h;refine z0e this fun u h1 h2=>?_;exact h1 ▸ h _ _ h2
  | _=>exact nn e
theorem z8s {h:Heap} {K₁ K₂:Type} [DecidableEq K₁] [DecidableEq K₂] {k₁:PySem.KeyKind gd.prog gd.w K₁} {k₂:PySem.KeyKind gd.prog gd.w K₂} {a:Addr} (x:h.DictOf k₁ a []):h.DictOf k₂ a []:=by
 obtain ⟨ob,es,ep,g,hc,hd,hk,hp,hn⟩:=x
 cases hes:es.toList with
 | nil =>
  have:es = #[]:=by rw [← Array.toList_inj,hes]
  obtain rfl:=this
  exact ⟨ob,#[],ep,g,hc,hd,fun e he=>by simp at he,.nil,.nil⟩
 | cons x r=>rw [hes] at hp;exact nomatch hp
theorem zo4 (i:Iv gd fr R σ s.heap) {j:Nat} {a:Addr} {k d b:AV} {v w:Value} (e:zv2 σ[j]? k d = some b) (r:R[j]? = some a) (q:VRel R s.heap k v) (q2:VRel R s.heap d w) (h:∀ u tk,VRel R s.heap b u→Q u { s with toks:=tk }):wpAny gd.m A (call (.builtin "dict.get") [.ref a,v,w]) Q E s:=by
 have go:∀ (kk:Int) (t:Tok) (kws:List (Int×Value)),s.heap.DictOf (PySem.intKind gd.prog gd.w) a kws→(a == sysModules) = false→VRel R s.heap b ((valueAt kws kk).getD w)→wpAny gd.m A (call (.builtin "dict.get") [.ref a,.int kk t,w]) Q E s:=fun kk t kws eo nm vr=>by
  refine call_meetsIn F.slot_dict_get eo.typeIs F.entry_dict_get (F.args_dict_get_3 _ _ _) (meets_dict_get_default (knd:=PySem.intKind gd.prog gd.w) (k:=kk) a (by simp [PySem.intKind,Value.isInt]) nm _) ⟨_,eo.mapOf,?_⟩
  exact h _ _ vr
 cases hx:σ[j]? with
 | none=>rw [hx] at e;exact nn e
 | some o =>
  rw [hx] at e
  induction i.obj j o a hx r with
  | @sd kvs kws eo vr nm =>
   refine oAA (z0x e) fun he e=>?_
   refine z0e (Option.map_eq_some_iff.mp e) fun kk e1 zq26n2=>?_;obtain rfl:=zq26n2
   refine oEA (z3b e1 q) fun t zq27n1=>?_;obtain rfl:=zq27n1
   have he:=List.isEmpty_iff.mp he
   subst he
   rw [vr.nil_inv] at eo
   exact go kk t [] (z8s eo) nm q2
  | @idd kvs kws eo vr nm =>
   refine z0e (Option.map_eq_some_iff.mp e) fun kk e1 zq28n2=>?_;obtain rfl:=zq28n2
   refine oEA (z3b e1 q) fun t zq29n1=>?_;obtain rfl:=zq29n1
   refine go kk t kws eo nm ?_
   have:=vr.look kk
   cases z:look kvs kk with
   | none=>rw [z] at this;dsimp only at this;exact this ▸ q2
   | some b=>rw [z] at this;refine z0e this fun u h1 h2=>?_;exact h1 ▸ h2
  | _=>exact nn e
theorem zk2 (C:Cx gd fr A env I) (i:Iv gd fr R σ s.heap) {k:MK} {o:AV} {m:Str} {args:List AV} {f v:Value} {vs:List Value} (q:VRel R s.heap o v) (qs:VRels R s.heap args vs)
  (hf:MKf k m f) (h:PR gd fr RV Q E R s (z6z I k σ o m args)):wpAny gd.m A (call f ([v]++vs)) Q E s:=by
 induction k with
 | fn a=>obtain rfl:=hf;exact C.call a (o :: args) (v :: vs) σ R s Q E i (.cons q qs) h
 | dict =>
  obtain rfl:=hf
  refine z0e (PR.of_of h) fun b e h2=>?_
  refine z0e (Option.bind_eq_some_iff.mp e) fun j e1 e=>?_
  refine z0e (z3l e1 q) fun a zq33n1 r=>?_;obtain rfl:=zq33n1
  rcases args with _ | ⟨k,_ | ⟨d,_ | ⟨_,_⟩⟩⟩
  ·exact nn e
  ·refine z0e qs.one fun w zq34n1 q1=>?_;obtain rfl:=zq34n1
   exact zo0 i e r q1 fun u tk x=>PR.ok_tok h2 i x
  ·refine z1c qs.two fun w w' zq35n2 q1 q2=>?_;obtain rfl:=zq35n2
   exact zo4 i e r q1 q2 fun u tk x=>PR.ok_tok h2 i x
  ·exact nn e
 | list =>
  refine z0e (PR.of_bind h) fun j e1 h=>?_
  refine z0e (PR.of_bind h) fun xs e2 h=>?_
  refine oAA (PR.of_if h) fun hl h=>?_
  refine z0e (z3l e1 q) fun a zq39n1 r=>?_;obtain rfl:=zq39n1
  obtain e:=z78 e2
  rcases hf with ⟨rfl,rfl⟩ | ⟨rfl,rfl⟩
  ·exact zrz i e r hl qs (PR.ifp rfl h)
  ·have h:=PR.ifp rfl (PR.ifn (by decide) h)
   cases args with
   | nil=>rw [qs.nil'];exact zs0 i e r hl h
   | cons d l =>
    refine oAA (PR.of_if h) fun hc h3=>?_
    obtain hc:=Bool.and_eq_true_iff.mp hc
    obtain hl0:=List.isEmpty_iff.mp hc.1
    subst hl0
    refine z0e qs.one fun w zq41n1 q1=>?_;obtain rfl:=zq41n1
    refine oEA (z3b (of_decide_eq_true hc.2) q1) fun t zq42n1=>?_;obtain rfl:=zq42n1
    exact znz i e r hl h3
end
end
section
open PySem PySem.W PySem.Calls PyProof.Rows PySem.SeqAt
section
variable {gd:Gd} {fr:List Env} {A:Around} {env:Env} {I:z1q} {ℓ:Loc} {σ σ':AS} {R R':List Addr} {s s':Shared} {Q E:Value→Shared→Prop}
theorem len2 {α:Type} {l:List α} (h:l.length = 2):∃ a b,l = [a,b]:=by
 rcases l with _ | ⟨a,_ | ⟨b,_ | ⟨_,_⟩⟩⟩
 ·cases h
 ·cases h
 ·exact ⟨a,b,rfl⟩
 ·simp at h
theorem zgq {ss:List Str} (hp:ss.Perm [Str.ofString "x",Str.ofString "y"]) (hs:sortedS ss = true):ss = [Str.ofString "x",Str.ofString "y"]:=by
 refine z58 (len2 hp.length_eq) fun u v zq0n2=>?_;subst zq0n2
 obtain hu:=hp.mem_iff.mp (.head _)
 obtain hv:=hp.mem_iff.mp (.tail _ (.head _))
 obtain hx:=hp.mem_iff.mpr (.head _)
 obtain hy:=hp.mem_iff.mpr (.tail _ (.head _))
 simp only [List.mem_cons,List.not_mem_nil,or_false] at hu hv hx hy
 rcases hu with rfl | rfl <;> rcases hv with rfl | rfl
 ·exact absurd hy (by decide +kernel)
 ·rfl
 ·exact absurd hs (by decide +kernel)
 ·exact absurd hx (by decide +kernel)
theorem zva {kws:List (Str×Value)} {u v:AV} {h:Heap} (vp:VPairs R h [(Str.ofString "x",u),(Str.ofString "y",v)] kws) {acc:List Value} (hl:acc.length = 2) (ha:∀ (n:Nat) (v:Value),acc[n]? = some v→∃ k x,kws[n]? = some (k,x)∧v.isStrOf k = true):StrsAre acc [Str.ofString "x",Str.ofString "y"]:=by
 refine z1c vp.cons_inv fun v1 r1 zq1n2 q1 p1=>?_;obtain rfl:=zq1n2
 refine z1c p1.cons_inv fun v2 r2 zq2n2 q2 p2=>?_;obtain rfl:=zq2n2
 refine z58 (len2 hl) fun z0 z1 zq3n2=>?_;obtain rfl:=zq3n2
 refine z27 (ha 0 z0 rfl) fun k x e1 e2=>?_
 refine z27 (ha 1 z1 rfl) fun k' x' e1' e2'=>?_
 cases e1;cases e1'
 refine oEA (Value.isStrOf_shape e2) fun t zq6n1=>?_;obtain rfl:=zq6n1
 refine oEA (Value.isStrOf_shape e2') fun t' zq7n1=>?_;obtain rfl:=zq7n1
 exact .cons _ _ (.cons _ _ .nil)
theorem zgr (hh:A.handled = none) (i:Iv gd fr R σ s.heap) {d:Addr} {kws:List (Str×Value)} {u v:AV} (hd:s.heap.DictOf (PySem.strKind gd.prog gd.w) d kws) (vp:VPairs R s.heap [(Str.ofString "x",u),(Str.ofString "y",v)] kws) (nm:(d == sysModules) = false)
  (h:PR gd fr RV Q E R s (zjo σ [.str (Str.ofString "x"),.str (Str.ofString "y")])):wpAny gd.m A (call (.builtin "sorted") [.ref d]) Q E s:=by
 revert gd fr A σ R s Q E d kws u v;refine no_implicit_lambda% (z76 (z06 nGd (z06 inferInstance (z06 z28 (z06 inferInstance (z06 inferInstance (z06 z1v inferInstance)))))) ?_);generalize (e7 _ _).1 = gd;generalize (e7 _ _).2.1 = fr;generalize (e7 _ _).2.2.1 = A;generalize (e7 _ _).2.2.2.1 = σ;generalize (e7 _ _).2.2.2.2.1 = R;generalize (e7 _ _).2.2.2.2.2.1 = s;generalize (e7 _ _).2.2.2.2.2.2 = Q;refine no_implicit_lambda% (z2b inferInstance ?_);generalize (e1 _ _) = E;unhygienic intros;revert d kws u v;refine no_implicit_lambda% (z36 (z06 inferInstance (z06 inferInstance inferInstance)) ?_);generalize (e3 _ _).1 = d;generalize (e3 _ _).2.1 = kws;generalize (e3 _ _).2.2 = u;refine no_implicit_lambda% (z2b inferInstance ?_);generalize (e1 _ _) = v;unhygienic intros
 have hlen:kws.length = 2:=vp.length.symm
 refine call_function_entry kind_sorted plain_sorted entry_sorted (args_sorted1 _) ?_
 refine wpAny_bind (m:=checkCount "sorted" 1 1 _) (wpAny_pure ?_)
 refine oEA hd.dictAt fun ep hat=>?_
 refine wpAny_bind (kdu_collect (A:=A.in1) (kdl_dict (knd:=PySem.strKind gd.prog gd.w) (kvs:=kws) (ep:=ep) nm) hh hat (by rw [hlen,sizeLine_eq];lia) fun h' tk acc hk hacc=>?_)
 have hl:acc.toList.length = 2:=by refine (Array.length_toList).trans ?_;exact hacc.1.trans hlen
 revert h' tk acc;refine no_implicit_lambda% (z36 (z06 inferInstance (z06 inferInstance inferInstance)) ?_);generalize (e3 _ _).1 = h';generalize (e3 _ _).2.1 = tk;generalize (e3 _ _).2.2 = acc;unhygienic intros
 refine wpAny_bind (wpAny_newList ?_ (by rw [hl,sizeLine_eq];lia))
 have keys:=zva vp hl fun n v e=>hacc.2 n v (by rw [← Array.getElem?_toList];exact e)
 obtain ho:(h'.push (seqObj "list" acc.toList.toArray 0)).get? h'.objs.size = some (seqObj "list" acc.toList.toArray 0):=Heap.get?_push_size _ rfl
 have hn:h'.get? h'.objs.size = none:=z2o h'
 refine wpAny_bind (wpAny_holding (wpAny_call_entry slot_list_sort ⟨_,ho,rfl⟩ entry_list_sort (list_sort_treeK (s:={ s with heap:=h'.push (seqObj "list" acc.toList.toArray 0),toks:=tk }) PyProof.Rows.strKind_oneLt ho keys.keysOf (fun v₁ v₂ rest e=>keyKind_strs (by exact e ▸ keys)) (by lia) fun st' hp hs=>⟨.none,rfl,?_⟩) (args_list_sort _)))
 refine wpAny_pure ⟨_,rfl,?_⟩
 refine z1m (sorted_out_str keys hp hs) fun ss' k1 k2 k3=>?_
 obtain e:=zgq k2 k3
 subst e
 refine oEA (sortedHeap_at (out:=(arrOf st').map (·.2)) ho) fun e' g=>?_
 obtain up:Up s.heap (sortedHeap (h'.push (seqObj "list" acc.toList.toArray 0)) h'.objs.size acc.toList ((arrOf st').map (·.2))):=fun b o eb=>by
  obtain h1:=hk b o eb
  rw [sortedHeap_old (Nat.ne_of_lt (Heap.lt_size h1)) (by rw [size_push'];exact Nat.lt_succ_of_lt (Heap.lt_size h1))]
  exact Heap.get?_push_of_some _ h1
 have hn0:s.heap.get? h'.objs.size = none:=by
  cases q:s.heap.get? h'.objs.size with
  | none=>rfl
  | some o=>rw [hk _ _ q] at hn;exact nomatch hn
 obtain h:=PR.ifp (by decide) h
 obtain e1:=Ext.alloc (R:=R) up hn0
 refine h _ (R++[h'.objs.size]) _ tk e1 (i.alloc up hn0 (.list (n:=e') (ws:=(arrOf st').map (·.2)) g ?_)) (.ref (z79 i.len))
 revert k1
 generalize ((arrOf st').map (·.2)).toList = l
 intro k1
 cases k1 with
 | cons y t r=>cases r with
  | cons y' t' r=>cases r;exact .cons (.str _ _) (.cons (.str _ _) .nil)
theorem zk3 {o:Option AO} (e:xyO o = true):∃ u v,o = some (.sd [(Str.ofString "x",u),(Str.ofString "y",v)]):=by
 induction o with
 | none=>exact nf e
 | some o =>
  induction o with
  | sd l =>
   rcases l with _ | ⟨⟨a,u⟩,_ | ⟨⟨b,v⟩,_ | ⟨_,_⟩⟩⟩
   ·exact nf e
   ·exact nf e
   ·obtain e:=of_decide_eq_true e
    rw [e.1,e.2];exact ⟨u,v,rfl⟩
   ·exact nf e
  | _=>exact nf e
theorem zs1 (i:Iv gd fr R σ s.heap) {a b:AV} {v:Value} (e:zuw σ a = some b) (q:VRel R s.heap a v) (h:∀ u tk,VRel R s.heap b u→Q u { s with toks:=tk }):wpAny gd.m A (call (.builtin "len") [v]) Q E s:=by
 refine z0e (Option.bind_eq_some_iff.mp e) fun n e1 e=>?_
 refine oAA (z0x e) fun hn e=>?_
 obtain rfl:=Option.some.inj e
 cases a with
 | ref j =>
  refine z0e (z3l rfl q) fun a zq13n1 r=>?_;obtain rfl:=zq13n1
  cases hx:σ[j]? with
  | none=>exact nn ((congrArg zrf hx).symm.trans e1)
  | some o =>
   obtain e1:=(congrArg zrf hx).symm.trans e1
   induction i.obj j o a hx r with
   | @list xs ws n eo vr =>
    obtain rfl:=Option.some.inj e1
    obtain hw:ws.size = xs.length:=by rw [vr.length];rfl
    refine call_len_list (z6a eo) (by lia) ?_
    rw [hw];exact h _ _ (.int _ _)
   | @sd kvs kws eo vr nm =>
    obtain rfl:=Option.some.inj e1
    obtain hw:kws.length = kvs.length:=vr.length.symm
    refine call_len_dict nm eo (by lia) ?_
    rw [hw];exact h _ _ (.int _ _)
   | _=>exact nn e1
 | str z=>obtain rfl:=Option.some.inj e1;refine oEA (z8o rfl q) fun t zq14n1=>?_;obtain rfl:=zq14n1;exact P.len_str (by lia) (h _ _ (.int _ _))
 | _=>exact nn e1
theorem zs2 (C:Cx gd fr A env I) (i:Iv gd fr R σ s.heap) {a c b:AV} {v w:Value} (e:zuy I σ a c = some b) (q:VRel R s.heap a v) (q':VRel R s.heap c w) (h:∀ u tk,VRel R s.heap b u→Q u { s with toks:=tk }):wpAny gd.m A (call (.builtin "isinstance") [v,w]) Q E s:=by
 refine z0e (Option.bind_eq_some_iff.mp e) fun j e1 e=>?_
 refine z0e (Option.bind_eq_some_iff.mp e) fun D e2 e=>?_
 refine z0e (Option.bind_eq_some_iff.mp e) fun n e3 e=>?_
 refine oAA (z0x e) fun hc e=>?_
 obtain rfl:=Option.some.inj e
 have hc:=Bool.and_eq_true_iff.mp hc
 refine z0e (z3l e1 q) fun a zq19n1 r=>?_;obtain rfl:=zq19n1
 have hw:w = .ref D:=by
  cases q' <;> first | (exact nn e2;done) | skip
  cases w <;> cases e2;rfl
 subst hw
 refine oEEEA (z9k i e3 r) fun dx mm od J=>?_
 refine oEA (C.cls n.C hc.1) fun ini hini=>?_
 refine oEA (C.cls D hc.2) fun ini' hini'=>?_
 have CO:=C.top.cls n.C ini hini
 refine oEA CO.dict fun cd hcd=>?_
 exact kia_one (kitx_own (by unfold plainGet;rw [CO.hga,CO.hgt];rfl) (by unfold hasDictIn;rw [hcd.1];exact hcd.2) CO.kc C.top.clsg.1 C.top.clsg.2 CO.mro) (C.top.kin.keeps i.stays) J.at (C.top.isi D n.C ini' ini hini' hini) (of_decide_eq_true rfl) fun tk=>h _ _ (.bool _)
theorem zf2 (C:Cx gd fr A env I) (i:Iv gd fr R σ s.heap) {b:String} {args:List AV} {vs:List Value} (qs:VRels R s.heap args vs) (h:PR gd fr RV Q E R s (zd6 I σ b args)):wpAny gd.m A (call (.builtin b) vs) Q E s:=by
 by_cases hb:b = "len"
 ·subst hb
  refine z0e (PR.of_one (PR.ifp rfl h)) fun a zq24n1 h1=>?_;obtain rfl:=zq24n1
  refine z0e qs.one fun v zq25n1 q=>?_;obtain rfl:=zq25n1
  refine z0e (PR.of_of h1) fun b e h2=>?_
  exact zs1 i e q fun u tk x=>PR.ok_tok h2 i x
 obtain h:=PR.ifn hb h
 by_cases hb:b = "isinstance"
 ·subst hb
  refine z27 (PR.of_two (PR.ifp rfl h)) fun a c zq27n2 h1=>?_;obtain rfl:=zq27n2
  refine z1c qs.two fun v w zq28n2 q q'=>?_;obtain rfl:=zq28n2
  refine z0e (PR.of_of h1) fun b e h2=>?_
  exact zs2 C i e q q' fun u tk x=>PR.ok_tok h2 i x
 obtain ⟨hb,h⟩:=PR.of_if (PR.ifn hb h)
 subst hb
 refine z0e (PR.of_one h) fun a zq31n1 h1=>?_;obtain rfl:=zq31n1
 refine z0e qs.one fun v zq32n1 q=>?_;obtain rfl:=zq32n1
 unfold zuz at h1
 cases e:z6y a with
 | none=>rw [e] at h1;exact h1.elim
 | some j =>
  rw [e] at h1
  refine oAA (PR.of_if h1) fun hx h2=>?_
  refine z58 (zk3 hx) fun x y e2=>?_
  refine z0e (z3l e q) fun d zq35n1 r=>?_;obtain rfl:=zq35n1
  cases i.obj j _ d e2 r with
  | sd eo vr nm=>exact zgr C.hh i eo vr nm h2
theorem zo5 (i:Iv gd fr R σ s.heap) {b:String} {args:List AV} {vs:List Value} (qs:VRels R s.heap args vs) (h:PR gd fr RV Q E R s (znf σ b args)):wpAny gd.m A (call (.type b) vs) Q E s:=by
 by_cases hb:b = "list"
 ·subst hb
  refine z0e (PR.of_one (PR.ifp rfl h)) fun a zq36n1 h1=>?_;obtain rfl:=zq36n1
  refine z0e qs.one fun v zq37n1 q=>?_;obtain rfl:=zq37n1
  refine z0e (PR.of_bind h1) fun xs e h2=>?_
  refine z0e (Option.bind_eq_some_iff.mp e) fun j e1 e2=>?_
  refine oAA (PR.of_if h2) fun hl h3=>?_
  refine z0e (z3l e1 q) fun a zq41n1 r=>?_;obtain rfl:=zq41n1
  refine z27 (z5y i e2 r) fun ws n eo vr=>?_
  obtain hw:ws.size = xs.length:=by rw [vr.length];rfl
  refine call_list_seq a (.inl rfl) eo rfl rfl (fun h' c' hk g=>?_) (zar (by lia))
  obtain e1:=Ext.alloc (R:=R) hk (z2o s.heap)
  exact h3 _ _ _ s.toks e1 (i.alloc hk (z2o _) (.list (n:=c') (ws:=ws) g (vr.ext i e1))) (.ref (z79 i.len))
 obtain ⟨hb,h⟩:=PR.of_if (PR.ifn hb h)
 subst hb
 refine z0e (PR.of_one h) fun a zq44n1 h1=>?_;obtain rfl:=zq44n1
 refine z0e qs.one fun v zq45n1 q=>?_;obtain rfl:=zq45n1
 refine z0e (PR.of_of h1) fun b e h2=>?_
 refine z0e (Option.bind_eq_some_iff.mp e) fun n e1 e2=>?_
 refine oAA (z0x e2) fun hn e2=>?_
 obtain rfl:=Option.some.inj e2
 refine oEA (z3b e1 q) fun t0 zq49n1=>?_;obtain rfl:=zq49n1
 obtain u:=Up.push s.heap { cls:=.type "range",data:=.fields #[.int 0 s.toks,.int n t0,.int 1 (s.toks + 1)] }
 exact call_range_1 (h2 _ R _ _ (Ext.up u) (i.up u) (.rng (Heap.get?_push_size _ rfl) hn.1 hn.2))
theorem zo6 {pos:Pos} {args:List Expr} (hp:z2g args = true):methodCallForm (args.length + ([]:List Keyword).length) (backTo pos (starEach args env)) (backToKw pos (keywordEach [] env)) = true:=by
 obtain hn:(backTo pos (starEach args env)).any (·.1) = false:=by refine (z8r).trans ?_;exact zmm hp
 have h1:(backTo pos (starEach args env)).all (fun x=>!x.1) = true:=by
  rw [← Bool.not_eq_false,List.all_eq_not_any_not];simpa using hn
 unfold methodCallForm
 rw [h1]
 have:=of_decide_eq_true (Bool.and_eq_true_iff.mp hp).2
 have e:backToKw pos (keywordEach [] env) = []:=rfl
 rw [e]
 dsimp only [List.all_nil,List.isEmpty_nil,if_true,Bool.true_and,decide_eq_true_eq,List.length_nil,Nat.add_zero]
 lia
theorem zas {o:Expr} {m:Str} {apos pos:Pos} {args:List Expr} (So:SE gd fr o) (Sa:SL gd fr args):SE gd fr (.Call (.Attribute o m apos) args [] pos):=by
 intro A env I ℓ σ R s Q E C i L h
 refine oAA (PR.of_if h) fun hp h=>?_
 refine oAA (PR.of_if h) fun hl h=>?_
 rw [arm_eval_Call]
 refine wpAny_bind (zc6 C.super (So.then C i L h fun a u σ₁ R₁ s₁ t₁ i₁ L₁ q h=>wpAny_bind (wpAny_standAt ?_)))
 refine z0e (PR.of_bind h) fun k e h=>?_
 obtain hpos:methodCallPos true o env apos pos = pure pos:=by unfold methodCallPos;rw [hl];rfl
 unfold methodCall
 rw [zo6 hp]
 refine wpAny_bind (wpAny_holding (zgp C i₁ e q fun f kv hf=>?_))
 refine wpAny_bind (wpAny_of_eq hpos ?_)
 exact z51 (gd:=gd) hp (Sa.then C i₁ L₁ h fun as vs σ₂ R₂ s₂ t₂ i₂ L₂ qs h=>⟨⟨kv,C.top.kin.keeps i₂.stays⟩,zk2 C i₂ (q.aft i₁ t₂) qs hf h⟩)
theorem zgs {h:Heap} {v w:Value} (x:VRel R h (.raw v) w):w = v:=by cases x;rfl
theorem zat {f:Str} {p pos:Pos} {args:List Expr} (Sa:SL gd fr args):SE gd fr (.Call (.Name f p) args [] pos):=by
 intro A env I ℓ σ R s Q E C i L h
 refine oAA (PR.of_if h) fun hp h=>?_
 refine Call_Name rfl ?_
 refine (zc4 f p).then C i L h fun a u σ₁ R₁ s₁ t₁ i₁ L₁ q h=>?_
 refine z51 (gd:=gd) hp (Sa.then C i₁ L₁ h fun as vs σ₂ R₂ s₂ t₂ i₂ L₂ qs h=>?_)
 obtain X:gd.K.In s₂.heap:=C.top.kin.keeps i₂.stays
 cases a with
 | raw v =>
  rw [zgs q]
  induction v with
  | builtin b=>exact ⟨⟨trivial,X⟩,zf2 C i₂ qs h⟩
  | type b=>exact ⟨⟨trivial,X⟩,zo5 i₂ qs h⟩
  | ref a =>
   refine oAA (PR.of_if h) fun hk h=>?_
   rw [C.kn] at hk
   exact ⟨⟨C.top.kn _ hk,X⟩,C.call _ as vs σ₂ R₂ s₂ Q E i₂ qs h⟩
  | _=>exact h.elim
 | _=>exact h.elim
end
end
section
open PySem PySem.W PySem.Calls PyProof.Rows PySem.SeqAt
section
variable {gd:Gd} {fr:List Env} {A:Around} {env:Env} {I:z1q} {ℓ:Loc} {σ σ':AS} {R R':List Addr} {s s':Shared} {Q E:Value→Shared→Prop}
theorem z8e (ws:Array Value) (c:Int) (h0:0≤c):(slicePick ws none (some c) none).toList = ws.toList.take c.toNat:=by
 refine oEA (Int.eq_ofNat_of_zero_le h0) fun n zq0n1=>?_;obtain rfl:=zq0n1
 by_cases hn:n≤ws.size
 ·have:=slicePick_upto ws n hn
  refine (?_:(slicePick ws none (some ((n:Nat):Int)) none).toList = _)
  rw [this];rfl
 ·have e:slicePick ws none (some ((n:Nat):Int)) none = slicePick ws none (some ((ws.size:Nat):Int)) none:=by
   have e1:sliceBounds none (some ((n:Nat):Int)) none ws.size = sliceBounds none (some ((ws.size:Nat):Int)) none ws.size:=by
    obtain h1:¬ ((n:Int) < 0):=by lia
    obtain h2:¬ ((ws.size:Int) < 0):=by lia
    simp only [sliceBounds,Option.getD_none,h1,h2,if_false,show (1:Int) > 0 by decide,if_true]
    congr 1
    congr 1
    lia
   unfold slicePick
   rw [e1]
  refine (?_:(slicePick ws none (some ((n:Nat):Int)) none).toList = _)
  rw [e,slicePick_upto ws ws.size (Nat.le_refl _)]
  simp only [List.take_of_length_le (show ws.toList.length≤ws.size by simp),Int.toNat_natCast,Int.ofNat_eq_natCast]
  rw [List.take_of_length_le (by simp;lia)]
theorem zde {o:Expr} {c:Int} {k:Nat} {p p':Pos} {σ₁:AS} {R₁:List Addr} {s₁:Shared} {l:Addr} {ws:Array Value} {n:Nat} {xs:List AV} (i₁:Iv gd fr R₁ σ₁ s₁.heap) (eo:s₁.heap.get? l = some (listOf ws n)) (vr:VRels R₁ s₁.heap xs ws.toList) (hc:0≤c∧xs.length < 1000000)
  (h:PR gd fr RV Q E R₁ s₁ (zjo σ₁ (xs.take c.toNat))):wpAny gd.m A (subscriptTail o (.Slice none (some (.Constant (.int c) k p)) none p') (.ref l) (.ref (s₁.heap.objs.size))) Q E { s₁ with heap:=s₁.heap.push { cls:=.type "slice",data:=.fields #[.none,.int c s₁.toks,.none] },toks:=s₁.toks + 1 }:=by
 refine oAA (PR.of_if h) fun hl h=>?_
 ·obtain hz:(slicePick ws none (some c) none).toList = ws.toList.take c.toNat:=z8e ws c hc.1
  obtain hsz:ws.size = xs.length:=by rw [vr.length];rfl
  obtain hl':(xs.take c.toNat).length≤xs.length:=by rw [List.length_take];lia
  obtain hws:ws.size≤sizeLine:=zar (by rw [hsz];exact hc.2)
  obtain u1:Up s₁.heap (s₁.heap.push { cls:=.type "slice",data:=.fields #[.none,.int c s₁.toks,.none] }):=Up.push _ _
  obtain u2:=u1.trans (Up.push (s₁.heap.push { cls:=.type "slice",data:=.fields #[.none,.int c s₁.toks,.none] }) { cls:=.type "list",data:=.seq (slicePick ws none (some c) none) })
  obtain il:(s₁.heap.push { cls:=.type "slice",data:=.fields #[.none,.int c s₁.toks,.none] }).IsList l ws:=(z6a eo).push _
  refine tail_any (s:={ s₁ with heap:=s₁.heap.push { cls:=.type "slice",data:=.fields #[.none,.int c s₁.toks,.none] },toks:=s₁.toks + 1 }) (Heap.IsList.typeIs il) slot_list_getitem.lookup (wpAny_getItem_list_slice il (Heap.IsSliceOf.new ..) .none (.int _ _) .none (by decide) ?_ hws) rfl
  obtain hn:s₁.heap.get? (s₁.heap.push { cls:=.type "slice",data:=.fields #[.none,.int c s₁.toks,.none] }).objs.size = none:=by
   rw [Heap.size_push];exact Heap.get?_none_of_le (Nat.le_succ _)
  obtain e1:=Ext.alloc (R:=R₁) u2 hn
  refine h _ _ _ _ e1 (i₁.alloc u2 hn (.list (n:=0) (ws:=slicePick ws none (some c) none) (Heap.get?_push_size _ rfl) ?_)) (.ref ?_)
  ·rw [hz];exact (vr.take _).ext i₁ e1
  ·exact z79 i₁.len
theorem zgt {e:Option Expr} {c:Int} (h:litI e = some c):∃ k p,e = some (.Constant (.int c) k p):=by
 refine z0e (Option.bind_eq_some_iff.mp h) fun e zq2n1 h2=>?_;obtain rfl:=zq2n1
 clear h
 obtain b:=z5x e
 cases q:ev e <;> rw [q] at h2 b <;> cases h2
 exact ⟨_,_,congrArg some b⟩
theorem zau {i:Expr} {c:Int} (h:z9f i = some c):∃ k p p',i = .Slice none (some (.Constant (.int c) k p)) none p':=by
 obtain b:=z5x i
 unfold z9f at h
 cases q:ev i <;> rw [q] at h b <;> first | (exact nn h;done) | skip
 refine oAA (z0x h) fun hl h=>?_
 refine z58 (zgt h) fun k p zq4n2=>?_;obtain rfl:=zq4n2
 have hl:=Bool.and_eq_true_iff.mp hl
 rw [Option.isNone_iff_eq_none.mp hl.1,Option.isNone_iff_eq_none.mp hl.2] at b
 exact ⟨k,p,_,b⟩
theorem zk4 {o i:Expr} {pos:Pos} (hi:z45 i = true) (So:SE gd fr o):SE gd fr (.Subscript o i pos):=by
 intro A env I ℓ σ R s Q E C iv L h
 refine z0e (PR.of_bind (PR.ifp hi h)) fun c e h=>?_
 refine oEEEA (zau e) fun k p p' zq6n3=>?_;obtain rfl:=zq6n3
 refine Subscript_ (So.then C iv L h fun a u σ₁ R₁ s₁ t₁ i₁ L₁ x h=>?_)
 refine wpAny_Slice ?_
 rw [evalPart_none,evalPart_some]
 refine wpAny_pure (wpAny_Constant_int (wpAny_pure ?_))
 cases q:zv6 I σ₁ a with
 | none=>unfold zr6 at h;rw [q] at h;exact h.elim
 | some xs =>
  unfold zr6 at h;rw [q] at h
  refine oAA (PR.of_if h) fun hc h=>?_
  cases a with
  | ref j =>
   refine z0e (z3l rfl x) fun l zq8n1 r=>?_;obtain rfl:=zq8n1
   refine z27 (z5y i₁ q r) fun ws n eo vr=>?_
   exact zde i₁ eo vr hc h
  | raw v =>
   induction v with
   | ref l =>
    refine z0e (Option.map_eq_some_iff.mp q) fun zs hz zq10n2=>?_;obtain rfl:=zq10n2
    rw [zgs x]
    refine z27 (C.top.frz l zs (by rw [← C.frz];exact hz)) fun ws n eo vr=>?_
    exact zde i₁ (i₁.stays _ _ eo) (vr _ _) hc h
   | _=>exact nn q
  | _=>exact nn q
end
end
section
open PySem PySem.W PySem.Calls PyProof.Rows PySem.SeqAt
section
variable {gd:Gd} {fr:List Env} {A:Around} {env:Env} {I:z1q} {ℓ:Loc} {σ σ':AS} {R R':List Addr} {s s':Shared} {Q E:Value→Shared→Prop}
noncomputable def z8t (pos:Pos):List (Option Expr)→List Expr→Env→List (Sem Value×Sem Value)
 | some k :: ks,v :: vs,env=>(eval k env,do let x ← eval v env;standAt pos;pure x) :: z8t pos ks vs env
 | _,_,_=>[]
theorem z8u {e:Expr} {s:Str} (h:zjp e = some s):∃ k p,e = .Constant (.str s) k p:=by
 obtain b:=z5x e
 unfold zjp at h
 cases q:ev e <;> rw [q] at h b <;> cases h
 exact ⟨_,_,b⟩
theorem z3c {e:Expr} {s:Str} (h:zd7 e = some s):∃ p,e = .Name s p:=by
 obtain b:=z5x e
 unfold zd7 at h
 cases q:ev e <;> rw [q] at h b <;> cases h
 exact ⟨_,b⟩
theorem z8v {k:Option Expr} {s:Str} (h:zjq k = some s):∃ n p,k = some (.Constant (.str s) n p):=by
 refine z0e (Option.bind_eq_some_iff.mp h) fun e zq0n1 h=>?_;obtain rfl:=zq0n1
 refine z58 (z8u h) fun n p zq1n2=>?_;obtain rfl:=zq1n2
 exact ⟨n,p,rfl⟩
theorem zav {k:Option Expr} {ks:List (Option Expr)} {vs:List Expr} (h:z57 (k :: ks) vs = true):∃ e v r,k = some e∧vs = v :: r∧z57 ks r = true:=by
 obtain h:=Bool.and_eq_true_iff.mp h
 obtain h1:=Bool.and_eq_true_iff.mp (List.all_cons ▸ h.1)
 obtain h2:=Bool.and_eq_true_iff.mp h.2
 obtain h3:=eq_of_beq h2.1
 obtain h4:=of_decide_eq_true h2.2
 refine oEA (Option.isSome_iff_exists.mp h1.1) fun s hs=>?_
 refine z58 (z8v hs) fun n p zq3n2=>?_;obtain rfl:=zq3n2
 induction vs with
 | nil=>cases h3
 | cons v r=>exact ⟨_,v,r,rfl,rfl,Bool.and_eq_true_iff.mpr ⟨h1.2,Bool.and_eq_true_iff.mpr ⟨beq_iff_eq.mpr (Nat.succ.inj h3),decide_eq_true (Nat.le_of_succ_le h4)⟩⟩⟩
theorem zaw {pos:Pos} {ks:List (Option Expr)}:∀ {vs:List Expr},z57 ks vs = true →
  (evalEachOpt ks env).zip ((evalEach vs env).map fun v=>do let x ← v;standAt pos;pure x) = (z8t pos ks vs env).map fun p=>(some p.1,p.2):=by
 induction ks with
 | nil=>intro vs uu;cases vs <;> rfl
 | cons k ks ih =>
  intro vs h
  refine z5v (zav h) fun e v r zq4n3 zq4n4 h2=>?_;obtain rfl:=zq4n3;obtain rfl:=zq4n4
  refine (?_:(_,_) :: List.zip _ _ = (_,_) :: List.map _ _)
  rw [ih h2];rfl
theorem z5b {pos:Pos}:∀ {ks:List (Option Expr)} {vs:List Expr},(z8t pos ks vs env).length≤ks.length
 | [],vs=>by cases vs <;> exact Nat.le_refl _
 | none :: ks,vs=>by cases vs <;> exact Nat.zero_le _
 | some k :: ks,[]=>Nat.zero_le _
 | some k :: ks,v :: vs=>by
  exact Nat.succ_le_succ z5b
variable (gd) in
noncomputable def RP (R:List Addr) (h:Heap) (kvs:List (Str×AV)) (vs:List (Value×Value)):Prop:=∃ kws,Carries (PySem.strKind gd.prog gd.w) vs kws∧VPairs R h kvs kws
noncomputable def SD (gd:Gd) (fr:List Env) (ks:List (Option Expr)) (es:List Expr):Prop :=
 ∀ (A:Around) (env:Env) (I:z1q) (ℓ:Loc) (σ:AS) (R:List Addr) (s:Shared) (pos:Pos) (Q:List (Value×Value)→Shared→Prop) (E:Value→Shared→Prop),
  Cx gd fr A env I→Iv gd fr R σ s.heap→LocOk gd env ℓ R s.heap→PR gd fr (RP gd) Q E R s (zah ks es I ℓ σ)→wpAny gd.m A (evalPairs (z8t pos ks es env)) Q E s
theorem VPairs.aft {κ:Type} {kvs:List (κ×AV)} {kws:List (κ×Value)} (p:VPairs R s.heap kvs kws) (i:Iv gd fr R σ s.heap) (k:Aft R s R' s'):VPairs R' s'.heap kvs kws:=⟨p.1,p.2.aft i k⟩
theorem zs3:SD gd fr [] []:=by
 intro A env I ℓ σ R s pos Q E C i L h
 exact evalPairs_nil (PR.of_ok h i ⟨[],trivial,rfl,.nil⟩)
theorem zo8 {k:Option Expr} {ks:List (Option Expr)} {e:Expr} {es:List Expr} (Se:SE gd fr e) (Ss:SD gd fr ks es):SD gd fr (k :: ks) (e :: es):=by
 intro A env I ℓ σ R s pos Q E C i L h
 refine z0e (PR.of_bind h) fun k hk h2=>?_
 refine z58 (z8v hk) fun n p zq6n2=>?_;subst zq6n2
 refine evalPairs_cons (wpAny_Constant_str ?_)
 refine wpAny_bind (Se.then (s:={ s with toks:=s.toks + 1 }) C i L (PR.shift (Aft.mk Ext.refl) h2) fun a v σ₁ R₁ s₁ t₁ i₁ L₁ x h=>wpAny_bind (wpAny_standAt (wpAny_pure ?_)))
 refine Ss A env I ℓ σ₁ R₁ s₁ pos _ E C i₁ L₁ ((PR.bind (Rl:=RP gd) h).mono (fun vs s₂ zm=>z1j zm fun kvs σ₂ R₂ t₂ i₂ q z=>?_) fun uu uu z=>z)
 refine z0e q fun kws q1 q2=>?_
 exact PR.of_ok z i₂ ⟨(k,v) :: kws,⟨by simp [PySem.strKind,Value.isStrOf],rfl,q1⟩,VPairs.cons' (x.aft i₁ t₂) q2⟩
theorem zo9 {ks:List (Option Expr)} {es:List Expr} {pos:Pos} (S:SD gd fr ks es):SE gd fr (.Dict ks es pos):=by
 revert gd fr ks es pos;refine no_implicit_lambda% (z36 (z06 nGd (z06 inferInstance inferInstance)) ?_);generalize (e3 _ _).1 = gd;generalize (e3 _ _).2.1 = fr;generalize (e3 _ _).2.2 = ks;refine no_implicit_lambda% (z2b inferInstance ?_);generalize (e1 _ _) = es;refine no_implicit_lambda% (z2b inferInstance ?_);generalize (e1 _ _) = pos;unhygienic intros
 intro A env I ℓ σ R s Q E C i L h
 revert A env I ℓ σ R s Q E;refine no_implicit_lambda% (z76 (z06 z28 (z06 inferInstance (z06 zgf (z06 inferInstance (z06 inferInstance (z06 inferInstance z1v)))))) ?_);generalize (e7 _ _).1 = A;generalize (e7 _ _).2.1 = env;generalize (e7 _ _).2.2.1 = I;generalize (e7 _ _).2.2.2.1 = ℓ;generalize (e7 _ _).2.2.2.2.1 = σ;generalize (e7 _ _).2.2.2.2.2.1 = R;generalize (e7 _ _).2.2.2.2.2.2 = s;refine no_implicit_lambda% (z2b inferInstance ?_);generalize (e1 _ _) = Q;refine no_implicit_lambda% (z2b inferInstance ?_);generalize (e1 _ _) = E;unhygienic intros
 obtain ⟨hf,h⟩:=PR.of_if h
 ·
  obtain hnew:s.heap.get? s.heap.objs.size = none:=z2o _
  have h0:gd.h₀.get? s.heap.objs.size = none:=by
   cases q:gd.h₀.get? s.heap.objs.size with
   | none=>rfl
   | some o=>rw [i.stays _ _ q] at hnew;exact nomatch hnew
  have hsys:(s.heap.objs.size == sysModules) = false:=by
   cases q:(s.heap.objs.size == sysModules) with
   | false=>rfl
   | true =>
    obtain ⟨o,ho⟩:=C.top.sys
    rw [← beq_iff_eq.mp q,h0] at ho;exact nn ho
  obtain u1:Up s.heap (s.heap.push { cls:=.type "dict",data:=.dict #[] }):=Up.push _ _
  cases ks with
  | nil =>
   obtain he:es = []:=List.length_eq_zero_iff.mp (eq_of_beq (Bool.and_eq_true_iff.mp (Bool.and_eq_true_iff.mp hf).2).1).symm
   obtain rfl:=he
   refine wpAny_Dict_empty ?_
   obtain e1:=Ext.alloc (R:=R) u1 hnew
   exact h _ _ _ s.toks e1 (i.alloc u1 hnew (.sd (Heap.DictOf.new s.heap) ⟨rfl,.nil⟩ hsys)) (.ref (z79 i.len))
  | cons k ks =>
   have hne:z8t pos (k :: ks) es env ≠ []:=by
    refine z5v (zav hf) fun e v r zr23 zr24 uu=>?_;obtain rfl:=zr23;obtain rfl:=zr24
    exact fun q=>by exact nomatch q
   have hlen:(z8t pos (k :: ks) es env).length≤15:=by
    exact Nat.le_trans (@z5b env pos (k :: ks) es) (of_decide_eq_true (Bool.and_eq_true_iff.mp (Bool.and_eq_true_iff.mp hf).2).2)
   refine wpAny_Dict_pairs (knd:=PySem.strKind gd.prog gd.w) (zaw hf) hne hlen ?_
   obtain a1:Aft R s R { s with heap:=s.heap.push { cls:=.type "dict",data:=.dict #[] } }:=⟨Ext.up u1,_,s.toks,rfl⟩
   refine S A env I ℓ σ R _ pos _ E C (i.up u1) (L.aft i a1) ((PR.bind0 (Rl:=RP gd) a1 h).mono (fun vs s₁ zm=>z1j zm fun kvs σ₁ R₁ t₁ i₁ q z=>?_) fun uu uu z=>z)
   refine z0e q fun kws q1 q2=>?_
   obtain ⟨x1,hh,tk,rfl⟩:=t₁
   obtain hd:s.heap.objs.size ∉ R₁:=fun hm=>(x1.new _ hm).elim (fun q=>by obtain ⟨o,ho⟩:=i.lookup q;rw [hnew] at ho;exact nn ho) fun q=>by
    rw [show (s.heap.push { cls:=.type "dict",data:=.dict #[] }).get? s.heap.objs.size = _ from Heap.get?_push_size _ rfl] at q;exact nomatch q
   obtain ⟨o',g,_,_,_,ex⟩:=x1.keep _ _ (Heap.get?_push_size s.heap rfl) (fun hm=>by obtain ⟨o,ho⟩:=i.lookup hm;rw [hnew] at ho;exact nn ho)
   obtain ex:=ex (fun h=>nomatch h)
   obtain rfl:=ex
   obtain hmem:s.heap.objs.size ∉ R:=fun hm=>by obtain ⟨o,ho⟩:=i.lookup hm;exact nn ((hnew).symm.trans ho)
   dsimp only at g z i₁ q2 ⊢
   obtain ⟨hnd,z⟩:=PR.of_if z
   ·refine ⟨kws,q1,⟨_,_,_,g,⟨rfl,rfl,rfl⟩,rfl,fun e he=>by simp at he,.nil,.nil⟩,fun h' hD hs=>?_⟩
    obtain hnd':(kws.map (·.1)).Nodup:=by rw [← q2.1];exact hnd
    rw [merged_nil_of_nodup _ hnd'] at hD
    refine z1j (id hD) fun o₂ es₂ ep₂ g₂ c₂ d₂ uu=>?_
    obtain i2:Iv gd fr R₁ σ₁ h':=i₁.other hd h0 g (fun h=>nomatch h) (fun h=>nomatch h) (fun b hb o eb=>(hs.2 b hb).trans eb) g₂ c₂.1 (fun z=>by simp at z)
    obtain i3:=i2.adopt hd h0 (.sd hD (q2.keep (List.prefix_append R₁ _) fun b o eb c=>(hs.2 b fun z=>by obtain rfl:=z;rw [g] at eb;obtain rfl:=Option.some.inj eb;simp at c).trans eb) hsys)
    obtain x2:Ext R s.heap R₁ hh:=(Ext.up u1).trans x1
    refine z _ _ _ _ ⟨x2.pre.trans (List.prefix_append _ _),fun b hb=>(List.mem_append.mp hb).elim (x2.new b) fun q=>.inr ?_,fun b o eb hb=>?_,fun b o eb=>?_⟩ i3 (.ref ?_)
    ·rw [List.mem_singleton.mp q];exact hnew
    ·refine z1o (x2.keep b o eb hb) fun o₃ g₃ k1 k2 k3 k4=>?_
     refine ⟨o₃,(hs.2 b fun z=>?_).trans g₃,k1,k2,k3,k4⟩
     rw [z,hnew] at eb;exact nn eb
    ·obtain ⟨o₃,g₃⟩:=x2.stay b o eb
     refine ⟨o₃,(hs.2 b fun z=>?_).trans g₃⟩
     rw [z,hnew] at eb;exact nn eb
    ·exact z79 i₁.len
end
end
section
open PySem PySem.W PySem.Calls PyProof.Rows PySem.SeqAt
section
variable {gd:Gd} {h h' h'':Heap} {fr:List Env} {A:Around} {env:Env} {I:z1q} {ℓ:Loc} {σ σ':AS} {R R':List Addr} {s s':Shared} {Q E:Value→Shared→Prop}
inductive ItOk (R:List Addr) (h:Heap) (k:Nat):AV→Addr→Prop
 | list {i:Nat} {a it:Addr}:R[i]? = some a→h.IsListIter it a k→ItOk R h k (.ref i) it
 | rng {n:Int} {it:Addr}:IsRangeIter h it k (n - k) 1→ItOk R h k (.rng n) it
 | ascii {x:Str} {t:Tok} {it:Addr}:h.IsStrIter it "str_ascii_iterator" x t k→ItOk R h k (.str x) it
 | wide {x:Str} {t:Tok} {it:Addr}:h.IsStrIter it "str_iterator" x t k→ItOk R h k (.str x) it
theorem ItOk.at {k:Nat} {src:AV} {it:Addr} (x:ItOk R h k src it) (p:R <+: R') (e:∀ o,h.get? it = some o→h'.get? it = some o):ItOk R' h' k src it:=by
 induction x with
 | list r y=>refine z0e y fun o ho z=>?_;exact .list (z5w p r) ⟨o,e o ho,z⟩
 | rng y=>exact .rng (e _ y)
 | ascii y=>obtain ⟨o,ho,z⟩:=y;exact .ascii ⟨o,e o ho,z⟩
 | wide y=>obtain ⟨o,ho,z⟩:=y;exact .wide ⟨o,e o ho,z⟩
theorem ItOk.obj {k:Nat} {src:AV} {it:Addr} (x:ItOk R h k src it):∃ o,h.get? it = some o∧o.cls ≠ .type "tuple"∧o.cls ≠ .type "range"∧o.cls ≠ .type "frame"∧o.cls ≠ .type "dict"∧o.cls ≠ .type "cell"∧o.cls ≠ .type "list":=by
 induction x with
 | list r y=>refine z1m y fun o ho hc uu=>?_;exact ⟨o,ho,by rw [hc];simp,by rw [hc];simp,by rw [hc];simp,by rw [hc];simp,by rw [hc];simp,by rw [hc];simp⟩
 | rng y=>exact ⟨_,y,by simp,by simp,by simp,by simp,by simp,by simp⟩
 | ascii y=>refine z1m y fun o ho hc uu=>?_;exact ⟨o,ho,by rw [hc];simp,by rw [hc];simp,by rw [hc];simp,by rw [hc];simp,by rw [hc];simp,by rw [hc];simp⟩
 | wide y=>refine z1m y fun o ho hc uu=>?_;exact ⟨o,ho,by rw [hc];simp,by rw [hc];simp,by rw [hc];simp,by rw [hc];simp,by rw [hc];simp,by rw [hc];simp⟩
theorem Iv.but (i:Iv gd fr R σ h) {it:Addr} {o:Obj} (eo:h.get? it = some o) (c1:o.cls ≠ .type "tuple") (c2:o.cls ≠ .type "range") (c3:o.cls ≠ .type "frame") (hit:it ∉ R) (h0:gd.h₀.get? it = none)
  (k:∀ b o,b ≠ it→h.get? b = some o→h'.get? b = some o):Iv gd fr R σ h':=by
 have tups:∀ b o,h.get? b = some o→(o.cls = .type "tuple"∨o.cls = .type "range")→h'.get? b = some o:=fun b q eb c=>k b q (fun z=>by subst z;rw [eo] at eb;obtain rfl:=Option.some.inj eb;exact c.elim c1 c2) eb
 refine ⟨fun b q eb=>k b q (fun z=>by subst z;exact nn ((h0).symm.trans eb)) (i.stays b q eb),i.fresh,i.nodup,i.len,fun j q b eq rq=>(i.obj j q b eq rq).keep (List.prefix_refl R) tups fun o₁ e₁=>k b o₁ (fun z=>hit (z ▸ List.mem_of_getElem? rq)) e₁,?_⟩
 refine i.frames.keep fun b q eb c=>⟨q,k b q (fun z=>by subst z;rw [eo] at eb;obtain rfl:=Option.some.inj eb;exact c3 c) eb,rfl,?_⟩
 by_cases z:∃ es' n',q.data = .dict es' n'
 ·refine z58 z fun es n z=>?_;exact ⟨es,n,fun uu=>z⟩
 ·exact ⟨#[],0,fun y=>absurd y z⟩
theorem Ext.but (x:Ext R h R' h') {it:Addr} (hn:h.get? it = none) (k:∀ b o,b ≠ it→h'.get? b = some o→h''.get? b = some o):Ext R h R' h'':=by
 have ne:∀ {b o},h.get? b = some o→b ≠ it:=fun eb z=>by rw [z,hn] at eb;exact nn eb
 refine ⟨x.pre,x.new,fun b o eb hb=>?_,fun b o eb=>?_⟩
 ·refine z0e (x.keep b o eb hb) fun o' e' r=>?_
  exact ⟨o',k b o' (ne eb) e',r⟩
 ·refine oEA (x.stay b o eb) fun o' e'=>?_
  exact ⟨o',k b o' (ne eb) e'⟩
theorem zgu (i:Iv gd fr R σ s.heap) {src:AV} {v:Value} (q:VRel R s.heap src v) (hd:z44 σ 0 src ≠ none)
  (h:∀ h' tk,Up s.heap h'→ItOk R h' 0 src s.heap.objs.size→(∀ b,s.heap.get? b = none→b ≠ s.heap.objs.size→h'.get? b = none)→Q (.ref s.heap.objs.size) { s with heap:=h',toks:=tk }):wpAny gd.m A (pyIter v) Q E s:=by
 have old:∀ (o:Obj) b,s.heap.get? b = none→b ≠ s.heap.objs.size→(s.heap.push o).get? b = none:=fun o b eb hb=>by
  refine (Heap.get?_push_ne _ _ _ hb).trans ?_;exact eb
 cases src with
 | ref j =>
  cases e:z34 σ j with
  | none=>exact absurd (show (z34 σ j).map _ = none by rw [e];rfl) hd
  | some xs =>
   refine z0e (z3l rfl q) fun a zq9n1 r1=>?_;obtain rfl:=zq9n1
   refine z27 (z5y i e r1) fun ws n eo vr=>?_
   exact wpAny_pyIter_list (z6a eo) (h _ s.toks (Up.push _ _) (.list r1 ⟨_,Heap.get?_push_size _ rfl,rfl,rfl⟩) (old _))
 | rng n =>
  cases q with
  | @rng _ r t u v' eo a b =>
   have hs:Builtin.Range.rangeSize 0 n 1 = n:=by
    rw [rangeSize_one];split <;> lia
   refine wpAny_pyIter_range (t:=t) (u:=u) (v:=v') eo ?_ ?_
   ·exact small_one (of_decide_eq_true rfl) (of_decide_eq_true rfl) (by lia) (by lia)
   ·rw [hs]
    exact h _ s.toks (Up.push _ _) (.rng (by simp only [Int.natCast_zero,Int.sub_zero];exact Heap.get?_push_size _ rfl)) (old _)
 | str x =>
  cases q with
  | str _ t =>
   cases ha:x.cps.all (· < 128)
   ·exact wpAny_pyIter_wide ha (h _ s.toks (Up.push _ _) (.wide ⟨_,Heap.get?_push_size _ rfl,rfl,rfl⟩) (old _))
   ·exact wpAny_pyIter_ascii ha (h _ s.toks (Up.push _ _) (.ascii ⟨_,Heap.get?_push_size _ rfl,rfl,rfl⟩) (old _))
 | _=>exact absurd rfl hd
theorem z9l (hh:A.handled = none) (i:Iv gd fr R σ s.heap) {src:AV} {k:Nat} {it:Addr} (x:ItOk R s.heap k src it) {r:Option AV} (hd:z44 σ k src = some r) {Q:Option Value→Shared→Prop}
  (hN:r = none→∀ h' tk,(∀ b o,b ≠ it→s.heap.get? b = some o→h'.get? b = some o)→Q none { s with heap:=h',toks:=tk })
  (hS:∀ a,r = some a→∀ v h' tk,Heap.SameBut it s.heap h'→ItOk R h' (k + 1) src it→VRel R s.heap a v→Q (some v) { s with heap:=h',toks:=tk }):wpAny gd.m A (pyNext (.ref it)) Q E s:=by
 induction x with
 | @list j a _ r1 y =>
  refine z0e (Option.map_eq_some_iff.mp hd) fun xs e zq11n2=>?_;obtain rfl:=zq11n2
  refine z27 (z5y i e r1) fun ws n eo vr=>?_
  cases hk:xs[k]? with
  | none =>
   rw [hk] at hN
   refine wpAny_pyNext_list_end hh y (z6a eo) ?_ fun h' e=>hN rfl h' s.toks fun b o hb eb=>e b o hb eb
   obtain hw:ws.size = xs.length:=by rw [vr.length];rfl
   rw [Array.getElem?_eq_none_iff,hw];exact List.getElem?_eq_none_iff.mp hk
  | some b =>
   rw [hk] at hS
   refine z0e (vr.get hk) fun v h1 h2=>?_
   rw [Array.getElem?_toList] at h1
   exact wpAny_pyNext_list_item y (z6a eo) h1 fun h' y' e=>hS b rfl v h' s.toks e (.list r1 y') h2
 | @rng n _ y =>
  obtain rfl:=Option.some.inj hd
  by_cases hk:(k:Int) < n
  ·rw [if_pos hk] at hN hS
   refine wpAny_pyNext_range_item y (by lia) fun h' y' e=>hS _ rfl _ h' _ e (.rng ?_) (.int _ _)
   obtain e1:((k + 1:Nat):Int) = (k:Int) + 1:=by lia
   rw [e1,show n - ((k:Int) + 1) = n - k - 1 by lia]
   exact y'
  ·rw [if_neg hk] at hN hS
   exact wpAny_pyNext_range_end hh y (by lia) fun h' e=>hN rfl h' s.toks fun b o hb eb=>e b o hb eb
 | @ascii z t _ y =>
  obtain rfl:=Option.some.inj hd
  cases hk:z.cps[k]? with
  | none=>rw [hk] at hN;exact wpAny_pyNext_ascii_end hh y hk fun h' e=>hN rfl h' s.toks fun b o hb eb=>e b o hb eb
  | some c=>rw [hk] at hS;exact wpAny_pyNext_ascii_item y hk fun h' y' e=>hS _ rfl _ h' _ e (.ascii y') (.str _ _)
 | @wide z t _ y =>
  obtain rfl:=Option.some.inj hd
  cases hk:z.cps[k]? with
  | none=>rw [hk] at hN;exact wpAny_pyNext_wide_end hh y hk fun h' e=>hN rfl h' s.toks fun b o hb eb=>e b o hb eb
  | some c=>rw [hk] at hS;exact wpAny_pyNext_wide_item y hk fun h' y' e=>hS _ rfl _ h' _ e (.wide y') (.str _ _)
theorem zgv {src:AV} {k:Nat} {it:Addr} (x:ItOk R s.heap k src it) (h:Q (.ref it) s):wpAny gd.m A (pyIter (.ref it)) Q E s:=by
 induction x with
 | list _ y=>exact wpAny_pyIter_listiter y h
 | rng y=>exact wpAny_pyIter_rangeiter y h
 | ascii y=>exact wpAny_pyIter_striter_ascii y h
 | wide y=>exact wpAny_pyIter_striter_wide y h
end
end
section
open PySem PySem.W PySem.Calls PyProof.Rows PySem.SeqAt
section
variable {gd:Gd} {h h' h'':Heap} {fr:List Env} {A:Around} {env:Env} {I:z1q} {ℓ:Loc} {σ σ':AS} {R R':List Addr} {s s':Shared} {Q E:Value→Shared→Prop}
theorem z5z (env:Env) (f:Str×NameKind→List (Str×Addr)→Sem (ForInStep (List (Str×Addr))))
  (hf:∀ name kind cs,f (name,kind) cs = if kind == .free then (do let c ← cellOf env name;pure (.yield ((name,c) :: cs))) else pure (.yield cs)) :
  ∀ (names:List (Str×NameKind)) (acc:List (Str×Addr)),(∀ n∈names,n.2 = .free→∃ c,env.cells.lookup n.1 = some c) →
   ∃ cl,forIn names acc f = pure cl∧(∀ p∈cl,p∈acc∨(env.cells.lookup p.1 = some p.2∧(p.1,.free)∈names))∧(∀ y,(y,NameKind.free)∈names→(∃ c,cl.lookup y = some c))∧(∀ y c,acc.lookup y = some c→∃ c,cl.lookup y = some c) ∧
    ((names.map (·.1)).Nodup→(acc.map (·.1)).Nodup→(∀ p∈acc,p.1 ∉ names.map (·.1))→(cl.map (·.1)).Nodup)
 | []=>fun acc uu=>⟨acc,List.forIn_nil ..,fun p hp=>.inl hp,fun y hy=>(nomatch hy),fun y c h=>⟨c,h⟩,fun uu h uu=>h⟩
 | (name,kind) :: r=>fun acc hn=>by
  obtain hr:∀ n∈r,n.2 = .free→∃ c,env.cells.lookup n.1 = some c:=fun n h=>hn n (.tail _ h)
  by_cases hk:kind = .free
  ·subst hk
   refine oEA (hn (name,.free) (.head _) rfl) fun c hc=>?_
   refine z1o (z5z env f hf r ((name,c) :: acc) hr) fun cl h1 h2 h3 h4 h5=>?_
   obtain hcell:cellOf env name = pure c:=by unfold cellOf;rw [hc]
   have keep:∀ y c',((name,c) :: acc).lookup y = some c'→∃ c,cl.lookup y = some c:=h4
   refine ⟨cl,?_,fun p hp=>?_,fun y hy=>?_,fun y c' e=>?_,fun n1 n2 n3=>?_⟩
   ·rw [List.forIn_cons,hf,hcell]
    exact h1
   ·refine Or.elim (h2 p hp) (fun q=>?_) (fun zo17=>?_)
    ·rcases List.mem_cons.mp q with q | q
     ·subst q;exact .inr ⟨hc,.head _⟩
     ·exact .inl q
    ·obtain ⟨q1,q2⟩:=zo17;exact .inr ⟨q1,.tail _ q2⟩
   ·refine Or.elim (List.mem_cons.mp hy) (fun q=>?_) (fun q=>?_)
    ·cases q;exact keep name c (by simp)
    ·exact h3 y q
   ·by_cases hy:y = name
    ·subst hy;exact keep y c (by simp)
    ·exact keep y c' (by refine (List.lookup_cons).trans ?_;have:(y == name) = false:=(by simpa using hy);exact this ▸ e)
   ·simp only [List.map_cons,List.nodup_cons] at n1
    refine h5 n1.2 (List.nodup_cons.mpr ⟨fun hm=>?_,n2⟩) fun p hp=>?_
    ·refine z0e (List.mem_map.mp hm) fun p hp e=>?_
     exact n3 p hp (by exact e ▸ .head _)
    ·refine Or.elim (List.mem_cons.mp hp) (fun zo33=>?_) (fun hp=>?_)
     ·obtain rfl:=zo33;exact n1.1
     ·exact fun hm=>n3 p hp (.tail _ hm)
  ·refine z1o (z5z env f hf r acc hr) fun cl h1 h2 h3 h4 h5=>?_
   obtain hb:(kind == NameKind.free) = false:=by simpa using hk
   refine ⟨cl,?_,fun p hp=>(h2 p hp).imp id fun q=>⟨q.1,.tail _ q.2⟩,fun y hy=>?_,h4,fun n1 n2 n3=>h5 (List.nodup_cons.mp n1).2 n2 fun p hp hm=>n3 p hp (.tail _ hm)⟩
   ·rw [List.forIn_cons,hf,hb]
    exact h1
   ·refine Or.elim (List.mem_cons.mp hy) (fun q=>?_) (fun q=>?_)
    ·cases q;exact absurd rfl hk
    ·exact h3 y q
theorem zdf {env:Env} (ha:env.cells.Pairwise fun x y=>x.2 ≠ y.2):∀ {cl:List (Str×Addr)},(∀ p∈cl,env.cells.lookup p.1 = some p.2)→(cl.map (·.1)).Nodup→cl.Pairwise fun x y=>x.2 ≠ y.2
 | []=>fun uu uu=>.nil
 | p :: cl=>fun h2 hnc=>by
  simp only [List.map_cons,List.nodup_cons] at hnc
  refine List.pairwise_cons.mpr ⟨fun q hq e=>hnc.1 ?_,zdf ha (fun q hq=>h2 q (.tail _ hq)) hnc.2⟩
  obtain a1:=mem_of_lookup (h2 p (.head _))
  obtain a2:=mem_of_lookup (h2 q (.tail _ hq))
  rw [← e] at a2
  have:=name_of_addr ha a1 a2
  exact this ▸ List.mem_map_of_mem hq
theorem zf3 {scope:Scope} (hn:∀ n∈scope.names,n.2 = .free→∃ c,env.cells.lookup n.1 = some c) (hnd:(scope.names.map (·.1)).Nodup) (ha:env.cells.Pairwise fun x y=>x.2 ≠ y.2) :
  ∃ cl,closureFor scope env = pure cl∧(∀ p∈cl,env.cells.lookup p.1 = some p.2∧(p.1,NameKind.free)∈scope.names)∧(∀ y,(y,NameKind.free)∈scope.names→∃ c,cl.lookup y = some c)∧cl.Pairwise fun x y=>x.2 ≠ y.2:=by
 have e:closureFor scope env = (forIn scope.names ([]:List (Str×Addr)) (fun x cs=>if (x.2 == NameKind.free) = true then (cellOf env x.1 >>= fun c=>pure (ForInStep.yield ((x.1,c) :: cs))) else pure (ForInStep.yield cs)) >>= fun cs=>pure cs):=by
  dsimp only [closureFor]
 refine z1o (z5z env (fun x cs=>if (x.2 == NameKind.free) = true then (cellOf env x.1 >>= fun c=>pure (ForInStep.yield ((x.1,c) :: cs))) else pure (ForInStep.yield cs)) (fun name kind cs=>rfl) scope.names [] hn) fun cl h1 h2 h3 uu h5=>?_
 have h2':∀ p∈cl,env.cells.lookup p.1 = some p.2∧(p.1,NameKind.free)∈scope.names:=fun p hp=>(h2 p hp).elim (fun q=>nomatch q) id
 refine ⟨cl,?_,h2',h3,?_⟩
 ·rw [e,h1,pure_bind]
 ·obtain hnc:=h5 hnd .nil (fun p hp=>nomatch hp)
  exact zdf ha (fun p hp=>(h2' p hp).1) hnc
theorem z2x {y:Str} {k:NameKind} {env:Env}:∀ {names:List (Str×NameKind)},names.lookup y = some k →
  ∃ k',(names.map fun (n,k)=>if (k == NameKind.free && env.scope.kind == .function && env.kindOf n == some .cell) then (n,NameKind.cell) else (n,k)).lookup y = some k'∧(k' = k∨(k = .free∧k' = .cell))
 | []=>fun h=>by simp at h
 | (n,q) :: r=>fun h=>by
  show ∃ k',List.lookup y ((if (q == NameKind.free && env.scope.kind == .function && env.kindOf n == some .cell) = true then (n,NameKind.cell) else (n,q)) :: _) = some k'∧_
  cases hx:y == n with
  | true =>
   simp only [List.lookup_cons,hx] at h
   obtain rfl:q = k:=by simpa using h
   by_cases hc:(q == NameKind.free && env.scope.kind == .function && env.kindOf n == some .cell) = true
   ·rw [if_pos hc]
    simp only [Bool.and_eq_true,beq_iff_eq] at hc
    exact ⟨.cell,by simp [List.lookup_cons,hx],.inr ⟨hc.1.1,rfl⟩⟩
   ·rw [if_neg hc];exact ⟨q,by simp only [List.lookup_cons,hx],.inl rfl⟩
  | false =>
   simp only [List.lookup_cons,hx] at h
   refine z0e (z2x (env:=env) h) fun k' h1 h2=>?_
   refine ⟨k',?_,h2⟩
   by_cases hc:(q == NameKind.free && env.scope.kind == .function && env.kindOf n == some .cell) = true
   ·rw [if_pos hc];simp only [List.lookup_cons,hx];exact h1
   ·rw [if_neg hc];simp only [List.lookup_cons,hx];exact h1
theorem z3m {y:Str} {k':NameKind} {env:Env} {names:List (Str×NameKind)}
  (h:(names.map fun (n,k)=>if (k == NameKind.free && env.scope.kind == .function && env.kindOf n == some .cell) then (n,NameKind.cell) else (n,k)).lookup y = some k'):∃ k,names.lookup y = some k∧(k' = k∨(k = .free∧k' = .cell)):=by
 cases e:names.lookup y with
 | some k =>
  refine z0e (z2x (env:=env) e) fun k₂ h1 h2=>?_
  rw [h] at h1;obtain rfl:=Option.some.inj h1
  exact ⟨k,rfl,h2⟩
 | none =>
  exfalso
  induction names with
  | nil=>simp at h
  | cons a r ih =>
   obtain ⟨n,q⟩:=a
   cases hx:y == n with
   | true=>simp [List.lookup_cons,hx] at e
   | false =>
    simp only [List.lookup_cons,hx] at e
    refine ih ?_ e
    change List.lookup y ((if (q == NameKind.free && env.scope.kind == .function && env.kindOf n == some .cell) = true then (n,NameKind.cell) else (n,q)) :: _) = some k' at h
    by_cases hc:(q == NameKind.free && env.scope.kind == .function && env.kindOf n == some .cell) = true
    ·rw [if_pos hc] at h;simpa only [List.lookup_cons,hx] using h
    ·rw [if_neg hc] at h;simpa only [List.lookup_cons,hx] using h
structure zax (I:z1q) (ℓ:Loc) (scope:Scope) (x:Str):Prop where
 so:zng scope.names = true
 nd:(scope.names.map (·.1)).Nodup
 kind:scope.kind = .function
 tgt:scope.names.lookup x = some .local
 loc:∀ y,(y,NameKind.local)∈scope.names→scope.names.lookup y = some .local∧(y = x∨look ℓ y = none)
 noCell:∀ n∈scope.names,n.2 ≠ .cell
 free:∀ y,(y,NameKind.free)∈scope.names→(I.sc.lookup y = some .cell∨I.sc.lookup y = some .free)∧y ≠ x
theorem zgw {scope:Scope} {x:Str} (h:z70 I ℓ scope x = true):zax I ℓ scope x:=by
 unfold z70 at h
 simp only [Bool.and_eq_true,decide_eq_true_eq,List.all_eq_true] at h
 refine oAA h fun zq8n0 h5=>?_;obtain ⟨⟨⟨h1,h2⟩,h3⟩,h4⟩:=zq8n0
 refine ⟨h1,h2,h3,h4,fun y hy=>?_,fun n hn q=>?_,fun y hy=>?_⟩
 ·obtain this:=Bool.and_eq_true_iff.mp (h5 _ hy)
  exact ⟨of_decide_eq_true this.1,(Bool.or_eq_true_iff.mp this.2).imp of_decide_eq_true Option.isNone_iff_eq_none.mp⟩
 ·have:=h5 _ hn
  obtain ⟨a,b⟩:=n
  dsimp only at q this;subst q;exact nf this
 ·obtain this:=Bool.and_eq_true_iff.mp (h5 _ hy)
  exact ⟨(Bool.or_eq_true_iff.mp this.1).imp of_decide_eq_true of_decide_eq_true,of_decide_eq_false ((Bool.not_eq_true' _).mp this.2)⟩
theorem zgx {sc:List (Str×NameKind)} (h:zng sc = true):(z1g sc (Str.ofString "__debug__") = false∧z43 sc (Str.ofString "__debug__") = false)∧z1g sc (Str.ofString "__classdict__") = false∧sc.lookup (Str.ofString "super") ≠ some .globalImplicit:=by
 unfold zng at h
 simp only [Bool.and_eq_true,Bool.not_eq_true',decide_eq_false_iff_not] at h
 exact ⟨⟨h.1,h.2.1⟩,h.2.2.1,h.2.2.2⟩
theorem zoa (C:Cx gd fr A env I) {scope:Scope} {x:Str} (O:zax I ℓ scope x) (cl:List (Str×Addr)) (c:Addr):Cx gd fr A (compEnvC scope cl c env) (z71 I scope.names):=by
 refine zmh (zgx O.so) fun s1 s2 s3=>?_
 refine ⟨C.top,C.hh,C.frames,C.units,C.call,C.glob,C.meth,C.kn,C.cls,C.ref,C.frz,fun y e=>?_,fun y e=>?_,fun y e=>?_,s1,s2,O.kind,fun e=>?_,fun e=>(by exact nf e),C.room⟩
 ·exact lookup_relabel_local e
 ·rcases e with e | e
  ·exact absurd rfl (O.noCell _ (mem_of_lookup e))
  ·refine z0e (z2x (env:=env) e) fun k' h1 h2=>?_
   rcases h2 with rfl | ⟨_,rfl⟩
   ·exact .inr h1
   ·exact .inl h1
 ·refine z0e (z2x (env:=env) e) fun k' h1 h2=>?_
  rcases h2 with rfl | ⟨q,_⟩
  ·exact h1
  ·cases q
 ·refine z0e (z3m (env:=env) e) fun k h1 h2=>?_
  rcases h2 with rfl | ⟨_,q⟩
  ·exact s3 h1
  ·cases q
theorem zk5 (C:Cx gd fr A env I) (L:LocOk gd env ℓ R h) {scope:Scope} {x:Str} (O:zax I ℓ scope x) {cl:List (Str×Addr)} (hcl:∀ p∈cl,env.cells.lookup p.1 = some p.2∧(p.1,NameKind.free)∈scope.names) (hcl':∀ y,(y,NameKind.free)∈scope.names→∃ c,cl.lookup y = some c)
  (hpw:cl.Pairwise fun x y=>x.2 ≠ y.2) {c:Addr} {m:Str→Option Value} (hc:c ∉ R) (h0:gd.h₀.get? c = none) (ho:∃ o,h.get? c = some o∧o.cls = .type "dict") (hn:h.Ns c m) {a:AV} {v:Value} (hm:m x = some v) (q:VRel R h a v) :
  LocOk gd (compEnvC scope cl c env) (z1e ℓ x a) R h:=by
 refine z0e ho fun o ho hoc=>?_
 have kfree:∀ y,(compEnvC scope cl c env).kindOf y = some .cell∨(compEnvC scope cl c env).kindOf y = some .free→(y,NameKind.free)∈scope.names:=fun y e=>by
  rcases e with e | e
  ·refine z0e (z3m (env:=env) e) fun k h1 h2=>?_
   rcases h2 with rfl | ⟨rfl,_⟩
   ·exact absurd rfl (O.noCell _ (mem_of_lookup h1))
   ·exact mem_of_lookup h1
  ·refine z0e (z3m (env:=env) e) fun k h1 h2=>?_
   rcases h2 with rfl | ⟨_,q⟩
   ·exact mem_of_lookup h1
   ·cases q
 obtain look_same:∀ y c',cl.lookup y = some c'→env.cells.lookup y = some c':=fun y c' e=>(hcl _ (mem_of_lookup e)).1
 refine ⟨O.kind,L.glob,L.blt,hc,h0,⟨o,ho,.inr hoc⟩,⟨m,hn,fun y u e k=>?_⟩,fun y k=>hcl' y (kfree y k),fun y u e k=>?_,fun y c' hp=>?_,hpw⟩
 ·refine z0e (z3m (env:=env) k) fun k' h1 h2=>?_
  rcases h2 with rfl | ⟨_,q⟩
  ·rw [z1w] at e
   by_cases hy:y = x
   ·rw [if_pos hy] at e;obtain rfl:=Option.some.inj e;subst hy;exact ⟨v,hm,q⟩
   ·rw [if_neg hy] at e
    rcases (O.loc y (mem_of_lookup h1)).2 with z | z
    ·exact absurd z hy
    ·exact nn ((z).symm.trans e)
  ·cases q
 ·obtain hf:=kfree y k
  refine oEA (hcl' y hf) fun c' h1=>?_
  obtain hy:=(O.free y hf).2
  rw [z1w,if_neg hy] at e
  refine z1c (L.cel y u e (C.scc y (O.free y hf).1)) fun c₂ v' h2 h3 h4=>?_
  rw [look_same y c' h1] at h2;obtain rfl:=Option.some.inj h2
  exact ⟨c',v',h1,h3,h4⟩
 ·refine z3z (L.cells y c' (mem_of_lookup (hcl _ hp).1)) fun n1 n2 n3 v' n4=>?_
  refine ⟨n1,n2,fun z=>?_,v',n4⟩
  have z:c' = c:=z
  rw [z,ho] at n4;obtain rfl:=Option.some.inj n4;simp at hoc
theorem Iv.fresh_of (i:Iv gd fr R σ h) {a:Addr} (hn:h.get? a = none):a ∉ R∧gd.h₀.get? a = none :=
 by
 refine ⟨fun hm=>?_,?_⟩
 ·refine oEA (i.lookup hm) fun o ho=>?_
  exact nn ((hn).symm.trans ho)
 ·cases q:gd.h₀.get? a with
  | none=>rfl
  | some o=>rw [i.stays _ _ q] at hn;exact nomatch hn
theorem Ext.exact (x:Ext R h R' h') {a:Addr} {o:Obj} (ha:a ∉ R) (e:h.get? a = some o) (c:o.cls ≠ .type "frame"):h'.get? a = some o:=by
 refine z1o (x.keep a o e ha) fun o' e' uu uu uu f=>?_
 rw [e',f c]
theorem z8w {M:Model} {env:Env} {name:Str} {m:Str→Option Value} {v:Value} {Q:Unit→Shared→Prop} {o:Obj} (hl:env.kindOf name = some .local) (hk:env.scope.kind = .function) (ho:s.heap.get? env.locals = some o) (hn:s.heap.Ns env.locals m)
  (hQ:∀ h' o' es ep,h'.get? env.locals = some o'→o'.cls = o.cls→o'.data = .dict es ep→h'.Ns env.locals (fun x=>if x = name then some v else m x)→Heap.SameBut env.locals s.heap h'→Q () { s with heap:=h',toks:=s.toks + 1 }) :
  wpAny M A (storeName env name v) Q E s:=by
 refine z1j (id hn) fun o₁ es ep ho₁ hd hk₁ hm=>?_
 rw [ho] at ho₁;obtain rfl:=Option.some.inj ho₁
 rw [storeName_local hl (hk ▸ rfl)]
 exact z7c ho hd hk₁ hm fun h' o' es' ep' a b uu d uu n' s'=>hQ h' o' es' ep' a b d n' s'
theorem zf4 {M:Model} {scope:Scope} {globals:Addr} {closure:List (Str×Addr)} {qual:Str} {func:Option Addr} {code:Value} {outer:Env} {builtins:Addr} {Q:Env→Shared→Prop} (hc:∀ x∈scope.names,x.2 ≠ .cell)
  (hQ:Q (newEnv scope s.heap.objs.size globals closure qual func code (some outer) builtins) { s with heap:=s.heap.push { cls:=.type "dict",data:=.dict #[] } }) :
  wpAny M A (newFunctionEnv scope globals closure [] qual func code (some outer) builtins) Q E s:=by
 dsimp only [newFunctionEnv,Option.isSome_some,if_true]
 refine wpAny_bind (wpAny_alloc ?_)
 rw [forIn_yield_id closure (fun x hx c=>by
  obtain ⟨name,kind⟩:=x
  have:(kind == NameKind.cell) = false:=by simpa using hc _ hx
  simp only [this,Bool.false_eq_true,if_false])]
 refine wpAny_bind (wpAny_pure (wpAny_bind ?_))
 rw [List.forIn_nil]
 exact wpAny_pure (wpAny_pure hQ)
theorem zmn {e:Expr} {I:z1q} {ℓ:Loc} {σ:AS} (h:z09 e I ℓ σ ≠ .bad) (x:Value):foldedSetIterable e env x = pure x:=by
 cases e <;> first | rfl | exact absurd rfl h
noncomputable def zul {β:Type} (go:β→Res β) (σ:AS):Ctl β→Res β
 | .go b=>go b
 | .stop b=>.ok b σ
noncomputable abbrev zgy {β:Type} (src:AV) (body:AV→β→AS→Res (Ctl β)) (n k:Nat) (σ:AS):Ctl β→Res β:=zul (fun b=>z1b src body n k b σ) σ
theorem z4p {β:Type} {src:AV} {body:AV→β→AS→Res (Ctl β)} {n k:Nat} {b:β} {P:Res β→Prop} (h:P (z1b src body n k b σ)) (hb:¬ P .bad):∃ m,n = m + 1∧((z44 σ k src = some none∧P (.ok b σ)) ∨
   ∃ x c σ',z44 σ k src = some (some x)∧body x b σ = .ok c σ'∧P (zgy src body m (k + 1) σ' c)):=by
 induction n with
 | zero=>exact absurd h hb
 | succ m =>
  refine ⟨m,rfl,?_⟩
  have h:P (zg8 (fun x=>body x b σ) (z1b src body m (k + 1)) b σ (z44 σ k src)):=h
  cases e:z44 σ k src with
  | none=>rw [e] at h;exact absurd h hb
  | some d =>
   induction d with
   | none=>rw [e] at h;exact .inl ⟨rfl,h⟩
   | some x =>
    rw [e] at h
    have h:P (zag (z1b src body m (k + 1)) (body x b σ)):=h
    cases e2:body x b σ with
    | ok c σ'=>rw [e2] at h;exact .inr ⟨x,c,σ',rfl,e2,by cases c <;> exact h⟩
    | _=>rw [e2] at h;exact absurd h hb
theorem Res.bind_ok {α β:Type} {r:Res α} {f:α→AS→Res β} {b:β} {σ:AS} (h:r.bind f = .ok b σ):∃ a σ',r = .ok a σ'∧f a σ' = .ok b σ:=by
 induction r with
 | ok a σ'=>exact ⟨a,σ',rfl,h⟩
 | exc m σ'=>cases h
 | bad=>cases h
theorem PR.okE {α β:Type} {Rl:List Addr→Heap→α→β→Prop} {Q:β→Shared→Prop} {E':Value→Shared→Prop} {r:Res α} {a:α} {σ':AS} (e:r = .ok a σ')
  (h:∀ b R' h' tk,Ext R s.heap R' h'→Iv gd fr R' σ' h'→Rl R' h' a b→Q b { s with heap:=h',toks:=tk }):PR gd fr Rl Q E' R s r:=by
 subst e;exact h
structure zr7 (gd:Gd) (h:Heap) (it D c:Addr):Prop where
 sit:h.get? it = none
 sD:h.get? D = none
 sc:h.get? c = none
 it0:gd.h₀.get? it = none
 D0:gd.h₀.get? D = none
 c0:gd.h₀.get? c = none
 Dit:D ≠ it
 Dc:D ≠ c
 itc:it ≠ c
structure CSt (gd:Gd) (fr:List Env) (R:List Addr) (h:Heap) (src:AV) (it D c:Addr) (k:Nat) (b:List AV) (σ':AS) (R':List Addr) (g:Heap) (ws:Array Value) (cnt:Nat) (m:Str→Option Value):Prop where
 x:Ext R h R' g
 i:Iv gd fr R' σ' g
 itk:ItOk R' g k src it
 n1:it ∉ R'
 n2:D ∉ R'
 n3:c ∉ R'
 gD:g.get? D = some (listOf ws cnt)
 vr:VRels R' g b ws.toList
 gc:∃ o,g.get? c = some o∧o.cls = .type "dict"
 ns:g.Ns c m
structure CSh (gd:Gd) (fr:List Env) (R:List Addr) (h:Heap) (D:Addr) (σ':AS) (R':List Addr) (g g2:Heap) (ws:Array Value) (cnt:Nat):Prop where
 i:Iv gd fr R' σ' g2
 x:Ext R h R' g2
 t:∀ b o,g.get? b = some o→(o.cls = .type "tuple"∨o.cls = .type "range")→g2.get? b = some o
 gD:g2.get? D = some (listOf ws cnt)
theorem CSt.shift {src:AV} {it D c:Addr} {k:Nat} {b:List AV} {g g1 g2:Heap} {ws:Array Value} {cnt:Nat} {m:Str→Option Value} (S:CSt gd fr R h src it D c k b σ' R' g ws cnt m) (F:zr7 gd h it D c)
  (k1:∀ b o,b ≠ it→g.get? b = some o→g1.get? b = some o) (k2:∀ b o,b ≠ c→g1.get? b = some o→g2.get? b = some o):CSh gd fr R h D σ' R' g g2 ws cnt:=by
 refine z1o S.itk.obj fun oi gi c1 c2 c3 uu=>?_
 refine z0e S.gc fun oc gc hoc=>?_
 obtain kc:=k1 c oc (Ne.symm F.itc) gc
 refine ⟨(S.i.but gi c1 c2 c3 S.n1 F.it0 k1).but kc (by rw [hoc];decide) (by rw [hoc];decide) (by rw [hoc];decide) S.n3 F.c0 k2,(S.x.but F.sit k1).but F.sc k2,fun b o eb cc=>?_,k2 D _ F.Dc (k1 D _ F.Dit S.gD)⟩
 refine k2 b o (fun q=>?_) (k1 b o (fun q=>?_) eb)
 ·rw [q,gc] at eb;obtain rfl:=Option.some.inj eb;rw [hoc] at cc;simp at cc
 ·rw [q,gi] at eb;obtain rfl:=Option.some.inj eb;exact cc.elim c1 c2
theorem zk6 {src:AV} {it D c:Addr} {k:Nat} {b:List AV} {g g1 g2:Heap} {ws:Array Value} {cnt tk:Nat} {m:Str→Option Value} (S:CSt gd fr R s.heap src it D c k b σ' R' g ws cnt m) (F:zr7 gd s.heap it D c)
  (k1:∀ b o,b ≠ it→g.get? b = some o→g1.get? b = some o) (k2:∀ b o,b ≠ c→g1.get? b = some o→g2.get? b = some o) (h:PR gd fr RV Q E R s (z4i b σ')):Q (.ref D) { s with heap:=g2,toks:=tk }:=by
 have H:=S.shift F k1 k2
 exact h _ (R'++[D]) g2 tk ⟨H.x.pre.trans (List.prefix_append _ _),fun b hb=>(List.mem_append.mp hb).elim (H.x.new b) fun q=>.inr (by rw [List.mem_singleton.mp q];exact F.sD),H.x.keep,H.x.stay⟩
  (H.i.adopt S.n2 F.D0 (.list H.gD (S.vr.keep (List.prefix_append R' [D]) H.t))) (.ref (z79 S.i.len))
theorem zgz {src y:AV} {v:Value} {it D c:Addr} {k:Nat} {b:List AV} {g g1 g2 g3 g4:Heap} {σ₃:AS} {R₂:List Addr} {ws:Array Value} {cnt:Nat} {m:Str→Option Value} {oc2:Obj} {m':Str→Option Value} (S:CSt gd fr R s.heap src it D c k b σ' R' g ws cnt m) (F:zr7 gd s.heap it D c)
  (s1:Heap.SameBut it g g1) (s2:Heap.SameBut c g1 g2) (it1:ItOk R' g1 (k + 1) src it) (gc3:g2.get? c = some oc2) (cls3:oc2.cls = .type "dict") (hn4:g2.Ns c m') (x4:Ext R' g2 R₂ g3) (i5:Iv gd fr R₂ σ₃ g3) (q4:VRel R₂ g3 y v)
  (s4:Heap.SameBut D g3 g4) (gD5:g4.get? D = some (listOf (ws.push v) (cnt + 1))):CSt gd fr R s.heap src it D c (k + 1) (b++[y]) σ₃ R₂ g4 (ws.push v) (cnt + 1) m':=by
 have H:=S.shift F (fun b o hb e=>(s1.2 b hb).trans e) (fun b o hb e=>(s2.2 b hb).trans e)
 refine z1o it1.obj fun oi1 gi1 d1 d2 d3 uu=>?_
 have gi2:g2.get? it = some oi1:=(s2.2 it F.itc).trans gi1
 obtain gi3:=x4.exact S.n1 gi2 d3
 have gD4:=x4.exact S.n2 H.gD (of_decide_eq_true rfl)
 have t4:∀ b o,g3.get? b = some o→(o.cls = .type "tuple"∨o.cls = .type "range")→g4.get? b = some o:=fun b o eb cc=>(s4.2 b fun q=>by rw [q,gD4] at eb;obtain rfl:=Option.some.inj eb;simp at cc).trans eb
 have k4:∀ b o,b ≠ D→g3.get? b = some o→g4.get? b = some o:=fun b o hb e=>(s4.2 b hb).trans e
 refine ⟨(H.x.trans x4).but F.sD k4,i5.but gD4 (of_decide_eq_true rfl) (of_decide_eq_true rfl) (of_decide_eq_true rfl) (Keep.at x4 S.n2 H.gD) F.D0 k4,ItOk.at it1 x4.pre fun o e=>?_,Keep.at x4 S.n1 gi2,Keep.at x4 S.n2 H.gD,Keep.at x4 S.n3 gc3,gD5,?_,?_,(x4.keep.ns S.n3 hn4).sameBut s4 (Ne.symm F.Dc)⟩
 ·rw [gi1] at e;obtain rfl:=Option.some.inj e;exact k4 it _ (Ne.symm F.Dit) gi3
 ·rw [Array.toList_push]
  exact VRels.append (((S.vr.keep (List.prefix_refl R') H.t).ext H.i x4).keep (List.prefix_refl _) t4) (.cons (q4.keep (List.prefix_refl _) t4) .nil)
 ·refine z1m (x4.keep c oc2 gc3 S.n3) fun oc4 gc4 e1 uu=>?_
  exact ⟨oc4,k4 c _ (Ne.symm F.Dc) gc4,e1.trans cls3⟩
noncomputable def zh0 (elt:Expr) (I:z1q) (ℓ:Loc) (x:Str) (scope:Scope):AV→List AV→AS→Res (Ctl (List AV)):=zjr fun v σ=>z09 elt (z71 I scope.names) (z1e ℓ x v) σ
noncomputable def CInv (gd:Gd) (fr:List Env) (R:List Addr) (s:Shared) (Q E:Value→Shared→Prop) (src:AV) (it D c:Addr) (B:AV→List AV→AS→Res (Ctl (List AV))) (n:Nat) (s':Shared):Prop :=
 ∃ (k:Nat) (b:List AV) (σ':AS) (R':List Addr) (g:Heap) (tk:Nat) (ws:Array Value) (cnt:Nat) (m:Str→Option Value),s' = { s with heap:=g,toks:=tk }∧CSt gd fr R s.heap src it D c k b σ' R' g ws cnt m∧PR gd fr RV Q E R s ((z1b src B n k b σ').bind z4i)
theorem CInv.elim {src:AV} {it D c:Addr} {B:AV→List AV→AS→Res (Ctl (List AV))} {n:Nat} {P:Shared→Prop} (h:CInv gd fr R s Q E src it D c B n s')
  (f:∀ k b σ' R' g tk ws cnt m,CSt gd fr R s.heap src it D c k b σ' R' g ws cnt m→PR gd fr RV Q E R s ((z1b src B n k b σ').bind z4i)→P { s with heap:=g,toks:=tk }):P s':=by
 obtain ⟨k,b,σ',R',g,tk,ws,cnt,m,rfl,S,z⟩:=h
 exact f k b σ' R' g tk ws cnt m S z
theorem CInv.mk {src:AV} {it D c:Addr} {B:AV→List AV→AS→Res (Ctl (List AV))} {n k tk cnt:Nat} {b:List AV} {g:Heap} {ws:Array Value} {m:Str→Option Value} (S:CSt gd fr R s.heap src it D c k b σ' R' g ws cnt m) (z:PR gd fr RV Q E R s ((z1b src B n k b σ').bind z4i)):CInv gd fr R s Q E src it D c B n { s with heap:=g,toks:=tk } :=
 ⟨k,b,σ',R',g,tk,ws,cnt,m,rfl,S,z⟩
theorem zh1 {elt:Expr} {x:Str} {px:Pos} {scope:Scope} {cl:List (Str×Addr)} {src a:AV} {v:Value} {it D c:Addr} {E':Value→Shared→Prop} (C:Cx gd fr A env I) (L:LocOk gd env ℓ R s.heap) (iv:Iv gd fr R σ s.heap) (Se:SE gd fr elt) (O:zax I ℓ scope x) (hcl:∀ p∈cl,env.cells.lookup p.1 = some p.2∧(p.1,NameKind.free)∈scope.names) (hcl':∀ y,(y,NameKind.free)∈scope.names→∃ c,cl.lookup y = some c)
  (hpw:cl.Pairwise fun x y=>x.2 ≠ y.2) (F:zr7 gd s.heap it D c) {n k:Nat} {b:List AV} {ct:Ctl (List AV)} {σ' σ₂:AS} {R':List Addr} {g g1:Heap} {tk1:Nat} {ws:Array Value} {cnt:Nat} {m:Str→Option Value} (S:CSt gd fr R s.heap src it D c k b σ' R' g ws cnt m)
  (e2:zh0 elt I ℓ x scope a b σ' = .ok ct σ₂) (s1:Heap.SameBut it g g1) (it1:ItOk R' g1 (k + 1) src it) (q1:VRel R' g a v)
  (z:PR gd fr RV Q E R s (Res.bind (zgy src (zh0 elt I ℓ x scope) n (k + 1) σ₂ ct) z4i)) {Q':Shared→Prop} (h:∀ s',CInv gd fr R s Q E src it D c (zh0 elt I ℓ x scope) n s'→Q' s') :
  wpAny gd.m A (assign (.Name x px) (compEnvC scope cl c env) v) (fun uu s₁=>wpAny gd.m A (eval elt (compEnvC scope cl c env)) (fun u s₂=>wpAny gd.m A (call (.builtin "list.append") [.ref D,u]) (fun uu=>Q') E' s₂) E' s₁) E' { s with heap:=g1,toks:=tk1 }:=by
 refine z27 (Res.bind_ok e2) fun y σ₃ e3 e4=>?_
 by_cases hlen:b.length < 100000
 ·rw [if_pos hlen] at e4
  cases e4
  refine z0e S.gc fun oc gc2 hoc=>?_
  obtain kc:g1.get? c = some oc:=(s1.2 c (Ne.symm F.itc)).trans gc2
  refine wpAny_assign_Name (z8w (env:=compEnvC scope cl c env) (lookup_relabel_local O.tgt) O.kind kc (S.ns.sameBut s1 (Ne.symm F.itc)) fun g2 oc2 es2 ep2 gc3 cls3 uu hn4 s2=>?_)
  have H:=S.shift F (fun b o hb e=>(s1.2 b hb).trans e) (fun b o hb e=>(s2.2 b hb).trans e)
  obtain L3:=zk5 C (L.ext iv H.x) O hcl hcl' hpw S.n3 F.c0 ⟨oc2,gc3,cls3.trans hoc⟩ hn4 (by simp) (q1.keep (List.prefix_refl R') H.t)
  refine Se A (compEnvC scope cl c env) (z71 I scope.names) (z1e ℓ x a) σ' R' _ _ _ (zoa C O cl c) H.i L3 (PR.okE e3 fun u R₂ g3 tk3 x4 i5 q4=>?_)
  obtain hws:ws.size = b.length:=by rw [S.vr.length];rfl
  exact append_at (x4.exact S.n2 H.gD (of_decide_eq_true rfl)) (fun g4 s4 gD5=>h _ (CInv.mk (zgz S F s1 s2 it1 gc3 (cls3.trans hoc) hn4 x4 i5 q4 s4 gD5) z)) (zar (by lia))
 ·rw [if_neg hlen] at e4;cases e4
theorem zh2 {elt iter:Expr} {x:Str} {px:Pos} {scope:Scope} {pos:Pos} {cl:List (Str×Addr)} {src:AV} {it D c:Addr} (C:Cx gd fr A env I) (L:LocOk gd env ℓ R s.heap) (iv:Iv gd fr R σ s.heap) (Se:SE gd fr elt) (O:zax I ℓ scope x) (hcl:∀ p∈cl,env.cells.lookup p.1 = some p.2∧(p.1,NameKind.free)∈scope.names) (hcl':∀ y,(y,NameKind.free)∈scope.names→∃ c,cl.lookup y = some c)
  (hpw:cl.Pairwise fun x y=>x.2 ≠ y.2) (F:zr7 gd s.heap it D c) {n:Nat} {s':Shared} (S:CInv gd fr R s Q E src it D c (zh0 elt I ℓ x scope) n s') :
  codeAny gd.m A (.compLoop (.ListComp elt [⟨.Name x px,iter,[],0⟩] scope pos) 0 (.ref it) (.ref D) (compEnvC scope cl c env)) (compPost gd.m A E none Q (.ref D) c) s':=by
 refine codeAny_compLoop_list (CInv gd fr R s Q E src it D c (zh0 elt I ℓ x scope)) (fun n s' h=>h.elim (P:=fun s'=>wpAny gd.m A (pyNext (.ref it)) _ _ s') fun k b σ' R' g tk ws cnt m S z=>?_) n S
 refine (z4p (P:=fun r=>PR gd fr RV Q E R s (r.bind z4i)) z (fun h=>h)).elim fun mm hm=>hm.2.elim (fun h=>?_) (fun h=>h.elim fun a h=>h.elim fun ct h=>h.elim fun σ₂ h2=>?_)
 ·exact z9l (s:={ s with heap:=g,toks:=tk }) C.hh S.i S.itk h.1 (fun uu g1 tk1 k1=>⟨m,S.ns.extBut (fun b o hb e=>k1 b o hb e) (Ne.symm F.itc),fun g2 s2=>zk6 (s:=s) (tk:=tk1) S F k1 (fun b o hb e=>(s2.2 b hb).trans e) h.2⟩) (fun a h=>by exact nn h)
 ·exact z9l (s:={ s with heap:=g,toks:=tk }) C.hh S.i S.itk h2.1 (fun h=>by exact nomatch h) (fun a' ha v g1 tk1 s1 it1 q1=>by obtain rfl:=Option.some.inj ha;exact zh1 C L iv Se O hcl hcl' hpw F S h2.2.1 s1 it1 q1 h2.2.2 fun s' i=>⟨mm,by rw [hm.1];exact Nat.lt_succ_self _,i⟩)
theorem zob {elt iter:Expr} {x:Str} {px:Pos} {scope:Scope} {pos:Pos} (Si:SE gd fr iter) (Se:SE gd fr elt):SE gd fr (.ListComp elt [⟨.Name x px,iter,[],0⟩] scope pos):=by
 intro A env I ℓ σ R s Q E C i L h
 refine oAA (PR.of_if h) fun hc h=>?_
 obtain O:=zgw (Bool.and_eq_true_iff.mp hc).2
 obtain ⟨cl,hclos,hcl,hcl',hpw⟩:=zf3 (env:=env) (scope:=scope) (fun n hn hf=>by
  obtain ⟨n,k⟩:=n
  dsimp only at hf;subst hf
  exact L.cdom n (C.scc n (O.free n hn).1)) O.nd L.apart
 obtain hb:z09 iter I ℓ σ ≠ .bad:=fun q=>by rw [q] at h;exact h.elim
 rw [eval_ListComp]
 refine wpAny_comprehension_free (use:=none) rfl (zmn hb) hclos O.kind (fun y hy hl=>(O.loc y.1 (by obtain ⟨y,k⟩:=y;dsimp only at hl;subst hl;exact hy)).1) ?_
 refine Si A env I ℓ σ R s _ E C i L ((PR.bind0 (Rl:=RV) Aft.refl h).mono (fun v s₁ zm=>z1j zm fun src σ₁ R₁ t₁ i₁ q z=>?_) fun uu uu z=>z)
 obtain ⟨x1,hh1,tk1,rfl⟩:=t₁
 obtain hd:z44 σ₁ 0 src ≠ none:=fun q=>by
  refine z0e (z4p (P:=fun r=>PR gd fr RV Q E R s (r.bind z4i)) z (fun h=>h)) fun m uu z=>?_
  rcases z with ⟨e,_⟩ | ⟨x,c,σ',e,_⟩ <;> rw [q] at e <;> exact nn e
 refine zgu i₁ q hd fun hh2 tk2 u2 it2 old2=>?_
 obtain old:∀ a,hh1.get? a = none→s.heap.get? a = none:=fun a e=>by
  cases q:s.heap.get? a with
  | none=>rfl
  | some o=>refine oEA (x1.stay a o q) fun o' e'=>?_;exact nn ((e).symm.trans e')
 generalize hit:hh1.objs.size = it at it2 old2
 obtain itn:hh1.get? it = none:=hit ▸ z2o hh1
 refine wpAny_newObj_type ?_
 generalize hD:hh2.objs.size = D
 obtain Dn:hh2.get? D = none:=hD ▸ z2o hh2
 obtain gD:(hh2.push { cls:=.type "list",data:=.seq ([]:List Value).toArray }).get? D = some (listOf ([]:List Value).toArray 0):=hD ▸ Heap.get?_push_size _ rfl
 obtain u3:Up hh2 (hh2.push { cls:=.type "list",data:=.seq ([]:List Value).toArray }):=Up.push _ _
 obtain hCn:(hh2.push { cls:=.type "list",data:=.seq ([]:List Value).toArray }).get? (hh2.push { cls:=.type "list",data:=.seq ([]:List Value).toArray }).objs.size = none:=z2o _
 generalize hh2.push { cls:=.type "list",data:=.seq ([]:List Value).toArray } = hh3 at gD u3 hCn ⊢
 refine zf4 O.noCell ?_
 obtain gc:(hh3.push { cls:=.type "dict",data:=.dict #[] }).get? hh3.objs.size = some { cls:=.type "dict",data:=.dict #[] }:=Heap.get?_push_size _ rfl
 obtain hns:(hh3.push { cls:=.type "dict",data:=.dict #[] }).Ns hh3.objs.size (fun uu=>none):=Heap.Ns.new hh3 (.type "dict")
 obtain u5:Up hh3 (hh3.push { cls:=.type "dict",data:=.dict #[] }):=Up.push _ _
 generalize hh3.push { cls:=.type "dict",data:=.dict #[] } = hh4 at gc hns u5 ⊢
 generalize hh3.objs.size = c at gc hns hCn ⊢
 obtain ne_of:∀ {H:Heap} {a b:Addr} {o:Obj},H.get? a = none→H.get? b = some o→b ≠ a:=fun e1 e2 q=>by rw [q,e1] at e2;exact nn e2
 obtain down:∀ {H H':Heap} {a:Addr},Up H H'→H'.get? a = none→H.get? a = none:=fun {H H' a} u e=>by
  cases q:H.get? a with
  | none=>rfl
  | some o=>rw [u _ _ q] at e;exact nomatch e
 refine z0e it2.obj fun oit git uu=>?_
 obtain cn1:=down u2 (down u3 hCn)
 obtain Dn1:=down u2 Dn
 obtain fit:=i₁.fresh_of itn
 obtain fD:=i₁.fresh_of Dn1
 obtain fc:=i₁.fresh_of cn1
 obtain u4:Up hh1 hh4:=u2.trans (u3.trans u5)
 obtain F:zr7 gd s.heap it D c:=⟨old it itn,old D Dn1,old c cn1,fit.2,fD.2,fc.2,Ne.symm (ne_of Dn git),ne_of hCn gD,ne_of hCn (u3 _ _ git)⟩
 obtain it4:ItOk R₁ hh4 0 src it:=it2.at (List.prefix_refl _) fun o e=>by rw [git] at e;obtain rfl:=Option.some.inj e;exact u5 _ _ (u3 _ _ git)
 obtain S:CSt gd fr R s.heap src it D c 0 [] σ₁ R₁ hh4 #[] 0 _:=⟨x1.trans (Ext.up u4),i₁.up u4,it4,fit.1,fD.1,fc.1,u5 _ _ gD,.nil,⟨_,gc,rfl⟩,hns⟩
 obtain z':=fun tk=>zh2 (px:=px) (iter:=iter) (pos:=pos) C L i Se O hcl hcl' hpw F (CInv.mk (tk:=tk) S z)
 exact codeAny_compStart_list (z' _) (zgv it4 (z' _))
end
end
section
open PySem PySem.W PySem.Calls PyProof.Rows PySem.SeqAt
noncomputable def Own (env:Env) (b:Addr):Prop:=b = env.locals∨∃ x,(x,b)∈env.cells
structure ExtX (W:Addr→Prop) (R:List Addr) (h:Heap) (R':List Addr) (h':Heap):Prop where
 pre:R <+: R'
 new:∀ a∈R',a∈R∨h.get? a = none
 keep:∀ b o,h.get? b = some o→b ∉ R→¬ W b→∃ o',h'.get? b = some o'∧o'.cls = o.cls∧o'.dict = o.dict∧o'.data = o.data∧(o.cls ≠ .type "frame"→o' = o)
 stay:∀ b o,h.get? b = some o→∃ o',h'.get? b = some o'
section
variable {W:Addr→Prop} {R R' R'':List Addr} {h h' h'':Heap}
theorem Ext.x (k:Ext R h R' h'):ExtX W R h R' h':=⟨k.pre,k.new,fun b o e hb uu=>k.keep b o e hb,k.stay⟩
theorem ExtX.refl:ExtX W R h R h:=Ext.refl.x
theorem ExtX.trans (x:ExtX W R h R' h') (y:ExtX W R' h' R'' h''):ExtX W R h R'' h'':=by
 refine ⟨x.pre.trans y.pre,fun a ha=>?_,fun b o e hb hw=>?_,fun b o e=>(x.stay b o e).elim fun o' e'=>y.stay b o' e'⟩
 ·rcases y.new a ha with q | q
  ·exact x.new a q
  ·by_cases hR:a∈R
   ·exact .inl hR
   ·right
    cases e:h.get? a with
    | none=>rfl
    | some o=>refine oEA (x.stay a o e) fun o' e'=>?_;rw [e'] at q;exact nomatch q
 ·have hb':b ∉ R':=fun hm=>(x.new b hm).elim hb fun q=>by rw [e] at q;exact nomatch q
  refine z1o (x.keep b o e hb hw) fun o₁ e₁ c1 d1 a1 f1=>?_
  refine z1o (y.keep b o₁ e₁ hb' hw) fun o₂ e₂ c2 d2 a2 f2=>?_
  exact ⟨o₂,e₂,c2.trans c1,d2.trans d1,a2.trans a1,fun q=>(f2 (c1 ▸ q)).trans (f1 q)⟩
theorem ExtX.toExt (x:ExtX W R h R' h') (hW:∀ b,W b→h.get? b = none):Ext R h R' h' :=
 ⟨x.pre,x.new,fun b o e hb=>x.keep b o e hb (fun w=>by exact nn ((hW b w).symm.trans e)),x.stay⟩
theorem ExtX.exact (x:ExtX W R h R' h') {a:Addr} {o:Obj} (ha:a ∉ R) (hw:¬ W a) (e:h.get? a = some o) (c:o.cls ≠ .type "frame"):h'.get? a = some o:=by
 refine z1o (x.keep a o e ha hw) fun o' e' uu uu uu f=>?_
 rw [e',f c]
theorem ExtX.out (k:ExtX W R h R' h') {a:Addr} (ha:a ∉ R) {o:Obj} (e:h.get? a = some o):a ∉ R':=fun hm=>(k.new a hm).elim ha fun q=>by rw [e] at q;exact nomatch q
theorem ExtX.but (x:ExtX W R h R' h') {it:Addr} (hn:h.get? it = none) (k:∀ b o,b ≠ it→h'.get? b = some o→h''.get? b = some o):ExtX W R h R' h'':=by
 have ne:∀ {b o},h.get? b = some o→b ≠ it:=fun eb z=>by rw [z,hn] at eb;exact nn eb
 refine ⟨x.pre,x.new,fun b o eb hb hw=>?_,fun b o eb=>?_⟩
 ·refine z0e (x.keep b o eb hb hw) fun o' e' r=>?_
  exact ⟨o',k b o' (ne eb) e',r⟩
 ·refine oEA (x.stay b o eb) fun o' e'=>?_
  exact ⟨o',k b o' (ne eb) e'⟩
end
section
variable {gd:Gd} {h h' h'':Heap} {fr:List Env} {A:Around} {env:Env} {I:z1q} {ℓ ℓ':Loc} {σ σ':AS} {R R':List Addr} {s s':Shared} {W:Addr→Prop}
noncomputable def AftX (W:Addr→Prop) (R:List Addr) (s:Shared) (R':List Addr) (s':Shared):Prop:=ExtX W R s.heap R' s'.heap∧∃ h tk,s' = { s with heap:=h,toks:=tk }
theorem AftX.refl:AftX W R s R s:=⟨ExtX.refl,s.heap,s.toks,rfl⟩
theorem Aft.x (k:Aft R s R' s'):AftX W R s R' s':=⟨k.1.x,k.2⟩
theorem AftX.mk {h':Heap} {tk:Nat} (x:ExtX W R s.heap R' h'):AftX W R s R' { s with heap:=h',toks:=tk }:=⟨x,h',tk,rfl⟩
section
variable {α β γ δ:Type} (gd:Gd) (fr:List Env) (W:Addr→Prop)
noncomputable def PX (Rl:List Addr→Heap→α→β→Prop) (Q:β→Shared→Prop) (E:Value→Shared→Prop) (R:List Addr) (s:Shared):Res α→Prop
 | .ok a σ'=>∀ b R' h' tk,ExtX W R s.heap R' h'→Iv gd fr R' σ' h'→Rl R' h' a b→Q b { s with heap:=h',toks:=tk }
 | .exc m σ'=>∀ e R' h' tk,ExtX W R s.heap R' h'→Iv gd fr R' σ' h'→(∃ hs,(∀ b o,s.heap.get? b = some o→∃ o',hs.get? b = some o')∧zgd gd hs R' σ' e m h')→E (.ref e) { s with heap:=h',toks:=tk }
 | .bad=>False
end
section
variable {α β γ δ:Type} {Rl:List Addr→Heap→α→β→Prop} {Rl2:List Addr→Heap→γ→δ→Prop} {Q:β→Shared→Prop} {Q2:δ→Shared→Prop} {E:Value→Shared→Prop} {r:Res α} {f:α→AS→Res γ}
theorem PX.shift (k:AftX W R s R' s') (h:PX gd fr W Rl Q E R s r):PX gd fr W Rl Q E R' s' r:=by
 obtain ⟨k,h₁,t₁,rfl⟩:=k
 induction r with
 | ok a σ=>exact fun b R'' h' tk e i q=>h b R'' h' tk (k.trans e) i q
 | exc m σ=>exact fun b R'' h' tk e i q=>h b R'' h' tk (k.trans e) i (q.elim fun hs q=>⟨hs,fun b o eb=>(k.stay b o eb).elim fun o' e'=>q.1 b o' e',q.2⟩)
 | bad=>exact h
theorem PX.bindE (h:PX gd fr W Rl2 Q2 E R s (r.bind f)) :
  PR gd fr Rl (fun b s'=>∃ a σ' R',Aft R s R' s'∧Iv gd fr R' σ' s'.heap∧Rl R' s'.heap a b∧PX gd fr W Rl2 Q2 E R' s' (f a σ')) E R s r:=by
 induction r with
 | ok a σ=>exact fun b R' h' tk e i q=>⟨a,σ,R',Aft.mk e,i,q,PX.shift (Aft.x (Aft.mk e)) h⟩
 | exc m σ=>exact fun b R' h' tk e i q=>h b R' h' tk e.x i (q.elim fun hs q=>⟨hs,q.1,.inr q.2⟩)
 | bad=>exact h
theorem PX.bind (h:PX gd fr W Rl2 Q2 E R s (r.bind f)) :
  PX gd fr W Rl (fun b s'=>∃ a σ' R',AftX W R s R' s'∧Iv gd fr R' σ' s'.heap∧Rl R' s'.heap a b∧PX gd fr W Rl2 Q2 E R' s' (f a σ')) E R s r:=by
 induction r with
 | ok a σ=>exact fun b R' h' tk e i q=>⟨a,σ,R',AftX.mk e,i,q,PX.shift (AftX.mk e) h⟩
 | exc m σ=>exact h
 | bad=>exact h
theorem PX.mono {Q':β→Shared→Prop} {E':Value→Shared→Prop} (h:PX gd fr W Rl Q E R s r) (hQ:∀ b s',Q b s'→Q' b s') (hE:∀ e s',E e s'→E' e s'):PX gd fr W Rl Q' E' R s r:=by
 induction r with
 | ok a σ=>exact fun b R' h' tk e i q=>hQ _ _ (h b R' h' tk e i q)
 | exc m σ=>exact fun b R' h' tk e i q=>hE _ _ (h b R' h' tk e i q)
 | bad=>exact h
theorem PX.of_ok {a:α} {b:β} {σ:AS} (h:PX gd fr W Rl Q E R s (.ok a σ)) (i:Iv gd fr R σ s.heap) (q:Rl R s.heap a b):Q b s:=by
 have:=h b R s.heap s.toks ExtX.refl i q
 exact this
theorem PX.of_bind {σ:AS} {o:Option α} (h:PX gd fr W Rl2 Q2 E R s ((Res.of σ o).bind f)):∃ a,o = some a∧PX gd fr W Rl2 Q2 E R s (f a σ):=by
 induction o with
 | none=>exact h.elim
 | some a=>exact ⟨a,rfl,h⟩
theorem PX.of_if {c:Prop} [Decidable c] (h:PX gd fr W Rl Q E R s (if c then r else .bad)):c∧PX gd fr W Rl Q E R s r:=by
 by_cases hc:c
 ·rw [if_pos hc] at h;exact ⟨hc,h⟩
 ·rw [if_neg hc] at h;exact h.elim
theorem PX.of_of {σ:AS} {o:Option α} (h:PX gd fr W Rl Q E R s (Res.of σ o)):∃ a,o = some a∧PX gd fr W Rl Q E R s (.ok a σ):=by
 induction o with
 | none=>exact h.elim
 | some a=>exact ⟨a,rfl,h⟩
end
theorem SE.thenX {e:Expr} (S:SE gd fr e) {Q:Value→Shared→Prop} {E:Value→Shared→Prop} {γ δ:Type} {Rl2:List Addr→Heap→γ→δ→Prop} {Q2:δ→Shared→Prop} {f:AV→AS→Res γ} (C:Cx gd fr A env I) (i:Iv gd fr R σ s.heap) (L:LocOk gd env ℓ R s.heap)
  (h:PX gd fr W Rl2 Q2 E R s ((z09 e I ℓ σ).bind f))
  (k:∀ a v σ' R' s',Aft R s R' s'→Iv gd fr R' σ' s'.heap→LocOk gd env ℓ R' s'.heap→VRel R' s'.heap a v→PX gd fr W Rl2 Q2 E R' s' (f a σ')→Q v s'):wpAny gd.m A (eval e env) Q E s :=
 S A env I ℓ σ R s Q E C i L ((PX.bindE (Rl:=RV) h).mono (fun v s' zm=>z1j zm fun a σ' R' t i' q z=>k a v σ' R' s' t i' (L.aft i t) q z) fun uu uu z=>z)
theorem ST.thenX {e:Expr} (S:ST gd fr e) {Q:Bool→Shared→Prop} {E:Value→Shared→Prop} {γ δ:Type} {Rl2:List Addr→Heap→γ→δ→Prop} {Q2:δ→Shared→Prop} {f:Bool→AS→Res γ} (C:Cx gd fr A env I) (i:Iv gd fr R σ s.heap) (L:LocOk gd env ℓ R s.heap)
  (h:PX gd fr W Rl2 Q2 E R s ((z20 e I ℓ (z09 e I ℓ) σ).bind f))
  (k:∀ a σ' R' s',Aft R s R' s'→Iv gd fr R' σ' s'.heap→LocOk gd env ℓ R' s'.heap→PX gd fr W Rl2 Q2 E R' s' (f a σ')→Q a s'):wpAny gd.m A (isTrue e env (eval e env)) Q E s :=
 S A env I ℓ σ R s Q E C i L ((PX.bindE (Rl:=RB) h).mono (fun v s' zm=>z1j zm fun a σ' R' t i' q z=>by subst q;exact k _ σ' R' s' t i' (L.aft i t) z) fun uu uu z=>z)
theorem z5c (i:Iv gd fr R σ s.heap) (L:LocOk gd env ℓ R s.heap) {x:Str} {a:AV} {v:Value} (kx:env.kindOf x = some .local∨env.kindOf x = some .cell∨env.kindOf x = some .free) (q:VRel R s.heap a v) {Q:Unit→Shared→Prop} {E:Value→Shared→Prop}
  (h:∀ h' tk,ExtX (Own env) R s.heap R h'→Iv gd fr R σ h'→LocOk gd env (z1e ℓ x a) R h'→Q () { s with heap:=h',toks:=tk }):wpAny gd.m A (storeName env x v) Q E s:=by
 ·refine z0e L.obj fun o eo co=>?_
  refine z0e L.ns fun m hn r=>?_
  have coT:o.cls ≠ .type "tuple"∧o.cls ≠ .type "range":=by rcases co with co | co <;> rw [co] <;> decide
  rcases kx with k | k
  ·refine z8w k L.kind eo hn fun h' o' es ep g1 g2 g3 n' sb=>?_
   have tups:∀ b o,s.heap.get? b = some o→(o.cls = .type "tuple"∨o.cls = .type "range")→h'.get? b = some o:=fun b q eb c=>(sb.2 b fun z=>by subst z;rw [eo] at eb;obtain rfl:=Option.some.inj eb;exact c.elim coT.1 coT.2).trans eb
   refine h h' _ ⟨List.prefix_refl R,fun uu hb=>.inl hb,fun b q eb uu hw=>⟨q,(sb.2 b fun z=>hw (.inl z)).trans eb,rfl,rfl,rfl,fun uu=>rfl⟩,fun b q eb=>?_⟩
    (i.other L.out L.fresh eo coT.1 coT.2 (fun b hb q eb=>(sb.2 b hb).trans eb) g1 g2 fun uu=>⟨es,ep,g3⟩) ?_
   ·by_cases z:b = env.locals
    ·exact ⟨o',z ▸ g1⟩
    ·exact ⟨q,(sb.2 b z).trans eb⟩
   ·refine ⟨L.kind,L.glob,L.blt,L.out,L.fresh,⟨o',g1,by rw [g2];exact co⟩,⟨_,n',fun y u ey ky=>?_⟩,L.cdom,fun y u ey ky=>?_,fun y c hm=>?_,L.apart⟩
    ·rw [z1w] at ey
     by_cases hy:y = x
     ·rw [if_pos hy] at ey;obtain rfl:=Option.some.inj ey
      exact ⟨v,by rw [if_pos hy],q.keep (List.prefix_refl R) tups⟩
     ·rw [if_neg hy] at ey
      refine z0e (r y u ey ky) fun v' e1 e2=>?_
      exact ⟨v',by refine (if_neg hy).trans ?_;exact e1,e2.keep (List.prefix_refl R) tups⟩
    ·have hy:y ≠ x:=fun z=>by subst z;rw [k] at ky;simp at ky
     rw [z1w,if_neg hy] at ey
     refine z1c (L.cel y u ey ky) fun c v' e1 e2 e3=>?_
     refine z3z (L.cells y c (mem_of_lookup e1)) fun n1 n2 n3 v'' n4=>?_
     refine z0e e2 fun oc hoc hdc=>?_
     exact ⟨c,v',e1,⟨oc,(sb.2 c n3).trans hoc,hdc⟩,e3.keep (List.prefix_refl R) tups⟩
    ·refine z3z (L.cells y c hm) fun n1 n2 n3 v'' n4=>?_
     exact ⟨n1,n2,n3,v'',(sb.2 c n3).trans n4⟩
  ·refine oEA (L.cdom x k) fun c hc=>?_
   refine z3z (L.cells x c (mem_of_lookup hc)) fun n1 n2 n3 v0 n4=>?_
   have e0:storeName env x v = (cellOf env x >>= fun c=>cellSet c (some v)):=by
    unfold storeName
    rcases k with k | k <;> simp [k,L.kind]
   rw [e0]
   refine wpAny_bind (wpAny_cellOf hc ?_)
   refine wpAny_bind (wpAny_load n4 (wpAny_update n4 ?_))
   obtain g1:=Heap.get?_update_self (fun o=>{ o with data:=.cell (some v) }) n4 rfl
   have sb:Heap.SameBut c s.heap (s.heap.update c fun o=>{ o with data:=.cell (some v) }):=Heap.SameBut.update ..
   generalize hH:s.heap.update c (fun o=>{ o with data:=.cell (some v) }) = h' at g1 sb
   have tups:∀ b o,s.heap.get? b = some o→(o.cls = .type "tuple"∨o.cls = .type "range")→h'.get? b = some o:=fun b q eb cc=>(sb.2 b fun z=>by cases z;rw [n4] at eb;obtain rfl:=Option.some.inj eb;simp at cc).trans eb
   obtain fin:=h h' s.toks ⟨List.prefix_refl R,fun uu hb=>.inl hb,fun b q eb uu hw=>⟨q,(sb.2 b fun z=>hw (.inr ⟨x,z ▸ mem_of_lookup hc⟩)).trans eb,rfl,rfl,rfl,fun uu=>rfl⟩,fun b q eb=>by
     by_cases z:b = c
     ·exact ⟨_,z ▸ g1⟩
     ·exact ⟨q,(sb.2 b z).trans eb⟩⟩
    (i.other n1 n2 n4 (by simp) (by simp) (fun b hb q eb=>(sb.2 b hb).trans eb) g1 rfl fun z=>by simp at z)
    ⟨L.kind,L.glob,L.blt,L.out,L.fresh,⟨o,(sb.2 _ (Ne.symm n3)).trans eo,co⟩,⟨m,hn.sameBut sb (Ne.symm n3),fun y u ey ky=>by
      have hy:y ≠ x:=fun z=>by subst z;rw [ky] at k;simp at k
      rw [z1w,if_neg hy] at ey
      refine z0e (r y u ey ky) fun v' e1 e2=>?_
      exact ⟨v',e1,e2.keep (List.prefix_refl R) tups⟩⟩,L.cdom,fun y u ey ky=>by
       rw [z1w] at ey
       by_cases hy:y = x
       ·subst hy
        rw [if_pos rfl] at ey;obtain rfl:=Option.some.inj ey
        exact ⟨c,v,hc,⟨_,g1,rfl⟩,q.keep (List.prefix_refl R) tups⟩
       ·rw [if_neg hy] at ey
        refine z1c (L.cel y u ey ky) fun c' v' e1 e2 e3=>?_
        refine z0e e2 fun oc hoc hdc=>?_
        obtain hne:c' ≠ c:=fun z=>hy (name_of_addr L.apart (mem_of_lookup e1) (z ▸ mem_of_lookup hc))
        exact ⟨c',v',e1,⟨oc,(sb.2 c' hne).trans hoc,hdc⟩,e3.keep (List.prefix_refl R) tups⟩,fun y c' hm=>by
         refine z3z (L.cells y c' hm) fun m1 m2 m3 v'' m4=>?_
         by_cases hne:c' = c
         ·exact ⟨m1,m2,m3,some v,by rw [hne,g1]⟩
         ·exact ⟨m1,m2,m3,v'',(sb.2 c' hne).trans m4⟩,L.apart⟩
   exact fin
theorem z5d (C:Cx gd fr A env I) (i:Iv gd fr R σ s.heap) (L:LocOk gd env ℓ R s.heap) {x:Str} {a:AV} {v:Value} (e:z6i I ℓ x a = some ℓ') (q:VRel R s.heap a v) {Q:Unit→Shared→Prop} {E:Value→Shared→Prop}
  (h:∀ h' tk,ExtX (Own env) R s.heap R h'→Iv gd fr R σ h'→LocOk gd env ℓ' R h'→Q () { s with heap:=h',toks:=tk }):wpAny gd.m A (storeName env x v) Q E s:=by
 unfold z6i at e
 split at e
 ·rename_i hl
  obtain rfl:=Option.some.inj e
  exact z5c i L ((C.sc x).1 hl) q h
 ·exact nn e
end
end
section
open PySem PySem.W PySem.Calls PyProof.Rows PySem.SeqAt
section
variable {gd:Gd} {h h' h'':Heap} {fr:List Env} {A:Around} {env:Env} {I:z1q} {ℓ ℓ':Loc} {σ σ':AS} {R R':List Addr} {s s':Shared} {W:Addr→Prop}
theorem z9m {E:Value→Shared→Prop} {l:Addr} {ws:Array Value} {n:Nat} {k:Int} {t:Tok} {v:Value} {Q:Unit→Shared→Prop} (ho:s.heap.get? l = some (listOf ws n)) (h0:0≤k) (hfit:k < 2 ^ 63) (hn:k < ws.size)
  (hQ:∀ h' n',h'.get? l = some (listOf (ws.setIfInBounds k.toNat v) n')→Heap.SameBut l s.heap h'→Q () { s with heap:=h' }):wpAny gd.m A (setItem (.ref l) (.int k t) v) Q E s:=by
 revert gd A s E l ws n k t v Q;refine no_implicit_lambda% (z76 (z06 nGd (z06 z28 (z06 z1v (z06 inferInstance (z06 inferInstance (z06 inferInstance inferInstance)))))) ?_);generalize (e7 _ _).1 = gd;generalize (e7 _ _).2.1 = A;generalize (e7 _ _).2.2.1 = s;generalize (e7 _ _).2.2.2.1 = E;generalize (e7 _ _).2.2.2.2.1 = l;generalize (e7 _ _).2.2.2.2.2.1 = ws;generalize (e7 _ _).2.2.2.2.2.2 = n;refine no_implicit_lambda% (z36 (z06 inferInstance (z06 inferInstance inferInstance)) ?_);generalize (e3 _ _).1 = k;generalize (e3 _ _).2.1 = t;generalize (e3 _ _).2.2 = v;refine no_implicit_lambda% (z2b inferInstance ?_);generalize (e1 _ _) = Q;unhygienic intros
 obtain hl:=z6a ho
 have hd:(listOf ws n).data = .seq ws n:=rfl
 unfold setItem
 try with_reducible refine wpAny_holding ?_
 refine wpAny_bind (wpAny_sequenceKey (Heap.IsList.typeIs (s:=s) hl) (by decide) ?_)
 refine wpAny_bind (wpAny_callSpecial?_slot (name:=Str.ofString "__setitem__") (Heap.IsList.typeIs (s:=s) hl) F.slot_list_setitem
  (wpAny_call_entry F.slot_list_setitem (Heap.IsList.typeIs (s:=s) hl) F.entry_list_setitem ?_ (F.args_list_setitem_3 _ _ _)))
 refine (?_:wpAny _ _ (Builtin.List.listSubscript? (.int k t) >>= _) _ _ s)
 refine wpAny_bind (wpAny_listSubscript_int (fitsIndex_of h0 hfit) ?_)
 clear hfit
 obtain ⟨j,rfl⟩:=Int.eq_ofNat_of_zero_le h0
 revert j;refine no_implicit_lambda% (z2b inferInstance ?_);generalize (e1 _ _) = j;unhygienic intros
 obtain hj:j < ws.size:=by lia
 obtain hx':ws[j]? = some ws[j]:=Array.getElem?_eq_getElem hj
 refine (?_:wpAny _ _ ((seqItemAt l j >>= fun r=>pure (r.map (j,·))) >>= _) _ _ s)
 refine wpAny_bind (wpAny_bind (wpAny_seqItemAt ho hd (wpAny_pure ?_)))
 rw [hx']
 refine (?_:wpAny _ _ (setSeqItemAt l j v >>= _) _ _ s)
 obtain ⟨n',hn'⟩:∃ n',Obj.mapSeq (fun xs=>xs.setIfInBounds j v) (listOf ws n) = listOf (ws.setIfInBounds j v) n':=⟨_,rfl⟩
 obtain g:=Heap.get?_update_self (Obj.mapSeq (·.setIfInBounds j v)) ho (by rw [hn'];rfl)
 rw [hn'] at g
 refine wpAny_bind (wpAny_setSeqItemAt ho hd ?_)
 first
  | exact wpAny_bind (wpAny_pure (wpAny_pure ⟨.none,rfl,wpAny_pure (hQ _ n' g (Heap.SameBut.update ..))⟩))
  | exact wpAny_pure ⟨.none,rfl,wpAny_pure (hQ _ n' g (Heap.SameBut.update ..))⟩
theorem zh3 {b:Addr} {ob:Obj} {h h':Heap} (eb:h.get? b = some ob) (c1:ob.cls ≠ .type "tuple") (c2:ob.cls ≠ .type "range") (sb:Heap.SameBut b h h'):∀ c o,h.get? c = some o→(o.cls = .type "tuple"∨o.cls = .type "range")→h'.get? c = some o :=
 fun c o ec cc=>(sb.2 c fun z=>by subst z;rw [eb] at ec;obtain rfl:=Option.some.inj ec;exact cc.elim c1 c2).trans ec
theorem z7f {κ:Type} [DecidableEq κ] {knd:PySem.KeyKind gd.prog gd.w κ} {b:Addr} {kws:List (κ×Value)} {h h':Heap} (eo:h.DictOf knd b kws) (sb:Heap.SameBut b h h'):∀ c o,h.get? c = some o→(o.cls = .type "tuple"∨o.cls = .type "range")→h'.get? c = some o:=by
 refine z5v eo fun ob es ep g0 hc0 uu=>?_
 exact zh3 g0 (by rw [hc0.1];decide) (by rw [hc0.1];decide) sb
theorem z8x {κ:Type} [DecidableEq κ] {knd:PySem.KeyKind gd.prog gd.w κ} {b:Addr} {kws:List (κ×Value)} {h:Heap} (eo:h.DictOf knd b kws):(kws.map (·.1)).Nodup:=by
 obtain ⟨_,_,_,_,_,_,_,_,hn⟩:=eo;exact hn
theorem zoc (i:Iv gd fr R σ s.heap) {j:Nat} {l:Addr} {n:Int} {t:Tok} {a:AV} {x:Value} {Q:Unit→Shared→Prop} {E:Value→Shared→Prop} (e:zre σ j σ[j]? n a = some σ') (r1:R[j]? = some l) (r:VRel R s.heap a x)
  (h:∀ h' tk,Iv gd fr R σ' h'→Ext R s.heap R h'→Q () { s with heap:=h',toks:=tk }):wpAny gd.m A (setItem (.ref l) (.int n t) x) Q E s:=by
 cases q:σ[j]? with
 | none=>rw [q] at e;exact nn e
 | some o =>
  rw [q] at e
  induction i.obj j o l q r1 with
  | @list xs ws cnt eo vr =>
   refine oAA (z0x e) fun hc e=>?_
   obtain rfl:=Option.some.inj e
   obtain hw:ws.size = xs.length:=by rw [vr.length];rfl
   refine z9m eo hc.1 (by lia) (by lia) fun h' n' g sb=>?_
   obtain z:(ws.setIfInBounds n.toNat x).toList = ws.toList.set n.toNat x:=by simp
   obtain w1:=i.write q r1 sb (o':=.list (xs.set n.toNat a)) (.list g (by rw [z];exact (vr.set r).keep (List.prefix_refl R) (z40 eo sb)))
   exact h h' s.toks w1.1 w1.2
  | @idd kvs kws eo vr nm =>
   refine oAA (z0x e) fun hl e=>?_
   obtain rfl:=Option.some.inj e
   obtain hlen:kws.length = kvs.length:=vr.length.symm
   refine wpAny_setItem_pairs (knd:=PySem.intKind gd.prog gd.w) (k:=n) (by simp [PySem.intKind,Value.isInt]) eo (fun h' hD sb=>?_) (by rw [hlen];exact zar (by lia))
   obtain w1:=i.write q r1 sb (o':=.idd (z1e kvs n a)) (.idd hD ((vr.store (z8x eo) r).keep (List.prefix_refl R) (z7f eo sb)) nm)
   exact h h' _ w1.1 w1.2
  | @sd kvs kws eo vr nm =>
   induction kvs with
   | cons _ _=>exact nn e
   | nil =>
    obtain rfl:=Option.some.inj e
    obtain hk:=vr.nil_inv
    subst hk
    refine wpAny_setItem_pairs (knd:=PySem.intKind gd.prog gd.w) (k:=n) (kvs:=[]) (by simp [PySem.intKind,Value.isInt]) (z8s eo) (fun h' hD sb=>?_) (Nat.zero_le _)
    obtain w1:=i.write q r1 sb (o':=.idd [(n,a)]) (.idd hD ((VPairs.cons' r ⟨rfl,.nil⟩).keep (List.prefix_refl R) (z7f eo sb)) nm)
    exact h h' _ w1.1 w1.2
  | _=>exact nn e
theorem zod (i:Iv gd fr R σ s.heap) {j:Nat} {l:Addr} {n:Str} {t:Tok} {a:AV} {x:Value} {Q:Unit→Shared→Prop} {E:Value→Shared→Prop} (e:zuu σ j σ[j]? n a = some σ') (r1:R[j]? = some l) (r:VRel R s.heap a x)
  (h:∀ h' tk,Iv gd fr R σ' h'→Ext R s.heap R h'→Q () { s with heap:=h',toks:=tk }):wpAny gd.m A (setItem (.ref l) (.str n t) x) Q E s:=by
 cases q:σ[j]? with
 | none=>rw [q] at e;exact nn e
 | some o =>
  rw [q] at e
  induction i.obj j o l q r1 with
  | @sd kvs kws eo vr nm =>
   refine oAA (z0x e) fun hl e=>?_
   obtain rfl:=Option.some.inj e
   obtain hlen:kws.length = kvs.length:=vr.length.symm
   refine wpAny_setItem_pairs (knd:=PySem.strKind gd.prog gd.w) (k:=n) (by simp [PySem.strKind,Value.isStrOf]) eo (fun h' hD sb=>?_) (by exact hlen ▸ zar (by lia))
   obtain w1:=i.write q r1 sb (o':=.sd (z1e kvs n a)) (.sd hD ((vr.store (z8x eo) r).keep (List.prefix_refl R) (z7f eo sb)) nm)
   exact h h' _ w1.1 w1.2
  | _=>exact nn e
theorem zh4 (i:Iv gd fr R σ s.heap) {o k a:AV} {u v x:Value} {Q:Unit→Shared→Prop} {E:Value→Shared→Prop} (e:z4w σ o k a = some σ') (p:VRel R s.heap o u) (q:VRel R s.heap k v) (r:VRel R s.heap a x)
  (h:∀ h' tk,Iv gd fr R σ' h'→Ext R s.heap R h'→Q () { s with heap:=h',toks:=tk }):wpAny gd.m A (setItem u v x) Q E s:=by
 refine z0e (Option.bind_eq_some_iff.mp e) fun j e1 e=>?_
 refine z0e (z3l e1 p) fun l zq7n1 r1=>?_;obtain rfl:=zq7n1
 cases k with
 | int n=>refine oEA (z3b rfl q) fun t zq8n1=>?_;obtain rfl:=zq8n1;exact zoc i e r1 r h
 | str n=>refine oEA (z8o rfl q) fun t zq9n1=>?_;obtain rfl:=zq9n1;exact zod i e r1 r h
 | _=>exact nn e
end
end
section
open PySem PySem.W PySem.Calls PyProof.Rows PySem.SeqAt
noncomputable def RL (gd:Gd) (env:Env) (R:List Addr) (h:Heap) (ℓ:Loc) (_:Unit):Prop:=LocOk gd env ℓ R h
inductive FlowR (R:List Addr) (h:Heap):z0o→Flow→Prop
 | next:FlowR R h .next .next
 | brk:FlowR R h .brk .brk
 | ret {a:AV} {v:Value}:VRel R h a v→FlowR R h (.ret a) (.ret v)
noncomputable def RF (gd:Gd) (env:Env) (R:List Addr) (h:Heap) (x:z0o×Loc) (f:Flow):Prop:=LocOk gd env x.2 R h∧FlowR R h x.1 f
section
variable (gd:Gd) (fr:List Env)
noncomputable def SAt (t:Expr):Prop :=
 ∀ (A:Around) (env:Env) (I:z1q) (ℓ:Loc) (σ:AS) (R:List Addr) (s:Shared) (a:AV) (v:Value) (Q:Unit→Shared→Prop) (E:Value→Shared→Prop),
  Cx gd fr A env I→Iv gd fr R σ s.heap→LocOk gd env ℓ R s.heap→VRel R s.heap a v→PX gd fr (Own env) (RL gd env) Q E R s (z5u t a I ℓ σ)→wpAny gd.m A (assign t env v) Q E s
noncomputable def SX (st:Stmt):Prop :=
 ∀ (A:Around) (env:Env) (I:z1q) (ℓ:Loc) (σ:AS) (R:List Addr) (s:Shared) (Q:Flow→Shared→Prop) (E:Value→Shared→Prop),
  Cx gd fr A env I→Iv gd fr R σ s.heap→LocOk gd env ℓ R s.heap→PX gd fr (Own env) (RF gd env) Q E R s (z72 st I ℓ σ)→wpAny gd.m A (exec st env) Q E s
noncomputable def SXs (sts:List Stmt):Prop :=
 ∀ (A:Around) (env:Env) (I:z1q) (ℓ:Loc) (σ:AS) (R:List Addr) (s:Shared) (Q:Flow→Shared→Prop) (E:Value→Shared→Prop),
  Cx gd fr A env I→Iv gd fr R σ s.heap→LocOk gd env ℓ R s.heap→PX gd fr (Own env) (RF gd env) Q E R s (z39 sts I ℓ σ)→wpAny gd.m A (execs sts env) Q E s
end
section
variable {gd:Gd} {h h' h'':Heap} {fr:List Env} {A:Around} {env:Env} {I:z1q} {ℓ ℓ':Loc} {σ σ':AS} {R R':List Addr} {s s':Shared} {W:Addr→Prop}
theorem zoe {x:Str} {pos:Pos}:SAt gd fr (.Name x pos):=by
 intro A env I ℓ σ R s a v Q E C i L q h
 refine z0e (PX.of_of h) fun ℓ' e h=>?_
 exact wpAny_assign_Name (z5d C i L e q fun h' tk x1 i1 L1=>h () R h' tk x1 i1 L1)
theorem zof {o:Expr} {x:Str} {pos:Pos} (So:SE gd fr o):SAt gd fr (.Attribute o x pos):=by
 intro A env I ℓ σ R s a v Q E C i L q h
 rw [arm_assign_Attribute]
 refine wpAny_bind (wpAny_holding (So.thenX C i L h fun b u σ₁ R₁ s₁ t₁ i₁ L₁ p h=>wpAny_bind (wpAny_standAt (wpAny_bind (wpAny_holding ?_)))))
 refine z0e (PX.of_bind h) fun σ₂ e h=>?_
 exact z8q C i₁ e p (q.aft i t₁) fun h' tk i2 x2=>wpAny_release (h () R₁ h' tk x2.x i2 (L₁.ext i₁ x2))
theorem zs4 {o k:Expr} {pos:Pos} (So:SE gd fr o) (Sk:SE gd fr k):SAt gd fr (.Subscript o k pos):=by
 intro A env I ℓ σ R s a v Q E C i L q h
 rw [arm_assign_Subscript]
 refine wpAny_bind (wpAny_holding (So.thenX C i L h fun b u σ₁ R₁ s₁ t₁ i₁ L₁ p h=>?_))
 refine wpAny_bind (wpAny_holding (Sk.thenX C i₁ L₁ h fun b' u' σ₂ R₂ s₂ t₂ i₂ L₂ p' h=>wpAny_bind (wpAny_standAt (wpAny_bind (wpAny_holding ?_)))))
 refine z0e (PX.of_bind h) fun σ₃ e h=>?_
 exact zh4 i₂ e (p.aft i₁ t₂) p' ((q.aft i t₁).aft i₁ t₂) fun h' tk i2 x2=>wpAny_release (h () R₂ h' tk x2.x i2 (L₂.ext i₂ x2))
theorem zh5 {es:List Expr} {n:Str×Str} (h:twoN es = some n):∃ p q,es = [.Name n.1 p,.Name n.2 q]:=by
 rcases es with _ | ⟨a,_ | ⟨b,_ | ⟨_,_⟩⟩⟩
 ·exact nn h
 ·exact nn h
 ·refine z0e (Option.bind_eq_some_iff.mp h) fun x h1 h=>?_
  refine z0e (Option.map_eq_some_iff.mp h) fun y h2 zq4n2=>?_;obtain rfl:=zq4n2
  refine oEA (z3c h1) fun p zq5n1=>?_;obtain rfl:=zq5n1
  refine oEA (z3c h2) fun q zq6n1=>?_;obtain rfl:=zq6n1
  exact ⟨p,q,rfl⟩
 ·exact nn h
theorem zk7 {h:Heap} {a:AV} {p:AV×AV} {v:Value} (e:zrj a = some p) (x:VRel R h a v):∃ t v1 v2,v = .ref t∧IsTup h t #[v1,v2]∧VRel R h p.1 v1∧VRel R h p.2 v2:=by
 cases a with
 | tup vs =>
  rcases vs with _ | ⟨a,_ | ⟨b,_ | ⟨_,_⟩⟩⟩
  ·exact nn e
  ·exact nn e
  ·obtain rfl:=Option.some.inj e
   refine z1c (zgh x) fun t ws zq7n2 it vr=>?_;obtain rfl:=zq7n2
   refine z1c vr.two fun v1 v2 e r1 r2=>?_
   have:ws = #[v1,v2]:=by rw [← Array.toList_inj,e]
   subst this
   exact ⟨t,v1,v2,rfl,it,r1,r2⟩
  ·exact nn e
 | _=>exact nn e
theorem LocOk.tups (L:LocOk gd env ℓ R h) (i:Iv gd fr R σ h) (x:ExtX (Own env) R h R' h'):∀ b o,h.get? b = some o→(o.cls = .type "tuple"∨o.cls = .type "range")→h'.get? b = some o:=fun b o eb cc=>by
 refine x.exact (fun hm=>?_) ?_ eb (by rcases cc with cc | cc <;> rw [cc] <;> decide)
 ·refine oEA (List.mem_iff_getElem?.mp hm) fun j hj=>?_
  have hl:j < σ.length:=by rw [← i.len];exact (List.getElem?_eq_some_iff.mp hj).1
  refine z8n ((i.obj j _ b (List.getElem?_eq_getElem hl) hj).obj) fun ob e' d1 d2 uu=>?_
  rw [e'] at eb;obtain rfl:=Option.some.inj eb;exact cc.elim d1 d2
 ·rintro (z | ⟨x,hx⟩)
  ·refine z0e L.obj fun ol hol hcl=>?_
   rw [z,hol] at eb;obtain rfl:=Option.some.inj eb
   rcases hcl with hcl | hcl <;> rw [hcl] at cc <;> simp at cc
  ·refine z3z (L.cells x b hx) fun uu uu uu v3 h3=>?_
   rw [h3] at eb;obtain rfl:=Option.some.inj eb;simp at cc
theorem zog {es:List Expr} {k:Nat} {pos:Pos}:SAt gd fr (.Tuple es k pos):=by
 intro A env I ℓ σ R s a v Q E C i L q h
 refine z0e (PX.of_of h) fun ℓ₂ e h0=>?_
 refine z0e (Option.bind_eq_some_iff.mp e) fun n e0 e=>?_
 refine z0e (Option.bind_eq_some_iff.mp e) fun p ep e=>?_
 refine z0e (Option.bind_eq_some_iff.mp e) fun ℓ₁ e1 e2=>?_
 refine z58 (zh5 e0) fun px py zq17n2=>?_;obtain rfl:=zq17n2
 refine z1j (zk7 ep q) fun t v1 v2 zq18n3 it q1 q2=>?_;obtain rfl:=zq18n3
 refine wpAny_assign_Tuple C.hh (items:=#[v1,v2]) it rfl rfl fun h' xb=>?_
 have u:Up s.heap h':=fun b o eb=>xb b o (Nat.ne_of_lt (Heap.lt_size eb)) eb
 show wpAny _ _ (do holding [v2] (assign (.Name n.1 px) env v1);assignInOrder [assign (.Name n.2 py) env] [v2]) Q E _
 have a1:Aft R s R { s with heap:=h' }:=⟨Ext.up u,h',s.toks,rfl⟩
 obtain L':=L.aft i a1
 have i':=i.up u
 refine wpAny_bind (wpAny_holding (wpAny_assign_Name (z5d C i' L' e1 (q1.aft i a1) fun h1 tk1 x1 i1 L1=>?_)))
 show wpAny _ _ (do holding [] (assign (.Name n.2 py) env v2);assignInOrder [] []) Q E _
 refine wpAny_bind (wpAny_holding (wpAny_assign_Name (z5d (s:={ s with heap:=h1,toks:=tk1 }) C i1 L1 e2 ((q2.aft i a1).keep (List.prefix_refl R) (L'.tups i' x1)) fun h2 tk2 x2 i2 L2=>?_)))
 exact wpAny_pure (h0 () R h2 tk2 ((Ext.up u).x.trans (x1.trans x2)) i2 L2)
theorem zvb {t value:Expr} {n:Nat} (ok:z4o t value = true):swapsWithSole [t] value n env = pure false:=by
 cases value <;> first | rfl | (cases t <;> first | rfl | exact absurd ok Bool.false_ne_true)
theorem zvc {t value:Expr} (ok:z4o t value = true):swappedStores [t] value env = pure none:=by
 cases t <;> first | rfl | (cases value <;> first | rfl | exact absurd ok Bool.false_ne_true)
theorem zvd {t value:Expr} (ok:z4o t value = true):(assignEach [t] env).map (·.2) = [assign t env]:=by
 cases t <;> first | rfl | exact absurd ok Bool.false_ne_true
theorem z52 {t value:Expr} {pos:Pos} {Q:Flow→Shared→Prop} {E:Value→Shared→Prop} (ok:z4o t value = true)
  (h:wpAny gd.m A (eval value env) (fun v s₁=>wpAny gd.m A (assign t env v) (fun uu=>Q .next) E s₁) E s):wpAny gd.m A (exec (.Assign [t] value pos) env) Q E s:=by
 rw [exec_Assign]
 refine wpAny_bind (wpAny_standAt ?_)
 rw [zvb ok]
 refine wpAny_bind (wpAny_pure ?_)
 rw [if_neg (by decide)]
 refine wpAny_bind (wpAny_mono h (fun v s₁ h₁=>?_) fun uu uu x=>x)
 rw [zvc ok,zvd ok]
 refine wpAny_bind (wpAny_pure ?_)
 show wpAny _ _ (do assignAll v [assign t env];pure .next) Q E s₁
 exact wpAny_bind (wpAny_mono h₁ (fun uu uu x=>wpAny_pure x) fun uu uu x=>x)
theorem zh6 {t e:Expr} {pos:Pos} (St:SAt gd fr t) (Se:SE gd fr e):SX gd fr (.Assign [t] e pos):=by
 intro A env I ℓ σ R s Q E C i L h
 refine oAA (PX.of_if h) fun ok h=>?_
 refine z52 ok (Se.thenX C i L h fun a v σ₁ R₁ s₁ t₁ i₁ L₁ q h=>?_)
 exact St A env I ℓ σ₁ R₁ s₁ a v _ E C i₁ L₁ q ((PX.bind (Rl:=RL gd env) h).mono (fun uu s₂ zm=>z1j zm fun ℓ₂ σ₂ R₂ t₂ i₂ L₂ z=>PX.of_ok z i₂ ⟨L₂,.next⟩) fun uu uu z=>z)
theorem zoh {pos:Pos}:SX gd fr (.Return none pos):=by
 intro A env I ℓ σ R s Q E C i L h
 exact wpAny_Return_none (PX.of_ok h i ⟨L,.ret .none⟩)
theorem zs5 {e:Expr} {pos:Pos} (Se:SE gd fr e):SX gd fr (.Return (some e) pos):=by
 intro A env I ℓ σ R s Q E C i L h
 exact wpAny_Return_some (Se.thenX C i L h fun a v σ₁ R₁ s₁ t₁ i₁ L₁ q h=>PX.of_ok h i₁ ⟨L₁,.ret q⟩)
theorem zk8 {pos:Pos}:SX gd fr (.Break pos):=by
 intro A env I ℓ σ R s Q E C i L h
 exact wpAny_Break (PX.of_ok h i ⟨L,.brk⟩)
theorem zoi {e:Expr} {pos:Pos} (Se:SE gd fr e):SX gd fr (.Expr e pos):=by
 intro A env I ℓ σ R s Q E C i L h
 refine oAA (PX.of_if h) fun ok h=>?_
 refine wpAny_Expr_any (Se.thenX C i L h fun a v σ₁ R₁ s₁ t₁ i₁ L₁ q h=>PX.of_ok h i₁ ⟨L₁,.next⟩) ?_ ?_
 ·unfold interactive;rw [C.kind];rfl
 ·clear h i L C
  cases e <;> first | rfl | exact absurd ok Bool.false_ne_true
theorem zve {t:Expr} {a b:List Stmt} {pos:Pos} (St:ST gd fr t) (Sa:SXs gd fr a) (Sb:SXs gd fr b):SX gd fr (.If t a b pos):=by
 intro A env I ℓ σ R s Q E C i L h
 refine wpAny_If (St.thenX C i L h fun c σ₁ R₁ s₁ t₁ i₁ L₁ h=>?_)
 induction c with
 | true=>exact Sa A env I ℓ σ₁ R₁ s₁ Q E C i₁ L₁ h
 | false=>exact Sb A env I ℓ σ₁ R₁ s₁ Q E C i₁ L₁ h
theorem zmo {E:Value→Shared→Prop} {Q:Value→Shared→Prop} {op:Operator} {a b c:AV} {u v:Value} (e:zrk op a b = some c) (x:VRel R s.heap a u) (y:VRel R s.heap b v) (h:∀ r tk,VRel R s.heap c r→Q r { s with toks:=tk }):wpAny gd.m A (inplaceOp op u v) Q E s:=by
 refine oAA (z0x e) fun zq21n0 e=>?_;obtain rfl:=zq21n0
 refine z0e (Option.bind_eq_some_iff.mp e) fun p e1 e=>?_
 refine z0e (Option.bind_eq_some_iff.mp e) fun q e2 e=>?_
 obtain rfl:=Option.some.inj e
 refine oEA (z3b e1 x) fun t zq24n1=>?_;obtain rfl:=zq24n1
 refine oEA (z3b e2 y) fun t' zq25n1=>?_;obtain rfl:=zq25n1
 exact PyProof.Rows.iadd_int (h _ _ (.int _ _))
theorem zf5 {x:Str} {px pos:Pos} {op:Operator} {e:Expr} (Se:SE gd fr e):SX gd fr (.AugAssign (.Name x px) op e pos):=by
 intro A env I ℓ σ R s Q E C i L h
 refine z0e (PX.of_bind h) fun a e1 h=>?_
 refine wpAny_AugAssign_Name ?_
 refine (z77 C L i e1 fun u q=>?_).2
 refine Se.thenX C i L h fun b v σ₁ R₁ s₁ t₁ i₁ L₁ p h=>?_
 refine z0e (PX.of_bind h) fun c e2 h=>?_
 refine z0e (PX.of_bind h) fun ℓ₂ e3 h=>?_
 exact zmo e2 (q.aft i t₁) p fun r tk qr=>z5d (s:={ s₁ with toks:=tk }) C i₁ L₁ e3 qr fun h' tk' x1 i1 L1=>h _ _ h' tk' x1 i1 ⟨L1,.next⟩
theorem zf6 {o:Expr} {x:Str} {px pos:Pos} {op:Operator} {e:Expr} (So:SE gd fr o) (Se:SE gd fr e):SX gd fr (.AugAssign (.Attribute o x px) op e pos):=by
 intro A env I ℓ σ R s Q E C i L h
 refine wpAny_AugAssign_AttributeAny (So.thenX C i L h fun ov u σ₁ R₁ s₁ t₁ i₁ L₁ p h=>?_)
 refine z0e (PX.of_bind h) fun a e1 h=>?_
 refine z8p C i₁ e1 p fun old qo=>?_
 refine Se.thenX (s:={ s₁ with toks:=s₁.toks + 1 }) C i₁ L₁ (PX.shift (AftX.mk ExtX.refl) h) fun b v σ₂ R₂ s₂ t₂ i₂ L₂ p2 h=>?_
 refine z0e (PX.of_bind h) fun c e2 h=>?_
 refine z0e (PX.of_bind h) fun σ₃ e3 h=>?_
 refine zmo e2 (qo.aft (s:={ s₁ with toks:=s₁.toks + 1 }) i₁ t₂) p2 fun r tk qr=>?_
 have pp:VRel R₂ s₂.heap ov u:=VRel.aft (s:={ s₁ with toks:=s₁.toks + 1 }) p i₁ t₂
 exact z8q (s:={ s₂ with toks:=tk }) C i₂ e3 pp qr fun h' tk' i3 x3=>h _ R₂ h' tk' x3.x i3 ⟨L₂.ext i₂ x3,.next⟩
theorem zoj:SXs gd fr []:=by
 intro A env I ℓ σ R s Q E C i L h
 exact wpAny_execs_nil (PX.of_ok h i ⟨L,.next⟩)
theorem zk9 {st:Stmt} {sts:List Stmt} (S1:SX gd fr st) (S2:SXs gd fr sts):SXs gd fr (st :: sts):=by
 intro A env I ℓ σ R s Q E C i L h
 refine wpAny_execs_cons (S1 A env I ℓ σ R s _ E C i L ((PX.bind (Rl:=RF gd env) h).mono (fun f s₁ zm=>z1j zm fun fl σ₁ R₁ t₁ i₁ q z=>?_) fun uu uu z=>z))
 obtain ⟨fa,ℓ₁⟩:=fl
 obtain ⟨L₁,q⟩:=q
 cases q with
 | next=>exact S2 A env I ℓ₁ σ₁ R₁ s₁ Q E C i₁ L₁ z
 | brk=>exact PX.of_ok z i₁ ⟨L₁,.brk⟩
 | ret q=>exact PX.of_ok z i₁ ⟨L₁,.ret q⟩
end
end
section
open PySem PySem.W PySem.Calls PyProof.Rows PySem.SeqAt
section
variable {gd:Gd} {h h' h'':Heap} {fr:List Env} {A:Around} {env:Env} {I:z1q} {ℓ ℓ':Loc} {σ σ':AS} {R R':List Addr} {s s':Shared} {W:Addr→Prop}
theorem PX.okE {α β:Type} {Rl:List Addr→Heap→α→β→Prop} {Q:β→Shared→Prop} {E':Value→Shared→Prop} {r:Res α} {a:α} {σ':AS} (e:r = .ok a σ')
  (h:∀ b R' h' tk,ExtX W R s.heap R' h'→Iv gd fr R' σ' h'→Rl R' h' a b→Q b { s with heap:=h',toks:=tk }):PX gd fr W Rl Q E' R s r:=by
 subst e;exact h
theorem zok (L:LocOk gd env ℓ R h) {it:Addr} (hn:h.get? it = none):¬ Own env it:=by
 rintro (z | ⟨x,hx⟩)
 ·refine z0e L.obj fun o ho uu=>?_;rw [← z,hn] at ho;exact nn ho
 ·refine z3z (L.cells x it hx) fun uu uu uu v hv=>?_;exact nn ((hn).symm.trans hv)
set_option backward.match.sparseCases true in
theorem zc8 {target:Expr} {k:Nat} {src:AV} {it:Addr} {v:Value} (x:ItOk R s.heap k src it) {Q:Unit→Shared→Prop} {E:Value→Shared→Prop} (h:Q () s):wpAny gd.m A (letOwnedTupleGo target (.ref it) v) Q E s:=by
 have go:∀ (o:Obj) (n:String) (vs:Array Value),s.heap.get? it = some o→o.cls = .type n→o.data = .fields vs→(["enumerate","zip","dict_itemiterator","dict_reverseitemiterator","odict_iterator","itertools.zip_longest","itertools.pairwise"].contains n) = false→∀ a:Addr,
   wpAny gd.m A (do
    let o ← load it
    match o.cls,o.data with
    | .type n,.fields vs =>
     if ["enumerate","zip","dict_itemiterator","dict_reverseitemiterator","odict_iterator","itertools.zip_longest","itertools.pairwise"].contains n && vs[0]? == some (rawInt a) then
      rule "for.unpacks-the-owned-tuple"
      updateField it 0 .none
    | _,_=>pure ():Sem Unit) Q E s:=by
  intro o n vs ho hc hd hn a
  refine wpAny_bind (wpAny_load ho ?_)
  rw [hc,hd]
  dsimp only
  rw [hn,Bool.false_and,if_neg Bool.false_ne_true]
  exact wpAny_pure h
 have ob:∃ o n vs,s.heap.get? it = some o∧o.cls = .type n∧o.data = .fields vs∧(["enumerate","zip","dict_itemiterator","dict_reverseitemiterator","odict_iterator","itertools.zip_longest","itertools.pairwise"].contains n) = false:=by
  induction x with
  | list r y=>obtain ⟨o,ho,hc,hd⟩:=y;exact ⟨o,_,_,ho,hc,hd,by decide⟩
  | rng y=>exact ⟨_,_,_,y,rfl,rfl,by decide⟩
  | ascii y=>obtain ⟨o,ho,hc,hd⟩:=y;exact ⟨o,_,_,ho,hc,hd,by decide⟩
  | wide y=>obtain ⟨o,ho,hc,hd⟩:=y;exact ⟨o,_,_,ho,hc,hd,by decide⟩
 refine z1j ob fun o n vs ho hc hd hn=>?_
 cases target <;> first | exact wpAny_pure h | (cases v <;> first | exact wpAny_pure h | exact go o n vs ho hc hd hn _)
theorem FlowR.fin {fa:z0o} {f:Flow} {c:Ctl (z0o×Loc)} {σ₄ σ₂:AS} {ℓ₄:Loc} {go:z0o×Loc→Res (z0o×Loc)} {g:Heap} {tk:Nat} {Q:Flow→Shared→Prop} {E:Value→Shared→Prop} (q:FlowR R' g fa f) (e:z2v (fa,ℓ₄) σ₄ = .ok c σ₂) (x:ExtX (Own env) R s.heap R' g) (i:Iv gd fr R' σ₄ g) (L:LocOk gd env ℓ₄ R' g)
  (z:PX gd fr (Own env) (RF gd env) Q E R s (zul go σ₂ c)) {N:Prop} (hN:PX gd fr (Own env) (RF gd env) Q E R s (go (.next,ℓ₄))→σ₂ = σ₄→N):(match (generalizing:=false) f with
      | .next | .cont=>N
      | .brk=>Q .next { s with heap:=g,toks:=tk }
      | .ret v=>Q (.ret v) { s with heap:=g,toks:=tk }):=by
 induction q with
 | next=>cases e;exact hN z rfl
 | brk=>cases e;exact z .next R' g tk x i ⟨L,.next⟩
 | ret q=>cases e;exact z (.ret _) R' g tk x i ⟨L,.ret q⟩
noncomputable def zr8 (t:Expr) (body:List Stmt) (I:z1q):AV→z0o×Loc→AS→Res (Ctl (z0o×Loc)):=fun v fl σ=>(z5u t v I fl.2 σ).bind fun ℓ σ=>(z39 body I ℓ σ).bind fun fl σ=>z2v fl σ
structure FSt (gd:Gd) (fr:List Env) (env:Env) (R:List Addr) (h:Heap) (src:AV) (it:Addr) (k:Nat) (fl:z0o×Loc) (σ':AS) (R':List Addr) (g:Heap):Prop where
 x:ExtX (Own env) R h R' g
 i:Iv gd fr R' σ' g
 L:LocOk gd env fl.2 R' g
 nx:fl.1 = .next
 itk:ItOk R' g k src it
 n1:it ∉ R'
noncomputable def FInv (gd:Gd) (fr:List Env) (env:Env) (R:List Addr) (s:Shared) (Q:Flow→Shared→Prop) (E:Value→Shared→Prop) (src:AV) (it:Addr) (B:AV→z0o×Loc→AS→Res (Ctl (z0o×Loc))) (n:Nat) (s':Shared):Prop :=
 ∃ (k:Nat) (fl:z0o×Loc) (σ':AS) (R':List Addr) (g:Heap) (tk:Nat),s' = { s with heap:=g,toks:=tk }∧FSt gd fr env R s.heap src it k fl σ' R' g∧PX gd fr (Own env) (RF gd env) Q E R s (z1b src B n k fl σ')
theorem FInv.elim {Q:Flow→Shared→Prop} {E:Value→Shared→Prop} {src:AV} {it:Addr} {B:AV→z0o×Loc→AS→Res (Ctl (z0o×Loc))} {n:Nat} {P:Shared→Prop} (h:FInv gd fr env R s Q E src it B n s')
  (f:∀ k fl σ' R' g tk,FSt gd fr env R s.heap src it k fl σ' R' g→PX gd fr (Own env) (RF gd env) Q E R s (z1b src B n k fl σ')→P { s with heap:=g,toks:=tk }):P s':=by
 obtain ⟨k,fl,σ',R',g,tk,rfl,S,z⟩:=h
 exact f k fl σ' R' g tk S z
theorem FInv.mk {Q:Flow→Shared→Prop} {E:Value→Shared→Prop} {src:AV} {it:Addr} {B:AV→z0o×Loc→AS→Res (Ctl (z0o×Loc))} {n k tk:Nat} {fl:z0o×Loc} {g:Heap} (S:FSt gd fr env R s.heap src it k fl σ' R' g) (z:PX gd fr (Own env) (RF gd env) Q E R s (z1b src B n k fl σ')):FInv gd fr env R s Q E src it B n { s with heap:=g,toks:=tk } :=
 ⟨k,fl,σ',R',g,tk,rfl,S,z⟩
structure FSh (gd:Gd) (fr:List Env) (env:Env) (R:List Addr) (h:Heap) (ℓ:Loc) (σ':AS) (R':List Addr) (g g1:Heap):Prop where
 x:ExtX (Own env) R h R' g1
 i:Iv gd fr R' σ' g1
 L:LocOk gd env ℓ R' g1
 t:∀ b o,g.get? b = some o→(o.cls = .type "tuple"∨o.cls = .type "range")→g1.get? b = some o
theorem FSt.but {src:AV} {it:Addr} {k:Nat} {fl:z0o×Loc} {g g1:Heap} (S:FSt gd fr env R h src it k fl σ' R' g) (itn:h.get? it = none) (it0:gd.h₀.get? it = none) (itO:¬ Own env it) (k1:∀ b o,b ≠ it→g.get? b = some o→g1.get? b = some o):FSh gd fr env R h fl.2 σ' R' g g1:=by
 refine z1o S.itk.obj fun oi gi c1 c2 c3 uu=>?_
 have tups:∀ b o,g.get? b = some o→(o.cls = .type "tuple"∨o.cls = .type "range")→g1.get? b = some o:=fun b o eb cc=>k1 b o (fun z=>by rw [z,gi] at eb;obtain rfl:=Option.some.inj eb;exact cc.elim c1 c2) eb
 obtain nl:env.locals ≠ it:=fun z=>itO (.inl z.symm)
 have nc:∀ x c,(x,c)∈env.cells→c ≠ it:=fun x c hc z=>itO (.inr ⟨x,z ▸ hc⟩)
 have L3:=S.L
 refine ⟨S.x.but itn k1,S.i.but gi c1 c2 c3 S.n1 it0 k1,⟨L3.kind,L3.glob,L3.blt,L3.out,L3.fresh,?_,?_,L3.cdom,fun y u a b=>?_,fun y c hc=>?_,L3.apart⟩,tups⟩
 ·refine z0e L3.obj fun o eo co=>?_
  exact ⟨o,k1 _ o nl eo,co⟩
 ·refine z0e L3.ns fun m hn rr=>?_
  refine ⟨m,hn.extBut (fun b o hb e=>k1 b o hb e) nl,fun y u a b=>?_⟩
  refine z0e (rr y u a b) fun v' p1 p2=>?_
  exact ⟨v',p1,p2.keep (List.prefix_refl _) tups⟩
 ·refine z1c (L3.cel y u a b) fun c v' p1 p2 p3=>?_
  refine z0e p2 fun oc ho hd=>?_
  exact ⟨c,v',p1,⟨oc,k1 c oc (nc y c (mem_of_lookup p1)) ho,hd⟩,p3.keep (List.prefix_refl _) tups⟩
 ·refine z3z (L3.cells y c hc) fun m1 m2 m3 v' m4=>?_
  exact ⟨m1,m2,m3,v',k1 c _ (nc y c hc) m4⟩
theorem zka {t:Expr} {body:List Stmt} {Q:Flow→Shared→Prop} {E E1 E2 E3:Value→Shared→Prop} {src a:AV} {v:Value} {it:Addr} (C:Cx gd fr A env I) (St:SAt gd fr t) (Sb:SXs gd fr body) (itn:s.heap.get? it = none) (it0:gd.h₀.get? it = none) (itO:¬ Own env it)
  {n k:Nat} {fl:z0o×Loc} {ct:Ctl (z0o×Loc)} {σ' σ₂:AS} {R':List Addr} {g g1:Heap} {tk1:Nat} (S:FSt gd fr env R s.heap src it k fl σ' R' g) (e2:zr8 t body I a fl σ' = .ok ct σ₂) (s1:Heap.SameBut it g g1) (it1:ItOk R' g1 (k + 1) src it) (q1:VRel R' g a v)
  (z:PX gd fr (Own env) (RF gd env) Q E R s (zgy src (zr8 t body I) n (k + 1) σ₂ ct)) {N:Shared→Prop} (hN:∀ s',FInv gd fr env R s Q E src it (zr8 t body I) n s'→N s') :
  wpAny gd.m A (letOwnedTupleGo t (.ref it) v) (fun uu s₁'=>wpAny gd.m A (assign t env v) (fun uu s₂=>wpAny gd.m A (execs body env) (fun f s₃=>match f with
      | .next | .cont=>N s₃
      | .brk=>Q .next s₃
      | .ret v=>Q (.ret v) s₃) E1 s₂) E2 s₁') E3 { s with heap:=g1,toks:=tk1 }:=by
 have H:=S.but itn it0 itO (fun b o hb e=>(s1.2 b hb).trans e)
 refine zc8 (s:={ s with heap:=g1,toks:=tk1 }) it1 ?_
 refine z27 (Res.bind_ok e2) fun ℓ₃ σ₃ e3 e4=>?_
 refine z27 (Res.bind_ok e4) fun fl₄ σ₄ e5 e6=>?_
 refine z1o it1.obj fun oi1 gi1 d1 d2 d3 uu=>?_
 refine St A env I fl.2 σ' R' _ a v _ _ C H.i H.L (q1.keep (List.prefix_refl _) H.t) (PX.okE e3 fun uu R₃ g3 tk3 x4 i4 L4=>?_)
 refine Sb A env I ℓ₃ σ₃ R₃ _ _ _ C i4 L4 (PX.okE e5 fun f R₄ g4 tk4 x5 i5 q5=>?_)
 have gi3:=x4.exact S.n1 itO gi1 d3
 have n3:=x4.out S.n1 gi1
 refine q5.2.fin (s:=s) (tk:=tk4) e6 (H.x.trans (x4.trans x5)) i5 q5.1 z fun z hσ=>hN _ (FInv.mk (σ':=σ₂) (fl:=(.next,fl₄.2)) ⟨H.x.trans (x4.trans x5),by exact hσ ▸ i5,q5.1,rfl,ItOk.at it1 (x4.pre.trans x5.pre) (fun o e=>?_),x5.out n3 gi3⟩ z)
 rw [gi1] at e;obtain rfl:=Option.some.inj e;exact x5.exact n3 itO gi3 d3
theorem zkb {t:Expr} {body:List Stmt} {Q:Flow→Shared→Prop} {E:Value→Shared→Prop} {src:AV} {it:Addr} (C:Cx gd fr A env I) (St:SAt gd fr t) (Sb:SXs gd fr body) (itn:s.heap.get? it = none) (it0:gd.h₀.get? it = none) (itO:¬ Own env it)
  {n:Nat} {s':Shared} (S:FInv gd fr env R s Q E src it (zr8 t body I) n s'):codeAny gd.m A (.forLoop t (.ref it) body [] env) (fun r s'=>match r with | .ok f=>Q f s' | .error e=>cameBackBy gd.m A env E e s') s':=by
 revert gd fr A env I R s t body Q E src it n s';refine no_implicit_lambda% (z76 (z06 nGd (z06 inferInstance (z06 z28 (z06 inferInstance (z06 zgf (z06 inferInstance z1v)))))) ?_);generalize (e7 _ _).1 = gd;generalize (e7 _ _).2.1 = fr;generalize (e7 _ _).2.2.1 = A;generalize (e7 _ _).2.2.2.1 = env;generalize (e7 _ _).2.2.2.2.1 = I;generalize (e7 _ _).2.2.2.2.2.1 = R;generalize (e7 _ _).2.2.2.2.2.2 = s;refine no_implicit_lambda% (z36 (z06 inferInstance (z06 inferInstance inferInstance)) ?_);generalize (e3 _ _).1 = t;generalize (e3 _ _).2.1 = body;generalize (e3 _ _).2.2 = Q;refine no_implicit_lambda% (z36 (z06 inferInstance (z06 inferInstance inferInstance)) ?_);generalize (e3 _ _).1 = E;generalize (e3 _ _).2.1 = src;generalize (e3 _ _).2.2 = it;unhygienic intros;revert n s';refine no_implicit_lambda% (z2b inferInstance ?_);generalize (e1 _ _) = n;refine no_implicit_lambda% (z2b z1v ?_);generalize (e1 _ _) = s';unhygienic intros
 refine codeAny_forLoop_any (FInv gd fr env R s Q E src it (zr8 t body I)) (fun n s' h=>h.elim (P:=fun s'=>wpAny gd.m A (pyNext (.ref it)) _ _ s') fun k fl σ' R' g tk S z=>?_) n S
 refine (z4p (P:=fun r=>PX gd fr (Own env) (RF gd env) Q E R s r) z (fun h=>h)).elim fun mm hm=>hm.2.elim (fun h=>?_) (fun h=>h.elim fun a h=>h.elim fun ct h=>h.elim fun σ₂ h2=>?_)
 ·refine z9l (s:={ s with heap:=g,toks:=tk }) C.hh S.i S.itk h.1 (fun uu g1 tk1 k1=>?_) (fun a h=>by exact nn h)
  obtain H:=S.but itn it0 itO k1
  obtain z:=h.2
  obtain ⟨fa,ℓ₁⟩:=fl
  cases S.nx
  exact wpAny_execs_nil (z .next R' g1 tk1 H.x H.i ⟨H.L,.next⟩)
 ·exact z9l (s:={ s with heap:=g,toks:=tk }) C.hh S.i S.itk h2.1 (fun h=>by exact nomatch h) (fun a' ha v g1 tk1 s1 it1 q1=>by obtain rfl:=Option.some.inj ha;exact zka C St Sb itn it0 itO S h2.2.1 s1 it1 q1 h2.2.2 fun s' i=>⟨mm,by rw [hm.1];exact Nat.lt_succ_self _,i⟩)
theorem zs6 {t iter:Expr} {body:List Stmt} {pos:Pos} (Si:SE gd fr iter) (St:SAt gd fr t) (Sb:SXs gd fr body):SX gd fr (.For t iter body [] pos):=by
 intro A env I ℓ σ R s Q E C i L h
 obtain hb:z09 iter I ℓ σ ≠ .bad:=fun q=>by
  have h:PX gd fr (Own env) (RF gd env) Q E R s ((z09 iter I ℓ σ).bind fun src σ=>z1b src (zr8 t body I) z1i 0 (.next,ℓ) σ):=h
  rw [q] at h;exact h.elim
 refine wpAny_For (Si.thenX C i L h fun src v σ₁ R₁ s₁ t₁ i₁ L₁ q z=>?_) (zmn hb)
 obtain hd:z44 σ₁ 0 src ≠ none:=fun q=>by
  refine z0e (z4p (P:=fun r=>PX gd fr (Own env) (RF gd env) Q E R₁ s₁ r) z (fun h=>h)) fun m uu z=>?_
  rcases z with ⟨e,_⟩ | ⟨x,c,σ',e,_⟩ <;> rw [q] at e <;> exact nn e
 refine zgu i₁ q hd fun hh2 tk2 u2 it2 uu=>?_
 obtain itn:s₁.heap.get? s₁.heap.objs.size = none:=z2o _
 obtain fr':=i₁.fresh_of itn
 exact zkb C St Sb itn fr'.2 (zok L₁ itn) (FInv.mk ⟨(Ext.up u2).x,i₁.up u2,LocOk.ext L₁ i₁ (Ext.up u2),rfl,it2,fr'.1⟩ z)
theorem zc9 {β:Type} {turn:β→AS→Res (Ctl β)} {n:Nat} {b:β} {P:Res β→Prop} (h:P (loopW turn n b σ)) (hb:¬ P .bad):∃ m,n = m + 1∧∃ c σ',turn b σ = .ok c σ'∧P (zul (fun b'=>loopW turn m b' σ') σ' c):=by
 induction n with
 | zero=>exact absurd h hb
 | succ m =>
  refine ⟨m,rfl,?_⟩
  have h:P (zag (loopW turn m) (turn b σ)):=h
  cases e2:turn b σ with
  | ok c σ'=>rw [e2] at h;exact ⟨c,σ',rfl,by cases c <;> exact h⟩
  | _=>rw [e2] at h;exact absurd h hb
noncomputable def zdg (t:Expr) (body:List Stmt) (I:z1q):z0o×Loc→AS→Res (Ctl (z0o×Loc)):=fun fl σ=>(z20 t I fl.2 (z09 t I fl.2) σ).bind fun c σ=>if c then (z39 body I fl.2 σ).bind fun fl σ=>z2v fl σ else .ok (.stop (.next,fl.2)) σ
noncomputable def WInv (gd:Gd) (fr:List Env) (env:Env) (R:List Addr) (s:Shared) (Q:Flow→Shared→Prop) (E:Value→Shared→Prop) (B:z0o×Loc→AS→Res (Ctl (z0o×Loc))) (n:Nat) (s':Shared):Prop :=
 ∃ (fl:z0o×Loc) (σ':AS) (R':List Addr) (g:Heap) (tk:Nat),s' = { s with heap:=g,toks:=tk }∧(ExtX (Own env) R s.heap R' g∧Iv gd fr R' σ' g∧LocOk gd env fl.2 R' g)∧PX gd fr (Own env) (RF gd env) Q E R s (loopW B n fl σ')
theorem WInv.elim {Q:Flow→Shared→Prop} {E:Value→Shared→Prop} {B:z0o×Loc→AS→Res (Ctl (z0o×Loc))} {n:Nat} {P:Shared→Prop} (h:WInv gd fr env R s Q E B n s')
  (f:∀ fl σ' R' g tk,ExtX (Own env) R s.heap R' g∧Iv gd fr R' σ' g∧LocOk gd env fl.2 R' g→PX gd fr (Own env) (RF gd env) Q E R s (loopW B n fl σ')→P { s with heap:=g,toks:=tk }):P s':=by
 obtain ⟨fl,σ',R',g,tk,rfl,S,z⟩:=h
 exact f fl σ' R' g tk S z
theorem zf7 {t:Expr} {body:List Stmt} {Q:Flow→Shared→Prop} {E E1 E2:Value→Shared→Prop} (C:Cx gd fr A env I) (St:ST gd fr t) (Sb:SXs gd fr body)
  {n:Nat} {fl:z0o×Loc} {ct:Ctl (z0o×Loc)} {σ' σ₂:AS} {R':List Addr} {g:Heap} {tk:Nat} (S:ExtX (Own env) R s.heap R' g∧Iv gd fr R' σ' g∧LocOk gd env fl.2 R' g) (e2:zdg t body I fl σ' = .ok ct σ₂)
  (z:PX gd fr (Own env) (RF gd env) Q E R s (zul (fun b'=>loopW (zdg t body I) n b' σ₂) σ₂ ct)) {N:Shared→Prop} (hN:∀ s',WInv gd fr env R s Q E (zdg t body I) n s'→N s') :
  wpAny gd.m A (isTrue t env (eval t env)) (fun b s₂ =>
    if b then wpAny gd.m A (execs body env) (fun f s₃=>match f with
      | .next | .cont=>N s₃
      | .brk=>Q .next s₃
      | .ret v=>Q (.ret v) s₃) E1 s₂
    else wpAny gd.m A (execs [] env) (fun f s₃=>Q f s₃) E1 s₂) E2 { s with heap:=g,toks:=tk }:=by
 refine z27 (Res.bind_ok e2) fun b σ₃ e3 e4=>?_
 refine St A env I fl.2 σ' R' _ _ _ C S.2.1 S.2.2 (PR.okE e3 fun b' R₃ g3 tk3 x4 i4 hb=>?_)
 obtain rfl:=hb
 have L4:LocOk gd env fl.2 R₃ g3:=S.2.2.ext S.2.1 x4
 induction b with
 | false=>cases e4;exact wpAny_execs_nil (z .next R₃ g3 tk3 (S.1.trans x4.x) i4 ⟨L4,.next⟩)
 | true =>
  refine z27 (Res.bind_ok e4) fun fl₄ σ₄ e5 e6=>?_
  refine Sb A env I fl.2 σ₃ R₃ _ _ _ C i4 L4 (PX.okE e5 fun f R₄ g4 tk4 x5 i5 q5=>?_)
  have x6:=S.1.trans (x4.x.trans x5)
  exact q5.2.fin (s:=s) (tk:=tk4) e6 x6 i5 q5.1 z fun z hσ=>hN _ ⟨(.next,fl₄.2),σ₂,R₄,g4,tk4,rfl,⟨x6,by exact hσ ▸ i5,q5.1⟩,z⟩
theorem zkc {t:Expr} {body:List Stmt} {pos:Pos} (St:ST gd fr t) (Sb:SXs gd fr body):SX gd fr (.While t body [] pos):=by
 intro A env I ℓ σ R s Q E C i L h
 refine wpAny_While (codeAny_whileLoop (WInv gd fr env R s Q E (zdg t body I)) (fun n s' h=>h.elim (P:=fun s'=>wpAny gd.m A (isTrue t env (eval t env)) _ _ s') fun fl σ' R' g tk S z=>?_) z1i ⟨(.next,ℓ),σ,R,s.heap,s.toks,rfl,⟨ExtX.refl,i,L⟩,h⟩)
 exact (zc9 (P:=fun r=>PX gd fr (Own env) (RF gd env) Q E R s r) z (fun h=>h)).elim fun mm hm=>hm.2.elim fun ct h=>h.elim fun σ₂ h2=>zf7 C St Sb S h2.1 h2.2 fun s' i=>⟨mm,by rw [hm.1];exact Nat.lt_succ_self _,i⟩
end
end
section
open PySem PySem.W PySem.Calls PyProof.Rows PySem.SeqAt
theorem z9n (f:Str×Value→List (Str×Value)→Sem (ForInStep (List (Str×Value))))
  (hf:∀ n d sl,f (n,d) sl = if (sl.lookup n).isNone then pure (.yield (sl++[(n,d)])) else pure (.yield sl)) :
  ∀ (l:List (Str×Value)) (sl:List (Str×Value)),∃ r,forIn l sl f = pure r∧∀ x,r.lookup x = (sl.lookup x).orElse fun uu=>l.lookup x
 | []=>fun sl=>⟨sl,List.forIn_nil ..,fun x=>by simp⟩
 | (n,d) :: l=>fun sl=>by
  by_cases h:(sl.lookup n).isNone = true
  ·obtain ⟨r,h1,h2⟩:=z9n f hf l (sl++[(n,d)])
   refine ⟨r,by rw [List.forIn_cons,hf,if_pos h,pure_bind];exact h1,fun x=>?_⟩
   rw [h2,List.lookup_append]
   cases hx:x == n with
   | true =>
    obtain hx':=beq_iff_eq.mp hx;obtain rfl:=hx'
    rw [Option.isNone_iff_eq_none.mp h]
    simp [List.lookup_cons,hx]
   | false =>
    cases hs:sl.lookup x <;> simp [List.lookup_cons,hx]
  ·obtain ⟨r,h1,h2⟩:=z9n f hf l sl
   refine ⟨r,by rw [List.forIn_cons,hf,if_neg h,pure_bind];exact h1,fun x=>?_⟩
   rw [h2]
   cases hx:x == n with
   | true =>
    obtain hx':=beq_iff_eq.mp hx;obtain rfl:=hx'
    cases hs:sl.lookup x with
    | none=>rw [hs] at h;exact absurd rfl h
    | some v=>rfl
   | false=>simp only [List.lookup_cons,hx]
theorem z4q {α:Type}:∀ {ps:List Str} {vs:List α} {i:Nat} {n:Str},ps.Nodup→ps[i]? = some n→(ps.zip vs).lookup n = vs[i]?
 | [],_,i,n,_,h=>by simp at h
 | p :: ps,[],i,n,_,h=>by simp
 | p :: ps,v :: vs,0,n,_,h=>by
  simp only [List.getElem?_cons_zero,Option.some.injEq] at h
  subst h
  simp [List.lookup_cons]
 | p :: ps,v :: vs,i + 1,n,hn,h=>by
  simp only [List.getElem?_cons_succ] at h ⊢
  have hm:n∈ps:=List.mem_of_getElem? h
  have hne:(n == p) = false:=by
   have:n ≠ p:=fun e=>(List.nodup_cons.mp hn).1 (e ▸ hm)
   simpa using this
  rw [List.zip_cons_cons,List.lookup_cons,hne]
  exact z4q (List.nodup_cons.mp hn).2 h
theorem z5e (g:Str→Option Value):∀ {ps:List Str} {ws:List Value},ps.length = ws.length→(∀ (i:Nat) (n:Str) (w:Value),ps[i]? = some n→ws[i]? = some w→g n = some w)→ps.filterMap (fun n=>(g n).map (n,·)) = ps.zip ws
 | [],[],_,_=>rfl
 | p :: ps,w :: ws,hl,h=>by
  rw [List.filterMap_cons,h 0 p w rfl rfl]
  dsimp only [Option.map_some,List.zip_cons_cons]
  congr 1
  exact z5e g (by simpa using hl) fun (i:Nat) n w' e1 e2=>h (i + 1) n w' (by simpa using e1) (by simpa using e2)
 | [],_ :: _,hl,_=>by simp at hl
 | _ :: _,[],hl,_=>by simp at hl
structure z7g (p:Arguments) (ps:List Str):Prop where
 po:p.posonlyargs = []
 args:p.args.map (·.arg) = ps
 va:p.vararg = none
 ko:p.kwonlyargs = []
 kw:p.kwarg = none
 nd:ps.Nodup
section
variable {M:Model} {A:Around} {E:Value→Shared→Prop} {s:Shared}
theorem zs7 {α:Type} {c:Prop} [Decidable c] {a b:Sem α} {Q:α→Shared→Prop} (hc:¬ c) (h:wpAny M A b Q E s):wpAny M A (if c then a else b) Q E s:=by rw [if_neg hc];exact h
theorem zol {α β:Type} {x:Sem α} {a:α} {f:α→Sem β} {Q:β→Shared→Prop} (hx:x = pure a) (h:wpAny M A (f a) Q E s):wpAny M A (x >>= f) Q E s:=by exact hx ▸ h
theorem zay {ps:List Str} {vals:List Value} {k:Nat} (nd:ps.Nodup) (hk:k≤vals.length):(!((ps.take k).filter (fun n=>((ps.zip vals).lookup n).isNone)).isEmpty) = false:=by
 rw [List.filter_eq_nil_iff.mpr fun n hn=>?_]
 ·rfl
 ·refine oEA (List.mem_iff_getElem?.mp hn) fun i hi=>?_
  obtain hlt:=(List.getElem?_eq_some_iff.mp hi).1
  rw [List.length_take] at hlt
  obtain hlt:i < k:=Nat.lt_of_lt_of_le hlt (Nat.min_le_left _ _)
  rw [List.getElem?_take_of_lt hlt] at hi
  rw [z4q nd hi,List.getElem?_eq_getElem (Nat.lt_of_lt_of_le hlt hk)]
  exact Bool.false_ne_true
theorem zom {ps:List Str} {vals ds:List Value} {sl:List (Str×Value)} (nd:ps.Nodup) (h1:vals.length≤ps.length) (h2:ps.length≤vals.length + ds.length) (h3:ds.length≤ps.length)
  (g2:∀ x,sl.lookup x = ((ps.zip vals).lookup x).orElse fun uu=>((ps.drop (ps.length - ds.length)).zip ds).lookup x) (i:Nat) (n:Str) (v:Value) (e1:ps[i]? = some n) (e2:(vals++ds.drop (vals.length + ds.length - ps.length))[i]? = some v):sl.lookup n = some v:=by
 rw [g2,z4q nd e1]
 by_cases hi:i < vals.length
 ·rw [List.getElem?_append_left hi] at e2
  rw [e2];rfl
 ·obtain hi:=Nat.le_of_not_lt hi
  rw [List.getElem?_eq_none hi]
  refine (?_:List.lookup n ((ps.drop (ps.length - ds.length)).zip ds) = some v)
  have e3:(ps.drop (ps.length - ds.length))[i - (ps.length - ds.length)]? = some n:=by
   rw [List.getElem?_drop,show ps.length - ds.length + (i - (ps.length - ds.length)) = i by lia];exact e1
  refine (z4q (nd.sublist (List.drop_sublist _ _)) e3).trans ?_
  rw [List.getElem?_append_right hi,List.getElem?_drop] at e2
  rw [show i - (ps.length - ds.length) = vals.length + ds.length - ps.length + (i - vals.length) by lia]
  exact e2
theorem z8y {fd:FuncData} {ps:List Str} {vals ds:List Value} {Q:List (Str×Value)→Shared→Prop} (P:z7g fd.params ps)
  (hd:wpAny M A (seqItems? fd.defaults) (fun r s'=>(r.getD #[]).toList = ds∧s' = s) E s) (h1:vals.length≤ps.length) (h2:ps.length≤vals.length + ds.length) (h3:ds.length≤ps.length)
  (h:Q (ps.zip (vals++ds.drop (vals.length + ds.length - ps.length))) s):wpAny M A (bindArgs fd ⟨vals,[]⟩) Q E s:=by
 revert M A E s fd ps vals ds Q;refine no_implicit_lambda% (z76 (z06 zd9 (z06 z28 (z06 inferInstance (z06 z1v (z06 inferInstance (z06 inferInstance inferInstance)))))) ?_);generalize (e7 _ _).1 = M;generalize (e7 _ _).2.1 = A;generalize (e7 _ _).2.2.1 = E;generalize (e7 _ _).2.2.2.1 = s;generalize (e7 _ _).2.2.2.2.1 = fd;generalize (e7 _ _).2.2.2.2.2.1 = ps;generalize (e7 _ _).2.2.2.2.2.2 = vals;refine no_implicit_lambda% (z2b inferInstance ?_);generalize (e1 _ _) = ds;refine no_implicit_lambda% (z2b inferInstance ?_);generalize (e1 _ _) = Q;unhygienic intros
 obtain ⟨as,kd,df,hp,rfl⟩:∃ (as:List Arg) (kd:List (Option Expr)) (df:List Expr),fd.params = ⟨[],as,none,[],kd,none,df⟩∧as.map (·.arg) = ps:=by
  obtain ⟨e1,e2,e3,e4,e5,nd⟩:=P
  revert e1 e2 e3 e4 e5
  cases fd.params
  rintro rfl e2 rfl rfl rfl
  exact ⟨_,_,_,rfl,e2⟩
 have nd:=P.nd
 revert as kd df;refine no_implicit_lambda% (z36 (z06 inferInstance (z06 inferInstance inferInstance)) ?_);generalize (e3 _ _).1 = as;generalize (e3 _ _).2.1 = kd;generalize (e3 _ _).2.2 = df;unhygienic intros
 obtain hlen:(as.map (·.arg)).length = (vals++ds.drop (vals.length + ds.length - (as.map (·.arg)).length)).length:=by rw [List.length_append,List.length_drop];omega
 unfold bindArgs
 rw [hp]
 change wpAny M A (seqItems? fd.defaults >>= _) Q E s
 refine wpAny_bind (wpAny_mono hd (fun r s' hr=>?_) fun uu uu x=>x)
 obtain ⟨hr,rfl⟩:=hr
 rw [hr]
 refine zs7 (fun q=>Nat.not_lt.mpr h1 (of_decide_eq_true (Bool.and_eq_true_iff.mp q).1)) ?_
 have hD:ds.drop (ds.length - (as.map (·.arg)).length) = ds:=by rw [Nat.sub_eq_zero_of_le h3];rfl
 have nm:=zay (vals:=vals) (k:=(as.map (·.arg)).length - (ds.drop (ds.length - (as.map (·.arg)).length)).length) nd (by rw [hD];lia)
 refine zs7 (fun q=>Bool.false_ne_true (nm.symm.trans q)) ?_
 refine z0e (z9n (fun x sl=>if (List.lookup x.fst sl).isNone = true then pure (ForInStep.yield (sl++[(x.fst,x.snd)])) else pure (ForInStep.yield sl)) (fun n d sl=>rfl) (((as.map (·.arg)).drop ((as.map (·.arg)).length - (ds.drop (ds.length - (as.map (·.arg)).length)).length)).zip (ds.drop (ds.length - (as.map (·.arg)).length))) ((as.map (·.arg)).zip vals)) fun sl g1 g2=>?_
 refine zol g1 ?_
 rw [hD] at g2
 change wpAny M A (pure ((as.map (fun x:Arg=>x.arg)++[]).filterMap fun n=>(sl.lookup n).map (n,·))) Q E _
 rw [List.append_nil,z5e (fun n=>List.lookup n sl) hlen (zom nd h1 h2 h3 g2)]
 exact wpAny_pure h
end
end
section
open PySem PySem.W PySem.Calls PyProof.Rows PySem.SeqAt
theorem z53:∀ (names:List (Str×NameKind)) (h:Heap) (acc:List (Str×Addr)),(∀ p∈acc,h.get? p.2 = some { cls:=.type "cell",data:=.cell none }) →
  ∀ p∈cellsFrom h.objs.size names acc,(pushCells h names).get? p.2 = some { cls:=.type "cell",data:=.cell none }
 | []=>fun uu uu x=>x
 | (n,k) :: r=>fun h acc x=>by
  unfold cellsFrom pushCells
  split
  ·have:=z53 r (h.push { cls:=.type "cell",data:=.cell none }) ((n,h.objs.size) :: acc) fun p hp=>by
    refine Or.elim (List.mem_cons.mp hp) (fun zo7=>?_) (fun hp=>?_)
    ·obtain rfl:=zo7;exact Heap.get?_push_size _ rfl
    ·exact Heap.get?_push_of_some _ (x p hp)
   rwa [Heap.size_push] at this
  ·exact z53 r h acc x
structure zr9 (gd:Gd) (a:Addr) (f:zg1):Prop where
 ex:∃ o fd,gd.h₀.get? a = some o∧o.data = .func fd∧fd.body = .stmts f.body∧fd.scope.names = f.sc∧fd.scope.kind = .function∧fd.scope.isCoroutine = false∧fd.scope.isGenerator = false∧fd.closure = []∧fd.globals = mainGlobals∧fd.builtins = builtinsNs ∧
  gd.h₀.CodeRec fd.code fd.qualname∧z7g fd.params f.params∧∃ ds,(fd.defaults = .none∧ds = []∨∃ t ot n,fd.defaults = .ref t∧gd.h₀.get? t = some ot∧ot.data = .seq ds.toArray n)∧ds.length≤f.params.length∧∀ R h,VRels R h f.dflt ds
 sc:zng f.sc = true
 kinds:∀ p∈f.params,f.sc.lookup p = some .local∨f.sc.lookup p = some .cell
 noFree:∀ n∈f.sc,n.2 ≠ .free
section
variable {gd:Gd} {h h' h'':Heap} {fr:List Env} {A:Around} {env:Env} {I:z1q} {ℓ ℓ':Loc} {σ σ':AS} {R R':List Addr} {s s':Shared}
theorem Iv.frs {fr':List Env} (i:Iv gd fr R σ h) (f:Frs gd h fr'):Iv gd fr' R σ h:=⟨i.stays,i.fresh,i.nodup,i.len,i.obj,f⟩
theorem zdh {env:Env} (f:Str×Value→PUnit→Sem (ForInStep PUnit)) (hf:∀ n v u,f (n,v) u = (do storeName env n v;pure (.yield ⟨⟩))) {E:Value→Shared→Prop} :
  ∀ (ps:List Str) (vs:List Value) (as:List AV) (ℓ:Loc) (s:Shared) (Q:PUnit→Shared→Prop),(∀ p∈ps,env.kindOf p = some .local∨env.kindOf p = some .cell)→Iv gd fr R σ s.heap→LocOk gd env ℓ R s.heap→VRels R s.heap as vs →
   (∀ h' tk,ExtX (Own env) R s.heap R h'→Iv gd fr R σ h'→LocOk gd env (zc2 ps as ℓ) R h'→Q ⟨⟩ { s with heap:=h',toks:=tk })→wpAny gd.m A (forIn (ps.zip vs) ⟨⟩ f) Q E s
 | [],vs,as,ℓ,s,Q,_,i,L,_,h=>by
  refine wpAny_pure ?_
  have:=h s.heap s.toks ExtX.refl i L
  exact this
 | p :: ps,[],as,ℓ,s,Q,_,i,L,q,h=>by
  cases q
  refine wpAny_pure ?_
  have:=h s.heap s.toks ExtX.refl i L
  exact this
 | p :: ps,v :: vs,_,ℓ,s,Q,hk,i,L,q,h=>by
  cases q with
  | @cons a _ as _ q1 q2 =>
   rw [List.zip_cons_cons,List.forIn_cons,hf]
   refine wpAny_bind (wpAny_bind (z5c i L ((hk p (.head _)).imp id .inl) q1 fun h1 tk1 x1 i1 L1=>wpAny_pure ?_))
   obtain tups:∀ b o,s.heap.get? b = some o→(o.cls = .type "tuple"∨o.cls = .type "range")→h1.get? b = some o:=fun b o eb cc=>by
    have hw:¬ Own env b:=by
     rintro (z | ⟨x,hx⟩)
     ·refine z0e L.obj fun ol hol hcl=>?_
      rw [z,hol] at eb;obtain rfl:=Option.some.inj eb
      rcases hcl with hcl | hcl <;> rw [hcl] at cc <;> simp at cc
     ·refine z3z (L.cells x b hx) fun uu uu uu v3 h3=>?_
      rw [h3] at eb;obtain rfl:=Option.some.inj eb;simp at cc
    obtain hR:b ∉ R:=fun hm=>by
     refine oEA (List.mem_iff_getElem?.mp hm) fun j hj=>?_
     obtain hl:j < σ.length:=by rw [← i.len];exact (List.getElem?_eq_some_iff.mp hj).1
     refine z8n ((i.obj j _ b (List.getElem?_eq_getElem hl) hj).obj) fun ob e' d1 d2 uu=>?_
     rw [e'] at eb;obtain rfl:=Option.some.inj eb;exact cc.elim d1 d2
    exact x1.exact hR hw eb (by rcases cc with cc | cc <;> rw [cc] <;> decide)
   exact zdh f hf ps vs as (z1e ℓ p a) { s with heap:=h1,toks:=tk1 } Q (fun p hp=>hk p (.tail _ hp)) i1 L1 (q2.keep (List.prefix_refl R) tups) fun h2 tk2 x2 i2 L2=>h h2 tk2 (x1.trans x2) i2 (by exact L2)
theorem zaz (i:Iv gd fr R σ s.heap) {scope:Scope} {qual:Str} {func:Option Addr} {code:Value} {ps:List Str} {vs:List Value} {as:List AV} (hk:scope.kind = .function) (hfree:∀ n∈scope.names,n.2 ≠ .free)
  (hkind:∀ p∈ps,scope.names.lookup p = some .local∨scope.names.lookup p = some .cell) (q:VRels R s.heap as vs) {Q:Env→Shared→Prop} {E:Value→Shared→Prop}
  (h:∀ env:Env,env.scope = scope→env.frame = some env.locals→s.heap.get? env.locals = none→∀ h' tk,Ext R s.heap R h'→(∀ b,Own env b→s.heap.get? b = none)→Iv gd (env :: fr) R σ h'→LocOk gd env (zc2 ps as []) R h'→Q env { s with heap:=h',toks:=tk }) :
  wpAny gd.m A (newFunctionEnv scope mainGlobals [] (ps.zip vs) qual func code none builtinsNs) Q E s:=by
 simp only [newFunctionEnv,Option.isSome_none,Bool.false_eq_true,if_false]
 refine wpAny_bind (wpAny_alloc ?_)
 refine wpAny_bind (wpAny_layCells _ (fun name kind cells=>by cases hkc:kind == NameKind.cell <;> simp [hkc]) _ _ _ _ ?_)
 rw [show ({ s with heap:=s.heap.push { cls:=.type "frame",data:=.dict #[] } }:Shared).heap.objs.size = s.heap.objs.size + 1 from Heap.size_push ..]
 dsimp only
 have ok:=cellsFrom_ok scope.names (s.heap.push { cls:=.type "frame",data:=.dict #[] }) (s.heap.objs.size + 1) [] ⟨fun uu uu hm=>(nomatch hm),List.Pairwise.nil⟩ (by rw [Heap.size_push];exact Nat.le_refl _)
 obtain ex:=z53 scope.names (s.heap.push { cls:=.type "frame",data:=.dict #[] }) [] (fun uu hm=>nomatch hm)
 rw [Heap.size_push] at ok ex
 obtain u1:Up (s.heap.push { cls:=.type "frame",data:=.dict #[] }) (pushCells (s.heap.push { cls:=.type "frame",data:=.dict #[] }) scope.names):=pushCells_keeps _ _
 have u:Up s.heap (pushCells (s.heap.push { cls:=.type "frame",data:=.dict #[] }) scope.names):=(Up.push _ _).trans u1
 obtain gL:(pushCells (s.heap.push { cls:=.type "frame",data:=.dict #[] }) scope.names).get? s.heap.objs.size = some { cls:=.type "frame",data:=.dict #[] }:=u1 _ _ (Heap.get?_push_size _ rfl)
 obtain nL:(pushCells (s.heap.push { cls:=.type "frame",data:=.dict #[] }) scope.names).Ns s.heap.objs.size (fun uu=>none):=(Heap.Ns.new s.heap (.type "frame")).keeps u1
 obtain cdom:∀ x,scope.names.lookup x = some .cell→∃ c,(cellsFrom (s.heap.objs.size + 1) scope.names []).lookup x = some c:=fun x hx=>Option.isSome_iff_exists.mp (cellsFrom_some scope.names _ [] (.inl hx))
 generalize pushCells (s.heap.push { cls:=.type "frame",data:=.dict #[] }) scope.names = h1 at ok ex u gL nL ⊢
 generalize cellsFrom (s.heap.objs.size + 1) scope.names [] = cells at ok ex cdom ⊢
 obtain sL:s.heap.get? s.heap.objs.size = none:=z2o _
 obtain hlt:∀ b o,s.heap.get? b = some o→b < s.heap.objs.size:=fun b o e=>Heap.lt_size e
 generalize s.heap.objs.size = L at ok ex gL nL sL hlt ⊢
 refine oAA (i.fresh_of sL) fun LR L0=>?_
 have cfresh:∀ x c,(x,c)∈cells→s.heap.get? c = none:=fun x c hm=>by
  cases e:s.heap.get? c with
  | none=>rfl
  | some o =>
   obtain h1:=hlt _ _ e
   obtain h2:=(ok.empty x c hm).2
   exact absurd (Nat.lt_of_lt_of_le h1 (Nat.le_of_succ_le h2)) (Nat.lt_irrefl _)
 generalize henv:({ scope:=scope,locals:=L,globals:=mainGlobals,cells:=cells,qual:=qual,func:=func,code:=code,frame:=some L,builtins:=builtinsNs }:Env) = env
 have hown:∀ b,Own env b→s.heap.get? b = none:=by
  subst henv
  rintro b (z | ⟨x,hx⟩)
  ·exact z ▸ sL
  ·exact cfresh x b hx
 have i1:Iv gd (env :: fr) R σ h1:=(i.up u).frs (fun e he=>by
  rcases List.mem_cons.mp he with rfl | he
  ·subst henv
   exact ⟨by rw [hk];simp,L,_,rfl,L0,gL,rfl,_,_,rfl⟩
  ·exact (i.up u).frames e he)
 have L1:LocOk gd env [] R h1:=by
  subst henv
  refine ⟨hk,rfl,rfl,LR,L0,⟨_,gL,.inl rfl⟩,⟨_,nL,fun x v e uu=>(by exact nn e)⟩,fun x hx=>?_,fun x v e uu=>(by exact nn e),fun x c hm=>?_,ok.apart⟩
  ·rcases hx with hx | hx
   ·exact cdom x hx
   ·exact absurd rfl (hfree _ (mem_of_lookup hx))
  ·have sc:=cfresh x c hm
   refine oAA (i.fresh_of sc) fun cR c0=>?_
   refine ⟨cR,c0,?_,none,ex _ hm⟩
   have:=(ok.empty x c hm).2
   intro z
   have z:c = L:=z
   rw [z] at this
   exact absurd this (Nat.not_succ_le_self _)
 refine wpAny_bind (zdh (env:=env) _ ?_ ps vs as [] _ _ (by subst henv;exact hkind) i1 L1 (q.keep (List.prefix_refl R) fun b o e uu=>u b o e) fun h2 tk2 x2 i2 L2=>wpAny_pure ?_)
 ·intro n v u;subst henv;rfl
 obtain x3:Ext R s.heap R h2:=((Ext.up u).x.trans x2).toExt hown
 have:=h env (by subst henv;rfl) (by subst henv;rfl) (by subst henv;exact sL) h2 tk2 x3 hown i2 L2
 subst henv
 exact this
end
end
section
open PySem PySem.W PySem.Calls PyProof.Rows PySem.SeqAt
noncomputable def Pass (hs h h':Heap):Prop:=∀ b o,h.get? b = some o→(∃ o₁,hs.get? b = some o₁)→∃ o',h'.get? b = some o'∧o'.cls = o.cls∧o'.dict = o.dict∧o'.data = o.data∧(o.cls ≠ .type "frame"→o' = o)
noncomputable def zh7 (gd:Gd):Prop :=
 ∀ (A:Around) (env:Env) (outer:List Env) (R:List Addr) (σ:AS) (e:Addr) (m:Str) (s:Shared) (hs:Heap) (Q:Unit→Shared→Prop) (E:Value→Shared→Prop),
  A.frames = some (env :: outer)→env.frame = some env.locals→Iv gd (env :: outer) R σ s.heap→zgd gd hs R σ e m s.heap →
  (∀ h',Iv gd (env :: outer) R σ h'→Flying gd hs R σ e m h'→Pass hs s.heap h'→Q () { s with heap:=h' })→wpAny gd.m A (leaving env (.ref e)) Q E s
set_option backward.match.sparseCases true in
noncomputable def zf8 (Q E:Value→Shared→Prop) (r:Result) (s':Shared):Prop:=match r with
 | .ok (.ret v)=>Q v s'
 | .ok _=>False
 | .error e=>E e s'
noncomputable def CodeOk (gd:Gd) (fr:List Env) (A:Around) (C:Addr→List AV→AS→Res AV):Prop :=
 ∀ (a:Addr) (args:List AV) (vals:List Value) (σ:AS) (R:List Addr) (s:Shared) (Q E:Value→Shared→Prop),
  Iv gd fr R σ s.heap→VRels R s.heap args vals→PR gd fr RV Q E R s (C a args σ)→codeAny gd.m A (.call (.ref a) ⟨vals,[]⟩) (zf8 Q E) s
theorem CodeOk.call {gd:Gd} {fr:List Env} {A:Around} {C:Addr→List AV→AS→Res AV} (x:CodeOk gd fr A C):zgg gd fr A C :=
 fun a args vals σ R s Q E i q h=>wpAny_call (x a args vals σ R s Q E i q h)
section
variable {gd:Gd} {h h' h'':Heap} {fr:List Env} {A:Around} {env:Env} {I:z1q} {ℓ ℓ':Loc} {σ σ':AS} {R R':List Addr} {s s':Shared}
theorem VRels.drop {as:List AV} {vs:List Value} (x:VRels R h as vs) (n:Nat):VRels R h (as.drop n) (vs.drop n):=by
 induction n generalizing as vs with
 | zero=>exact x
 | succ n ih=>cases x with
  | nil=>exact .nil
  | cons q r=>exact ih r
theorem Ext.pass {hs:Heap} (x:Ext R h R' h') (hh:∀ b o,h.get? b = some o→∃ o',hs.get? b = some o') (p:Pass hs h' h''):Ext R h R' h'':=by
 refine ⟨x.pre,x.new,fun b o e hb=>?_,fun b o e=>?_⟩
 ·refine z1o (x.keep b o e hb) fun o₁ e₁ c1 d1 a1 f1=>?_
  refine z1o (p b o₁ e₁ (hh b o e)) fun o₂ e₂ c2 d2 a2 f2=>?_
  exact ⟨o₂,e₂,c2.trans c1,d2.trans d1,a2.trans a1,fun q=>(f2 (c1 ▸ q)).trans (f1 q)⟩
 ·refine oEA (x.stay b o e) fun o₁ e₁=>?_
  refine z0e (p b o₁ e₁ (hh b o e)) fun o₂ e₂ uu=>?_
  exact ⟨o₂,e₂⟩
theorem Frs.tail {env:Env} (f:Frs gd h (env :: fr)):Frs gd h fr:=fun e he=>f e (.tail _ he)
theorem zon {a:Addr} {f:zg1} {d:Nat} (top:zex gd) (hT:gd.T.fn a = some f) (F:zr9 gd a f) (body:∀ fr,SXs gd fr f.body) (LV:zh7 gd)
  (hh:A.handled = none) (hfr:A.frames = some fr) (hu:A.units + 200 < cLine) (hroom:A.depth + 2 < recursionLimit) (hc:∀ env:Env,zgg gd (env :: fr) (A.deeper env) (z05 gd.T d))
  {args:List AV} {vals:List Value} {Q E:Value→Shared→Prop} (i:Iv gd fr R σ s.heap) (q:VRels R s.heap args vals) (h:PR gd fr RV Q E R s (z05 gd.T (d + 1) a args σ)):codeAny gd.m A (.call (.ref a) ⟨vals,[]⟩) (zf8 Q E) s:=by
 revert gd fr A σ R s a f d args vals Q E;refine no_implicit_lambda% (z76 (z06 nGd (z06 inferInstance (z06 z28 (z06 inferInstance (z06 inferInstance (z06 z1v inferInstance)))))) ?_);generalize (e7 _ _).1 = gd;generalize (e7 _ _).2.1 = fr;generalize (e7 _ _).2.2.1 = A;generalize (e7 _ _).2.2.2.1 = σ;generalize (e7 _ _).2.2.2.2.1 = R;generalize (e7 _ _).2.2.2.2.2.1 = s;generalize (e7 _ _).2.2.2.2.2.2 = a;refine no_implicit_lambda% (z2b zrq ?_);generalize (e1 _ _) = f;refine no_implicit_lambda% (z2b inferInstance ?_);generalize (e1 _ _) = d;unhygienic intros;revert args vals Q E;refine no_implicit_lambda% (z36 (z06 inferInstance (z06 inferInstance inferInstance)) ?_);generalize (e3 _ _).1 = args;generalize (e3 _ _).2.1 = vals;generalize (e3 _ _).2.2 = Q;refine no_implicit_lambda% (z2b inferInstance ?_);generalize (e1 _ _) = E;unhygienic intros
 refine z3a F.ex fun o fd g hd hb hsc hk hco hgen hclo hgl hbl hcd hp ds hds hdl hdv=>?_
 revert o fd ds;refine no_implicit_lambda% (z2b inferInstance ?_);generalize (e1 _ _) = o;refine no_implicit_lambda% (z2b inferInstance ?_);generalize (e1 _ _) = fd;unhygienic intros;revert ds;refine no_implicit_lambda% (z2b inferInstance ?_);generalize (e1 _ _) = ds;unhygienic intros
 rw [z73 hT] at h
 cases hbA:zc3 f args with
 | none=>rw [zrm hbA] at h;exact False.elim h
 | some ℓ =>
  rw [zga hbA] at h
  refine oAA (z0x hbA) fun hlen hbA=>?_
  ·obtain rfl:=Option.some.inj hbA
   obtain hl1:args.length = vals.length:=q.length
   obtain hl2:f.dflt.length = ds.length:=(hdv R s.heap).length
   refine codeAny_call_function (by lia) (i.stays _ _ g) hd hco hgen hb (hcd.keeps i.stays) ?_
   refine z8y hp (ds:=ds) ?_ (by lia) (by lia) hdl ?_
   ·rcases hds with ⟨e1,e2⟩ | ⟨t,ot,n,e1,e2,e3⟩
    ·rw [e1,e2]
     exact wpAny_bind (wpAny_pure (wpAny_pure ⟨rfl,rfl⟩))
    ·rw [e1]
     exact wpAny_seqItems (i.stays _ _ e2) e3 ⟨by simp,rfl⟩
   ·rw [hgl,hclo,hbl]
    have q':VRels R s.heap (args++f.dflt.drop (args.length + f.dflt.length - f.params.length)) (vals++ds.drop (vals.length + ds.length - f.params.length)):=by
     refine q.append ?_
     rw [hl1,hl2]
     exact (hdv R s.heap).drop _
    refine zaz i hk (by rw [hsc];exact F.noFree) (by rw [hsc];exact F.kinds) q' fun env hes hef hel h1 tk1 x1 hown i1 L1=>⟨top.lim.keeps i1.stays,codeAny_func ?_⟩
    refine zmh (zgx F.sc) fun s1 s2 s3=>?_
    revert env h1 tk1;refine no_implicit_lambda% (z2b inferInstance ?_);generalize (e1 _ _) = env;unhygienic intros;revert h1 tk1;refine no_implicit_lambda% (z2b inferInstance ?_);generalize (e1 _ _) = h1;refine no_implicit_lambda% (z2b inferInstance ?_);generalize (e1 _ _) = tk1;unhygienic intros
    have hkd:∀ x,env.kindOf x = f.sc.lookup x:=fun x=>by unfold Env.kindOf;rw [hes,hsc]
    have C:Cx gd (env :: fr) (A.deeper env) env ⟨z05 gd.T d,gd.T.kn,fun C=>(gd.T.cls C).isSome,gd.T.glob,gd.T.meth,gd.T.refusal,f.sc,true,gd.T.frz⟩ :=
     ⟨top,hh,by show A.frames.map _ = _;rw [hfr];rfl,by show A.units + 3 + 100 < cLine;lia,hc env,rfl,rfl,rfl,fun C e=>Option.isSome_iff_exists.mp e,rfl,rfl,
      fun x e=>(hkd x).trans e,fun x e=>by rw [hkd x];exact e,fun x e=>(hkd x).trans e,s1,s2,by rw [hes];exact hk,by rw [hkd];exact s3,fun uu=>⟨fr,rfl,hef⟩,by show A.depth + 1 + 1 < recursionLimit;lia⟩
    refine body (env :: fr) (A.deeper env) env _ _ σ R { s with heap:=h1,toks:=tk1 } _ _ C i1 L1 ?_
    revert h
    cases hr:z39 f.body ⟨z05 gd.T d,gd.T.kn,fun C=>(gd.T.cls C).isSome,gd.T.glob,gd.T.meth,gd.T.refusal,f.sc,true,gd.T.frz⟩ (zc2 f.params (args++f.dflt.drop (args.length + f.dflt.length - f.params.length)) []) σ with
    | ok fl σ₂ =>
     intro h b R₂ h₂ tk₂ x2 i2 q2
     have x3:Ext R s.heap R₂ h₂:=(x1.x.trans x2).toExt hown
     obtain i3:=i2.frs i2.frames.tail
     obtain ⟨fa,ℓ₂⟩:=fl
     obtain ⟨_,q2⟩:=q2
     cases q2 with
     | next=>exact h .none R₂ h₂ tk₂ x3 i3 .none
     | brk=>exact h.elim
     | ret q2=>exact h _ R₂ h₂ tk₂ x3 i3 q2
    | exc m σ₂ =>
     intro h e R₂ h₂ tk₂ x2 i2 ⟨hs,k1,y⟩
     obtain x3:Ext R s.heap R₂ h₂:=(x1.x.trans x2).toExt hown
     obtain k2:∀ b o,s.heap.get? b = some o→∃ o',hs.get? b = some o':=fun b o eb=>(x1.stay b o eb).elim fun o' e'=>k1 b o' e'
     refine LV (A.deeper env) env fr R₂ σ₂ e m { s with heap:=h₂,toks:=tk₂ } hs _ _ (by show A.frames.map _ = _;rw [hfr];rfl) hef i2 y fun h' i4 x4 p4=>?_
     exact h e R₂ h' tk₂ (x3.pass k2 p4) (i4.frs i4.frames.tail) ⟨hs,k2,x4⟩
    | bad=>exact fun h=>h.elim
end
end
section
open PySem PySem.W PySem.Calls PyProof.Rows PySem.SeqAt
section
variable {gd:Gd} {h h' h'':Heap} {fr:List Env} {A:Around} {env:Env} {I:z1q} {ℓ ℓ':Loc} {σ σ':AS} {R R':List Addr} {s s':Shared}
theorem zdi (A:Around) (a:Addr) (v:List Value):(A.under (.builtin "type.__call__" ⟨.ref a :: v,[]⟩)).handled = A.handled∧(A.under (.builtin "type.__call__" ⟨.ref a :: v,[]⟩)).depth = A.depth + 1∧(A.under (.builtin "type.__call__" ⟨.ref a :: v,[]⟩)).units = A.units + 1 ∧
  ∀ fr,A.frames = some fr→(A.under (.builtin "type.__call__" ⟨.ref a :: v,[]⟩)).frames = some fr:=by
 refine ⟨rfl,?_,?_,fun fr h=>?_⟩
 ·refine (?_:A.depth + (Code.builtin "type.__call__" ⟨.ref a :: v,[]⟩).weight = _)
  rfl
 ·refine (?_:A.units + (Code.builtin "type.__call__" ⟨.ref a :: v,[]⟩).cUnits = _)
  rfl
 ·refine (?_:pushEnvs (Code.builtin "type.__call__" ⟨.ref a :: v,[]⟩).envs A.frames = some fr)
  exact h
theorem zkd {a init:Addr} {d:Nat} (top:zex gd) (hn:gd.T.fn a = none) (hT:gd.T.cls a = some init) (hc:∀ v:List Value,CodeOk gd fr (A.under (.builtin "type.__call__" ⟨.ref a :: v,[]⟩)) (z05 gd.T d))
  {args:List AV} {vals:List Value} {Q E:Value→Shared→Prop} (i:Iv gd fr R σ s.heap) (q:VRels R s.heap args vals) (h:PR gd fr RV Q E R s (z05 gd.T (d + 1) a args σ)):codeAny gd.m A (.call (.ref a) ⟨vals,[]⟩) (zf8 Q E) s:=by
 revert gd fr A σ R s a init d args vals Q E;refine no_implicit_lambda% (z76 (z06 nGd (z06 inferInstance (z06 z28 (z06 inferInstance (z06 inferInstance (z06 z1v inferInstance)))))) ?_);generalize (e7 _ _).1 = gd;generalize (e7 _ _).2.1 = fr;generalize (e7 _ _).2.2.1 = A;generalize (e7 _ _).2.2.2.1 = σ;generalize (e7 _ _).2.2.2.2.1 = R;generalize (e7 _ _).2.2.2.2.2.1 = s;generalize (e7 _ _).2.2.2.2.2.2 = a;refine no_implicit_lambda% (z2b inferInstance ?_);generalize (e1 _ _) = init;refine no_implicit_lambda% (z2b inferInstance ?_);generalize (e1 _ _) = d;unhygienic intros;revert args vals Q E;refine no_implicit_lambda% (z36 (z06 inferInstance (z06 inferInstance inferInstance)) ?_);generalize (e3 _ _).1 = args;generalize (e3 _ _).2.1 = vals;generalize (e3 _ _).2.2 = Q;refine no_implicit_lambda% (z2b inferInstance ?_);generalize (e1 _ _) = E;unhygienic intros
 rw [z74 hn hT] at h
 obtain CO:=top.cls a init hT
 obtain XK:gd.K.In s.heap:=top.kin.keeps i.stays
 obtain ⟨hh,g,dr,t,os⟩:=s
 revert hh g dr t os;refine no_implicit_lambda% (z36 (z06 inferInstance (z06 inferInstance zge)) ?_);generalize (e3 _ _).1 = hh;generalize (e3 _ _).2.1 = g;generalize (e3 _ _).2.2 = dr;refine no_implicit_lambda% (z2b inferInstance ?_);generalize (e1 _ _) = t;refine no_implicit_lambda% (z2b inferInstance ?_);generalize (e1 _ _) = os;unhygienic intros
 refine make_core (makes_of XK CO.makes) (looks_findIn XK CO.ini) (fun self=>bind_fn XK self CO.iniF) (.inl rfl) ?_
 dsimp only at i q XK h ⊢
 obtain n1:hh.get? hh.objs.size = none:=z2o hh
 obtain u1:Up hh (hh.push emptyDict):=Up.push _ _
 obtain g1:(hh.push emptyDict).get? hh.objs.size = some emptyDict:=Heap.get?_push_size _ rfl
 obtain i1:=i.alloc u1 n1 (o:=.ns []) (.ns g1 rfl rfl ⟨#[],0,rfl,Nat.le_refl _⟩ (Heap.Ns.new hh (.type "dict")) fun x=>rfl)
 have n2:(hh.push emptyDict).get? (hh.objs.size + 1) = none:=by have:=z2o (hh.push emptyDict);rwa [Heap.size_push] at this
 obtain u2:Up (hh.push emptyDict) ((hh.push emptyDict).push (instObj a hh.objs.size)):=Up.push _ _
 have g2:((hh.push emptyDict).push (instObj a hh.objs.size)).get? (hh.objs.size + 1) = some (instObj a hh.objs.size):=by
  have:=Heap.get?_push_size (hh.push emptyDict) (o:=instObj a hh.objs.size) rfl;rwa [Heap.size_push] at this
 have hd:(R++[hh.objs.size]++[hh.objs.size + 1])[σ.length]? = some hh.objs.size:=by
  rw [← i.len,List.append_assoc,List.getElem?_append_right (Nat.le_refl _),Nat.sub_self];rfl
 obtain i2:=i1.alloc u2 n2 (o:=.inst a σ.length) (.inst hd g2)
 obtain x2:Ext R hh (R++[hh.objs.size]++[hh.objs.size + 1]) ((hh.push emptyDict).push (instObj a hh.objs.size)):=(Ext.alloc u1 n1).trans (Ext.alloc u2 n2)
 have hself:VRel (R++[hh.objs.size]++[hh.objs.size + 1]) ((hh.push emptyDict).push (instObj a hh.objs.size)) (.ref (σ.length + 1)) (.ref (hh.objs.size + 1)):=.ref (by
  rw [← i.len,List.append_assoc,List.getElem?_append_right (Nat.le_succ _)]
  rw [show R.length + 1 - R.length = 1 by lia];rfl)
 obtain hσ:σ++[.ns []]++[.inst a σ.length] = σ++[.ns [],.inst a σ.length]:=by simp
 rw [hσ] at i2
 have z:codeAny gd.m (A.under (.builtin "type.__call__" ⟨.ref a :: vals,[]⟩)) (.call (.ref init) ⟨.ref (hh.objs.size + 1) :: vals,[]⟩) (zf8 (fun v s'=>v = .none∧Q (.ref (hh.objs.size + 1)) s') fun uu uu=>False) ⟨(hh.push emptyDict).push (instObj a hh.objs.size),g,dr,t,os⟩:=by
  refine hc vals init _ _ _ _ _ _ _ i2 (.cons hself (q.ext i x2)) ?_
  revert h
  cases z05 gd.T d init (.ref (σ.length + 1) :: args) (σ++[.ns [],.inst a σ.length]) with
  | ok v σ₂ =>
   cases v with
   | none =>
    intro h b R₂ h₂ tk x3 i3 q3
    cases q3
    exact ⟨rfl,h _ R₂ h₂ tk (x2.trans x3) i3 (hself.ext i2 x3)⟩
   | _=>exact fun h=>h.elim
  | exc m σ₂=>exact fun h=>h.elim
  | bad=>exact fun h=>h.elim
 refine codeAny_mono z fun r s' zz=>?_
 rcases r with e | (v | _ | _ | _) <;> first | exact zz | exact zz.elim
end
end
section
open PySem PySem.W PySem.Calls PyProof.Rows PySem.SeqAt
section
variable {gd:Gd} {hs h h' h'':Heap} {fr:List Env} {A:Around} {env:Env} {outer:List Env} {σ σ':AS} {R R':List Addr} {s s':Shared} {E:Value→Shared→Prop} {e:Addr} {m:Str}
theorem Frs.fun_ {l:List Env} (f:Frs gd h l):h.FunFrames gd.h₀ l:=by
 induction l with
 | nil=>trivial
 | cons env l ih =>
  refine z50 (f env (.head _)) fun hk L o a b c d es n q=>?_
  exact ⟨hk,⟨L,o,a,b,c,fun vs z=>by rw [q] at z;cases z⟩,ih f.tail⟩
theorem Frs.mem {l:List Env} (f:Frs gd h l) {b:Addr} (hb:b∈l.filterMap (·.frame)):gd.h₀.get? b = none∧∃ o,h.get? b = some o∧o.cls = .type "frame":=by
 refine z0e (List.mem_filterMap.mp hb) fun env he hf=>?_
 refine z50 (f env he) fun hk L o a b' c d es n q=>?_
 rw [a] at hf;obtain rfl:=Option.some.inj hf
 exact ⟨b',o,c,d⟩
theorem zke {M:Model} {l:Addr} {oe:Obj} {vs:Array Value} {head:Value} {hadNext:Bool} {Q:Unit→Shared→Prop} (hfr:A.frames = some (env :: outer)) (f:Frs gd s.heap (env :: outer)) (hf:env.frame = some l)
  (he:s.heap.get? e = some oe) (hd:oe.data = .fields vs) (hsz:1 < vs.size)
  (h:∀ h' Tn ts,s.heap.get? Tn = none→h'.get? e = some { oe with data:=.fields (vs.setIfInBounds 1 (.ref Tn)) }→h'.get? Tn = some { cls:=.type "traceback",dict:=none,data:=.fields ts,slots:=#[] }→3 < ts.size →
   (∀ b o,b ≠ e→s.heap.get? b = some o→∃ sl,h'.get? b = some { o with slots:=sl }∧(b ∉ (env :: outer).filterMap (·.frame)→sl = o.slots))→Q () { s with heap:=h' }) :
  wpAny M A (do let a ← frameOf env;let pl ← entryPlaceOf l hadNext;let b ← EntryCells.newEntry head a .none (rawInt l) .none pl;setField (.ref e) 1 b) Q E s:=by
 revert gd A env outer s E e M l oe vs head hadNext Q;refine no_implicit_lambda% (z76 (z06 nGd (z06 z28 (z06 inferInstance (z06 inferInstance (z06 z1v (z06 inferInstance inferInstance)))))) ?_);generalize (e7 _ _).1 = gd;generalize (e7 _ _).2.1 = A;generalize (e7 _ _).2.2.1 = env;generalize (e7 _ _).2.2.2.1 = outer;generalize (e7 _ _).2.2.2.2.1 = s;generalize (e7 _ _).2.2.2.2.2.1 = E;generalize (e7 _ _).2.2.2.2.2.2 = e;refine no_implicit_lambda% (z76 (z06 zd9 (z06 inferInstance (z06 inferInstance (z06 inferInstance (z06 inferInstance (z06 inferInstance inferInstance)))))) ?_);generalize (e7 _ _).1 = M;generalize (e7 _ _).2.1 = l;generalize (e7 _ _).2.2.1 = oe;generalize (e7 _ _).2.2.2.1 = vs;generalize (e7 _ _).2.2.2.2.1 = head;generalize (e7 _ _).2.2.2.2.2.1 = hadNext;generalize (e7 _ _).2.2.2.2.2.2 = Q;unhygienic intros
 obtain hene:e ∉ (env :: outer).filterMap (·.frame):=fun hm=>by
  refine zrn (f.fun_.mem hm) fun uu o ho hc=>?_
  rw [he] at ho;obtain rfl:=Option.some.inj ho;exact hc vs hd
 refine wpAny_bind (wpAny_frameOf_fun hfr f.fun_ hf fun h₁ hs₁=>?_)
 refine wpAny_bind (wpAny_entryPlaceOf fun pl hpl=>?_)
 refine wpAny_bind (wpAny_newObj_type ?_ (hpl.sizeOk5 _ _ _ _ _))
 obtain he₁:h₁.get? e = some oe:=(hs₁.2.1 e hene).trans he
 revert h₁ pl;refine no_implicit_lambda% (z2b inferInstance ?_);generalize (e1 _ _) = h₁;unhygienic intros;revert pl;refine no_implicit_lambda% (z2b inferInstance ?_);generalize (e1 _ _) = pl;unhygienic intros
 have hlen:3 < ([head,.ref l,.none,rawInt l,.none]++(if pl.isEmpty then List.replicate 6 Value.none else pl)).toArray.size:=by
  simp only [List.size_toArray,List.length_append,List.length_cons,List.length_nil];lia
 generalize ([head,.ref l,.none,rawInt l,.none]++(if pl.isEmpty then List.replicate 6 Value.none else pl)).toArray = ts at hlen ⊢
 obtain he₂:=Heap.get?_push_of_some (h:=h₁) { cls:=.type "traceback",dict:=none,data:=.fields ts } he₁
 refine wpAny_setField he₂ hd hsz ?_
 obtain hTe:h₁.objs.size ≠ e:=Nat.ne_of_gt (Heap.lt_size he₁)
 obtain hd₃:=Obj.data_mapFields hd (·.setIfInBounds 1 (Value.ref h₁.objs.size))
 obtain he₃:=Heap.get?_update_self (Obj.mapFields (·.setIfInBounds 1 (Value.ref h₁.objs.size))) he₂ (Obj.isFreed_of_fields hd₃)
 obtain hoe:Obj.mapFields (fun x=>x.setIfInBounds 1 (Value.ref h₁.objs.size)) oe = { oe with data:=.fields (vs.setIfInBounds 1 (.ref h₁.objs.size)) }:=by
  obtain ⟨c,d,dt,sl⟩:=oe
  dsimp only at hd;subst hd;rfl
 rw [hoe] at he₃
 obtain hT₃:=(Heap.get?_update_other (h₁.push { cls:=.type "traceback",dict:=none,data:=.fields ts }) (Obj.mapFields (·.setIfInBounds 1 (Value.ref h₁.objs.size))) (Ne.symm hTe)).trans (Heap.get?_push_size h₁ rfl)
 have hn:s.heap.get? h₁.objs.size = none:=by
  cases q:s.heap.get? h₁.objs.size with
  | none=>rfl
  | some o=>refine oEA (hs₁.2.2 _ _ q) fun sl hsl=>?_;exact absurd (Heap.lt_size hsl) (Nat.lt_irrefl _)
 refine h _ h₁.objs.size ts hn he₃ hT₃ hlen fun b o hb eb=>?_
 refine oEA (hs₁.2.2 b o eb) fun sl hsl=>?_
 refine ⟨sl,?_,fun hnf=>?_⟩
 ·refine (Heap.get?_update_other _ _ (Ne.symm hb)).trans ?_
  exact Heap.get?_push_of_some _ hsl
 ·have:=(hs₁.2.1 b hnf).trans eb
  rw [hsl] at this
  have:=congrArg Obj.slots (Option.some.inj this)
  exact this
end
end
section
open PySem PySem.W PySem.Calls PyProof.Rows PySem.SeqAt
noncomputable def zoo (gd:Gd) (hs:Heap) (R:List Addr) (e:Addr) (m:Str) (h:Heap):Prop :=
 ∃ vs Tb,ExcAt gd hs R e m vs h∧vs[1]? = some (.ref Tb)∧Tb ∉ R∧gd.h₀.get? Tb = none∧hs.get? Tb = none∧Tb ≠ e∧∃ ts,h.get? Tb = some { cls:=.type "traceback",dict:=none,data:=.fields ts,slots:=#[] }∧3 < ts.size
noncomputable def SlotsBut (D F:Addr→Prop) (h h':Heap):Prop:=∀ b o,¬ D b→h.get? b = some o→∃ sl,h'.get? b = some { o with slots:=sl }∧(¬ F b→sl = o.slots)
noncomputable def z54 (l:List Env) (b:Addr):Prop:=b∈l.filterMap (·.frame)
section
variable {gd:Gd} {hs h h' h'':Heap} {fr:List Env} {A:Around} {env:Env} {outer:List Env} {σ σ':AS} {R R':List Addr} {s s':Shared} {E:Value→Shared→Prop} {e:Addr} {m:Str} {D F:Addr→Prop}
theorem SlotsBut.exact (k:SlotsBut D F h h') {b:Addr} {o:Obj} (hd:¬ D b) (eb:h.get? b = some o) (c:¬ F b):h'.get? b = some o:=by
 refine z0e (k b o hd eb) fun sl e1 e2=>?_
 rw [e1,e2 c]
theorem SlotsBut.trans (x:SlotsBut D F h h') (y:SlotsBut D F h' h''):SlotsBut D F h h'':=fun b o hd eb=>by
 refine z0e (x b o hd eb) fun sl e1 e2=>?_
 refine z0e (y b _ hd e1) fun sl' e3 e4=>?_
 exact ⟨sl',e3,fun c=>(e4 c).trans (e2 c)⟩
theorem SlotsBut.notF (f:Frs gd h fr) {b:Addr} {o:Obj} (eb:h.get? b = some o) (c:o.cls ≠ .type "frame"):¬ z54 fr b:=fun hm=>by
 refine zrn (f.mem hm) fun uu o' e' c'=>?_
 rw [eb] at e';obtain rfl:=Option.some.inj e';exact c c'
theorem SlotsBut.pass (k:SlotsBut D (z54 fr) h h') (f:Frs gd h fr) (hd:∀ b,D b→hs.get? b = none):Pass hs h h':=fun b o eb zm=>oEA zm fun o₁ e₁=>by
 refine z0e (k b o (fun d=>by exact nn ((hd b d).symm.trans e₁)) eb) fun sl e1 e2=>?_
 exact ⟨_,e1,rfl,rfl,rfl,fun c=>by rw [e2 (SlotsBut.notF f eb c)]⟩
theorem Iv.slots (i:Iv gd fr R σ h) (hD:∀ b,D b→b ∉ R∧gd.h₀.get? b = none∧∀ o,h.get? b = some o→o.cls ≠ .type "tuple"∧o.cls ≠ .type "range"∧o.cls ≠ .type "frame") (k:SlotsBut D (z54 fr) h h'):Iv gd fr R σ h':=by
 have tups:∀ b o,h.get? b = some o→(o.cls = .type "tuple"∨o.cls = .type "range")→h'.get? b = some o:=fun b o eb c =>
  k.exact (fun d=>c.elim ((hD b d).2.2 o eb).1 ((hD b d).2.2 o eb).2.1) eb (SlotsBut.notF i.frames eb (by rcases c with c | c <;> rw [c] <;> decide))
 refine ⟨fun b o eb=>?_,i.fresh,i.nodup,i.len,fun j q b eq rq=>?_,i.frames.keep fun b o eb c=>?_⟩
 ·exact k.exact (fun d=>by exact nn (((hD b d).2.1).symm.trans eb)) (i.stays b o eb) fun hm=>by exact nn (((i.frames.mem hm).1).symm.trans eb)
 ·exact (i.obj j q b eq rq).keep (List.prefix_refl R) tups fun o₁ e₁=>k.exact (fun d=>(hD b d).1 (List.mem_of_getElem? rq)) e₁ (SlotsBut.notF i.frames e₁ (i.notFrame (List.mem_of_getElem? rq) e₁))
 ·refine z0e (k b o (fun d=>((hD b d).2.2 o eb).2.2 c) eb) fun sl e1 uu=>?_
  refine ⟨_,e1,rfl,?_⟩
  by_cases z:∃ es' n',o.data = .dict es' n'
  ·refine z58 z fun es n z=>?_;exact ⟨es,n,fun uu=>z⟩
  ·exact ⟨#[],0,fun y=>absurd y z⟩
theorem ExcAt.slots {vs vs':Array Value} (x:ExcAt gd hs R e m vs h) (f:Frs gd h fr) (k:SlotsBut D (z54 fr) h h') (hD:∀ b o,D b→h.get? b = some o→o.cls ≠ .type "dict") {dx:Addr} (he:h.get? e = some { cls:=.ref gd.T.refusal,dict:=some dx,data:=.fields vs,slots:=#[] })
  (he':h'.get? e = some { cls:=.ref gd.T.refusal,dict:=some dx,data:=.fields vs',slots:=#[] }) (hsz:1 < vs'.size) (k':∀ b o,h.get? b = some o→(∃ o₁,hs.get? b = some o₁)→∃ o',h'.get? b = some o'):ExcAt gd hs R e m vs' h':=by
 refine z46 x.obj fun dx' a b od mm t c d n q=>?_
 rw [he] at a;cases a
 obtain g:=k.exact (fun z=>hD _ _ z c d) c (SlotsBut.notF f c (by rw [d];decide))
 refine z4x n fun o₂ es ep ho r=>?_
 rw [c] at ho;obtain rfl:=Option.some.inj ho
 refine ⟨x.out,x.new0,x.newS,hsz,fun b o eb=>?_,dx,he',b,od,mm,t,g,d,⟨od,es,ep,g,r⟩,q⟩
 refine oEA (x.sub b o eb) fun o' e'=>?_
 exact (k' b o' e' ⟨o,eb⟩)
theorem Pass.refl:Pass hs h h:=fun uu o e uu=>⟨o,e,rfl,rfl,rfl,fun uu=>rfl⟩
theorem Pass.trans (x:Pass hs h h') (y:Pass hs h' h''):Pass hs h h'':=fun b o e q=>by
 refine z1o (x b o e q) fun o₁ e₁ c1 d1 a1 f1=>?_
 refine z1o (y b o₁ e₁ q) fun o₂ e₂ c2 d2 a2 f2=>?_
 exact ⟨o₂,e₂,c2.trans c1,d2.trans d1,a2.trans a1,fun q=>(f2 (c1 ▸ q)).trans (f1 q)⟩
theorem Pass.here (x:Pass hs h h'):∀ b o,h.get? b = some o→(∃ o₁,hs.get? b = some o₁)→∃ o',h'.get? b = some o':=fun b o e q=>let ⟨o',e',_⟩:=x b o e q;⟨o',e'⟩
theorem zh8 {M:Model} {Q:Unit→Shared→Prop} (hfr:A.frames = some (env :: outer)) (hf:env.frame = some env.locals) (i:Iv gd (env :: outer) R σ s.heap) (y:zgd gd hs R σ e m s.heap)
  (h:∀ h',Iv gd (env :: outer) R σ h'→zoo gd hs R e m h'→Pass hs s.heap h'→Q () { s with heap:=h' }):wpAny M A (noteFrame (.ref e) env) Q E s:=by
 revert gd hs A env outer σ R s E e m M Q;refine no_implicit_lambda% (z76 (z06 nGd (z06 inferInstance (z06 z28 (z06 inferInstance (z06 inferInstance (z06 inferInstance inferInstance)))))) ?_);generalize (e7 _ _).1 = gd;generalize (e7 _ _).2.1 = hs;generalize (e7 _ _).2.2.1 = A;generalize (e7 _ _).2.2.2.1 = env;generalize (e7 _ _).2.2.2.2.1 = outer;generalize (e7 _ _).2.2.2.2.2.1 = σ;generalize (e7 _ _).2.2.2.2.2.2 = R;refine no_implicit_lambda% (z36 (z06 z1v (z06 inferInstance inferInstance)) ?_);generalize (e3 _ _).1 = s;generalize (e3 _ _).2.1 = E;generalize (e3 _ _).2.2 = e;refine no_implicit_lambda% (z36 (z06 inferInstance (z06 zd9 inferInstance)) ?_);generalize (e3 _ _).1 = m;generalize (e3 _ _).2.1 = M;generalize (e3 _ _).2.2 = Q;unhygienic intros
 have fin:∀ (g:Heap) (vs:Array Value),Iv gd (env :: outer) R σ g→ExcAt gd hs R e m vs g→Pass hs s.heap g→∀ (head:Value) (hadNext:Bool),
   wpAny M A (do let a ← frameOf env;let pl ← entryPlaceOf env.locals hadNext;let b ← EntryCells.newEntry head a .none (rawInt env.locals) .none pl;setField (.ref e) 1 b) Q E { s with heap:=g }:=by
  intro g vs ig x p head hadNext
  revert g vs head hadNext;refine no_implicit_lambda% (z2b inferInstance ?_);generalize (e1 _ _) = g;refine no_implicit_lambda% (z2b inferInstance ?_);generalize (e1 _ _) = vs;unhygienic intros;revert head hadNext;refine no_implicit_lambda% (z2b inferInstance ?_);generalize (e1 _ _) = head;refine no_implicit_lambda% (z2b inferInstance ?_);generalize (e1 _ _) = hadNext;unhygienic intros
  refine z46 (id x.obj) fun dx he hdx od mm t c1 c2 c3 c4=>?_
  revert dx od mm t;refine no_implicit_lambda% (z2b inferInstance ?_);generalize (e1 _ _) = dx;unhygienic intros;revert od mm t;refine no_implicit_lambda% (z36 (z06 inferInstance (z06 inferInstance inferInstance)) ?_);generalize (e3 _ _).1 = od;generalize (e3 _ _).2.1 = mm;generalize (e3 _ _).2.2 = t;unhygienic intros
  refine zke (s:={ s with heap:=g }) hfr ig.frames hf he rfl x.sz fun h' Tn ts n1 n2 n3 n4 n5=>?_
  revert h' Tn ts;refine no_implicit_lambda% (z36 (z06 inferInstance (z06 inferInstance inferInstance)) ?_);generalize (e3 _ _).1 = h';generalize (e3 _ _).2.1 = Tn;generalize (e3 _ _).2.2 = ts;unhygienic intros
  have k:SlotsBut (fun b=>b = e) (z54 (env :: outer)) g h':=fun b o hb eb=>n5 b o hb eb
  have hD:∀ b,b = e→b ∉ R∧gd.h₀.get? b = none∧∀ o,g.get? b = some o→o.cls ≠ .type "tuple"∧o.cls ≠ .type "range"∧o.cls ≠ .type "frame":=by
   rintro b rfl
   refine ⟨x.out,x.new0,fun o eo=>?_⟩
   rw [he] at eo;obtain rfl:=Option.some.inj eo
   exact ⟨by simp,by simp,by simp⟩
  obtain i':=ig.slots hD k
  have p2:Pass hs g h':=k.pass ig.frames (by rintro b rfl;exact x.newS)
  have x':=x.slots ig.frames k (by rintro b o rfl eo;rw [he] at eo;obtain rfl:=Option.some.inj eo;simp) he n2 (by rw [Array.size_setIfInBounds];exact x.sz) p2.here
  refine oAA (ig.fresh_of n1) fun t1 t2=>?_
  have tS:hs.get? Tn = none:=by
   cases q:hs.get? Tn with
   | none=>rfl
   | some o=>refine oEA (x.sub _ _ q) fun o' e'=>?_;dsimp only at n1;exact nn ((n1).symm.trans e')
  refine h h' i' ⟨_,Tn,x',by simp [x.sz],t1,t2,tS,?_,ts,n3,n4⟩ (p.trans p2)
  rintro rfl
  dsimp only at n1
  exact nn ((n1).symm.trans he)
 unfold noteFrame
 simp only [hf]
 refine Or.elim (y) (fun zo27=>?_) (fun zo27=>?_)
 ·refine z0e zo27 fun vs x v1=>?_;refine z0e x.obj fun dx he uu=>?_
  refine wpAny_bind (wpAny_field he rfl v1 ?_)
  rw [if_neg (by decide)]
  exact fin s.heap vs i x Pass.refl _ _
 ·refine z1c zo27 fun vs Tb x v1 tb=>?_;refine z0e (id x.obj) fun dx he uu=>?_
  revert vs Tb dx;refine no_implicit_lambda% (z2b inferInstance ?_);generalize (e1 _ _) = vs;refine no_implicit_lambda% (z2b inferInstance ?_);generalize (e1 _ _) = Tb;unhygienic intros;revert dx;refine no_implicit_lambda% (z2b inferInstance ?_);generalize (e1 _ _) = dx;unhygienic intros
  refine z0e tb.obj fun ts hT h3=>?_
  refine wpAny_bind (wpAny_field he rfl v1 ?_)
  rw [if_pos (show (Value.ref Tb != Value.none) = true from by simp)]
  refine wpAny_bind (wpAny_field hT rfl h3 ?_)
  rw [if_neg (show ¬ ((Value.none == rawInt env.locals) = true) from by simp [rawInt])]
  refine wpAny_bind (wpAny_setField hT rfl (Array.getElem?_eq_some_iff.mp h3).1 ?_)
  have other:∀ b,b ≠ Tb→(s.heap.update Tb (Obj.mapFields (·.setIfInBounds 3 Value.none))).get? b = s.heap.get? b:=fun b hb=>Heap.get?_update_other _ _ (Ne.symm hb)
  generalize s.heap.update Tb (Obj.mapFields (·.setIfInBounds 3 Value.none)) = g at other ⊢
  have k:SlotsBut (fun b=>b = Tb) (z54 (env :: outer)) s.heap g:=fun b o hb eb=>⟨o.slots,(other b hb).trans eb,fun uu=>rfl⟩
  have hD:∀ b,b = Tb→b ∉ R∧gd.h₀.get? b = none∧∀ o,s.heap.get? b = some o→o.cls ≠ .type "tuple"∧o.cls ≠ .type "range"∧o.cls ≠ .type "frame":=by
   rintro b rfl
   refine ⟨tb.out,tb.new0,fun o eo=>?_⟩
   rw [hT] at eo;obtain rfl:=Option.some.inj eo
   exact ⟨by simp,by simp,by simp⟩
  obtain p2:Pass hs s.heap g:=k.pass i.frames (by rintro b rfl;exact tb.newS)
  obtain x':=x.slots i.frames k (by rintro b o rfl eo;rw [hT] at eo;obtain rfl:=Option.some.inj eo;simp) he ((other e (Ne.symm tb.ne)).trans he) x.sz p2.here
  exact fin g vs (i.slots hD k) x' p2 _ _
theorem z7h {M:Model} {Q:Unit→Shared→Prop} (i:Iv gd fr R σ s.heap) (y:zoo gd hs R e m s.heap)
  (h:∀ h',Iv gd fr R σ h'→Flying gd hs R σ e m h'→Pass hs s.heap h'→Q () { s with heap:=h' }):wpAny M A (setFlight (.ref e) none) Q E s:=by
 obtain ⟨vs,Tb,x,v1,t1,t2,t3,t4,ts,hT,h3⟩:=y
 refine z0e (id x.obj) fun dx he uu=>?_
 refine wpAny_bind (wpAny_field he rfl v1 ?_)
 rw [if_pos (show (Value.ref Tb != Value.none) = true from by simp)]
 refine wpAny_setField hT rfl h3 ?_
 have other:∀ b,b ≠ Tb→(s.heap.update Tb (Obj.mapFields (·.setIfInBounds 3 ((none:Option Addr).elim Value.none fun f=>rawInt f)))).get? b = s.heap.get? b:=fun b hb=>Heap.get?_update_other _ _ (Ne.symm hb)
 have hT':=Heap.get?_update_self (Obj.mapFields (·.setIfInBounds 3 ((none:Option Addr).elim Value.none fun f=>rawInt f))) hT (Obj.isFreed_of_fields (Obj.data_mapFields rfl _))
 generalize s.heap.update Tb (Obj.mapFields (·.setIfInBounds 3 ((none:Option Addr).elim Value.none fun f=>rawInt f))) = g at other hT' ⊢
 have k:SlotsBut (fun b=>b = Tb) (z54 fr) s.heap g:=fun b o hb eb=>⟨o.slots,(other b hb).trans eb,fun uu=>rfl⟩
 have hD:∀ b,b = Tb→b ∉ R∧gd.h₀.get? b = none∧∀ o,s.heap.get? b = some o→o.cls ≠ .type "tuple"∧o.cls ≠ .type "range"∧o.cls ≠ .type "frame":=by
  rintro b rfl
  refine ⟨t1,t2,fun o eo=>?_⟩
  rw [hT] at eo;obtain rfl:=Option.some.inj eo
  exact ⟨by simp,by simp,by simp⟩
 obtain p2:Pass hs s.heap g:=k.pass i.frames (by rintro b rfl;exact t3)
 obtain x':=x.slots i.frames k (by rintro b o rfl eo;rw [hT] at eo;obtain rfl:=Option.some.inj eo;simp) he ((other e (Ne.symm t4)).trans he) x.sz p2.here
 exact h g (i.slots hD k) ⟨vs,Tb,x',v1,t1,t2,t3,t4,_,hT',by simp [h3]⟩ p2
theorem zkf:zh7 gd:=by
 intro A env outer R σ e m s hs Q E hfr hf i y h
 refine wpAny_bind (zh8 hfr hf i y fun h1 i1 y1 p1=>?_)
 exact z7h (s:={ s with heap:=h1 }) i1 y1 fun h2 i2 y2 p2=>h h2 i2 y2 (p1.trans p2)
end
end
section
open PySem PySem.W PySem.Calls PyProof.Rows PySem.SeqAt
structure zf9 (K:Frag) (C:Addr):Prop where
 hga:findIn K (.ref C) "__getattribute__" = some (some (.builtin "BaseException.__getattribute__"))
 hgt:findIn K (.ref C) "__getattr__" = some none
 msg:findIn K (.ref C) "message" = some none
 dict:∃ cd,clsIn K C = some cd∧cd.hasDict = true
 base:mroIn K C (.type "BaseException") = some true
section
variable {gd:Gd} {hs h h' h'':Heap} {fr:List Env} {A:Around} {env:Env} {outer:List Env} {σ σ':AS} {R R':List Addr} {s s':Shared} {E:Value→Shared→Prop} {e:Addr} {m:Str}
theorem z9o {M:Model} {nameV:Value} {C a:Addr} {Q:Unit→Shared→Prop} (X:gd.K.In s.heap) (RK:zf9 gd.K C) (LT:Looks M s.heap (typeOf (.ref a)) (.ref C)) (hq:Q () s):wpAny M A (checkBuiltinCall "BaseException.__getattribute__" ⟨[.ref a,nameV],[]⟩) Q E s:=by
 have hk:builtinKind "BaseException.__getattribute__" = some .slot:=by decide +kernel
 have hsplit:splitId "BaseException.__getattribute__" = some ("BaseException","__getattribute__"):=by decide +kernel
 have ha:=F.args_bexc_ga (.ref a) nameV
 obtain ⟨hh,g,d,t,os⟩:=s
 simp only [checkBuiltinCall,hk,hsplit]
 have LI:Looks M hh (isInstance (.ref a) (.type "BaseException")) true:=LT.andThen (looks_mroIn X RK.base)
 refine wpAny_bind (LI.at ?_)
 simp only [Bool.not_true,Bool.false_eq_true,if_false]
 unfold argsOk at ha
 cases hsig:Manifest.signature? "BaseException.__getattribute__" with
 | none=>exact wpAny_pure hq
 | some sig =>
  simp only [hsig] at ha
  show wpAny M A (Bind.checkArgs _ sig _) Q E _
  rw [ha];exact wpAny_pure hq
theorem zs8 {Q:Value→Shared→Prop} {ex:Bool} (X:gd.K.In s.heap) (RK:zf9 gd.K gd.T.refusal) (x:ExcAt gd hs R e m vs s.heap) (hq:∀ t,Q (.str m t) { s with toks:=s.toks + 1 }):wpAny gd.m A (getAttr (.ref e) (Str.ofString "message") ex) Q E s:=by
 revert gd hs A R s E e m vs Q ex;refine no_implicit_lambda% (z76 (z06 nGd (z06 inferInstance (z06 z28 (z06 inferInstance (z06 z1v (z06 inferInstance inferInstance)))))) ?_);generalize (e7 _ _).1 = gd;generalize (e7 _ _).2.1 = hs;generalize (e7 _ _).2.2.1 = A;generalize (e7 _ _).2.2.2.1 = R;generalize (e7 _ _).2.2.2.2.1 = s;generalize (e7 _ _).2.2.2.2.2.1 = E;generalize (e7 _ _).2.2.2.2.2.2 = e;refine no_implicit_lambda% (z36 (z06 inferInstance (z06 inferInstance inferInstance)) ?_);generalize (e3 _ _).1 = m;generalize (e3 _ _).2.1 = vs;generalize (e3 _ _).2.2 = Q;refine no_implicit_lambda% (z2b inferInstance ?_);generalize (e1 _ _) = ex;unhygienic intros
 refine z46 x.obj fun dx he hdx od mm t c1 c2 c3 c4=>?_
 revert dx od mm t;refine no_implicit_lambda% (z2b inferInstance ?_);generalize (e1 _ _) = dx;unhygienic intros;revert od mm t;refine no_implicit_lambda% (z36 (z06 inferInstance (z06 inferInstance inferInstance)) ?_);generalize (e3 _ _).1 = od;generalize (e3 _ _).2.1 = mm;generalize (e3 _ _).2.2 = t;unhygienic intros
 obtain ⟨hh,g,d,tk,os⟩:=s
 revert hh g d tk os;refine no_implicit_lambda% (z36 (z06 inferInstance (z06 inferInstance zge)) ?_);generalize (e3 _ _).1 = hh;generalize (e3 _ _).2.1 = g;generalize (e3 _ _).2.2 = d;refine no_implicit_lambda% (z2b inferInstance ?_);generalize (e1 _ _) = tk;refine no_implicit_lambda% (z2b inferInstance ?_);generalize (e1 _ _) = os;unhygienic intros
 have IA:InstAt hh e { cls:=.ref gd.T.refusal,dict:=some dx,data:=.fields vs,slots:=#[] } gd.T.refusal (some od):=⟨he,rfl,rfl,c1⟩
 have L0:=IA.type (M:=gd.m)
 have L1:=looks_findIn (M:=gd.m) X RK.hga
 have L2:=looks_findIn (M:=gd.m) X RK.hgt
 refine z0e RK.dict fun cd h1 h2=>?_
 have L3:=looks_find (M:=gd.m) X IA (z5a h1 h2 RK.msg ((z7b c3 c1 _).trans (by rw [c4])))
 have hx0:(ex && onTheHeap (Value.builtin "BaseException.__getattribute__")) = false:=by cases ex <;> rfl
 have hx2:(Value.builtin "BaseException.__getattribute__" == Value.builtin "object.__getattribute__") = false:=by decide +kernel
 have hx1:(onTheHeap (Value.ref gd.T.refusal) && Value.builtin "BaseException.__getattribute__" == Value.builtin "object.__getattribute__") = false:=by rw [hx2];rfl
 unfold getAttr getAttrBy
 refine wpAny_bind (wpAny_mkText (wpAny_holding (wpAny_bind (L0.at (wpAny_bind (L1.at ?_))))))
 dsimp only
 rw [hx1,if_neg Bool.false_ne_true]
 unfold getAttrByItsOwn hookBefore
 rw [if_pos (show onTheHeap (Value.ref gd.T.refusal) = true from rfl)]
 refine wpAny_bind (L2.at ?_)
 refine wpAny_bind (wpAny_attempt (wpAny_holding ?_))
 unfold callGetattribute
 rw [hx0,if_neg Bool.false_ne_true]
 unfold boundAndCalled
 rw [F.attr_TypeError.ga.bind (.ref e)]
 refine wpAny_bind (wpAny_pure ?_)
 refine wpAny_call (codeAny_call_builtin F.attr_TypeError.ga.plain F.entry_bexc_ga (z9o X RK L0 ?_))
 unfold Builtin.«object.__getattribute__»
 refine wpAny_bind (wpAny_pure ?_)
 dsimp only
 refine wpAny_bind (wpAny_pure ?_)
 refine wpAny_bind (L0.at (wpAny_bind (L3.at ?_)))
 refine wpAny_pure ?_
 show wpAny _ _ (handedOut _) _ _ _
 exact wpAny_pure (hq t)
end
end
section
open PySem PySem.W PySem.Calls PyProof.Rows PySem.SeqAt
theorem zh9 {M:Model} {A:Around} {E:Value→Shared→Prop} {s:Shared} {a:Addr} {o:Obj} {es:Array DictEntry} {ep:Nat} {m:Str→Option Value} {name:Str} {Q:Bool→Shared→Prop}
  (ho:s.heap.get? a = some o) (hd:o.data = .dict es ep) (hk:StrKeys es) (hm:∀ n,nsFind es n = m n) (hs:(m name).isSome = true)
  (hQ:∀ h' o' es' ep' m',h'.get? a = some o'→o'.cls = o.cls→o'.data = .dict es' ep'→h'.Ns a m'→Heap.SameBut a s.heap h'→Q true { s with heap:=h' }):wpAny M A (nsDel a name) Q E s:=by
 revert M A E s a o es ep m name Q;refine no_implicit_lambda% (z76 (z06 zd9 (z06 z28 (z06 inferInstance (z06 z1v (z06 inferInstance (z06 inferInstance inferInstance)))))) ?_);generalize (e7 _ _).1 = M;generalize (e7 _ _).2.1 = A;generalize (e7 _ _).2.2.1 = E;generalize (e7 _ _).2.2.2.1 = s;generalize (e7 _ _).2.2.2.2.1 = a;generalize (e7 _ _).2.2.2.2.2.1 = o;generalize (e7 _ _).2.2.2.2.2.2 = es;refine no_implicit_lambda% (z36 (z06 inferInstance (z06 inferInstance inferInstance)) ?_);generalize (e3 _ _).1 = ep;generalize (e3 _ _).2.1 = m;generalize (e3 _ _).2.2 = name;refine no_implicit_lambda% (z2b inferInstance ?_);generalize (e1 _ _) = Q;unhygienic intros
 have hany:es.any (·.refKey) = false:=by
  rw [Array.any_eq_false'];intro e he;refine z58 (hk e he) fun n t h=>?_;simp [DictEntry.refKey,h]
 have hsome:(m name).isSome = es.any (·.key.isStr name):=by
  rw [← hm name];simp only [nsFind,findBy,Option.isSome_map]
  rw [Bool.eq_iff_iff];simp only [Array.find?_isSome,Array.any_eq_true]
  constructor
  ·rintro ⟨x,hx,hp⟩;obtain ⟨i,hi,rfl⟩:=Array.mem_iff_getElem.mp hx;exact ⟨i,hi,hp⟩
  ·rintro ⟨i,hi,hp⟩;exact ⟨_,Array.getElem_mem hi,hp⟩
 have hhas:nsHas name o = pure (es.any (·.key.isStr name)):=by
  rw [nsHas_eq];unfold nsHasByArray;rw [hd]
  show (if (es.any fun x=>x.key.isStr name) = true then _ else _) = _
  generalize (es.any fun x=>x.key.isStr name) = b
  cases b <;> simp [hany]
 refine wpAny_bind (wpAny_loadPart ho ?_)
 rw [hhas]
 refine wpAny_bind (wpAny_pure ?_)
 rw [← hsome,hs]
 refine wpAny_bind (wpAny_updatePart ho (wpAny_pure ?_))
 obtain ⟨cl,d,dt,sl⟩:=o
 dsimp only at hd
 subst hd
 cases hi:es.findIdx? (·.key.isStr name) with
 | some i =>
  obtain g:=Heap.get?_update_self (Obj.dropName name) ho (by simp only [Obj.dropName_eq,Obj.dropNameByArray,hi] <;> rfl)
  simp only [Obj.dropName_eq,Obj.dropNameByArray,hi] at g
  refine hQ _ { cls:=cl,dict:=d,data:=.dict (es.eraseIdxIfInBounds i) (ep + 1),slots:=sl } (es.eraseIdxIfInBounds i) (ep + 1) (fun x=>nsFind (es.eraseIdxIfInBounds i) x) (by rw [Obj.dropName_eq];exact g) rfl rfl ⟨{ cls:=cl,dict:=d,data:=.dict (es.eraseIdxIfInBounds i) (ep + 1),slots:=sl },_,ep + 1,(by rw [Obj.dropName_eq];exact g),rfl,hk.erase i,fun x=>rfl⟩ (Heap.SameBut.update ..)
 | none =>
  obtain g:=Heap.get?_update_self (Obj.dropName name) ho (by simp only [Obj.dropName_eq,Obj.dropNameByArray,hi] <;> rfl)
  simp only [Obj.dropName_eq,Obj.dropNameByArray,hi] at g
  refine hQ _ _ es ep m (by rw [Obj.dropName_eq];exact g) rfl rfl ⟨{ cls:=cl,dict:=d,data:=.dict es ep,slots:=sl },_,ep,(by rw [Obj.dropName_eq];exact g),rfl,hk,hm⟩ (Heap.SameBut.update ..)
section
variable {gd:Gd} {hs h h' h'':Heap} {fr:List Env} {A:Around} {env:Env} {I:z1q} {ℓ ℓ':Loc} {σ σ':AS} {R R':List Addr} {s s':Shared} {e:Addr} {m:Str}
theorem zop (i:Iv gd fr R σ s.heap) (L:LocOk gd env ℓ R s.heap) {x:Str} {pos:Pos} (kx:env.kindOf x = some .local) {Q:Unit→Shared→Prop} {E:Value→Shared→Prop}
  (h:∀ h' tk,ExtX (Own env) R s.heap R h'→Iv gd fr R σ h'→LocOk gd env [] R h'→Q () { s with heap:=h',toks:=tk }):wpAny gd.m A (do bindName env x .none;unbindBehindTheSuite env x pos) Q E s:=by
 refine wpAny_bind (wpAny_bindName (z5c (a:=.none) (v:=.none) i L (.inl kx) .none fun h1 tk1 x1 i1 L1=>?_))
 obtain hp:(env.scope.kind == .class || (env.scope.kind == .module && env.locals != env.globals)) = false:=by rw [L1.kind];rfl
 refine z0e L1.ns fun m hn r=>?_
 refine z0e L1.obj fun o eo co=>?_
 refine z1j (id hn) fun o1 es ep ho1 hd hk hm=>?_
 have ho1':=ho1
 rw [eo] at ho1;obtain rfl:=Option.some.inj ho1
 refine z0e (r x .none (by rw [z1w,if_pos rfl]) kx) fun v' hv' uu=>?_
 refine wpAny_onRaise ?_
 refine wpAny_bind (wpAny_point (wpAny_bind ?_))
 unfold deleteName
 simp only [kx,hp]
 rw [if_neg (by decide)]
 refine wpAny_bind (zh9 (s:={ s with heap:=h1,toks:=tk1 }) eo hd hk hm (by rw [hv'];rfl) fun h2 o2 es2 ep2 m2 g1 g2 g3 n2 sb=>?_)
 dsimp only [Bool.not_true,Bool.false_eq_true,if_false]
 obtain coT:o.cls ≠ .type "tuple"∧o.cls ≠ .type "range":=by rcases co with co | co <;> rw [co] <;> decide
 refine wpAny_pure (wpAny_point (h h2 tk1 (x1.trans ⟨List.prefix_refl R,fun uu hb=>.inl hb,fun b q eb uu hw=>⟨q,(sb.2 b fun z=>hw (.inl z)).trans eb,rfl,rfl,rfl,fun uu=>rfl⟩,fun b q eb=>?_⟩)
  (i1.other L1.out L1.fresh eo coT.1 coT.2 (fun b hb q eb=>(sb.2 b hb).trans eb) g1 g2 fun uu=>⟨es2,ep2,g3⟩) ?_))
 ·by_cases z:b = env.locals
  ·exact ⟨o2,z ▸ g1⟩
  ·exact ⟨q,(sb.2 b z).trans eb⟩
 ·refine ⟨L1.kind,L1.glob,L1.blt,L1.out,L1.fresh,⟨o2,g1,by rw [g2];exact co⟩,⟨_,n2,fun y u ey ky=>(by exact nn ey)⟩,L1.cdom,fun y u ey ky=>(by exact nn ey),fun y c hm=>?_,L1.apart⟩
  refine z3z (L1.cells y c hm) fun n1 n2' n3 v'' n4=>?_
  exact ⟨n1,n2',n3,v'',(sb.2 c n3).trans n4⟩
theorem Flying.noted (y:Flying gd hs R σ e m h):zoo gd hs R e m h:=by
 refine z1c y fun vs Tb x v1 tb=>?_
 refine z0e tb.obj fun ts hT h3=>?_
 exact ⟨vs,Tb,x,v1,tb.out,tb.new0,tb.newS,tb.ne,ts,hT,(Array.getElem?_eq_some_iff.mp h3).1⟩
theorem zkg {ts:List Expr} {x:Str} (h:nm1 ts = some x):∃ p,ts = [.Name x p]:=by
 rcases ts with _ | ⟨a,_ | ⟨_,_⟩⟩
 ·exact nn h
 ·obtain ⟨p,rfl⟩:=z3c h;exact ⟨p,rfl⟩
 ·exact nn h
theorem zb0 {α:Type} {l:List α} {a:α} (h:zv8 l = some a):l = [a]:=by
 rcases l with _ | ⟨b,_ | ⟨_,_⟩⟩
 ·exact nn h
 ·obtain rfl:=Option.some.inj h;rfl
 ·exact nn h
theorem zha (s:Stmt):(sv s).back s:=by
 cases s <;> first | trivial | rfl
theorem zhb {b:List Stmt} {p:Str×Expr} (h:asg1 b = some p):∃ px ps,b = [.Assign [.Name p.1 px] p.2 ps]:=by
 refine z0e (Option.bind_eq_some_iff.mp h) fun s h1 h2=>?_
 rw [zb0 h1]
 obtain k:=zha s
 cases q:sv s <;> rw [q] at h2 k <;> first | (exact nn h2;done) | skip
 refine z0e (Option.map_eq_some_iff.mp h2) fun x h3 zq12n2=>?_;obtain rfl:=zq12n2
 refine oEA (zkg h3) fun px zq13n1=>?_;obtain rfl:=zq13n1
 exact ⟨px,_,congrArg (fun s=>[s]) k⟩
theorem zfa {e:Expr} {p:Str×Str} (h:znh e = some p):∃ pn pa,e = .Attribute (.Name p.1 pn) p.2 pa:=by
 obtain b:=z5x e
 unfold znh at h
 cases q:ev e <;> rw [q] at h b <;> first | (exact nn h;done) | skip
 refine z0e (Option.map_eq_some_iff.mp h) fun n h1 zq14n2=>?_;obtain rfl:=zq14n2
 refine oEA (z3c h1) fun pn zq15n1=>?_;obtain rfl:=zq15n1
 exact ⟨pn,_,b⟩
theorem zhc {b:List Stmt} {p:Str×Str} (h:ret1 b = some p):∃ pn pa pr,b = [.Return (some (.Attribute (.Name p.1 pn) p.2 pa)) pr]:=by
 refine z0e (Option.bind_eq_some_iff.mp h) fun s h1 h2=>?_
 rw [zb0 h1]
 obtain k:=zha s
 cases q:sv s <;> rw [q] at h2 k <;> first | (exact nn h2;done) | skip
 refine z0e (Option.bind_eq_some_iff.mp h2) fun e zq17n1 h3=>?_;obtain rfl:=zq17n1
 refine z58 (zfa h3) fun pn pa zq18n2=>?_;obtain rfl:=zq18n2
 exact ⟨pn,pa,_,congrArg (fun s=>[s]) k⟩
theorem zfb {hs:List ExceptHandler} {p:Str×Str} (h:zrl hs = some p):∃ pc pn pa pr ph,hs = [.ExceptHandler (some (.Name p.1 pc)) (some p.2) [.Return (some (.Attribute (.Name p.2 pn) (Str.ofString "message") pa)) pr] ph]:=by
 rcases hs with _ | ⟨⟨c,n,b,ph⟩,_ | ⟨_,_⟩⟩
 ·exact nn h
 ·refine z0e (Option.bind_eq_some_iff.mp h) fun c' h1 h=>?_
  refine z0e (Option.bind_eq_some_iff.mp h) fun n' zq20n1 h3=>?_;obtain rfl:=zq20n1
  refine z0e (Option.bind_eq_some_iff.mp h3) fun r h2 h4=>?_
  refine oAA (z0x h4) fun zq22n0 h5=>?_;obtain rfl:=zq22n0
  obtain rfl:=Option.some.inj h5
  refine z0e (Option.bind_eq_some_iff.mp h1) fun e zq23n1 h6=>?_;obtain rfl:=zq23n1
  refine oEA (z3c h6) fun pc zq24n1=>?_;obtain rfl:=zq24n1
  refine oEEEA (zhc h2) fun pn pa pr zq25n3=>?_;obtain rfl:=zq25n3
  exact ⟨pc,pn,pa,pr,ph,rfl⟩
 ·exact nn h
theorem zfc {b:List Stmt} {hs:List ExceptHandler} {o f:List Stmt} {t:zuk} (h:zjs b hs o f = some t):(o = []∧f = [])∧(∃ px ps,b = [.Assign [.Name t.x px] t.e ps])∧∃ pc pn pa pr ph,hs = [.ExceptHandler (some (.Name t.c pc)) (some t.n) [.Return (some (.Attribute (.Name t.n pn) (Str.ofString "message") pa)) pr] ph]:=by
 refine oAA (z0x h) fun he h=>?_
 refine z0e (Option.bind_eq_some_iff.mp h) fun p h1 h=>?_
 refine z0e (Option.map_eq_some_iff.mp h) fun q h2 zq28n2=>?_;obtain rfl:=zq28n2
 have he:=Bool.and_eq_true_iff.mp he
 exact ⟨⟨List.isEmpty_iff.mp he.1,List.isEmpty_iff.mp he.2⟩,zhb h1,zfb h2⟩
theorem ExcAt.looks {M:Model} {e:Addr} {vs:Array Value} (x:ExcAt gd hs R e m vs h):Looks M h (typeOf (.ref e)) (.ref gd.T.refusal):=by
 refine z0e x.obj fun dx he uu=>?_
 exact (Looks.ld he).andThen .now
theorem ExcAt.own {e:Addr} {vs:Array Value} {outer:List Env} (xe:ExcAt gd hs R e m vs h) (L:LocOk gd env ℓ R h) (i:Iv gd (env :: outer) R σ h) (hef:env.frame = some env.locals) (x5:ExtX (Own env) R h R h'):ExcAt gd hs R e m vs h':=by
 refine z46 xe.obj fun dx he hdx od mm t c1 c2 c3 c4=>?_
 refine zgb (i.frames env (.head _)) fun uu Lf ofr f1 uu f3 f4 uu=>?_
 rw [hef] at f1;obtain rfl:=Option.some.inj f1
 have ow:∀ b o,h.get? b = some o→o.cls ≠ .type "frame"→o.cls ≠ .type "cell"→¬ Own env b:=by
  rintro b o eb n1 n2 (z | ⟨y,hy⟩)
  ·subst z;rw [f3] at eb;obtain rfl:=Option.some.inj eb;exact n1 f4
  ·refine z3z (L.cells y b hy) fun uu uu uu v3 h3'=>?_
   rw [h3'] at eb;obtain rfl:=Option.some.inj eb
   exact n2 rfl
 obtain he5:=x5.exact xe.out (ow _ _ he (of_decide_eq_true rfl) (of_decide_eq_true rfl)) he (of_decide_eq_true rfl)
 obtain hd5:=x5.exact hdx (ow _ _ c1 (by rw [c2];decide) (by rw [c2];decide)) c1 (by rw [c2];decide)
 refine z4x c3 fun on es ep ho r=>?_
 rw [c1] at ho;obtain rfl:=Option.some.inj ho
 exact ⟨xe.out,xe.new0,xe.newS,xe.sz,fun b o eb=>(xe.sub b o eb).elim fun o' e'=>x5.stay b o' e',dx,he5,hdx,od,mm,t,hd5,c2,⟨_,es,ep,hd5,r⟩,c4⟩
theorem LocOk.at_raw {a:Addr} {x:Str} {outer:List Env} (L:LocOk gd env (z1e ℓ x (.raw (.ref a))) R h) (k:env.kindOf x = some .local):∃ m,h.Ns env.locals m∧m x = some (.ref a):=by
 refine z0e L.ns fun mL hn r=>?_
 refine z0e (r x (.raw (.ref a)) (by rw [z1w,if_pos rfl]) k) fun v' hv' qv=>?_
 rw [zgs qv] at hv'
 exact ⟨mL,hn,hv'⟩
theorem zdj (C:Cx gd fr A env I) {c:Str} (h:zg9 I c = true):z4e I ℓ c = some (.raw (.ref gd.T.refusal)):=by
 obtain h:=Bool.and_eq_true_iff.mp h
 have kg:=(C.sc c).2 h.1
 obtain hl:¬ z1g I.sc c = true:=fun q=>by rcases (C.sc c).1 q with z | z | z <;> (rw [kg] at z;exact nomatch z)
 unfold z4e
 rw [if_neg hl,if_pos h.1,of_decide_eq_true h.2,C.ref];rfl
theorem zs9 {b hs:_} {o f:List Stmt} {pt:Pos} (RK:zf9 gd.K gd.T.refusal) (hE:∀ e,SE gd fr e):SX gd fr (.Try b hs o f pt):=by
 revert gd fr b hs o f pt;refine no_implicit_lambda% (z76 (z06 nGd (z06 inferInstance (z06 inferInstance (z06 inferInstance (z06 inferInstance (z06 inferInstance inferInstance)))))) ?_);generalize (e7 _ _).1 = gd;generalize (e7 _ _).2.1 = fr;generalize (e7 _ _).2.2.1 = b;generalize (e7 _ _).2.2.2.1 = hs;generalize (e7 _ _).2.2.2.2.1 = o;generalize (e7 _ _).2.2.2.2.2.1 = f;generalize (e7 _ _).2.2.2.2.2.2 = pt;unhygienic intros
 intro A env I ℓ σ R s Q E C i L h
 revert A env I ℓ σ R s Q E;refine no_implicit_lambda% (z76 (z06 z28 (z06 inferInstance (z06 zgf (z06 inferInstance (z06 inferInstance (z06 inferInstance z1v)))))) ?_);generalize (e7 _ _).1 = A;generalize (e7 _ _).2.1 = env;generalize (e7 _ _).2.2.1 = I;generalize (e7 _ _).2.2.2.1 = ℓ;generalize (e7 _ _).2.2.2.2.1 = σ;generalize (e7 _ _).2.2.2.2.2.1 = R;generalize (e7 _ _).2.2.2.2.2.2 = s;refine no_implicit_lambda% (z2b inferInstance ?_);generalize (e1 _ _) = Q;refine no_implicit_lambda% (z2b inferInstance ?_);generalize (e1 _ _) = E;unhygienic intros
 refine z0e (PX.of_bind h) fun t e0 h1=>?_
 obtain F:=zfc e0
 obtain ⟨ok,h2⟩:=PX.of_if h1
 clear e0 h h1
 have h:=h2
 clear h2
 obtain ⟨⟨rfl,rfl⟩,⟨px,ps,rfl⟩,pc,pn,pa,pr,ph,rfl⟩:=F
 obtain ok:=Bool.and_eq_true_iff.mp ok
 obtain ok2:=Bool.and_eq_true_iff.mp ok.2
 obtain on:=of_decide_eq_true ok2.2
 refine z0e (C.lvl ok.1) fun outer zr21 hef=>?_;obtain rfl:=zr21
 refine wpAny_Try_except (wpAny_execs_cons (z52 ok2.1 ?_))
 obtain Se:=hE t.e
 obtain ⟨x,e,c,n'⟩:=t
 dsimp only at *
 refine Se A env I ℓ σ R s _ _ C i L ?_
 revert h
 cases hr:z09 e I ℓ σ with
 | bad=>exact fun h=>h.elim
 | ok v σ₁ =>
  intro h b R₁ h₁ tk x1 i1 q
  refine z0e (PX.of_bind h) fun ℓ₂ e1 h=>?_
  refine wpAny_assign_Name (z5d (s:={ s with heap:=h₁,toks:=tk }) C i1 (L.ext i x1) e1 q fun h2 tk2 x2 i2 L2=>?_)
  exact wpAny_execs_nil (wpAny_execs_nil (h _ R₁ h2 tk2 (x1.x.trans x2) i2 ⟨L2,.next⟩))
 | exc m σ₁ =>
  intro h er R₁ h₁ tk1 x1 i1 ⟨hs,k1,y1⟩
  obtain ⟨okr,h⟩:=PX.of_if h
  obtain og:=(Bool.and_eq_true_iff.mp okr).1
  refine zh8 (s:={ s with heap:=h₁,toks:=tk1 }) C.frames hef i1 (.inr y1) fun h2 i2 y2 p2=>?_
  obtain x2:=x1.pass k1 p2
  refine z7h (s:={ s with heap:=h2,toks:=tk1 }) i2 y2 fun h3 i3 y3 p3=>?_
  obtain x3:=x2.pass k1 p3
  obtain L3:=L.ext i x3
  obtain kn:env.kindOf n' = some .local:=C.scl n' on
  obtain kg:=(C.sc c).2 og
  refine wpAny_handleBy_cons (codeAny_handlers_test ?_) (by simp [byPass])
  obtain hnm:=zdj (ℓ:=ℓ) C okr
  obtain ⟨hd,z⟩:=z77 (s:={ s with heap:=h3,toks:=tk1 }) (A':=A.mark (some (.ref er))) (E:=notedBy gd.m (A.mark (some (.ref er))) env fun x s₁=>cameBackBy gd.m A env E x s₁)
   (Q:=fun cv s₁=>cv = .ref gd.T.refusal∧s₁ = { s with heap:=h3,toks:=tk1 }) C L3 i3 hnm fun v q=>by cases q;exact ⟨rfl,rfl⟩
  refine wpAny_Name (wpAny_mono z (fun cv s₁ hz=>?_) fun uu uu z=>z) hd
  obtain ⟨rfl,rfl⟩:=hz
  refine z27 (id y3) fun vs Tb xe uu=>?_
  refine (exm_one (C.top.kin.keeps i3.stays) xe.looks C.top.exm).at ?_
  dsimp only
  rw [if_pos rfl]
  refine codeAny_handlers_suite_as ?_
  refine z7h (s:={ s with heap:=h3,toks:=tk1 }) i3 y3.noted fun h4 i4 y4 p4=>?_
  obtain x4:=x3.pass k1 p4
  obtain L4:=L.ext i x4
  refine z27 (id y4) fun vs4 Tb4 xe4 uu=>?_
  refine z5c (s:={ s with heap:=h4,toks:=tk1 }) (a:=.raw (.ref er)) i4 L4 (.inl kn) (.raw _) fun h5 tk5 x5 i5 L5=>?_
  obtain xe5:=xe4.own L4 i4 hef x5
  refine z0e (L5.at_raw (outer:=outer) kn) fun mL hn hv'=>?_
  refine wpAny_execs_cons (wpAny_Return_some ?_)
  rw [arm_eval_Attribute]
  refine wpAny_bind (zc6 C.super (wpAny_Name (wpAny_loadName_local L5.kind kn hn hv' ?_) ?_))
  ·refine wpAny_bind (wpAny_standAt (wpAny_bind (wpAny_holding ?_)))
   refine zs8 (s:={ s with heap:=h5,toks:=tk5 }) (C.top.kin.keeps i5.stays) RK xe5 fun tm=>?_
   refine wpAny_bind (wpAny_letTemporaryGo (wpAny_pure ?_))
   refine zop (s:={ s with heap:=h5,toks:=tk5 + 1 }) i5 L5 kn fun h6 tk6 x6 i6 L6=>?_
   exact h _ R₁ h6 tk6 (x4.x.trans (x5.trans x6)) i6 ⟨L6,.ret (.str _ _)⟩
  ·cases q:(n' == ("__debug__" : Str)) with
   | false=>rfl
   | true =>
    obtain q:=eq_of_beq q
    obtain rfl:=q
    have:=C.dbg.1
    unfold z1g at this
    rw [on] at this
    exact nomatch this
end
end
section
open PySem PySem.W PySem.Calls PyProof.Rows PySem.SeqAt
noncomputable def z2e:List Value:=[.type "Exception",.type "BaseException",.type "object"]
structure z6b (K:Frag) (C init:Addr):Prop where
 cobj:∃ nm q N bs D sn sub ab col dd k0 k1 k2 k3 k5,K.lookup C = some (excClassObj nm q C N bs (.ref D :: z2e) true sn sub ab col dd k0 k1 k2 k3 k5 "Exception.__new__")∧tailIn K z2e (.ref D :: z2e) = true
 ini:findIn K (.ref C) "__init__" = some (some (.ref init))
 iniF:typeIn K (.ref init) = some (.type "function")
 set:findIn K (.ref C) "__setattr__" = some (some (.builtin "object.__setattr__"))
 msg:findIn K (.ref C) "message" = some none
noncomputable def freshExc (C t:Addr):Obj:={ cls:=.ref C,data:=.fields #[.ref t,.none,.none,.none,.bool false,.none] }
section
variable {gd:Gd} {A:Around} {R:Result→Shared→Prop} {h:Heap} {g:Array GenState} {d:Drawn} {t:Nat} {os:OsState} {K:Frag} {C init:Addr}
theorem zkh {rest:List Value} (X:gd.K.In h) (MK:z6b gd.K C init) (hrest:rest.length≤sizeLine)
  (hq:codeAny gd.m (A.under (.builtin "type.__call__" ⟨.ref C :: rest,[]⟩)) (.call (.ref init) ⟨.ref (h.objs.size + 1) :: rest,[]⟩) (zf8 (fun v s'=>v = .none∧R (.ok (.ret (.ref (h.objs.size + 1)))) s') fun e s'=>R (.error e) s')
   ⟨(h.push { cls:=.type "tuple",data:=.seq rest.toArray }).push (freshExc C h.objs.size),g,d,t,os⟩):codeAny gd.m A (.call (.ref C) ⟨rest,[]⟩) R ⟨h,g,d,t,os⟩:=by
 revert gd A R h g d t os C init rest;refine no_implicit_lambda% (z76 (z06 nGd (z06 z28 (z06 inferInstance (z06 inferInstance (z06 inferInstance (z06 zge inferInstance)))))) ?_);generalize (e7 _ _).1 = gd;generalize (e7 _ _).2.1 = A;generalize (e7 _ _).2.2.1 = R;generalize (e7 _ _).2.2.2.1 = h;generalize (e7 _ _).2.2.2.2.1 = g;generalize (e7 _ _).2.2.2.2.2.1 = d;generalize (e7 _ _).2.2.2.2.2.2 = t;refine no_implicit_lambda% (z36 (z06 inferInstance (z06 inferInstance inferInstance)) ?_);generalize (e3 _ _).1 = os;generalize (e3 _ _).2.1 = C;generalize (e3 _ _).2.2 = init;refine no_implicit_lambda% (z2b inferInstance ?_);generalize (e1 _ _) = rest;unhygienic intros
 refine z2n MK.cobj fun nm q N bs D sn sub ab col dd k0 k1 k2 k3 k5 hl ht=>?_
 obtain hC:=X _ _ hl
 obtain T:OwnTail h z2e (.ref D :: z2e):=tail_of_in X ht
 obtain F0:=F.excBase_Exception
 obtain hBn:z2e.contains (.type "Exception") = true:=F0.hasB
 have f1:=tc_lookup
 obtain f2:=tc_bind (.ref C)
 obtain hT:(⟨h,g,d,t,os⟩:Shared).TypeIs (.ref C) "type":=⟨_,hC,rfl⟩
 refine codeAny_of_tree ?_
 refine (?_:wpAny _ _ (callAny (.ref C) _) _ _ _)
 repeat (any_goals (first | assumption | with_reducible refine wpAny_loadPart_at hC ?_ | wp_step))
 refine ⟨rfl,?_⟩
 refine codeAny_call_builtin_at (Code.quiet_builtin _ (by decide +kernel)) entry_typeCall (wpAny_check_type_call_sub hC ?_)
 repeat (first | with_reducible refine wpAny_loadPart_at hC ?_ | with_reducible refine wpAny_madeBy_exc hC ?_ | wp_step)
 refine codeAny_call_builtin_code (Code.quiet_builtin _ F0.quiet) (wpAny_check_new_subU F0 hBn T hC ?_)
 refine codeAny_exc_new_subU F0 hBn F0 T hC ?_ hrest
 refine (?_:wpAny gd.m (A.under (Code.builtin "type.__call__" ⟨.ref C :: rest,[]⟩)) _ _ _ ⟨(h.push { cls:=.type "tuple",data:=.seq rest.toArray }).push (freshExc C h.objs.size),g,d,t,os⟩)
 obtain k:∀ b o,h.get? b = some o→((h.push { cls:=.type "tuple",data:=.seq rest.toArray }).push (freshExc C h.objs.size)).get? b = some o:=fun b o e=>Heap.get?_push_of_some _ (Heap.get?_push_of_some _ e)
 obtain hget:((h.push { cls:=.type "tuple",data:=.seq rest.toArray }).push (freshExc C h.objs.size)).get? (h.objs.size + 1) = some (freshExc C h.objs.size):=by heap_get
 obtain t1:Looks gd.m ((h.push { cls:=.type "tuple",data:=.seq rest.toArray }).push (freshExc C h.objs.size)) (typeOf (.ref (h.objs.size + 1))) (.ref C):=(Looks.ld hget).andThen .now
 obtain s1:Looks gd.m ((h.push { cls:=.type "tuple",data:=.seq rest.toArray }).push (freshExc C h.objs.size)) (isSubtype (.ref C) (.ref C)) true:=(looks_mroIn (M:=gd.m) X (C:=C) (base:=.ref C) (r:=true) (by
  unfold mroIn clsIn;rw [hl];simp)).keeps k
 obtain i1:=(looks_findIn (M:=gd.m) X MK.ini).keeps k
 obtain b1:=(bind_fn (M:=gd.m) X (.ref (h.objs.size + 1)) MK.iniF).keeps k
 repeat (first | with_reducible refine wpAny_call ?_ | lk)
 refine codeAny_mono hq fun r s' z=>?_
 rcases r with e | (v | _ | _ | _) <;> first | exact z | exact z.elim | skip
 obtain ⟨rfl,z⟩:=z
 exact wpAny_pure (wpAny_pure z)
end
end
section
open PySem PySem.W PySem.Calls PyProof.Rows PySem.SeqAt Builtin Builtin.ObjectAttr
section
variable {gd:Gd} {A:Around} {s:Shared} {K:Frag} {C init e t0:Addr} {E:Value→Shared→Prop}
theorem zhd {v:Value} {Q:Unit→Shared→Prop} (X:gd.K.In s.heap) (MK:z6b gd.K C init) (he:s.heap.get? e = some (freshExc C t0))
  (h:∀ h' dx od m tk,h'.get? e = some { freshExc C t0 with dict:=some dx }→s.heap.get? dx = none→h'.get? dx = some od→od.cls = .type "dict"→h'.Ns dx m→m (Str.ofString "message") = some v→(∀ b o,b ≠ e→s.heap.get? b = some o→h'.get? b = some o)→Q () { s with heap:=h',toks:=tk }) :
  wpAny gd.m A (setAttr (.ref e) (Str.ofString "message") v) Q E s:=by
 revert gd A s C init e t0 E v Q;refine no_implicit_lambda% (z76 (z06 nGd (z06 z28 (z06 z1v (z06 inferInstance (z06 inferInstance (z06 inferInstance inferInstance)))))) ?_);generalize (e7 _ _).1 = gd;generalize (e7 _ _).2.1 = A;generalize (e7 _ _).2.2.1 = s;generalize (e7 _ _).2.2.2.1 = C;generalize (e7 _ _).2.2.2.2.1 = init;generalize (e7 _ _).2.2.2.2.2.1 = e;generalize (e7 _ _).2.2.2.2.2.2 = t0;refine no_implicit_lambda% (z36 (z06 inferInstance (z06 inferInstance inferInstance)) ?_);generalize (e3 _ _).1 = E;generalize (e3 _ _).2.1 = v;generalize (e3 _ _).2.2 = Q;unhygienic intros
 refine z2n MK.cobj fun nm q N bs D sn sub ab col dd k0 k1 k2 k3 k5 hl ht=>?_
 obtain IA:InstAt s.heap e (freshExc C t0) C none:=⟨he,rfl,rfl,trivial⟩
 refine set_plain X IA MK.set ?_
 obtain SF:=PySem.F.store_Exception
 obtain hcl:clsIn gd.K C = some { name:=nm,bases:=bs,mro:=.ref C :: .ref D :: z2e,ns:=N,qualname:=q,hasDict:=true,slotNames:=sn,subclasses:=sub,abstract:=ab,collection:=col,hasDel:=false }:=by
  unfold clsIn;rw [hl]
 obtain LC:=looks_clsIn (M:=gd.m) X hcl
 obtain sub1:Looks gd.m s.heap (isInstance (.ref e) (.type "object")) true:=IA.type.andThen (looks_mroIn X (by unfold mroIn;rw [hcl];simp [z2e]))
 refine codeAny_call_builtin SF.slot.plain SF.entry (@check_slot gd.m _ _ { s with toks:=s.toks + 1 } "object.__setattr__" "object" "__setattr__" (.ref e) [.str (Str.ofString "message") s.toks,v] [] _ SF.kind SF.split sub1 (SF.args (.ref e) (.str (Str.ofString "message") s.toks) v) ?_)
 obtain hm:Looks gd.m s.heap (mroOf (.ref C)) (.ref C :: .ref D :: z2e):=LC.andThen .now
 rw [osa_eq,refuse_eq]
 refine wpAny_bind (wpAny_bind (IA.type.here (s:={ s with toks:=s.toks + 1 }) (wpAny_bind (hm.here (s:={ s with toks:=s.toks + 1 }) ?_))))
 rw [refuseLoop_ref,refuseLoop_ref,show refuseLoop (.ref e) "__setattr__" z2e = pure () from SF.passes (.ref e)]
 refine wpAny_pure (wpAny_bind (IA.type.here (s:={ s with toks:=s.toks + 1 }) (wpAny_bind ((looks_findIn X MK.msg).here (s:={ s with toks:=s.toks + 1 }) (wpAny_bind (wpAny_pure ?_))))))
 refine wpAny_bind (wpAny_pure (wpAny_bind (wpAny_bind (wpAny_loadPart (s:={ s with toks:=s.toks + 1 }) he (wpAny_bind (LC.here (s:={ s with toks:=s.toks + 1 }) ?_))))))
 dsimp only [freshExc]
 rw [if_neg (by simp [typeHasDict])]
 obtain hx₁:(s.heap.push { cls:=.type "dict",data:=.dict #[] }).get? e = some (freshExc C t0):=Heap.get?_push_of_some _ he
 obtain hxs:e ≠ s.heap.objs.size:=Nat.ne_of_lt (Heap.lt_size he)
 refine wpAny_bind (wpAny_alloc (s:={ s with toks:=s.toks + 1 }) ?_)
 refine wpAny_bind (wpAny_update (s:={ s with heap:=s.heap.push { cls:=.type "dict",data:=.dict #[] },toks:=s.toks + 1 }) hx₁ ?_)
 refine wpAny_pure ?_
 obtain g1:=Heap.get?_update_self (fun o=>{ cls:=o.cls,dict:=some s.heap.objs.size,data:=o.data,slots:=o.slots }) hx₁ rfl
 obtain sb1:Heap.SameBut e (s.heap.push { cls:=.type "dict",data:=.dict #[] }) ((s.heap.push { cls:=.type "dict",data:=.dict #[] }).update e fun o=>{ cls:=o.cls,dict:=some s.heap.objs.size,data:=o.data,slots:=o.slots }):=Heap.SameBut.update ..
 generalize hH:(s.heap.push { cls:=.type "dict",data:=.dict #[] }).update e (fun o=>{ cls:=o.cls,dict:=some s.heap.objs.size,data:=o.data,slots:=o.slots }) = h1 at g1 sb1
 obtain gd:h1.get? s.heap.objs.size = some { cls:=.type "dict",data:=.dict #[] }:=(sb1.2 _ (Ne.symm hxs)).trans (Heap.get?_push_size _ rfl)
 refine (?_:wpAny _ _ (storeInDict s.heap.objs.size (.str (Str.ofString "message") s.toks) (Str.ofString "message") v) _ _ _)
 have H:Heap:=h1
 refine wpAny_bind (wpAny_pure (wpAny_bind (z7c (s:={ s with heap:=h1,toks:=s.toks + 1 }) (m:=fun uu=>none) gd rfl (fun e he=>absurd he (by simp)) (fun n=>rfl) fun h2 o2 es2 ep2 g2 k1 k2 k3 k4 n2 sb2=>?_)))
 refine wpAny_bind (wpAny_lookBehind (s:={ s with heap:=h2,toks:=s.toks + 1 + 1 }) g2 (by rw [k3];exact pastItsLine_dict (by rw [k4,sizeLine_eq];decide)) ?_)
 refine wpAny_pure ?_
 refine h h2 s.heap.objs.size o2 _ _ ((sb2.2 e hxs).trans g1) (z2o s.heap) g2 k1 n2 rfl fun b o hb eb=>?_
 exact (sb2.2 b (Nat.ne_of_lt (Heap.lt_size eb))).trans ((sb1.2 b hb).trans (Heap.get?_push_of_some _ eb))
end
end
section
open PySem PySem.W PySem.Calls PyProof.Rows PySem.SeqAt
noncomputable def z6j:Str:=Str.ofString "self"
noncomputable def zdk:Str:=Str.ofString "message"
structure zb1 (gd:Gd) (init:Addr):Prop where
 ex:∃ f p1 p2 p3 p4,zr9 gd init f∧f.params = [z6j,zdk]∧f.dflt = []∧f.body = [.Assign [.Attribute (.Name z6j p1) zdk p2] (.Name zdk p3) p4]∧f.sc.lookup z6j = some .local∧f.sc.lookup zdk = some .local
theorem zoq:z6j ≠ zdk:=by decide +kernel
theorem zhe {a b:AV}:look (zc2 [z6j,zdk] [a,b] []) z6j = some a :=
 (z1w zdk b z6j _).trans ((if_neg zoq).trans ((z1w z6j a z6j []).trans (if_pos rfl)))
theorem zki {a b:AV}:look (zc2 [z6j,zdk] [a,b] []) zdk = some b :=
 (z1w zdk b zdk _).trans (if_pos rfl)
section
variable {gd:Gd} {hs h h' h'':Heap} {fr:List Env} {A:Around} {env:Env} {I:z1q} {ℓ ℓ':Loc} {σ σ':AS} {R R':List Addr} {s s':Shared} {e t0 init:Addr} {m:Str}
set_option tactic.hygienic true in
theorem zkj {t:Tok} {Q E:Value→Shared→Prop} (top:zex gd) (MK:z6b gd.K gd.T.refusal init) (IO:zb1 gd init) (hfr:A.frames = some fr) (hroom:A.depth < recursionLimit)
  (i:Iv gd fr R σ s.heap) (he:s.heap.get? e = some (freshExc gd.T.refusal t0)) (heR:e ∉ R) (he0:gd.h₀.get? e = none)
  (h:∀ h' dx od mm tk t,(∀ b o,b ≠ e→s.heap.get? b = some o→b ∉ R→∃ o',h'.get? b = some o'∧o'.cls = o.cls∧o'.dict = o.dict∧o'.data = o.data∧(o.cls ≠ .type "frame"→o' = o))→(∀ b o,s.heap.get? b = some o→∃ o',h'.get? b = some o')→Iv gd fr R σ h' →
   h'.get? e = some { freshExc gd.T.refusal t0 with dict:=some dx }→dx ∉ R→h'.get? dx = some od→od.cls = .type "dict"→h'.Ns dx mm→mm zdk = some (.str m t)→Q .none { s with heap:=h',toks:=tk }) :
  codeAny gd.m A (.call (.ref init) ⟨[.ref e,.str m t],[]⟩) (zf8 Q E) s:=by
 revert gd fr A σ R s e t0 init m t Q E;refine no_implicit_lambda% (z76 (z06 nGd (z06 inferInstance (z06 z28 (z06 inferInstance (z06 inferInstance (z06 z1v inferInstance)))))) ?_);generalize (e7 _ _).1 = gd;generalize (e7 _ _).2.1 = fr;generalize (e7 _ _).2.2.1 = A;generalize (e7 _ _).2.2.2.1 = σ;generalize (e7 _ _).2.2.2.2.1 = R;generalize (e7 _ _).2.2.2.2.2.1 = s;generalize (e7 _ _).2.2.2.2.2.2 = e;refine no_implicit_lambda% (z36 (z06 inferInstance (z06 inferInstance inferInstance)) ?_);generalize (e3 _ _).1 = t0;generalize (e3 _ _).2.1 = init;generalize (e3 _ _).2.2 = m;refine no_implicit_lambda% (z36 (z06 inferInstance (z06 inferInstance inferInstance)) ?_);generalize (e3 _ _).1 = t;generalize (e3 _ _).2.1 = Q;generalize (e3 _ _).2.2 = E;unhygienic intros
 refine zak IO.ex fun f p1 p2 p3 p4 F fp fdl fb fs1 fs2=>?_
 revert f p1 p2 p3 p4;refine no_implicit_lambda% (z36 (z06 zrq (z06 inferInstance inferInstance)) ?_);generalize (e3 _ _).1 = f;generalize (e3 _ _).2.1 = p1;generalize (e3 _ _).2.2 = p2;refine no_implicit_lambda% (z2b inferInstance ?_);generalize (e1 _ _) = p3;refine no_implicit_lambda% (z2b inferInstance ?_);generalize (e1 _ _) = p4;unhygienic intros
 refine z3a F.ex fun o fd g hd hb hsc hk hco hgen hclo hgl hbl hcd hp ds hds hdl hdv=>?_
 revert o fd ds;refine no_implicit_lambda% (z2b inferInstance ?_);generalize (e1 _ _) = o;refine no_implicit_lambda% (z2b inferInstance ?_);generalize (e1 _ _) = fd;unhygienic intros;revert ds;refine no_implicit_lambda% (z2b inferInstance ?_);generalize (e1 _ _) = ds;unhygienic intros
 obtain hl2:f.dflt.length = ds.length:=(hdv R s.heap).length
 obtain hds0:ds = []:=List.length_eq_zero_iff.mp (by rw [← hl2,fdl];rfl)
 obtain rfl:=hds0
 refine codeAny_call_function hroom (i.stays _ _ g) hd hco hgen hb (hcd.keeps i.stays) ?_
 refine z8y hp (ds:=[]) ?_ (by rw [fp];simp) (by rw [fp];simp) hdl ?_
 ·refine Or.elim (hds) (fun zo12=>?_) (fun zo12=>?_)
  ·obtain ⟨e1,e2⟩:=zo12;rw [e1]
   exact wpAny_bind (wpAny_pure (wpAny_pure ⟨rfl,rfl⟩))
  ·refine z5v zo12 fun t ot n e1 e2 e3=>?_;rw [e1]
   exact wpAny_seqItems (i.stays _ _ e2) e3 ⟨by simp,rfl⟩
 ·rw [hgl,hclo,hbl]
  have q':VRels R s.heap [.raw (.ref e),.str m] ([.ref e,.str m t]++([]:List Value).drop ([Value.ref e,.str m t].length + ([]:List Value).length - f.params.length)):=by
   simp only [List.drop_nil,List.append_nil]
   exact .cons (.raw _) (.cons (.str _ _) .nil)
  refine zaz i hk (hsc ▸ F.noFree) (hsc ▸ F.kinds) q' fun env hes hef hel h1 tk1 x1 hown i1 L1=>⟨top.lim.keeps i1.stays,codeAny_func ?_⟩
  have hkd:∀ x,env.kindOf x = f.sc.lookup x:=fun x=>by unfold Env.kindOf;rw [hes,hsc]
  revert env h1 tk1;refine no_implicit_lambda% (z2b inferInstance ?_);generalize (e1 _ _) = env;unhygienic intros;revert h1 tk1;refine no_implicit_lambda% (z2b inferInstance ?_);generalize (e1 _ _) = h1;refine no_implicit_lambda% (z2b inferInstance ?_);generalize (e1 _ _) = tk1;unhygienic intros
  have k1:env.kindOf z6j = some .local:=(hkd _).trans fs1
  have k2:env.kindOf zdk = some .local:=(hkd _).trans fs2
  have he1:h1.get? e = some (freshExc gd.T.refusal t0):=by
   refine z1o (x1.keep e _ he heR) fun o' e' c' d' a' f'=>?_
   rw [e',f' (by simp [freshExc])]
  refine z0e L1.ns fun mL hn r=>?_
  revert mL;refine no_implicit_lambda% (z2b inferInstance ?_);generalize (e1 _ _) = mL;unhygienic intros
  rw [fp] at r
  refine z0e (r z6j (.raw (.ref e)) zhe k1) fun v1 hv1 q1=>?_
  refine z0e (r zdk (.str m) zki k2) fun v2 hv2 q2=>?_
  cases q1
  cases q2
  rename_i t2
  rw [fb]
  refine wpAny_execs_cons (z52 rfl ?_)
  refine wpAny_Name (wpAny_loadName_local L1.kind k2 hn hv2 ?_) (by decide +kernel)
  rw [arm_assign_Attribute]
  refine wpAny_bind (wpAny_holding (wpAny_Name (wpAny_loadName_local L1.kind k1 hn hv1 ?_) (by decide +kernel)))
  refine wpAny_bind (wpAny_standAt (wpAny_bind (wpAny_holding ?_)))
  refine zhd (s:={ s with heap:=h1,toks:=tk1 }) (top.kin.keeps i1.stays) MK he1 fun h2 dx od mm tk2 g1 g2 g3 g4 g5 g6 g7=>?_
  refine wpAny_release ?_
  refine wpAny_execs_nil ?_
  obtain i2:=i1.but (o:=freshExc gd.T.refusal t0) he1 (by simp [freshExc]) (by simp [freshExc]) (by simp [freshExc]) heR he0 g7
  obtain dxR:dx ∉ R:=fun hm=>by
   refine oEA (i1.lookup hm) fun o eo=>?_
   dsimp only at g2
   exact nn ((g2).symm.trans eo)
  exact h h2 dx od mm tk2 t2 (fun b o hb eb hR=>by
   refine z0e (x1.keep b o eb hR) fun o' e' r=>?_
   exact ⟨o',g7 b o' hb e',r⟩) (fun b o eb=>by
   refine oEA (x1.stay b o eb) fun o' e'=>?_
   by_cases z:b = e
   ·exact ⟨_,z ▸ g1⟩
   ·exact ⟨o',g7 b o' z e'⟩) (i2.frs i2.frames.tail) g1 dxR g3 g4 g5 g6
end
end
section
open PySem PySem.W PySem.Calls PyProof.Rows PySem.SeqAt
section
variable {gd:Gd} {hs h h' h'':Heap} {fr:List Env} {A:Around} {env:Env} {I:z1q} {ℓ ℓ':Loc} {σ σ':AS} {R R':List Addr} {s s':Shared} {e t0 init:Addr} {m:Str}
theorem zfd {C:Addr} {x:Sem Value} {Q:Flow→Shared→Prop} {E:Value→Shared→Prop} (MK:z6b gd.K C init) (hh:A.handled = none)
  (h:wpAny gd.m A x (fun v s₁=>∃ e t0 dx,v = .ref e∧gd.K.In s₁.heap∧s₁.heap.get? e = some { cls:=.ref C,dict:=some dx,data:=.fields #[.ref t0,.none,.none,.none,.bool false,.none] }∧E (.ref e) s₁) E s) :
  wpAny gd.m A (raiseStmt env (some x) none) Q E s:=by
 revert gd A env s init C x Q E;refine no_implicit_lambda% (z76 (z06 nGd (z06 z28 (z06 inferInstance (z06 z1v (z06 inferInstance (z06 inferInstance nSem)))))) ?_);generalize (e7 _ _).1 = gd;generalize (e7 _ _).2.1 = A;generalize (e7 _ _).2.2.1 = env;generalize (e7 _ _).2.2.2.1 = s;generalize (e7 _ _).2.2.2.2.1 = init;generalize (e7 _ _).2.2.2.2.2.1 = C;generalize (e7 _ _).2.2.2.2.2.2 = x;refine no_implicit_lambda% (z2b inferInstance ?_);generalize (e1 _ _) = Q;refine no_implicit_lambda% (z2b inferInstance ?_);generalize (e1 _ _) = E;unhygienic intros
 refine z2n MK.cobj fun nm q N bs D sn sub ab col dd k0 k1 k2 k3 k5 hl ht=>?_
 obtain hcB:(Value.ref C :: .ref D :: z2e).contains (.type "BaseException") = true:=by simp [z2e]
 refine wpAny_bind (wpAny_mono h (fun v s₁ h₁=>?_) fun uu uu x=>x)
 refine z1j h₁ fun e t dx zq1n3 X he hE=>?_;obtain rfl:=zq1n3
 revert s₁ e t dx;refine no_implicit_lambda% (z36 (z06 z1v (z06 inferInstance inferInstance)) ?_);generalize (e3 _ _).1 = s₁;generalize (e3 _ _).2.1 = e;generalize (e3 _ _).2.2 = t;refine no_implicit_lambda% (z2b inferInstance ?_);generalize (e1 _ _) = dx;unhygienic intros
 obtain hC:=X _ _ hl
 obtain ⟨hp,g,d,tk,os⟩:=s₁
 repeat (first | with_reducible refine wpAny_loadPart_at he ?_ | with_reducible refine wpAny_loadPart_at hC ?_ | (with_reducible refine wpAny_isSubtype_exc hC ?_;rw [hcB]) | wp_step)
 exact wpAny_raiseNew_none hh hE
theorem zhf {es:List Expr} {m:Str} (h:lit1 es = some m):∃ k p,es = [.Constant (.str m) k p]:=by
 rcases es with _ | ⟨a,_ | ⟨_,_⟩⟩
 ·exact nn h
 ·refine z58 (z8u h) fun k p zq3n2=>?_;obtain rfl:=zq3n2;exact ⟨k,p,rfl⟩
 ·exact nn h
theorem zca {e:Expr} {p:Str×Str} (h:zd8 e = some p):∃ pc k pm pp,e = .Call (.Name p.1 pc) [.Constant (.str p.2) k pm] [] pp:=by
 obtain b:=z5x e
 unfold zd8 at h
 cases q:ev e <;> rw [q] at h b <;> first | (exact nn h;done) | skip
 refine oAA (z0x h) fun hk h=>?_
 refine z0e (Option.bind_eq_some_iff.mp h) fun c h1 h=>?_
 refine z0e (Option.map_eq_some_iff.mp h) fun m h2 zq6n2=>?_;obtain rfl:=zq6n2
 refine oEA (z3c h1) fun pc zq7n1=>?_;obtain rfl:=zq7n1
 refine z58 (zhf h2) fun k pm zq8n2=>?_;obtain rfl:=zq8n2
 rw [List.isEmpty_iff.mp hk] at b
 exact ⟨pc,k,pm,_,b⟩
theorem zb2 {e c:Option Expr} {p:Str×Str} (h:zc1 e c = some p):∃ pc k pm pp,e = some (.Call (.Name p.1 pc) [.Constant (.str p.2) k pm] [] pp)∧c = none:=by
 refine oAA (z0x h) fun hc h=>?_
 refine z0e (Option.bind_eq_some_iff.mp h) fun e' zq10n1 h=>?_;obtain rfl:=zq10n1
 refine zro (zca ‹zd8 _ = _›) fun pc k pm pp zq11n4=>?_;obtain rfl:=zq11n4
 exact ⟨pc,k,pm,pp,rfl,Option.isNone_iff_eq_none.mp hc⟩
set_option tactic.hygienic true in
theorem zkk {ex cs:Option Expr} {pr:Pos} (MK:z6b gd.K gd.T.refusal init) (KC:keepIn gd.K (.ref gd.T.refusal) = true) (IO:zb1 gd init) :
  SX gd fr (.Raise ex cs pr):=by
 revert gd fr init ex cs pr;refine no_implicit_lambda% (z36 (z06 nGd (z06 inferInstance inferInstance)) ?_);generalize (e3 _ _).1 = gd;generalize (e3 _ _).2.1 = fr;generalize (e3 _ _).2.2 = init;refine no_implicit_lambda% (z36 (z06 inferInstance (z06 inferInstance inferInstance)) ?_);generalize (e3 _ _).1 = ex;generalize (e3 _ _).2.1 = cs;generalize (e3 _ _).2.2 = pr;unhygienic intros
 intro A env I ℓ σ R s Q E C i L h0
 revert A env I ℓ σ R s Q E;refine no_implicit_lambda% (z76 (z06 z28 (z06 inferInstance (z06 zgf (z06 inferInstance (z06 inferInstance (z06 inferInstance z1v)))))) ?_);generalize (e7 _ _).1 = A;generalize (e7 _ _).2.1 = env;generalize (e7 _ _).2.2.1 = I;generalize (e7 _ _).2.2.2.1 = ℓ;generalize (e7 _ _).2.2.2.2.1 = σ;generalize (e7 _ _).2.2.2.2.2.1 = R;generalize (e7 _ _).2.2.2.2.2.2 = s;refine no_implicit_lambda% (z2b inferInstance ?_);generalize (e1 _ _) = Q;refine no_implicit_lambda% (z2b inferInstance ?_);generalize (e1 _ _) = E;unhygienic intros
 refine z0e (PX.of_bind h0) fun p e0 h1=>?_
 revert p;refine no_implicit_lambda% (z2b (z06 inferInstance inferInstance) ?_);generalize (e1 _ _) = p;unhygienic intros
 refine oAA (PX.of_if h1) fun ok h=>?_
 obtain F:=zb2 e0
 clear h0 h1 e0
 refine z3p F fun pc k pm pp zq14n4 zq14n5=>?_;obtain rfl:=zq14n4;obtain rfl:=zq14n5
 revert pc k pm pp;refine no_implicit_lambda% (z36 (z06 inferInstance (z06 inferInstance inferInstance)) ?_);generalize (e3 _ _).1 = pc;generalize (e3 _ _).2.1 = k;generalize (e3 _ _).2.2 = pm;refine no_implicit_lambda% (z2b inferInstance ?_);generalize (e1 _ _) = pp;unhygienic intros
 obtain ⟨c,m⟩:=p
 revert c m;refine no_implicit_lambda% (z2b inferInstance ?_);generalize (e1 _ _) = c;refine no_implicit_lambda% (z2b inferInstance ?_);generalize (e1 _ _) = m;unhygienic intros
 dsimp only at *
 rw [arm_exec_Raise]
 refine wpAny_bind (wpAny_standAt (zfd MK C.hh (wpAny_bind ?_)))
 obtain hnm:=zdj (ℓ:=ℓ) C ok
 refine Call_Name rfl ?_
 refine (wpAny_Name (z77 C L i hnm fun v q=>?_).2 (z77 (A':=A) (E:=E) (Q:=fun uu uu=>True) C L i hnm fun uu uu=>trivial).1)
 cases q
 refine z51 (gd:=gd) rfl ((zgl (z9g (gd:=gd) (.str m) k pm) zml) A env I ℓ σ R s _ _ E C i L ?_)
 intro vs R1 h1 tk1 x1 i1 q1
 revert vs R1 h1 tk1;refine no_implicit_lambda% (z36 (z06 inferInstance (z06 inferInstance inferInstance)) ?_);generalize (e3 _ _).1 = vs;generalize (e3 _ _).2.1 = R1;generalize (e3 _ _).2.2 = h1;refine no_implicit_lambda% (z2b inferInstance ?_);generalize (e1 _ _) = tk1;unhygienic intros
 cases q1 with
 | cons qm qn =>
  cases qn
  cases qm
  rename_i tm
  revert tm;refine no_implicit_lambda% (z2b inferInstance ?_);generalize (e1 _ _) = tm;unhygienic intros
  obtain X:gd.K.In h1:=C.top.kin.keeps i1.stays
  refine ⟨⟨KC,X⟩,?_⟩
  refine zjv (zdi A gd.T.refusal [.str m tm]) fun u1 u2 u3 u4=>?_
  obtain up:Up h1 ((h1.push { cls:=.type "tuple",data:=.seq [Value.str m tm].toArray }).push (freshExc gd.T.refusal h1.objs.size)):=(Up.push _ _).trans (Up.push _ _)
  obtain en:h1.get? (h1.objs.size + 1) = none:=Heap.get?_none_of_le (Nat.le_succ _)
  refine oAA (i1.fresh_of en) fun eR e0=>?_
  obtain hget:((h1.push { cls:=.type "tuple",data:=.seq [Value.str m tm].toArray }).push (freshExc gd.T.refusal h1.objs.size)).get? (h1.objs.size + 1) = some (freshExc gd.T.refusal h1.objs.size):=by heap_get
  refine wpAny_call (zkh X MK (by rw [sizeLine_eq];simp) (zkj C.top MK IO (u4 fr C.frames) (show (A.under (.builtin "type.__call__" ⟨.ref gd.T.refusal :: [.str m tm],[]⟩)).depth < recursionLimit from by rw [u2];exact C.room) (i1.up up) hget eR e0 fun h2 dx od mm tk2 t2 k1 k2 i2 g1 g2 g3 g4 g5 g6=>⟨rfl,?_⟩))
  refine wpAny_bind (wpAny_standAt (wpAny_pure ⟨h1.objs.size + 1,h1.objs.size,dx,rfl,C.top.kin.keeps i2.stays,g1,?_⟩))
  obtain x2:Ext R1 h1 R1 h2:=⟨List.prefix_refl _,fun uu hb=>.inl hb,fun b o eb hb=>k1 b o (fun z=>by rw [z,en] at eb;exact nn eb) (up b o eb) hb,fun b o eb=>k2 b o (up b o eb)⟩
  refine h _ R1 h2 tk2 (x1.trans x2).x i2 ⟨h1,x1.stay,.inl ⟨_,⟨eR,e0,en,?_,fun b o eb=>k2 b o (up b o eb),dx,g1,g2,od,mm,t2,g3,g4,g5,g6⟩,?_⟩⟩
  ·simp
  ·rfl
end
end
section
open PySem PySem.W PySem.Calls PyProof.Rows PySem.SeqAt
section
variable {gd:Gd} {fr:List Env}
theorem z8z {e:Expr} (h:∀ I ℓ σ,z09 e I ℓ σ = .bad):SE gd fr e:=by
 intro A env I ℓ σ R s Q E C i L z
 rw [h] at z;exact z.elim
theorem z2z {e:Expr} (h:∀ I ℓ whole σ,z20 e I ℓ whole σ = .bad):ST gd fr e:=by
 intro A env I ℓ σ R s Q E C i L z
 rw [h] at z;exact z.elim
theorem zmp {ks:List (Option Expr)} {es:List Expr} (h:∀ I ℓ σ,zah ks es I ℓ σ = .bad):SD gd fr ks es:=by
 intro A env I ℓ σ R s pos Q E C i L z
 rw [h] at z;exact z.elim
set_option tactic.hygienic true in
theorem zor {op:CmpOp} {m r:Expr}:lastMarks [op,.LtE] [m,r] = false:=by
 cases r <;> first | rfl | (rename_i k _;show (k == 0 && false && _) = false;cases k == 0 <;> rfl)
theorem zcb {l m r:Expr} {op:CmpOp} {pos:Pos} (Sl:SE gd fr l) (Sm:SE gd fr m) (Sr:SE gd fr r):ST gd fr (.Compare l [op,.LtE] [m,r] pos):=by
 intro A env I ℓ σ R s Q E C i L h
 refine isTrue_chain (rs:=[]) (Sl.then C i L h fun a u σ₁ R₁ s₁ t₁ i₁ L₁ x h=>?_) zor
 refine test_link (Sm.then C i₁ L₁ h fun b v σ₂ R₂ s₂ t₂ i₂ L₂ y h=>?_)
 refine z0e (PR.of_bind h) fun c e h=>?_
 refine z9j C.u i₂ e (x.aft i₁ t₂) y (wpAny_truthy_bool ?_)
 induction c with
 | false=>exact PR.of_ok h i₂ rfl
 | true =>
  refine test_last (Sr.then C i₂ L₂ h fun d z σ₃ R₃ s₃ t₃ i₃ L₃ q h=>?_)
  refine z0e (PR.of_of h) fun c' e' h=>?_
  exact z9j C.u i₃ e' (y.aft i₂ t₃) q (wpAny_truthy_bool (PR.of_ok h i₃ rfl))
noncomputable def AllE (gd:Gd) (fr:List Env) (n:Nat):Prop :=
 (∀ e:Expr,sizeOf e < n→SE gd fr e∧ST gd fr e) ∧
 (∀ es:List Expr,sizeOf es < n→SL gd fr es∧(∀ op,SA gd fr op es)∧(∀ op,SO gd fr op es)) ∧
 (∀ (ks:List (Option Expr)) (es:List Expr),sizeOf es < n→SD gd fr ks es)
theorem zkl {elt:Expr} {gens:List Comprehension} {scope:Scope} {pos:Pos} (Se:SE gd fr elt) (Si:∀ t it ifs a,gens = [⟨t,it,ifs,a⟩]→SE gd fr it):SE gd fr (.ListComp elt gens scope pos):=by
 intro A env I ℓ σ R s Q E C i L h
 rcases gens with _ | ⟨⟨t,it,ifs,a⟩,_ | ⟨_,_⟩⟩
 ·exact h.elim
 ·cases e:zd7 t with
  | none =>
   have h:PR gd fr RV Q E R s (match zd7 t with
    | some x=>if (ifs.isEmpty && a == 0 && z70 I ℓ scope x) = true then (z09 it I ℓ σ).bind fun src σ=>z3y src (fun v σ=>z09 elt (z71 I scope.names) (z1e ℓ x v) σ) σ else .bad
    | none=>.bad):=h
   rw [e] at h;exact h.elim
  | some x =>
   have h2:PR gd fr RV Q E R s (match zd7 t with
    | some x=>if (ifs.isEmpty && a == 0 && z70 I ℓ scope x) = true then (z09 it I ℓ σ).bind fun src σ=>z3y src (fun v σ=>z09 elt (z71 I scope.names) (z1e ℓ x v) σ) σ else .bad
    | none=>.bad):=h
   rw [e] at h2
   have hc:=Bool.and_eq_true_iff.mp (Bool.and_eq_true_iff.mp (PR.of_if h2).1).1
   refine oEA (z3c e) fun p zq2n1=>?_;obtain rfl:=zq2n1
   obtain h3:=List.isEmpty_iff.mp hc.1
   obtain h4:=eq_of_beq hc.2
   subst h3 h4
   exact zob (Si _ _ _ _ rfl) Se A env I ℓ σ R s Q E C i L h
 ·exact h.elim
theorem zkm {f:Expr} {args:List Expr} {kws:List Keyword} {pos:Pos} (So:∀ o m p,f = .Attribute o m p→SE gd fr o) (Sa:SL gd fr args):SE gd fr (.Call f args kws pos):=by
 intro A env I ℓ σ R s Q E C i L h
 cases f with
 | Attribute o m p=>induction kws with
  | nil=>exact zas (So _ _ _ rfl) Sa A env I ℓ σ R s Q E C i L h
  | cons _ _=>exact (show False from h).elim
 | Name g p=>induction kws with
  | nil=>exact zat Sa A env I ℓ σ R s Q E C i L h
  | cons _ _=>exact (show False from h).elim
 | _=>exact (PR.of_if h).2.elim
theorem zos {l:Expr} {ops:List CmpOp} {rs:List Expr} {pos:Pos} (Sl:SE gd fr l) (Sr:∀ r∈rs,SE gd fr r):SE gd fr (.Compare l ops rs pos)∧ST gd fr (.Compare l ops rs pos):=by
 rcases rs with _ | ⟨r,_ | ⟨r',_ | ⟨_,_⟩⟩⟩
 ·exact ⟨z8z fun uu uu uu=>rfl,z2z fun uu uu uu uu=>rfl⟩
 ·rcases ops with _ | ⟨op,_ | ⟨_,_⟩⟩
  ·exact ⟨z8z fun uu uu uu=>rfl,z2z fun uu uu uu uu=>rfl⟩
  ·exact ⟨zey Sl (Sr _ (.head _)),zez Sl (Sr _ (.head _))⟩
  ·exact ⟨z8z fun uu uu uu=>rfl,z2z fun uu uu uu uu=>rfl⟩
 ·refine ⟨z8z fun uu uu uu=>rfl,?_⟩
  rcases ops with _ | ⟨op,_ | ⟨op2,_ | ⟨_,_⟩⟩⟩
  ·exact z2z fun uu uu uu uu=>rfl
  ·exact z2z fun uu uu uu uu=>rfl
  ·by_cases h:op2 = .LtE
   ·subst h;exact zcb Sl (Sr _ (.head _)) (Sr _ (.tail _ (.head _)))
   ·exact z2z fun uu uu uu uu=>if_neg h
  ·exact z2z fun uu uu uu uu=>rfl
 ·exact ⟨z8z fun uu uu uu=>rfl,z2z fun uu uu uu uu=>rfl⟩
theorem zsa {op:UnaryOp} {x:Expr} {pos:Pos} (S:ST gd fr x):ST gd fr (.UnaryOp op x pos):=by
 by_cases h:op = .Not
 ·subst h;exact zrt S
 ·exact z2z fun uu uu uu uu=>if_neg h
theorem zot {o i:Expr} {pos:Pos} (So:SE gd fr o) (Si:SE gd fr i):SE gd fr (.Subscript o i pos):=by
 cases h:z45 i with
 | true=>exact zk4 h So
 | false=>exact zrx h So Si
theorem zou:∀ n,AllE gd fr n
 | 0=>⟨fun uu h=>absurd h (Nat.not_lt_zero _),fun uu h=>absurd h (Nat.not_lt_zero _),fun uu uu h=>absurd h (Nat.not_lt_zero _)⟩
 | n + 1=>by
  obtain ih:=zou n
  have E:=ih.1
  have L:=ih.2.1
  refine ⟨fun e hn=>?_,fun es hn=>?_,fun ks es hn=>?_⟩
  ·cases e with
   | BoolOp op vs pos =>
    obtain h:=L vs (by simp at hn;lia)
    exact ⟨zgk (h.2.2 op),zgj (h.2.1 op)⟩
   | BinOp l op r pos=>exact ⟨zjw (E l (by simp at hn;lia)).1 (E r (by simp at hn;lia)).1,z2z fun uu uu uu uu=>rfl⟩
   | UnaryOp op x pos =>
    obtain h:=E x (by simp at hn;lia)
    exact ⟨zno h.1,zsa h.2⟩
   | IfExp t a b pos=>exact ⟨zjz (E t (by simp at hn;lia)).2 (E a (by simp at hn;lia)).1 (E b (by simp at hn;lia)).1,z2z fun uu uu uu uu=>rfl⟩
   | Dict ks vs pos=>exact ⟨zo9 (ih.2.2 ks vs (by simp at hn;lia)),z2z fun uu uu uu uu=>rfl⟩
   | ListComp elt gens scope pos=>exact ⟨zkl (E elt (by simp at hn;lia)).1 fun t it ifs a e=>(E it (by subst e;simp at hn;lia)).1,z2z fun uu uu uu uu=>rfl⟩
   | Compare l ops rs pos=>exact zos (E l (by simp at hn;lia)).1 fun r hr=>(E r (by have:=List.sizeOf_lt_of_mem hr;simp at hn;lia)).1
   | Call f args kws pos =>
    obtain H:SE gd fr (.Call f args kws pos):=zkm (fun o m p e=>(E o (by subst e;simp at hn;lia)).1) (L args (by simp at hn;lia)).1
    exact ⟨H,znq H⟩
   | Constant c k pos=>exact ⟨z9g c k pos,zk0 c k pos⟩
   | Attribute o x pos =>
    obtain H:=znv (x:=x) (pos:=pos) (E o (by simp at hn;lia)).1
    exact ⟨H,znr H⟩
   | Subscript o i pos=>exact ⟨zot (E o (by simp at hn;lia)).1 (E i (by simp at hn;lia)).1,z2z fun uu uu uu uu=>rfl⟩
   | Name x pos=>exact ⟨zc4 x pos,znp x pos⟩
   | List es pos=>exact ⟨znu (L es (by simp at hn;lia)).1,z2z fun uu uu uu uu=>rfl⟩
   | Tuple es k pos=>exact ⟨zk1 (L es (by simp at hn;lia)).1,z2z fun uu uu uu uu=>rfl⟩
   | _=>exact ⟨z8z fun uu uu uu=>rfl,z2z fun uu uu uu uu=>rfl⟩
  ·cases es with
   | nil=>exact ⟨zml,fun op=>zru op,fun op=>fun A env I ℓ σ R s pos Q E C i L z=>z.elim⟩
   | cons e es =>
    have h1:=E e (by simp at hn;lia)
    have h2:=L es (by simp at hn;lia)
    refine ⟨zgl h1.1 h2.1,fun op=>zns h1.2 (h2.2.1 op),fun op=>?_⟩
    induction es with
    | nil=>exact zrv h1.1
    | cons e' es=>exact znt h1.1 (h2.2.2 op)
  ·cases es with
   | nil=>induction ks with
    | nil=>exact zs3
    | cons k ks=>exact zmp fun uu uu uu=>rfl
   | cons e es=>induction ks with
    | nil=>exact zmp fun uu uu uu=>rfl
    | cons k ks=>exact zo8 (E e (by simp at hn;lia)).1 (ih.2.2 ks es (by simp at hn;lia))
end
end
section
open PySem PySem.W PySem.Calls PyProof.Rows PySem.SeqAt
section
variable {gd:Gd} {fr:List Env} {init:Addr}
theorem z90 {st:Stmt} (h:∀ I ℓ σ,z72 st I ℓ σ = .bad):SX gd fr st:=by
 intro A env I ℓ σ R s Q E C i L z
 rw [h] at z;exact z.elim
theorem zsb {t:Expr} (h:∀ a I ℓ σ,z5u t a I ℓ σ = .bad):SAt gd fr t:=by
 intro A env I ℓ σ R s a v Q E C i L q z
 rw [h] at z;exact z.elim
theorem zsc (hE:∀ e:Expr,SE gd fr e) (t:Expr):SAt gd fr t:=by
 cases t with
 | Name x p=>exact zoe
 | Attribute o x p=>exact zof (hE o)
 | Subscript o k p=>exact zs4 (hE o) (hE k)
 | Tuple es k p=>exact zog
 | _=>exact zsb fun uu uu uu uu=>rfl
theorem zov {ts:List Expr} {e:Expr} {p:Pos} (hE:∀ e:Expr,SE gd fr e):SX gd fr (.Assign ts e p):=by
 rcases ts with _ | ⟨t,_ | ⟨_,_⟩⟩
 ·exact z90 fun uu uu uu=>rfl
 ·exact zh6 (zsc hE t) (hE e)
 ·exact z90 fun uu uu uu=>rfl
theorem zow {t e:Expr} {op:Operator} {p:Pos} (hE:∀ e:Expr,SE gd fr e):SX gd fr (.AugAssign t op e p):=by
 cases t with
 | Name x px=>exact zf5 (hE e)
 | Attribute o x px=>exact zf6 (hE o) (hE e)
 | _=>exact z90 fun uu uu uu=>rfl
theorem zox {t it:Expr} {body orelse:List Stmt} {p:Pos} (hE:∀ e:Expr,SE gd fr e) (Sb:SXs gd fr body):SX gd fr (.For t it body orelse p):=by
 induction orelse with
 | nil=>exact zs6 (hE it) (zsc hE t) Sb
 | cons _ _=>exact z90 fun uu uu uu=>rfl
theorem zhg {t:Expr} {body orelse:List Stmt} {p:Pos} (hT:ST gd fr t) (Sb:SXs gd fr body):SX gd fr (.While t body orelse p):=by
 induction orelse with
 | nil=>exact zkc hT Sb
 | cons _ _=>exact z90 fun uu uu uu=>rfl
noncomputable def AllX (gd:Gd) (fr:List Env) (n:Nat):Prop :=
 (∀ st:Stmt,sizeOf st < n→SX gd fr st)∧(∀ sts:List Stmt,sizeOf sts < n→SXs gd fr sts)
theorem zsd (RK:zf9 gd.K gd.T.refusal) (MK:z6b gd.K gd.T.refusal init) (KC:keepIn gd.K (.ref gd.T.refusal) = true) (IO:zb1 gd init):∀ n,AllX gd fr n
 | 0=>⟨fun uu h=>absurd h (Nat.not_lt_zero _),fun uu h=>absurd h (Nat.not_lt_zero _)⟩
 | n + 1=>by
  have ih:=zsd RK MK KC IO n
  have hE:∀ e:Expr,SE gd fr e:=fun e=>((zou _).1 e (Nat.lt_succ_self _)).1
  obtain hT:∀ e:Expr,ST gd fr e:=fun e=>((zou _).1 e (Nat.lt_succ_self _)).2
  refine ⟨fun st hn=>?_,fun sts hn=>?_⟩
  ·cases st with
   | Return v p=>induction v with
    | none=>exact zoh
    | some e=>exact zs5 (hE e)
   | Assign ts e p=>exact zov hE
   | AugAssign t op e p=>exact zow hE
   | For t it body orelse p=>exact zox hE (ih.2 body (by simp at hn;lia))
   | While t body orelse p=>exact zhg (hT t) (ih.2 body (by simp at hn;lia))
   | If t a b p=>exact zve (hT t) (ih.2 a (by simp at hn;lia)) (ih.2 b (by simp at hn;lia))
   | Raise e c p=>exact zkk MK KC IO
   | Try b hs o f p=>exact zs9 RK hE
   | Expr e p=>exact zoi (hE e)
   | Break p=>exact zk8
   | _=>exact z90 fun uu uu uu=>rfl
  ·induction sts with
   | nil=>exact zoj
   | cons st sts=>exact zk9 (ih.1 st (by simp at hn;lia)) (ih.2 sts (by simp at hn;lia))
end
end
section
open PySem PySem.W PySem.Calls PyProof.Rows PySem.SeqAt
section
variable {gd:Gd} {init:Addr}
theorem z9p (top:zex gd) (fns:∀ a f,gd.T.fn a = some f→zr9 gd a f) (RK:zf9 gd.K gd.T.refusal) (MK:z6b gd.K gd.T.refusal init) (KC:keepIn gd.K (.ref gd.T.refusal) = true) (IO:zb1 gd init) :
  ∀ (d:Nat) (fr:List Env) (A:Around),A.handled = none→A.frames = some fr→A.units + 10 * d + 200 < cLine→A.depth + 2 * d + 3 < recursionLimit→CodeOk gd fr A (z05 gd.T d)
 | 0,fr,A,_,_,_,_=>fun a args vals σ R s Q E i q h=>by
  exact False.elim h
 | d + 1,fr,A,hh,hfr,hu,hr=>fun a args vals σ R s Q E i q h=>by
  cases hf:gd.T.fn a with
  | some f =>
   refine zon top hf (fns a f hf) (fun fr=>(zsd RK MK KC IO _).2 f.body (Nat.lt_succ_self _)) zkf hh hfr (by lia) (by lia) (fun env=>?_) i q h
   refine (z9p top fns RK MK KC IO d (env :: fr) (A.deeper env) hh (by show A.frames.map _ = _;rw [hfr];rfl) ?_ ?_).call
   ·show A.units + 3 + 10 * d + 200 < cLine;lia
   ·show A.depth + 1 + 2 * d + 3 < recursionLimit;lia
  | none =>
   cases hc:gd.T.cls a with
   | none=>rw [zju hf hc] at h;exact False.elim h
   | some ini =>
    refine zkd top hf hc (fun v=>?_) i q h
    refine zjv (zdi A a v) fun u1 u2 u3 u4=>?_
    refine z9p top fns RK MK KC IO d fr _ (u1.trans hh) (u4 fr hfr) ?_ ?_
    ·rw [u3];lia
    ·rw [u2];lia
end
end
section
open PySem PySem.W
noncomputable def nth {α:Type}:List α→Nat→Option α
 | [],_=>none
 | a :: _,0=>some a
 | _ :: r,n + 1=>nth r n
noncomputable def stm (i:Nat):Option Stmt:=nth PySem.Challenge.pw_sm0117_01.main.body i
noncomputable def z6k (i j:Nat):Option Stmt:=match stm i with
 | some (.ClassDef _ _ _ body _ _ _ _ _ _ _)=>nth body j
 | _=>none
noncomputable abbrev FnV:=Arguments×List Stmt×Scope
noncomputable def fnV:Option Stmt→Option FnV
 | some (.FunctionDef _ args body _ _ _ scope _ _ _)=>some (args,body,scope)
 | _=>none
noncomputable def z3d:List (Addr×Option Stmt×String):=[(28,stm 2,"get_attr"),(52,stm 6,"class_attr"),(167,stm 15,"is_na"),(380,stm 31,"null"),(394,stm 33,"character"),(401,stm 34,"named"),(407,stm 35,"list_of"),(421,stm 37,"text"),(428,stm 38,"length"),
 (435,stm 39,"is_atomic"),(449,stm 41,"share"),(456,stm 43,"as_logical_text"),(463,stm 44,"to_logical"),(470,stm 45,"condition"),(496,stm 51,"loop_values"),(503,stm 52,"level_text"),(615,stm 63,"lookup"),(629,stm 65,"define"),(677,stm 73,"is_dots_place"),
 (782,stm 85,"step_loop"),(789,stm 86,"jump"),(796,stm 87,"perform_push"),(803,stm 88,"perform_jump"),(810,stm 89,"perform_loop"),(1076,stm 97,"_law_pull"),(1081,stm 98,"_law_over"),(1086,stm 99,"_law_answers"),(1093,stm 100,"_law_loop"),(1100,stm 101,"_law_body"),
 (1107,stm 102,"_law_answer"),(1114,stm 103,"_law_answer_value"),(1119,stm 104,"_law_over_value"),(1126,stm 105,"_law_told"),(1133,stm 106,"_law_lay"),(1140,stm 107,"_law_done"),(1145,stm 108,"_law_turns"),(1152,stm 109,"_law_truth"),(1159,stm 110,"_law_read_loop"),
 (1166,stm 111,"_law_read"),(1171,stm 112,"law"),(79,z6k 9 0,""),(209,z6k 23 0,""),(252,z6k 25 0,""),(302,z6k 27 0,""),(324,z6k 28 0,""),(712,z6k 78 0,""),(733,z6k 79 0,""),(824,z6k 91 0,""),(867,z6k 94 0,""),(874,z6k 94 1,""),(889,z6k 94 3,""),(925,z6k 94 8,"")]
noncomputable def z4y:List (Addr×Addr×String):=[(212,209,"Null"),(262,252,"Vector"),(305,302,"Builtin"),(327,324,"Environment"),(715,712,"ForState"),(736,733,"Run"),(827,824,"Code"),(1058,867,"Evaluator")]
noncomputable def zkn:List Addr:=[211,261,304,326,714,735,826,1057]
noncomputable def zcc:List (Addr×String×Addr):=[(1058,"new_env",874),(1058,"tick",889),(1058,"variable",925)]
noncomputable def zg2:Addr:=82
noncomputable def zum:Addr:=79
noncomputable def zhh:Expr→AV
 | .Constant .none _ _=>.none
 | .Constant (.int i) _ _=>.int i
 | _=>.raw .none
noncomputable def zbx:FnV→zg1:=fun v=>{ params:=v.1.args.map (·.arg),dflt:=v.1.defaults.map zhh,body:=v.2.1,sc:=v.2.2.names }
noncomputable def zg3 (a:Addr):List (Addr×Option Stmt×String)→Option FnV
 | []=>none
 | (b,s,_) :: r=>if b = a then fnV s else zg3 a r
noncomputable def zfe (a:Addr):List (Addr×Addr×String)→Option Addr
 | []=>none
 | (b,i,_) :: r=>if b = a then some i else zfe a r
noncomputable def zdl (a:Addr) (m:Str):List (Addr×String×Addr)→Option Addr
 | []=>none
 | (b,n,f) :: r=>if b = a∧m = Str.ofString n then some f else zdl a m r
noncomputable def z7i:List (Str×Value):=(z3d.filterMap fun p=>if p.2.2 = "" then none else some (Str.ofString p.2.2,.ref p.1))++(z4y.map fun p=>(Str.ofString p.2.2,Value.ref p.1))++[(Str.ofString "Refusal",.ref zg2)]
noncomputable def zb3:List (Str×Value):=[(Str.ofString "len",.builtin "len"),(Str.ofString "isinstance",.builtin "isinstance"),(Str.ofString "sorted",.builtin "sorted"),(Str.ofString "list",.type "list"),(Str.ofString "range",.type "range")]
noncomputable def kn0:Addr→Bool:=fun a=>(zg3 a z3d).isSome || (zfe a z4y).isSome
noncomputable def fn0:Addr→Option zg1:=fun a=>(zg3 a z3d).map zbx
noncomputable def cls0:Addr→Option Addr:=fun a=>zfe a z4y
noncomputable def zvf:Str→Option Value:=fun x=>look (z7i++zb3) x
noncomputable def zvg:Addr→Str→Option Addr:=fun a m=>zdl a m zcc
noncomputable def TTz (z:Addr→Option (List Int)):Tab:={ kn:=kn0,fn:=fn0,cls:=cls0,glob:=zvf,meth:=zvg,refusal:=zg2,frz:=z }
noncomputable def Law (z:Addr→Option (List Int)):Prop:=∀ xs sc,z sc = some xs→xs.length≤63→∃ σ',z05 (TTz z) 9 1171 [.raw (.ref sc)] [] = .ok (.bool true) σ'
noncomputable def zun:Addr→Option (List Int):=Classical.epsilon fun z=>¬ Law z
noncomputable def TT:Tab:=TTz zun
end
section
open PySem PySem.W
noncomputable abbrev S (x:String):Str:=Str.ofString x
noncomputable def IE (d:Nat) (sc:List (Str×NameKind)) (l:Bool):z1q:=⟨z05 TT d,TT.kn,fun C=>(TT.cls C).isSome,TT.glob,TT.meth,zg2,sc,l,TT.frz⟩
noncomputable def retV:z0o→Option AV
 | .ret v=>some v
 | .next=>some .none
 | .brk=>none
noncomputable def z0v:List (List Stmt)→z1q→Loc→AS→Res (z0o×Loc)
 | [],_,ℓ,σ=>.ok (.next,ℓ) σ
 | ss :: st,I,ℓ,σ=>(z39 ss I ℓ σ).bind fun fl σ=>match fl with
  | (.next,ℓ)=>z0v st I ℓ σ
  | fl=>.ok fl σ
noncomputable def ifK (c:Bool) (a b:List Stmt) (st:List (List Stmt)) (I:z1q) (ℓ:Loc) (σ:AS):Res (z0o×Loc):=if c then z0v (a :: st) I ℓ σ else z0v (b :: st) I ℓ σ
noncomputable def ifX (c:Bool) (a b:Expr) (I:z1q) (ℓ:Loc) (σ:AS):Res AV:=if c then z09 a I ℓ σ else z09 b I ℓ σ
noncomputable def zoy (op:BoolOp) (a:AV) (es:List Expr) (I:z1q) (ℓ:Loc) (σ:AS):Res AV:=(Res.of σ (tru a)).bind fun c σ=>if z4j op c then .ok a σ else zai op es I ℓ σ
noncomputable def zvh (op:BoolOp) (c:Bool) (es:List Expr) (I:z1q) (ℓ:Loc) (σ:AS):Res Bool:=if z4j op c then .ok c σ else zg0 op es I ℓ σ
noncomputable def zvi:Expr→Bool
 | .Name ..=>true
 | .Constant ..=>true
 | .Call ..=>true
 | .Attribute ..=>true
 | _=>false
noncomputable def App (σ τ σ':AS):Prop:=σ++τ = σ'
noncomputable def At (σ:AS) (k i:Nat):Prop:=i = σ.length + k
section
variable {α β:Type} {d:Nat} {sc:List (Str×NameKind)} {l:Bool} {I:z1q} {ℓ ℓ1:Loc} {σ σ1 σ2 σ3 σ' τ τ':AS} {k:Nat} {p p' q:Pos} {x y m f:Str} {a b v w:AV} {e e1 e2 t o i:Expr} {es args:List Expr} {s:Stmt} {st:List (List Stmt)} {ss ss' es':List Stmt} {c c':Bool} {vs ws:List AV} {op:BoolOp} {cop:CmpOp} {bop:Operator} {R:Res (z0o×Loc)} {r:Res AV} {rb:Res Bool} {rl:Res (List AV)} {fl fl':z0o×Loc} {j n:Nat} {C A:Addr} {fs fs':List (Str×AV)} {xs:List AV} {g:Value} {ob:AO}
theorem z0a {r:Res α} {f:α→AS→Res β} {a:α} {R:Res β} (h:r = .ok a σ) (h2:f a σ = R):r.bind f = R:=by rw [h];exact h2
theorem z91 {r:Res α} {f:α→AS→Res β} {m:Str} (h:r = .exc m σ):r.bind f = .exc m σ:=by rw [h];rfl
theorem of_of {o:Option α} {a:α} (h:o = some a):Res.of σ o = .ok a σ:=by rw [h];rfl
theorem zff:z0v [ss] I ℓ σ = z39 ss I ℓ σ:=by
 show (z39 ss I ℓ σ).bind _ = _
 cases z39 ss I ℓ σ with
 | ok fl σ =>
  obtain ⟨fl,ℓ⟩:=fl
  cases fl <;> rfl
 | _=>rfl
theorem z4z (h:z72 s I ℓ σ = .ok (.next,ℓ1) σ1) (h2:z0v (ss :: st) I ℓ1 σ1 = R):z0v ((s :: ss) :: st) I ℓ σ = R:=by
 show ((z72 s I ℓ σ).bind _).bind _ = R
 rw [h];exact h2
theorem zhi (h:z72 s I ℓ σ = .ok (.ret v,ℓ1) σ1):z0v ((s :: ss) :: st) I ℓ σ = .ok (.ret v,ℓ1) σ1:=by
 show ((z72 s I ℓ σ).bind _).bind _ = _
 rw [h];rfl
theorem zko {F:FnV} (hf:zg3 A z3d = some F) {ℓ:Loc} (hb:zc3 (zbx F) vs = some ℓ) (h:z39 F.2.1 (IE d F.2.2.names true) ℓ σ = .ok fl σ1) (hr:retV fl.1 = some v):z05 TT (d + 1) A vs σ = .ok v σ1:=by
 have h1:TT.fn A = some (zbx F):=by show (zg3 A z3d).map zbx = _;rw [hf];rfl
 rw [z73 h1,zga hb]
 show Res.bind (z39 F.2.1 (IE d F.2.2.names true) ℓ σ) _ = _
 rw [h]
 obtain ⟨fl,ℓ⟩:=fl
 cases fl with
 | brk=>cases hr
 | _=>cases hr;rfl
theorem z19 {as va ko kd kw dfs po kk nm g0 c0 m0} {bd:List Stmt} (hf:zg3 A z3d = some (⟨po,as,va,ko,kd,kw,dfs⟩,bd,⟨kk,nm,g0,c0,m0⟩)) (hb:zc3 (zbx (⟨po,as,va,ko,kd,kw,dfs⟩,bd,⟨kk,nm,g0,c0,m0⟩)) vs = some ℓ)
  (h:z0v [bd] (IE d nm true) ℓ σ = .ok fl σ1) (hr:retV fl.1 = some v):z05 TT (d + 1) A vs σ = .ok v σ1:=zko hf hb (zff ▸ h) hr
theorem zkp {A i n:Nat} {fs:List (Str×AV)} (hc:TT.fn A = none∧TT.cls A = some i) (h:∀ σ:AS,z05 TT d i (.ref (σ.length + 1) :: vs) (σ++[.ns [],.inst A (σ.length + 0)]) = .ok .none (σ++[.ns fs,.inst A σ.length])) (hn:At σ 0 n) (hj:At σ 1 j) (ha:App σ [.ns fs,.inst A n] σ1):z05 TT (d + 1) A vs σ = .ok (.ref j) σ1:=by
 rw [z74 hc.1 hc.2,show z05 TT d i (.ref (σ.length + 1) :: vs) (σ++[.ns [],.inst A σ.length]) = _ from h σ,hj,← ha,hn];rfl
theorem z0l:z09 (.Constant .none k p) I ℓ σ = .ok .none σ:=rfl
theorem z17:z09 (.Constant (.bool c) k p) I ℓ σ = .ok (.bool c) σ:=rfl
theorem z0b {n:Int}:z09 (.Constant (.int n) k p) I ℓ σ = .ok (.int n) σ:=rfl
theorem z0h:z09 (.Constant (.str x) k p) I ℓ σ = .ok (.str x) σ:=rfl
theorem z00 (h:z4e I ℓ x = some v):z09 (.Name x p) I ℓ σ = .ok v σ:=of_of h
theorem z6c (h:z09 o I ℓ σ = .ok a σ1) (h2:zae I σ1 a x = some v):z09 (.Attribute o x p) I ℓ σ = .ok v σ1:=z0a h (of_of h2)
theorem z2p (h:z4e I ℓ y = some a) (h2:zae I σ a x = some v):z09 (.Attribute (.Name y p') x p) I ℓ σ = .ok v σ:=z6c (z00 h) h2
theorem z0m (hn:z45 i = false) (h:z09 o I ℓ σ = .ok a σ1) (h1:z09 i I ℓ σ1 = .ok b σ2) (h2:zjn σ2 a b = some v):z09 (.Subscript o i p) I ℓ σ = .ok v σ2:=by
 show (if z45 i = true then _ else _) = _
 rw [if_neg (by rw [hn];exact Bool.false_ne_true)]
 exact z0a h (z0a h1 (of_of h2))
theorem zvj {z:Int} (hn:z45 i = true) (hz:z9f i = some z) (h:z09 o I ℓ σ = .ok a σ1) (h2:zr6 I σ1 a z = r):z09 (.Subscript o i p) I ℓ σ = r:=by
 show (if z45 i = true then _ else _) = _
 rw [if_pos hn]
 exact z0a (of_of hz) (z0a h h2)
theorem z1p (h:z09 e I ℓ σ = .ok a σ1) (h1:z09 e1 I ℓ σ1 = .ok b σ2) (h2:zjm bop a b = some v):z09 (.BinOp e bop e1 p) I ℓ σ = .ok v σ2:=z0a h (z0a h1 (of_of h2))
theorem zg4 {uo:UnaryOp} (h:z09 e I ℓ σ = .ok a σ1) (h2:unA uo a = some v):z09 (.UnaryOp uo e p) I ℓ σ = .ok v σ1:=z0a h (of_of h2)
theorem zoz (h:zai op es I ℓ σ = r):z09 (.BoolOp op es p) I ℓ σ = r:=h
theorem zmq (h:z09 e I ℓ σ = r):zai op [e] I ℓ σ = r:=h
theorem zcd (h:z09 e I ℓ σ = .ok a σ1) (h2:zoy op a (e1 :: es) I ℓ σ1 = r):zai op (e :: e1 :: es) I ℓ σ = r:=z0a h h2
theorem zp3 (h:(tru a).map (z4j op) = some true):zoy op a es I ℓ σ = .ok a σ:=by
 refine z0e (Option.map_eq_some_iff.mp h) fun c h1 h2=>?_
 exact z0a (of_of h1) (if_pos h2)
theorem zse (h:(tru a).map (z4j op) = some false) (h2:zai op es I ℓ σ = r):zoy op a es I ℓ σ = r:=by
 refine z0e (Option.map_eq_some_iff.mp h) fun c h1 h3=>?_
 exact z0a (of_of h1) ((if_neg (by rw [h3];exact Bool.false_ne_true)).trans h2)
theorem z6s (h:z20 t I ℓ (z09 t I ℓ) σ = .ok c σ1) (h2:ifX c e e1 I ℓ σ1 = r):z09 (.IfExp t e e1 p) I ℓ σ = r:=z0a h h2
theorem z7j (h:c = true) (h2:z09 e I ℓ σ = r):ifX c e e1 I ℓ σ = r:=(if_pos h).trans h2
theorem z60 (h:c = false) (h2:z09 e1 I ℓ σ = r):ifX c e e1 I ℓ σ = r:=(if_neg (by rw [h];exact Bool.false_ne_true)).trans h2
theorem zce (h:z09 e I ℓ σ = .ok a σ1) (h1:z09 e1 I ℓ σ1 = .ok b σ2) (h2:z8b σ2 cop a b = some c):z09 (.Compare e [cop] [e1] p) I ℓ σ = .ok (.bool c) σ2:=z0a h (z0a h1 (of_of (by rw [h2];rfl)))
theorem z11 {n:Nat} (h:z38 es I ℓ σ = .ok vs σ1) (h2:(decide (vs.length < 100000)) = true):z09 (.Tuple es n p) I ℓ σ = .ok (.tup vs) σ1:=z0a h (if_pos (of_decide_eq_true h2))
theorem z0p (h:z38 es I ℓ σ = .ok vs σ1) (h2:vs.length < 100000) (ha:At σ1 0 j) (hn:App σ1 [.list vs] σ2):z09 (.List es p) I ℓ σ = .ok (.ref j) σ2:=z0a h ((if_pos h2).trans (by rw [ha,← hn];rfl))
theorem z5f {ks:List (Option Expr)} {kvs:List (Str×AV)} (hd:z57 ks es = true) (h:zah ks es I ℓ σ = .ok kvs σ1) (h2:decide ((kvs.map (·.1)).Nodup) = true) (ha:At σ1 0 j) (hn:App σ1 [.sd kvs] σ2):z09 (.Dict ks es p) I ℓ σ = .ok (.ref j) σ2 :=
 (if_pos hd).trans (z0a h ((if_pos (of_decide_eq_true h2)).trans (by rw [ha,← hn];rfl)))
theorem z5g:zah [] [] I ℓ σ = .ok [] σ:=rfl
theorem z2w {ke:Option Expr} {ks:List (Option Expr)} {kvs:List (Str×AV)} (hk:zjq ke = some x) (h:z09 e I ℓ σ = .ok v σ1) (h1:zah ks es I ℓ σ1 = .ok kvs σ2):zah (ke :: ks) (e :: es) I ℓ σ = .ok ((x,v) :: kvs) σ2:=z0a (of_of hk) (z0a h (z0a h1 rfl))
theorem z0j {pa pp:Pos} {kd:MK} (hp:(z2g args && (pa.endLine == pp.line)) = true) (h:z09 o I ℓ σ = .ok a σ1) (hk:zaf I σ1 a m = some kd) (h1:z38 args I ℓ σ1 = .ok vs σ2) (h2:z6z I kd σ2 a m vs = r):z09 (.Call (.Attribute o m pa) args [] pp) I ℓ σ = r:=by
 have hp:=Bool.and_eq_true_iff.mp hp
 show (if (true && z2g args) = true then (if (pa.endLine == pp.line) = true then _ else _) else _) = _
 rw [if_pos (by rw [hp.1];rfl),if_pos hp.2]
 exact z0a h (z0a (of_of hk) (z0a h1 h2))
theorem z0r {pf pp:Pos} (hp:z2g args = true) (hf:z4e I ℓ f = some (.raw g)) (h1:z38 args I ℓ σ = .ok vs σ1) (h2:z6h I g vs σ1 = r):z09 (.Call (.Name f pf) args [] pp) I ℓ σ = r:=by
 show (if (true && z2g args) = true then _ else _) = _
 rw [if_pos (by rw [hp];rfl)]
 exact z0a (of_of hf) (z0a h1 h2)
theorem z0g {pf pp:Pos} (hf:z4e (IE d sc l) ℓ f = some (.raw (.ref A))) (hp:(z2g args && TT.kn A) = true) (h1:z38 args (IE d sc l) ℓ σ = .ok vs σ1) (h2:z05 TT d A vs σ1 = r):z09 (.Call (.Name f pf) args [] pp) (IE d sc l) ℓ σ = r :=
 have hp:=Bool.and_eq_true_iff.mp hp
 z0r hp.1 hf h1 ((if_pos hp.2).trans h2)
theorem z0w:z38 [] I ℓ σ = .ok [] σ:=rfl
theorem z03 (h:z09 e I ℓ σ = .ok v σ1) (h1:z38 es I ℓ σ1 = .ok vs σ2):z38 (e :: es) I ℓ σ = .ok (v :: vs) σ2:=z0a h (z0a h1 rfl)
theorem z04 (h:z09 e I ℓ σ = .ok v σ1):z38 [e] I ℓ σ = .ok [v] σ1:=z03 h rfl
theorem z2u {elt:Expr} {ifs:List Expr} {az:Int} {scope:Scope} (hx:zd7 t = some x) (hc:(ifs.isEmpty && az == 0 && z70 (IE d sc l) ℓ scope x) = true) (h:z09 i (IE d sc l) ℓ σ = .ok v σ1) (h2:z3y v (fun v σ=>z09 elt (IE d scope.names false) (z1e ℓ x v) σ) σ1 = r):z09 (.ListComp elt [⟨t,i,ifs,az⟩] scope p) (IE d sc l) ℓ σ = r:=by
 show (match zd7 t with
   | some x=>if (ifs.isEmpty && az == 0 && z70 (IE d sc l) ℓ scope x) = true then (z09 i (IE d sc l) ℓ σ).bind fun src σ=>z3y src (fun v σ=>z09 elt (z71 (IE d sc l) scope.names) (z1e ℓ x v) σ) σ else .bad
   | none=>.bad) = r
 rw [hx]
 exact (if_pos hc).trans (z0a h h2)
theorem z13 (hv:zvi e = true) (h:z09 e I ℓ σ = .ok v σ1) (h2:tru v = some c):z20 e I ℓ (z09 e I ℓ) σ = .ok c σ1:=by
 have k:z20 e I ℓ (z09 e I ℓ) σ = (z09 e I ℓ σ).bind fun a σ=>Res.of σ (tru a):=by
  cases e <;> first | rfl | exact absurd hv Bool.false_ne_true
 rw [k];exact z0a h (of_of h2)
theorem z2q {wh} (h:z20 e I ℓ (z09 e I ℓ) σ = .ok c σ1):z20 (.UnaryOp .Not e p) I ℓ wh σ = .ok (!c) σ1:=z0a h rfl
theorem z08 {wh} (h:z09 e I ℓ σ = .ok a σ1) (h1:z09 e1 I ℓ σ1 = .ok b σ2) (h2:z8b σ2 cop a b = some c):z20 (.Compare e [cop] [e1] p) I ℓ wh σ = .ok c σ2:=z0a h (z0a h1 (of_of h2))
noncomputable def chnK (c:Bool) (b:AV) (e:Expr) (I:z1q) (ℓ:Loc) (σ:AS):Res Bool:=if c then (z09 e I ℓ σ).bind fun d σ=>Res.of σ (z8b σ .LtE b d) else .ok false σ
theorem zmr {wh} (h:z09 e I ℓ σ = .ok a σ1) (h1:z09 e1 I ℓ σ1 = .ok b σ2) (h2:z8b σ2 cop a b = some c) (h3:chnK c b e2 I ℓ σ2 = rb):z20 (.Compare e [cop,.LtE] [e1,e2] p) I ℓ wh σ = rb:=z0a h (z0a h1 (z0a (of_of h2) h3))
theorem ch_t (h:c = true) (h1:z09 e I ℓ σ = .ok v σ1) (h2:z8b σ1 .LtE b v = some c'):chnK c b e I ℓ σ = .ok c' σ1:=(if_pos h).trans (z0a h1 (of_of h2))
theorem z0t {wh} (h:zg0 op es I ℓ σ = rb):z20 (.BoolOp op es p) I ℓ wh σ = rb:=h
theorem z6d:zg0 op [] I ℓ σ = .ok (op == .And) σ:=rfl
theorem z1a (h:z20 e I ℓ (z09 e I ℓ) σ = .ok c σ1) (h1:zvh op c es I ℓ σ1 = rb):zg0 op (e :: es) I ℓ σ = rb:=z0a h h1
theorem z48 (h:z4j op c = true):zvh op c es I ℓ σ = .ok c σ:=if_pos h
theorem z49 (h:z4j op c = false) (h2:zg0 op es I ℓ σ = rb):zvh op c es I ℓ σ = rb:=(if_neg (by rw [h];exact Bool.false_ne_true)).trans h2
theorem z23:z0v [] I ℓ σ = .ok (.next,ℓ) σ:=rfl
theorem z07 (h:z0v st I ℓ σ = R):z0v ([] :: st) I ℓ σ = R:=h
theorem z0i (h:z20 t I ℓ (z09 t I ℓ) σ = .ok c σ1) (h2:ifK c ss ss' (es' :: st) I ℓ σ1 = R):z0v ((.If t ss ss' p :: es') :: st) I ℓ σ = R:=by
 show (((z20 t I ℓ (z09 t I ℓ) σ).bind _).bind _).bind _ = R
 rw [h,← h2]
 have k:∀ b:List Stmt,((z39 b I ℓ σ1).bind fun fl σ=>match fl with
  | (.next,ℓ)=>z39 es' I ℓ σ
  | fl=>.ok fl σ).bind (fun fl σ=>match fl with
  | (.next,ℓ)=>z0v st I ℓ σ
  | fl=>.ok fl σ) = z0v (b :: es' :: st) I ℓ σ1:=by
  intro b
  show _ = (z39 b I ℓ σ1).bind _
  cases z39 b I ℓ σ1 with
  | ok fl σ =>
   obtain ⟨fl,ℓ⟩:=fl
   cases fl <;> rfl
  | _=>rfl
 cases c
 ·exact k ss'
 ·exact k ss
theorem k_t (h:c = true) (h2:z0v (ss :: st) I ℓ σ = R):ifK c ss ss' st I ℓ σ = R:=(if_pos h).trans h2
theorem k_f (h:c = false) (h2:z0v (ss' :: st) I ℓ σ = R):ifK c ss ss' st I ℓ σ = R:=(if_neg (by rw [h];exact Bool.false_ne_true)).trans h2
theorem z0k (h:z09 e I ℓ σ = .ok v σ1):z0v ((.Return (some e) p :: ss) :: st) I ℓ σ = .ok (.ret v,ℓ) σ1:=zhi (z0a h rfl)
theorem zms:z0v ((.Return none p :: ss) :: st) I ℓ σ = .ok (.ret .none,ℓ) σ:=rfl
theorem zkq:z0v ((.Break p :: ss) :: st) I ℓ σ = .ok (.brk,ℓ) σ:=rfl
theorem z3n (hx:z1g I.sc x = true):z6i I ℓ x v = some (z1e ℓ x v):=if_pos hx
theorem z0f (hp:(z2j e && z1g I.sc x) = true) (h:z09 e I ℓ σ = .ok v σ1) (h2:z0v (ss :: st) I (z1e ℓ x v) σ1 = R):z0v ((.Assign [.Name x p'] e p :: ss) :: st) I ℓ σ = R :=
 have hp:=Bool.and_eq_true_iff.mp hp
 z4z ((if_pos hp.1).trans (z0a h (z0a (of_of (z3n hp.2)) rfl))) h2
theorem z21 (hp:z2j e = true) (h:z09 e I ℓ σ = .ok v σ1) (h1:z09 o I ℓ σ1 = .ok a σ2) (h2:z35 I σ2 a x v = some σ3) (h3:z0v (ss :: st) I ℓ σ3 = R):z0v ((.Assign [.Attribute o x p'] e p :: ss) :: st) I ℓ σ = R :=
 z4z ((if_pos hp).trans (z0a h (z0a (z0a h1 (z0a (of_of h2) rfl)) rfl))) h3
theorem z2a (hp:z2j e = true) (h:z09 e I ℓ σ = .ok v σ1) (h1:z09 o I ℓ σ1 = .ok a σ2) (h2:z09 i I ℓ σ2 = .ok b σ3) (h3:z4w σ3 a b v = some σ') (h4:z0v (ss :: st) I ℓ σ' = R):z0v ((.Assign [.Subscript o i p'] e p :: ss) :: st) I ℓ σ = R :=
 z4z ((if_pos hp).trans (z0a h (z0a (z0a h1 (z0a h2 (z0a (of_of h3) rfl))) rfl))) h4
theorem z2c {p2 p3:Pos} {n:Nat} (hp:(z4o (.Tuple [.Name x p2,.Name y p3] n p') e && (z1g I.sc x && z1g I.sc y)) = true) (h:z09 e I ℓ σ = .ok (.tup [a,b]) σ1) (h4:z0v (ss :: st) I (z1e (z1e ℓ x a) y b) σ1 = R):z0v ((.Assign [.Tuple [.Name x p2,.Name y p3] n p'] e p :: ss) :: st) I ℓ σ = R :=
 have hp:=Bool.and_eq_true_iff.mp hp
 have hq:=Bool.and_eq_true_iff.mp hp.2
 z4z ((if_pos hp.1).trans (z0a h (z0a (of_of (by
  show ((z6i I ℓ x a).bind fun ℓ=>z6i I ℓ y b) = _
  rw [z3n hq.1];exact z3n hq.2)) rfl))) h4
theorem z0s (hp:z2j e = true) (h:z09 e I ℓ σ = .ok v σ1) (h2:z0v (ss :: st) I ℓ σ1 = R):z0v ((.Expr e p :: ss) :: st) I ℓ σ = R :=
 z4z ((if_pos hp).trans (z0a h rfl)) h2
theorem zdm (hx:z1g I.sc x = true) (h:z4e I ℓ x = some a) (h1:z09 e I ℓ σ = .ok b σ1) (h2:zrk bop a b = some v) (h3:z0v (ss :: st) I (z1e ℓ x v) σ1 = R):z0v ((.AugAssign (.Name x p') bop e p :: ss) :: st) I ℓ σ = R :=
 z4z (z0a (of_of h) (z0a h1 (z0a (of_of h2) (z0a (of_of (z3n hx)) rfl)))) h3
theorem z6e (h:z09 o I ℓ σ = .ok w σ1) (h1:zae I σ1 w x = some a) (h2:z09 e I ℓ σ1 = .ok b σ2) (h3:zrk bop a b = some v) (h4:z35 I σ2 w x v = some σ3) (h5:z0v (ss :: st) I ℓ σ3 = R):z0v ((.AugAssign (.Attribute o x p') bop e p :: ss) :: st) I ℓ σ = R :=
 z4z (z0a h (z0a (of_of h1) (z0a h2 (z0a (of_of h3) (z0a (of_of h4) rfl))))) h5
theorem zp5 (h:z72 s I ℓ σ = .exc m σ1):z0v ((s :: ss) :: st) I ℓ σ = .exc m σ1:=by
 show ((z72 s I ℓ σ).bind _).bind _ = _
 rw [h];rfl
theorem zhj {as va ko kd kw dfs po kk nm g0 c0 m0} {bd:List Stmt} (hf:zg3 A z3d = some (⟨po,as,va,ko,kd,kw,dfs⟩,bd,⟨kk,nm,g0,c0,m0⟩)) (hb:zc3 (zbx (⟨po,as,va,ko,kd,kw,dfs⟩,bd,⟨kk,nm,g0,c0,m0⟩)) vs = some ℓ)
  (h:z0v [bd] (IE d nm true) ℓ σ = .exc m σ1):z05 TT (d + 1) A vs σ = .exc m σ1:=by
 have h1:TT.fn A = some (zbx (⟨po,as,va,ko,kd,kw,dfs⟩,bd,⟨kk,nm,g0,c0,m0⟩)):=by show (zg3 A z3d).map zbx = _;rw [hf];rfl
 rw [z73 h1,zga hb]
 exact z91 (zff ▸ h)
theorem zcf {ex cs:Option Expr} {pr:Str×Str} (h:zc1 ex cs = some pr) (h2:zg9 I pr.1 = true) (h3:pr.2 = m):z0v ((.Raise ex cs p :: ss) :: st) I ℓ σ = .exc m σ:=zp5 (z0a (of_of h) ((if_pos h2).trans (by rw [h3])))
theorem zvk (h:z20 t I ℓ (z09 t I ℓ) σ = .exc m σ1):z0v ((.If t ss ss' p :: es') :: st) I ℓ σ = .exc m σ1:=zp5 (z91 h)
theorem zp6 (hv:zvi e = true) (h:z09 e I ℓ σ = .exc m σ1):z20 e I ℓ (z09 e I ℓ) σ = .exc m σ1:=by
 have k:z20 e I ℓ (z09 e I ℓ) σ = (z09 e I ℓ σ).bind fun a σ=>Res.of σ (tru a):=by
  cases e <;> first | rfl | exact absurd hv Bool.false_ne_true
 rw [k];exact z91 h
theorem zp7 {wh} (h:z20 e I ℓ (z09 e I ℓ) σ = .exc m σ1):z20 (.UnaryOp .Not e p) I ℓ wh σ = .exc m σ1:=z91 h
theorem z1k:App σ τ (σ++τ):=rfl
theorem z1f (h:τ++τ' = σ2):App (σ++τ) τ' (σ++σ2):=by unfold App;rw [← h,List.append_assoc]
theorem z1l:At σ 0 σ.length:=rfl
theorem zmt {k:Nat}:At σ k (σ.length + k):=rfl
theorem z22 {k:Nat} (h:τ.length + k = j):At (σ++τ) k (σ.length + j):=by unfold At;rw [List.length_append,← h,Nat.add_assoc]
theorem z9q (h1:σ[j]? = some (.inst C n)) (h2:σ[n]? = some (.ns fs)):z3x σ j = some ⟨C,n,fs⟩:=by
 unfold z3x;rw [h1];dsimp only;rw [h2];rfl
theorem z61 (h:σ[j]? = some (.list xs)):z34 σ j = some xs:=by unfold z34;rw [h]
theorem zcg (h:look fs x = some v) (hr:z8m v = true):(look fs x).filter z8m = some v:=by rw [h];simp [Option.filter,hr]
theorem z2k (h1:σ[j]? = some (.inst C n)) (h2:σ[n]? = some (.ns fs)) (h3:look fs x = some v) (hc:((TT.cls C).isSome && (z2y x && z8m v)) = true):zae (IE d sc l) σ (.ref j) x = some v:=by
 have hc:=Bool.and_eq_true_iff.mp hc
 have hd:=Bool.and_eq_true_iff.mp hc.2
 show (z3x σ j).bind _ = _
 rw [z9q h1 h2]
 show (if ((TT.cls C).isSome && z2y x) = true then _ else _) = _
 rw [if_pos (by rw [hc.1,hd.1];rfl)]
 exact zcg h3 hd.2
theorem z4a (h1:σ[j]? = some (.inst C n)) (h2:σ[n]? = some (.ns fs)) (hl:fs.length < 1000) (hc:((TT.cls C).isSome && z2y x) = true) (hp:z1e fs x v = fs'):z35 (IE d sc l) σ (.ref j) x v = some (σ.set n (.ns fs')):=by
 have hc:=Bool.and_eq_true_iff.mp hc
 show (z3x σ j).bind _ = _
 rw [z9q h1 h2,← hp]
 exact if_pos (by show ((TT.cls C).isSome && _) = true;rw [hc.1,hc.2,decide_eq_true hl];rfl)
theorem z1d (h1:τ[j]? = some (.inst C (σ.length + n))) (h2:τ[n]? = some (.ns fs)) (hl:decide (fs.length < 1000) = true) (hc:((TT.cls C).isSome && z2y x) = true) (hp:(look fs x).isNone = true) (ht:τ.set n (.ns (fs++[(x,v)])) = τ'):z35 (IE d sc l) (σ++τ) (.ref (σ.length + j)) x v = some (σ++τ'):=by
 have e:z1e fs x v = fs++[(x,v)]:=by
  clear h1 h2 hl hc ht
  induction fs with
  | nil=>rfl
  | cons y r ih =>
   obtain ⟨y,w⟩:=y
   rw [zc0] at hp
   rw [z9e]
   by_cases hy:y = x
   ·rw [if_pos hy] at hp;cases hp
   ·rw [if_neg hy] at hp ⊢;rw [ih hp];rfl
 rw [z4a (σ:=σ++τ) (n:=σ.length + n) (fs':=fs++[(x,v)]) (by rw [List.getElem?_append_right (Nat.le_add_right ..),Nat.add_sub_cancel_left,h1]) (by rw [List.getElem?_append_right (Nat.le_add_right ..),Nat.add_sub_cancel_left,h2]) (of_decide_eq_true hl) hc e]
 rw [List.set_append_right _ _ (Nat.le_add_right ..),Nat.add_sub_cancel_left,ht]
theorem zsf (h1:τ[j]? = some (.inst C (σ.length + n))) (h2:τ[n]? = some (.ns fs)) (hl:decide (fs.length < 1000) = true) (hc:((TT.cls C).isSome && z2y x) = true) (hp:z1e fs x v = fs') (ht:τ.set n (.ns fs') = τ'):z35 (IE d sc l) (σ++τ) (.ref (σ.length + j)) x v = some (σ++τ'):=by
 rw [z4a (σ:=σ++τ) (n:=σ.length + n) (fs':=fs') (by rw [List.getElem?_append_right (Nat.le_add_right ..),Nat.add_sub_cancel_left,h1]) (by rw [List.getElem?_append_right (Nat.le_add_right ..),Nat.add_sub_cancel_left,h2]) (of_decide_eq_true hl) hc hp]
 rw [List.set_append_right _ _ (Nat.le_add_right ..),Nat.add_sub_cancel_left,ht]
theorem z4f (h:τ[j]? = some ob):(σ++τ)[σ.length + j]? = some ob:=by rw [List.getElem?_append_right (Nat.le_add_right ..),Nat.add_sub_cancel_left,h]
theorem z4c (h:τ[0]? = some ob):(σ++τ)[σ.length]? = some ob:=z4f (j:=0) h
theorem z0n (h:σ[j]? = some ob):(σ++τ)[j]? = some ob:=by rw [List.getElem?_append_left (List.getElem?_eq_some_iff.mp h).1,h]
theorem h_eq (h:(σ[j]?).isSome = true):(σ.set j ob)[j]? = some ob:=by
 obtain ⟨o,h⟩:=Option.isSome_iff_exists.mp h
 rw [List.getElem?_set_self (List.getElem?_eq_some_iff.mp h).1]
theorem z62 {ob':AO} (hn:n ≠ j) (h:σ[j]? = some ob):(σ.set n ob')[j]? = some ob:=by rw [List.getElem?_set_ne hn,h]
noncomputable def kindO:AO→Nat
 | .list _=>0 | .sd _=>1 | .idd _=>2 | .inst _ _=>3 | .ns _=>4
theorem z3w {z:Int} (h:σ[j]? = some (.list xs)) (hl:xs.length < 1000000) (ha:atI xs z = some v):zjn σ (.ref j) (.int z) = some v:=by
 show zuj σ[j]? z = _;rw [h];exact (if_pos hl).trans ha
theorem zdn {kvs:List (Str×AV)} (h:σ[j]? = some (.sd kvs)) (ha:look kvs x = some v):zjn σ (.ref j) (.str x) = some v:=by
 show zut σ[j]? x = _;rw [h];exact ha
theorem zmu {kvs:List (Int×AV)} {z:Int} (h:σ[j]? = some (.idd kvs)) (ha:look kvs z = some v):zjn σ (.ref j) (.int z) = some v:=by
 show zuj σ[j]? z = _;rw [h];exact ha
theorem zsg {z:Int} (h:σ[j]? = some (.list xs)) (hl:0≤z∧z < xs.length∧xs.length < 1000000) (ha:xs.set z.toNat v = ws):z4w σ (.ref j) (.int z) v = some (σ.set j (.list ws)):=by
 show zre σ j σ[j]? z v = _;rw [h,← ha];exact if_pos hl
theorem z7k {kvs kvs':List (Str×AV)} (h:σ[j]? = some (.sd kvs)) (hl:kvs.length < 100000) (ha:z1e kvs x v = kvs'):z4w σ (.ref j) (.str x) v = some (σ.set j (.sd kvs')):=by
 show zuu σ j σ[j]? x v = _;rw [h,← ha];exact if_pos hl
theorem z16 (h:σ[j]? = some (.list xs)):zaf I σ (.ref j) (Str.ofString "append") = some .list:=by
 show (match mkO _ σ[j]? with | some k=>some k | none=>mkI I σ j _) = _
 rw [h];rfl
theorem z41 (h:σ[j]? = some (.list xs)):zaf I σ (.ref j) (Str.ofString "pop") = some .list:=by
 show (match mkO _ σ[j]? with | some k=>some k | none=>mkI I σ j _) = _
 rw [h];rfl
theorem zhk (h:σ[j]? = some (.list xs)) (hl:xs.length < 100000):z6z I .list σ (.ref j) m vs = zrh σ j xs m vs:=by
 show (Res.of σ (z34 σ j)).bind _ = _
 rw [z61 h];exact if_pos hl
theorem zmv:¬ Str.ofString "pop" = Str.ofString "append":=by decide +kernel
theorem z3e (h:σ[j]? = some (.list xs)) (hl:xs.length < 100000):z6z I .list σ (.ref j) (Str.ofString "append") [v] = .ok .none (σ.set j (.list (xs++[v]))):=(zhk h hl).trans (if_pos rfl)
theorem z6l (h:σ[j]? = some (.list (xs++[v]))) (hl:(xs++[v]).length < 100000):z6z I .list σ (.ref j) (Str.ofString "pop") [] = .ok v (σ.set j (.list xs)) :=
 (zhk h hl).trans ((if_neg zmv).trans ((if_pos rfl).trans (by show zr5 σ j (xs++[v]) = _;unfold zr5;simp)))
theorem zsh (h:σ[j]? = some (.list (v :: xs))) (hl:(v :: xs).length < 100000):z6z I .list σ (.ref j) (Str.ofString "pop") [.int 0] = .ok v (σ.set j (.list xs)) :=
 (zhk h hl).trans ((if_neg zmv).trans (if_pos rfl))
theorem z6f (h:σ[j]? = some (.list xs)) (hl:xs.length < 100000) (ha:At σ 0 k) (hn:App σ [.list xs] σ1):z6h I (.type "list") [.ref j] σ = .ok (.ref k) σ1:=by
 show (Res.of σ (z34 σ j)).bind (fun xs σ=>zjo σ xs) = _
 exact z0a (of_of (z61 h)) ((if_pos hl).trans (by rw [ha,← hn];rfl))
theorem z3q (h:σ[j]? = some (.list xs)) (hl:xs.length < 1000000):z6h I (.builtin "len") [.ref j] σ = .ok (.int xs.length) σ:=by
 show Res.of σ (zuw σ (.ref j)) = _
 exact of_of (by show (zrf σ[j]?).bind _ = _;rw [h];exact if_pos hl)
theorem zb4 (h:σ[j]? = some (.inst C n)) (h2:σ[n]? = some (.ns fs)) (hc:((TT.cls C).isSome && (TT.cls A).isSome) = true):z6h (IE d sc l) (.builtin "isinstance") [.ref j,.raw (.ref A)] σ = .ok (.bool (decide (C = A))) σ:=by
 show Res.of σ (zuy (IE d sc l) σ (.ref j) (.raw (.ref A))) = _
 exact of_of (by show (z3x σ j).bind _ = _;rw [z9q h h2];exact if_pos hc)
theorem zmw {da db:PyData} (h:rd 8 σ a = some da) (h2:rd 8 σ b = some db):eqA σ a b = some (PyData.eqv da db):=by
 unfold eqA;rw [h,h2]
theorem rd8 (h:PyData.strOk x = true):rd 8 σ (.str x) = some (.str x):=if_pos h
theorem zkr (h:σ[j]? = some (.list xs)):z44 σ k (.ref j) = some xs[k]?:=congrArg (Option.map _) (z61 h)
theorem zp9 {z:Int} (h:(k:Int) < z):z44 σ k (.rng z) = some (some (.int k)):=congrArg some (if_pos h)
theorem zvl {z:Int} (h:¬ (k:Int) < z):z44 σ k (.rng z) = some none:=congrArg some (if_neg h)
theorem zfg {src:AV} {body:AV→β→AS→Res (Ctl β)} {b b':β} (hd:z44 σ k src = some (some v)) (e:body v b σ = .ok (.go b') σ'):z1b src body (n + 1) k b σ = z1b src body n (k + 1) b' σ':=(congrArg (zg8 _ _ b σ) hd).trans (congrArg (zag _) e)
theorem zhl {src:AV} {body:AV→β→AS→Res (Ctl β)} {b b':β} (hd:z44 σ k src = some (some v)) (e:body v b σ = .ok (.stop b') σ'):z1b src body (n + 1) k b σ = .ok b' σ':=(congrArg (zg8 _ _ b σ) hd).trans (congrArg (zag _) e)
theorem zdo {src:AV} {body:AV→β→AS→Res (Ctl β)} {b:β} (hd:z44 σ k src = some none):z1b src body (n + 1) k b σ = .ok b σ:=congrArg (zg8 _ _ b σ) hd
theorem z14 (h:PyData.strOk x = true) (h2:PyData.strOk y = true):z8b σ .Eq (.str x) (.str y) = some (x == y):=by
 show eqA σ (.str x) (.str y) = _
 exact zmw (rd8 h) (rd8 h2)
theorem z02 {a:String}:PyData.strOk (Str.ofString a) = true:=by
 rw [Str.ofString_eq_toList]
 unfold PyData.strOk
 simp only [List.all_toArray,List.all_map,List.all_eq_true]
 intro c uu
 have h:=c.valid
 simp only [UInt32.isValidChar,Nat.isValidChar] at h
 simp only [Function.comp,decide_eq_true_eq]
 show c.val.toNat < _
 lia
theorem zb5 {kvs:List (Str×AV)} (h:σ[j]? = some (.sd kvs)):zaf I σ (.ref j) (Str.ofString "get") = some .dict:=by
 show (match mkO _ σ[j]? with | some k=>some k | none=>mkI I σ j _) = _
 rw [h];rfl
theorem zhm {kvs:List (Str×AV)} (h:σ[j]? = some (.sd kvs)):z6z I .dict σ (.ref j) m [.str x] = .ok ((look kvs x).getD .none) σ:=of_of (by show zv1 σ[j]? _ = _;rw [h];rfl)
theorem k_z (h:z20 t I ℓ (z09 t I ℓ) σ = .ok false σ1) (h2:z0v (es' :: st) I ℓ σ1 = R):z0v ((.If t ss [] p :: es') :: st) I ℓ σ = R:=z0i h (k_f rfl (z07 h2))
theorem k_o (h:z20 t I ℓ (z09 t I ℓ) σ = .ok false σ1) (h2:z0v (ss' :: es' :: st) I ℓ σ1 = R):z0v ((.If t ss ss' p :: es') :: st) I ℓ σ = R:=z0i h (k_f rfl h2)
theorem k_y (h:z20 t I ℓ (z09 t I ℓ) σ = .ok true σ1) (h2:z0v (ss :: es' :: st) I ℓ σ1 = R):z0v ((.If t ss ss' p :: es') :: st) I ℓ σ = R:=z0i h (k_t rfl h2)
theorem z24 {wh} {z:Int} (h:z09 e I ℓ σ = .ok a σ1) (h2:z8b σ1 cop a (.int z) = some c):z20 (.Compare e [cop] [.Constant (.int z) k q] p) I ℓ wh σ = .ok c σ1:=z08 h z0b h2
theorem z6g {wh} (h:z09 e I ℓ σ = .ok a σ1) (h2:z8b σ1 cop a (.str x) = some c):z20 (.Compare e [cop] [.Constant (.str x) k q] p) I ℓ wh σ = .ok c σ1:=z08 h z0h h2
theorem z4u {wh} (h:z09 e I ℓ σ = .ok a σ1) (h2:z8b σ1 cop a .none = some c):z20 (.Compare e [cop] [.Constant .none k q] p) I ℓ wh σ = .ok c σ1:=z08 h z0l h2
theorem z29 {wh} {u v:String} (h:z09 e I ℓ σ = .ok (.str (Str.ofString u)) σ1) (h2:(Str.ofString u == Str.ofString v) = c):z20 (.Compare e [.Eq] [.Constant (.str (Str.ofString v)) k q] p) I ℓ wh σ = .ok c σ1:=h2 ▸ z6g h (z14 z02 z02)
theorem z18 {z:Int} (h:z09 o I ℓ σ = .ok a σ1) (h2:zjn σ1 a (.int z) = some v):z09 (.Subscript o (.Constant (.int z) k q) p) I ℓ σ = .ok v σ1:=z0m rfl h z0b h2
theorem z2l {kvs:List (Str×AV)} (h:z09 o I ℓ σ = .ok (.ref j) σ1) (h1:σ1[j]? = some (.sd kvs)) (h2:look kvs x = some v):z09 (.Subscript o (.Constant (.str x) k q) p) I ℓ σ = .ok v σ1:=z0m rfl h z0h (zdn h1 h2)
theorem z1x (h:z4e (IE d sc l) ℓ y = some (.ref j)) (h1:σ[j]? = some (.inst C n)) (h2:σ[n]? = some (.ns fs)) (h3:look fs x = some v) (hc:((TT.cls C).isSome && (z2y x && z8m v)) = true):z09 (.Attribute (.Name y p') x p) (IE d sc l) ℓ σ = .ok v σ:=z2p h (z2k h1 h2 h3 hc)
theorem z3r (h:z4e I ℓ x = some v):z38 [.Name x p] I ℓ σ = .ok [v] σ:=z04 (z00 h)
theorem z3k:z38 [.Constant (.str x) k p] I ℓ σ = .ok [.str x] σ:=rfl
theorem z2t {z:Int}:z38 [.Constant (.int z) k p] I ℓ σ = .ok [.int z] σ:=rfl
theorem z1r (h:z4e I ℓ x = some v) (h1:z38 es I ℓ σ = .ok vs σ1):z38 (.Name x p :: es) I ℓ σ = .ok (v :: vs) σ1:=z03 (z00 h) h1
theorem z15 (h1:z38 es I ℓ σ = .ok vs σ1):z38 (.Constant (.str x) k p :: es) I ℓ σ = .ok (.str x :: vs) σ1:=z03 z0h h1
theorem zmx (hp:z2j e = true) (h:z09 e I ℓ σ = .ok v σ1) (h1:z4e I ℓ y = some a) (h2:z35 I σ1 a x v = some σ3) (h3:z0v (ss :: st) I ℓ σ3 = R):z0v ((.Assign [.Attribute (.Name y q) x p'] e p :: ss) :: st) I ℓ σ = R:=z21 hp h (z00 h1) h2 h3
theorem zch (hp:z2j e = true) (h:z09 e (IE d sc l) ℓ σ1 = .ok v (σ++τ)) (h0:z4e (IE d sc l) ℓ y = some (.ref (σ.length + j))) (h1:τ[j]? = some (.inst C (σ.length + n))) (h2:τ[n]? = some (.ns fs)) (hl:decide (fs.length < 1000) = true) (hc:((TT.cls C).isSome && z2y x) = true) (hn:(look fs x).isNone = true) (ht:τ.set n (.ns (fs++[(x,v)])) = τ') (h3:z0v (ss :: st) (IE d sc l) ℓ (σ++τ') = R):z0v ((.Assign [.Attribute (.Name y q) x p'] e p :: ss) :: st) (IE d sc l) ℓ σ1 = R:=z21 hp h (z00 h0) (z1d h1 h2 hl hc hn ht) h3
theorem z5t (h:z20 t I ℓ (z09 t I ℓ) σ = .ok c σ1) (h1:z4j op c = false) (h2:zg0 op es I ℓ σ1 = rb):zg0 op (t :: es) I ℓ σ = rb:=z1a h (z49 h1 h2)
theorem z92 (h:z20 t I ℓ (z09 t I ℓ) σ = .ok c σ1) (h1:z4j op c = false):zg0 op [t] I ℓ σ = .ok (op == .And) σ1:=z1a h (z49 h1 z6d)
theorem zac (h:z20 t I ℓ (z09 t I ℓ) σ = .ok c σ1) (h1:z4j op c = true):zg0 op (t :: es) I ℓ σ = .ok c σ1:=z1a h (z48 h1)
end
end
section
open PySem PySem.W
section
variable {d:Nat} {σ:AS} {j n l c cn cl:Nat} {x v:AV} {fs cfs:List (Str×AV)} {xs ys:List AV} {k:Str}
noncomputable def z2d:List (Str×AV):=[(S "kind",.str (S "NULL")),(S "attrs",.none)]
noncomputable def z3s (k its at_:AV):List (Str×AV):=[(S "kind",k),(S "items",its),(S "attrs",at_),(S "shared",.bool false),(S "loose",.bool false)]
theorem zhn {a b c e:AV}:z1e (z3s a b c) (Str.ofString "attrs") e = z3s a b e:=rfl
theorem zsi {i:Nat} {σ':AS} (hn:At σ 0 n) (hi:At σ 1 i) (ha:App σ [.ns z2d,.inst 212 n] σ'):z05 TT (d + 2) 212 [] σ = .ok (.ref i) σ' :=
 zkp (i:=209) ⟨rfl,rfl⟩ (fun σ=>by exact z19 rfl rfl (zch rfl z0h rfl rfl rfl rfl rfl rfl rfl (zch rfl z0l rfl rfl rfl rfl rfl rfl rfl (z07 rfl))) rfl) hn hi ha
theorem z25 {k its:AV} {i:Nat} {σ':AS} (hn:At σ 0 n) (hi:At σ 1 i) (ha:App σ [.ns (z3s k its .none),.inst 262 n] σ'):z05 TT (d + 2) 262 [k,its] σ = .ok (.ref i) σ' :=
 zkp (i:=252) ⟨rfl,rfl⟩ (fun σ=>by exact z19 rfl rfl (zch rfl (z00 rfl) rfl rfl rfl rfl rfl rfl rfl (zch rfl (z00 rfl) rfl rfl rfl rfl rfl rfl rfl (zch rfl (z00 rfl) rfl rfl rfl rfl rfl rfl rfl (zch rfl z17 rfl rfl rfl rfl rfl rfl rfl (zch rfl z17 rfl rfl rfl rfl rfl rfl rfl (z07 rfl)))))) rfl) hn hi ha
theorem zho {nm g f:AV} {i:Nat} {σ':AS} (hn:At σ 0 n) (hi:At σ 1 i) (ha:App σ [.ns [(S "kind",.str (S "builtin")),(S "name",nm),(S "special",.bool false),(S "fn",f),(S "group",g),(S "attrs",.none)],.inst 305 n] σ'):z05 TT (d + 2) 305 [nm,.bool false,f,g] σ = .ok (.ref i) σ' :=
 zkp (i:=302) ⟨rfl,rfl⟩ (fun σ=>by exact z19 rfl rfl (zch rfl (z6s (z13 rfl (z00 rfl) rfl) (z60 rfl z0h)) rfl rfl rfl rfl rfl rfl rfl (zch rfl (z00 rfl) rfl rfl rfl rfl rfl rfl rfl (zch rfl (z00 rfl) rfl rfl rfl rfl rfl rfl rfl (zch rfl (z00 rfl) rfl rfl rfl rfl rfl rfl rfl (zch rfl (z00 rfl) rfl rfl rfl rfl rfl rfl rfl (zch rfl z0l rfl rfl rfl rfl rfl rfl rfl (z07 rfl))))))) rfl) hn hi ha
theorem zfh {its:AV} {i:Nat} {σ':AS} (hn:At σ 0 n) (hi:At σ 1 i) (ha:App σ [.ns [(S "values",its),(S "at",.int 0)],.inst 715 n] σ'):z05 TT (d + 2) 715 [its] σ = .ok (.ref i) σ' :=
 zkp (i:=712) ⟨rfl,rfl⟩ (fun σ=>by exact z19 rfl rfl (zch rfl (z00 rfl) rfl rfl rfl rfl rfl rfl rfl (zch rfl z0b rfl rfl rfl rfl rfl rfl rfl (z07 rfl))) rfl) hn hi ha
theorem z7l {i:Nat} {σ':AS} (hn:At σ 0 n) (hi:At σ 1 i) (ha:App σ [.ns z2d,.inst 212 n] σ'):z05 TT (d + 3) 380 [] σ = .ok (.ref i) σ':=by
 exact z19 rfl rfl (z0k (z0g rfl rfl z0w (zsi hn hi ha))) rfl
theorem zdp {i m:Nat} {σ':AS} (hm:At σ 0 m) (hn:At σ 1 n) (hi:At σ 2 i) (ha:App σ [.list [x],.ns (z3s (.str (S "character")) (.ref m) .none),.inst 262 n] σ'):z05 TT (d + 3) 421 [x] σ = .ok (.ref i) σ':=by
 subst hm;subst hn;subst hi;subst ha
 exact z19 rfl rfl (z0k (z0g rfl rfl (z15 (z04 (z0p (z3r rfl) (of_decide_eq_true rfl) z1l z1k))) (z25 (z22 rfl) (z22 rfl) (z1f rfl)))) rfl
theorem z7m {i m:Nat} {σ':AS} (h:σ[l]? = some (.list xs)) (hx:xs.length < 100000) (hm:At σ 0 m) (hn:At σ 1 n) (hi:At σ 2 i) (ha:App σ [.list xs,.ns (z3s (.str (S "character")) (.ref m) .none),.inst 262 n] σ'):z05 TT (d + 3) 394 [.ref l] σ = .ok (.ref i) σ':=by
 subst hm;subst hn;subst hi;subst ha
 exact z19 rfl rfl (z0k (z0g rfl rfl (z15 (z04 (z0r rfl rfl (z3r rfl) (z6f h hx z1l z1k)))) (z25 (z22 rfl) (z22 rfl) (z1f rfl)))) rfl
theorem zci {x} (h1:σ[j]? = some (.inst 262 n)) (h2:σ[n]? = some (.ns fs)) (h3:look fs (S "attrs") = some .none):z05 TT (d + 1) 28 [.ref j,x] σ = .ok .none σ:=by exact z19 rfl rfl (z0i (z08 (z2p rfl (z2k h1 h2 h3 rfl)) z0l rfl) (k_t rfl (z0k z0l))) rfl
theorem z7n {kvs} {b:AV} (h1:σ[j]? = some (.inst 262 n)) (h2:σ[n]? = some (.ns fs)) (h3:look fs (S "attrs") = some (.ref l)) (h4:σ[l]? = some (.sd kvs)) (h5:(look kvs k).getD .none = b):z05 TT (d + 1) 28 [.ref j,.str k] σ = .ok b σ:=by
 rw [← h5]
 exact z19 rfl rfl (k_z (z4u (z1x rfl h1 h2 h3 rfl) rfl) (z0k (z0j rfl (z1x rfl h1 h2 h3 rfl) (zb5 h4) (z3r rfl) (zhm h4)))) rfl
theorem z9r {i:Nat} {σ':AS} (h1:σ[j]? = some (.inst 262 n)) (h2:σ[n]? = some (.ns fs)) (h3:look fs (S "attrs") = some .none) (hi:At σ 0 i) (ha:App σ [.list []] σ'):z05 TT (d + 2) 52 [.ref j] σ = .ok (.ref i) σ':=by
 exact z19 rfl rfl (z0f rfl (z0g rfl rfl (z1r rfl z3k) (zci h1 h2 h3)) (k_y (z4u (z00 rfl) rfl) (z0k (z0p z0w (of_decide_eq_true rfl) hi ha)))) rfl
theorem z9s {kvs} {i:Nat} {σ':AS} (h1:σ[j]? = some (.inst 262 n)) (h2:σ[n]? = some (.ns fs)) (h3:look fs (S "attrs") = some (.ref l)) (h4:σ[l]? = some (.sd kvs)) (h5:look kvs (S "class") = some (.ref c)) (h6:σ[c]? = some (.inst 262 cn)) (h7:σ[cn]? = some (.ns cfs))
  (h8:look cfs (S "items") = some (.ref cl)) (h9:σ[cl]? = some (.list ys)) (hy:ys.length < 100000) (hi:At σ 0 i) (ha:App σ [.list ys] σ'):z05 TT (d + 2) 52 [.ref j] σ = .ok (.ref i) σ':=by
 obtain e:z05 TT (d + 1) 28 [.ref j,.str (S "class")] σ = .ok (.ref c) σ:=z7n h1 h2 h3 h4 (h5 ▸ rfl)
 exact z19 rfl rfl (z0f rfl (z0g rfl rfl (z1r rfl z3k) e) (k_z (z4u (z00 rfl) rfl) (z0k (z0r rfl rfl (z04 (z1x rfl h6 h7 h8 rfl)) (z6f h9 hy hi ha))))) rfl
theorem z9t (h1:σ[j]? = some (.inst 262 n)) (h2:σ[n]? = some (.ns fs)) (h3:look fs (S "kind") = some (.str k)) (h4:look fs (S "items") = some (.ref l)) (h5:σ[l]? = some (.list xs)) (hx:xs.length < 1000000) (hk:PyData.strOk k = true) (hn:(k == S "NULL") = false) :
  z05 TT (d + 1) 428 [.ref j] σ = .ok (.int xs.length) σ:=by exact z19 rfl rfl (z0f rfl (z1x rfl h1 h2 h3 rfl) (z0i (z6g (z00 rfl) (z14 hk z02)) (k_f hn (z07 (k_y (z0t (zac (z13 rfl (z0r rfl rfl (z1r rfl (z3r rfl)) (zb4 h1 h2 rfl)) rfl) rfl)) (z0k (z0r rfl rfl (z04 (z1x rfl h1 h2 h4 rfl)) (z3q h5 hx)))))))) rfl
theorem z4r {b:Bool} (h1:σ[j]? = some (.inst 262 n)) (h2:σ[n]? = some (.ns fs)) (h3:look fs (S "kind") = some (.str k)) (hb:(S "logical" == k || (S "integer" == k || (S "double" == k || (S "character" == k || false)))) = b):z05 TT (d + 1) 435 [.ref j] σ = .ok (.bool b) σ:=by
 subst hb
 exact z19 rfl rfl (z0k (zce (z1x rfl h1 h2 h3 rfl) (z11 (z15 (z15 (z15 z3k))) rfl) rfl)) rfl
theorem zpa (h1:σ[j]? = some (.inst 262 n)) (h2:σ[n]? = some (.ns fs)) (hl:fs.length < 1000):z05 TT (d + 1) 449 [.ref j] σ = .ok (.ref j) (σ.set n (.ns (z1e fs (S "shared") (.bool true)))):=by exact z19 rfl rfl (z0i (z13 rfl (z0r rfl rfl (z03 (z00 rfl) (z04 (z00 rfl))) (zb4 h1 h2 rfl)) rfl) (k_t rfl (z21 rfl z17 (z00 rfl) (z4a h1 h2 hl rfl rfl) (z07 (z0k (z00 rfl)))))) rfl
theorem zb6 (h1:σ[j]? = some (.inst 212 n)) (h2:σ[n]? = some (.ns fs)):z05 TT (d + 1) 449 [.ref j] σ = .ok (.ref j) σ:=by exact z19 rfl rfl (z0i (z13 rfl (z0r rfl rfl (z03 (z00 rfl) (z04 (z00 rfl))) (zb4 h1 h2 rfl)) rfl) (k_f rfl (z07 (z0k (z00 rfl))))) rfl
end
end
section
open PySem PySem.W
section
variable {d:Nat} {σ:AS} {j n l c cn cl:Nat} {x v:AV} {fs cfs:List (Str×AV)} {xs ys:List AV} {k:Str}
theorem zpb:z05 TT (d + 1) 456 [.str (S "TRUE")] σ = .ok (.int 1) σ:=by exact z19 rfl rfl (z0i (z08 (z00 rfl) (z11 (z03 z0h (z03 z0h (z03 z0h (z04 z0h)))) rfl) rfl) (k_t rfl (z0k z0b))) rfl
theorem zpc:z05 TT (d + 1) 456 [.str (S "F")] σ = .ok (.int 0) σ:=by exact z19 rfl rfl (z0i (z08 (z00 rfl) (z11 (z03 z0h (z03 z0h (z03 z0h (z04 z0h)))) rfl) rfl) (k_f rfl (z07 (z0i (z08 (z00 rfl) (z11 (z03 z0h (z03 z0h (z03 z0h (z04 z0h)))) rfl) rfl) (k_t rfl (z0k z0b)))))) rfl
theorem zpd:z05 TT (d + 1) 167 [.tup [.int 1,.int 2]] σ = .ok (.bool false) σ:=by exact z19 rfl rfl (z0k (zoz (zcd (zce (z00 rfl) z0l rfl) (zse rfl (zmq (zoz (zcd (zce (z0m rfl (z00 rfl) z0b rfl) z0b rfl) (zp3 rfl)))))))) rfl
theorem tl0:z05 TT (d + 2) 463 [.str (S "logical"),.int 1] σ = .ok (.int 1) σ:=by exact z19 rfl rfl (z0i (z08 (z00 rfl) z0h (z14 z02 z02)) (k_f rfl (z07 (z0i (z08 (z00 rfl) z0h (z14 z02 z02)) (k_f rfl (z07 (z0i (z08 (z00 rfl) z0l rfl) (k_f rfl (z07 (z0k (z6s (z08 (z00 rfl) z0b rfl) (z60 rfl z0b)))))))))))) rfl
theorem tl1:z05 TT (d + 2) 463 [.str (S "logical"),.int 0] σ = .ok (.int 0) σ:=by exact z19 rfl rfl (z0i (z08 (z00 rfl) z0h (z14 z02 z02)) (k_f rfl (z07 (z0i (z08 (z00 rfl) z0h (z14 z02 z02)) (k_f rfl (z07 (z0i (z08 (z00 rfl) z0l rfl) (k_f rfl (z07 (z0k (z6s (z08 (z00 rfl) z0b rfl) (z7j rfl z0b)))))))))))) rfl
theorem tl2:z05 TT (d + 2) 463 [.str (S "double"),.tup [.int 1,.int 2]] σ = .ok (.int 1) σ:=by exact z19 rfl rfl (z0i (z08 (z00 rfl) z0h (z14 z02 z02)) (k_f rfl (z07 (z0i (z08 (z00 rfl) z0h (z14 z02 z02)) (k_t rfl (z0i (z13 rfl (z0g rfl rfl (z04 (z00 rfl)) zpd) rfl) (k_f rfl (z07 (z0k (z6s (z0t (z1a (z08 (z0m rfl (z00 rfl) z0b rfl) z0b rfl) (z48 rfl))) (z60 rfl z0b))))))))))) rfl
theorem tl3:z05 TT (d + 2) 463 [.str (S "integer"),.int 0] σ = .ok (.int 0) σ:=by exact z19 rfl rfl (z0i (z08 (z00 rfl) z0h (z14 z02 z02)) (k_f rfl (z07 (z0i (z08 (z00 rfl) z0h (z14 z02 z02)) (k_f rfl (z07 (z0i (z08 (z00 rfl) z0l rfl) (k_f rfl (z07 (z0k (z6s (z08 (z00 rfl) z0b rfl) (z7j rfl z0b)))))))))))) rfl
theorem tl4:z05 TT (d + 2) 463 [.str (S "character"),.str (S "TRUE")] σ = .ok (.int 1) σ:=by exact z19 rfl rfl (z0i (z08 (z00 rfl) z0h (z14 z02 z02)) (k_t rfl (z0k (z6s (z08 (z00 rfl) z0l rfl) (z60 rfl (z0g rfl rfl (z04 (z00 rfl)) zpb)))))) rfl
theorem tl5:z05 TT (d + 2) 463 [.str (S "character"),.str (S "F")] σ = .ok (.int 0) σ:=by exact z19 rfl rfl (z0i (z08 (z00 rfl) z0h (z14 z02 z02)) (k_t rfl (z0k (z6s (z08 (z00 rfl) z0l rfl) (z60 rfl (z0g rfl rfl (z04 (z00 rfl)) zpc)))))) rfl
theorem tl6:z05 TT (d + 2) 463 [.str (S "logical"),.none] σ = .ok .none σ:=by exact z19 rfl rfl (z0i (z08 (z00 rfl) z0h (z14 z02 z02)) (k_f rfl (z07 (z0i (z08 (z00 rfl) z0h (z14 z02 z02)) (k_f rfl (z07 (z0i (z08 (z00 rfl) z0l rfl) (k_t rfl (z0k z0l))))))))) rfl
theorem z63 {t:Int} (h1:σ[j]? = some (.inst 262 n)) (h2:σ[n]? = some (.ns fs)) (h3:look fs (S "kind") = some (.str k)) (h4:look fs (S "items") = some (.ref l)) (h5:σ[l]? = some (.list [x])) (hk:PyData.strOk k = true) (hn:(k == S "NULL") = false)
  (hb:(S "logical" == k || (S "integer" == k || (S "double" == k || (S "character" == k || false)))) = true) (ht:z05 TT (d + 2) 463 [.str k,x] σ = .ok (.int t) σ):z05 TT (d + 3) 470 [.ref j] σ = .ok (.bool (t == 1)) σ:=by
 obtain e1:=@z9t (d + 1) σ j n l fs [x] k h1 h2 h3 h4 h5 (of_decide_eq_true rfl) hk hn
 obtain e2:=@z4r (d + 1) σ j n fs k true h1 h2 h3 hb
 exact z19 rfl rfl (z0f rfl (z0g rfl rfl (z3r rfl) e1) (z0i (z24 (z00 rfl) rfl) (k_f rfl (z07 (z0i (z24 (z00 rfl) rfl) (k_f rfl (z07 (z0f rfl z0l (z0i (z13 rfl (z0g rfl rfl (z3r rfl) e2) rfl) (k_t rfl (z0f rfl (z0g rfl rfl (z03 (z1x rfl h1 h2 h3 rfl) (z04 (z18 (z1x rfl h1 h2 h4 rfl) (z3w h5 (of_decide_eq_true rfl) rfl)))) ht) (z07 (k_z (z4u (z00 rfl) rfl) (z0k (zce (z00 rfl) z0b rfl))))))))))))))) rfl
theorem zpe (h1:σ[j]? = some (.inst 262 n)) (h2:σ[n]? = some (.ns fs)) (h3:look fs (S "kind") = some (.str k)) (h4:look fs (S "items") = some (.ref l)) (h5:σ[l]? = some (.list [])) (hk:PyData.strOk k = true) (hn:(k == S "NULL") = false) :
  z05 TT (d + 3) 470 [.ref j] σ = .exc (S "argument is of length zero") σ:=by
 obtain e1:=@z9t (d + 1) σ j n l fs [] k h1 h2 h3 h4 h5 (of_decide_eq_true rfl) hk hn
 exact zhj rfl rfl (z0f rfl (z0g rfl rfl (z3r rfl) e1) (k_y (z24 (z00 rfl) rfl) (zcf rfl rfl rfl)))
theorem zpf (h1:σ[j]? = some (.inst 262 n)) (h2:σ[n]? = some (.ns fs)) (h3:look fs (S "kind") = some (.str (S "logical"))) (h4:look fs (S "items") = some (.ref l)) (h5:σ[l]? = some (.list [.none])) :
  z05 TT (d + 3) 470 [.ref j] σ = .exc (S "missing value where TRUE/FALSE needed") σ:=by
 obtain e1:=@z9t (d + 1) σ j n l fs [.none] _ h1 h2 h3 h4 h5 (of_decide_eq_true rfl) z02 rfl
 obtain e2:=@z4r (d + 1) σ j n fs _ true h1 h2 h3 rfl
 obtain e3:=@tl6 d σ
 exact zhj rfl rfl (z0f rfl (z0g rfl rfl (z3r rfl) e1) (z0i (z24 (z00 rfl) rfl) (k_f rfl (z07 (z0i (z24 (z00 rfl) rfl) (k_f rfl (z07 (z0f rfl z0l (z0i (z13 rfl (z0g rfl rfl (z3r rfl) e2) rfl) (k_t rfl (z0f rfl (z0g rfl rfl (z03 (z1x rfl h1 h2 h3 rfl) (z04 (z18 (z1x rfl h1 h2 h4 rfl) (z3w h5 (of_decide_eq_true rfl) rfl)))) e3) (z07 (k_y (z4u (z00 rfl) rfl) (k_y (z29 (z1x rfl h1 h2 h3 rfl) rfl) (zcf rfl rfl rfl)))))))))))))))
end
end
section
open PySem PySem.W
noncomputable def Same (o o':AO):Prop:=o' = o∨∃ fs fs',o = .ns fs∧o' = .ns fs'∧(look fs (S "shared")).isSome = true∧(look fs' (S "shared")).isSome = true∧fs'.length = fs.length∧∀ x,x ≠ S "shared"→look fs' x = look fs x
theorem Same.refl {o:AO}:Same o o:=.inl rfl
theorem Same.trans {a b c:AO} (x:Same a b) (y:Same b c):Same a c:=by
 rcases x with rfl | ⟨f,f',rfl,rfl,h1,h2,h3,h4⟩
 ·exact y
 ·rcases y with rfl | ⟨g,g',e,rfl,k1,k2,k3,k4⟩
  ·exact .inr ⟨f,f',rfl,rfl,h1,h2,h3,h4⟩
  ·cases e
   exact .inr ⟨f,g',rfl,rfl,h1,k2,k3.trans h3,fun x hx=>(k4 x hx).trans (h4 x hx)⟩
noncomputable def Ex (M:Nat→Prop) (σ σ':AS):Prop:=σ.length≤σ'.length∧∀ i o,¬ M i→σ[i]? = some o→∃ o',σ'[i]? = some o'∧Same o o'
noncomputable abbrev M0:Nat→Prop:=fun uu=>False
section
variable {M M':Nat→Prop} {σ σ' σ'' τ:AS} {i n:Nat} {o:AO} {xs:List AV} {kvs:List (Str×AV)} {C:Addr}
theorem z1n {i j:Nat} (h:i ≠ j) {y:AO}:(σ.set i y)[j]? = σ[j]?:=List.getElem?_set_ne h
theorem z64 {i:Nat} {y:AO}:(σ.set i y)[i]? = (σ[i]?).map fun uu=>y:=by
 cases e:σ[i]? with
 | none=>rw [List.getElem?_eq_none];rfl;simpa using e
 | some o=>exact h_eq (by rw [e];rfl)
theorem z12 {i:Nat}:(σ++τ)[σ.length + i]? = τ[i]?:=by
 rw [List.getElem?_append_right (Nat.le_add_right ..),Nat.add_sub_cancel_left]
theorem z0y:(σ++τ)[σ.length]? = τ[0]?:=z12 (i:=0)
theorem Ex.refl:Ex M σ σ:=⟨Nat.le_refl _,fun i o uu e=>⟨o,e,.refl⟩⟩
theorem Ex.trans (x:Ex M σ σ') (y:Ex M σ' σ''):Ex M σ σ'' :=
 ⟨Nat.le_trans x.1 y.1,fun i o hm e=>by
  refine z0e (x.2 i o hm e) fun o1 e1 s1=>?_
  refine z0e (y.2 i o1 hm e1) fun o2 e2 s2=>?_
  exact ⟨o2,e2,s1.trans s2⟩⟩
theorem Ex.mono (h:∀ i,M i→M' i) (x:Ex M σ σ'):Ex M' σ σ':=⟨x.1,fun i o hm e=>x.2 i o (fun q=>hm (h i q)) e⟩
theorem Ex.of0 (x:Ex M0 σ σ'):Ex M σ σ':=x.mono fun uu h=>h.elim
theorem Ex.fresh (x:Ex M σ σ') (y:Ex (fun i=>M i∨σ.length≤i) σ' σ''):Ex M σ σ'' :=
 ⟨Nat.le_trans x.1 y.1,fun i o hm e=>by
  refine z0e (x.2 i o hm e) fun o1 e1 s1=>?_
  obtain hl:i < σ.length:=(List.getElem?_eq_some_iff.mp e).1
  refine z0e (y.2 i o1 (fun q=>q.elim hm fun q=>by lia) e1) fun o2 e2 s2=>?_
  exact ⟨o2,e2,s1.trans s2⟩⟩
theorem Ex.set (h:M i):Ex M σ (σ.set i o):=⟨by simp,fun j p hm e=>⟨p,by
 rw [List.getElem?_set_ne (fun (q:i = j)=>hm (by rw [← q];exact h))];exact e,.refl⟩⟩
theorem Ex.app:Ex M σ (σ++τ):=⟨by simp,fun j p hm e=>⟨p,by
 refine (List.getElem?_append_left (List.getElem?_eq_some_iff.mp e).1).trans ?_;exact e,.refl⟩⟩
theorem Ex.list (x:Ex M σ σ') (hm:¬ M i) (e:σ[i]? = some (.list xs)):σ'[i]? = some (.list xs):=by
 refine z0e (x.2 i _ hm e) fun o' e' h=>?_
 rcases h with rfl | ⟨_,_,q,_⟩
 ·exact e'
 ·cases q
theorem Ex.inst (x:Ex M σ σ') (hm:¬ M i) (e:σ[i]? = some (.inst C n)):σ'[i]? = some (.inst C n):=by
 refine z0e (x.2 i _ hm e) fun o' e' h=>?_
 rcases h with rfl | ⟨_,_,q,_⟩
 ·exact e'
 ·cases q
theorem Ex.sd (x:Ex M σ σ') (hm:¬ M i) (e:σ[i]? = some (.sd kvs)):σ'[i]? = some (.sd kvs):=by
 refine z0e (x.2 i _ hm e) fun o' e' h=>?_
 rcases h with rfl | ⟨_,_,q,_⟩
 ·exact e'
 ·cases q
noncomputable def zg5:AO→Prop
 | .ns fs=>look fs (S "shared") = none
 | _=>True
theorem Ex.exact (x:Ex M σ σ') (hm:¬ M i) (e:σ[i]? = some o) (h:zg5 o):σ'[i]? = some o:=by
 refine z0e (x.2 i _ hm e) fun o' e' hs=>?_
 rcases hs with rfl | ⟨f,_,rfl,_,q,_⟩
 ·exact e'
 ·unfold zg5 at h;dsimp only at h;rw [h] at q;exact nf q
theorem Ex.ns (x:Ex M σ σ') (hm:¬ M i) {fs:List (Str×AV)} (e:σ[i]? = some (.ns fs)):∃ fs',σ'[i]? = some (.ns fs')∧fs'.length = fs.length∧(∀ y,y ≠ S "shared"→look fs' y = look fs y)∧((look fs (S "shared")).isSome = true→(look fs' (S "shared")).isSome = true):=by
 refine z0e (x.2 i _ hm e) fun o' e' hs=>?_
 rcases hs with rfl | ⟨f,f',q,rfl,h1,h2,h3,h4⟩
 ·exact ⟨fs,e',rfl,fun uu uu=>rfl,id⟩
 ·cases q;exact ⟨f',e',h3,h4,fun uu=>h2⟩
noncomputable def Win (σ:AS) (b:Nat) (ws:List AO):Prop:=∀ k o,ws[k]? = some o→σ[b + k]? = some o
variable {b k:Nat} {ws:List AO}
theorem Win.get (w:Win σ b ws) (e:ws[k]? = some o):σ[b + k]? = some o:=w k o e
theorem Win.set (w:Win σ b ws):Win (σ.set (b + k) o) b (ws.set k o):=fun j p e=>by
 rw [List.getElem?_set] at e
 split at e
 ·rename_i h;subst h
  split at e
  ·rename_i h;obtain rfl:=Option.some.inj e
   rw [z64,w k _ (List.getElem?_eq_getElem h)];rfl
  ·exact nn e
 ·rename_i h
  refine (z1n (by lia)).trans ?_;exact w j p e
theorem Win.app (w:Win σ b ws):Win (σ++τ) b ws:=fun j p e=>by
 refine (List.getElem?_append_left (List.getElem?_eq_some_iff.mp (w j p e)).1).trans ?_;exact w j p e
theorem Win.ex (w:Win σ b ws) (x:Ex M σ σ') (h:∀ k,k < ws.length→¬ M (b + k)) (hs:∀ o∈ws,zg5 o):Win σ' b ws:=fun j p e =>
 x.exact (h j (List.getElem?_eq_some_iff.mp e).1) (w j p e) (hs p (List.mem_of_getElem? e))
theorem Win.ex0 (w:Win σ b ws) (x:Ex M0 σ σ') (hs:∀ o∈ws,zg5 o):Win σ' b ws:=w.ex x (fun uu uu h=>h) hs
end
theorem z93 {β:Type} {body:AV→β→AS→Res (Ctl β)} {l:Nat} {xs:List AV} (Inv:Nat→β→AS→Prop) (src:∀ k b σ,Inv k b σ→σ[l]? = some (.list xs))
  (step:∀ k x b σ,xs[k]? = some x→Inv k b σ→∃ b' σ',body x b σ = .ok (.go b') σ'∧Inv (k + 1) b' σ') :
  ∀ n k b σ,xs.length < n + k→k≤xs.length→Inv k b σ→∃ b' σ',z1b (.ref l) body n k b σ = .ok b' σ'∧Inv xs.length b' σ'
 | 0=>fun k b σ h1 h2 i=>by lia
 | n + 1=>fun k b σ h1 h2 i=>by
  have e:=src k b σ i
  have e2:z44 σ k (.ref l) = some xs[k]?:=zkr e
  by_cases hk:k = xs.length
  ·subst hk
   exact ⟨b,σ,zdo (e2.trans (congrArg some (List.getElem?_eq_none (Nat.le_refl _)))),i⟩
  ·obtain hlt:k < xs.length:=Nat.lt_of_le_of_ne h2 hk
   refine z27 (step k _ b σ (List.getElem?_eq_getElem hlt) i) fun b' σ' e1 i1=>?_
   rw [zfg (e2.trans (congrArg some (List.getElem?_eq_getElem hlt))) e1]
   exact z93 Inv src step n (k + 1) b' σ' (by lia) ‹_› i1
theorem z7o {β:Type} {body:AV→β→AS→Res (Ctl β)} {m:Nat} (Inv:Nat→β→AS→Prop)
  (step:∀ k b σ,k < m→Inv k b σ→∃ b' σ',body (.int k) b σ = .ok (.go b') σ'∧Inv (k + 1) b' σ') :
  ∀ n k b σ,m < n + k→k≤m→Inv k b σ→∃ b' σ',z1b (.rng m) body n k b σ = .ok b' σ'∧Inv m b' σ'
 | 0=>fun k b σ h1 h2 i=>by lia
 | n + 1=>fun k b σ h1 h2 i=>by
  by_cases hk:k = m
  ·subst hk
   exact ⟨b,σ,zdo (zvl (Int.lt_irrefl ↑k)),i⟩
  ·refine z27 (step k b σ (Nat.lt_of_le_of_ne h2 hk) i) fun b' σ' e1 i1=>?_
   rw [zfg (zp9 (by lia)) e1]
   exact z7o Inv step n (k + 1) b' σ' (by lia) (by lia) i1
end
section
open PySem PySem.W
structure zsj (M:Nat→Prop) (σ:AS) (j n l:Nat) (fs:List (Str×AV)) (k:Str) (xs:List AV) (at_:AV):Prop where
 i:σ[j]? = some (.inst 262 n)
 f:σ[n]? = some (.ns fs)
 kd:look fs (S "kind") = some (.str k)
 it:look fs (S "items") = some (.ref l)
 att:look fs (S "attrs") = some at_
 sh:(look fs (S "shared")).isSome = true
 ln:fs.length < 1000
 ls:σ[l]? = some (.list xs)
 m1:¬ M j
 m2:¬ M n
 m3:¬ M l
noncomputable def IsVec (M:Nat→Prop) (σ:AS) (v:AV) (k:Str) (xs:List AV) (at_:AV):Prop:=∃ j n l fs,v = .ref j∧zsj M σ j n l fs k xs at_
noncomputable def IsNull (M:Nat→Prop) (σ:AS) (v:AV):Prop:=∃ j n,v = .ref j∧σ[j]? = some (.inst 212 n)∧σ[n]? = some (.ns z2d)∧¬ M j∧¬ M n
noncomputable abbrev z31:=Str×List AV
noncomputable def Val (M:Nat→Prop) (σ:AS) (v:AV) (t:z31):Prop:=(∃ a,IsVec M σ v t.1 t.2 a)∨(IsNull M σ v∧t = (S "NULL",[]))
noncomputable def TRep (M:Nat→Prop) (σ:AS) (v:AV) (t:z31):Prop:=∃ l,v = .tup [.str t.1,.ref l]∧σ[l]? = some (.list t.2)∧¬ M l
noncomputable def leaf:AV→Bool
 | .none=>true
 | .int _=>true
 | .str s=>PyData.strOk s
 | _=>false
noncomputable def TOk (t:z31):Prop:=PyData.strOk t.1 = true∧t.2.all leaf = true∧t.2.length < 1000∧(t.1 == S "promise") = false∧(t.1 == S "missing") = false∧(t.1 == S "dots") = false
section
variable {M:Nat→Prop} {d:Nat} {σ σ':AS} {j n l:Nat} {x v at_:AV} {fs:List (Str×AV)} {xs ys:List AV} {k:Str} {t:z31}
theorem IsVec.ex (h:IsVec M σ v k xs at_) (x:Ex M σ σ'):IsVec M σ' v k xs at_:=by
 refine z3p h fun j n l fs e1 h=>?_
 refine z8n (x.ns h.m2 h.f) fun fs' q1 q2 q3 q4=>?_
 exact ⟨j,n,l,fs',e1,x.inst h.m1 h.i,q1,(q3 _ (by decide +kernel)).trans h.kd,(q3 _ (by decide +kernel)).trans h.it,(q3 _ (by decide +kernel)).trans h.att,q4 h.sh,by exact q2 ▸ h.ln,x.list h.m3 h.ls,h.m1,h.m2,h.m3⟩
theorem zcj:zg5 (.ns z2d):=rfl
theorem IsNull.ex (h:IsNull M σ v) (x:Ex M σ σ'):IsNull M σ' v:=by
 refine z6p h fun j n e1 e2 e3 m1 m2=>?_
 exact ⟨j,n,e1,x.inst m1 e2,x.exact m2 e3 zcj,m1,m2⟩
theorem Val.ex (h:Val M σ v t) (x:Ex M σ σ'):Val M σ' v t:=h.elim (fun zm=>oEA zm fun a h=>.inl ⟨a,h.ex x⟩) fun h=>.inr ⟨h.1.ex x,h.2⟩
theorem TRep.ex (h:TRep M σ v t) (x:Ex M σ σ'):TRep M σ' v t:=by
 refine z1m h fun l e1 e2 m=>?_
 exact ⟨l,e1,x.list m e2,m⟩
theorem zpg (k its at_:AV):(z3s k its at_).length < 1000:=of_decide_eq_true rfl
theorem IsVec.new (e1:σ[j]? = some (.inst 262 n)) (e2:σ[n]? = some (.ns (z3s (.str k) (.ref l) at_))) (e3:σ[l]? = some (.list xs)) (m1:¬ M j) (m2:¬ M n) (m3:¬ M l):IsVec M σ (.ref j) k xs at_ :=
 ⟨j,n,l,_,rfl,e1,e2,rfl,rfl,rfl,rfl,zpg ..,e3,m1,m2,m3⟩
theorem IsVec.app {τ:AS} {i p q:Nat} (e1:τ[i]? = some (.inst 262 (σ.length + p))) (e2:τ[p]? = some (.ns (z3s (.str k) (.ref (σ.length + q)) at_))) (e3:τ[q]? = some (.list xs)) (hM:∀ i,σ.length≤i→¬ M i):IsVec M (σ++τ) (.ref (σ.length + i)) k xs at_ :=
 IsVec.new (by refine (z12).trans ?_;exact e1) (by refine (z12).trans ?_;exact e2) (by refine (z12).trans ?_;exact e3) (hM _ (Nat.le_add_right _ _)) (hM _ (Nat.le_add_right _ _)) (hM _ (Nat.le_add_right _ _))
theorem IsNull.app {τ:AS} {i p:Nat} (e1:τ[i]? = some (.inst 212 (σ.length + p))) (e2:τ[p]? = some (.ns z2d)) (hM:∀ i,σ.length≤i→¬ M i):IsNull M (σ++τ) (.ref (σ.length + i)) :=
 ⟨_,_,rfl,by refine (z12).trans ?_;exact e1,by refine (z12).trans ?_;exact e2,hM _ (Nat.le_add_right (List.length σ) i),hM _ (Nat.le_add_right (List.length σ) p)⟩
theorem IsNull.new (hM:∀ i,σ.length≤i→¬ M i):IsNull M (σ++[.ns z2d,.inst 212 σ.length]) (.ref (σ.length + 1)) :=
 ⟨_,_,rfl,z12,z0y,hM _ (Nat.le_add_right (List.length σ) 1),hM _ (Nat.le_refl _)⟩
theorem z3f {κ α:Type} [DecidableEq κ] {x y:κ} {v w:α} {r:List (κ×α)}:z1e ((y,w) :: r) x v = if y = x then (y,v) :: r else (y,w) :: z1e r x v:=rfl
theorem z26 {κ α:Type} [DecidableEq κ] {x y:κ} {v:α} {r:List (κ×α)}:look ((y,v) :: r) x = if y = x then some v else look r x:=rfl
theorem zdq {κ α:Type} [DecidableEq κ] {x:κ} {v:α}:z1e ([]:List (κ×α)) x v = [(x,v)]:=rfl
theorem zks {κ α:Type} [DecidableEq κ] {x:κ}:look ([]:List (κ×α)) x = none:=rfl
theorem zfi (e7:(look fs (S "shared")).isSome = true):∀ y,y ≠ S "shared"→look (z1e fs (S "shared") (.bool true)) y = look fs y:=by
 intro y hy
 induction fs with
 | nil=>exact nf e7
 | cons p r ih =>
  obtain ⟨z,w⟩:=p
  rw [z3f,z26]
  by_cases hz:z = S "shared"
  ·subst hz
   rw [if_pos rfl,z26,if_neg (Ne.symm hy),if_neg (Ne.symm hy)]
  ·rw [if_neg hz,z26]
   rw [z26,if_neg hz] at e7
   rw [ih e7]
theorem zph {κ α:Type} [DecidableEq κ] {fs:List (κ×α)} {x:κ} {w:α} (e:(look fs x).isSome = true):(z1e fs x w).length = fs.length:=by
 induction fs with
 | nil=>exact nf e
 | cons p r ih =>
  obtain ⟨z,q⟩:=p
  rw [z3f]
  by_cases hz:z = x
  ·rw [if_pos hz];rfl
  ·rw [if_neg hz];rw [z26,if_neg hz] at e;rw [List.length_cons,List.length_cons,ih e]
theorem z3o {κ α:Type} [DecidableEq κ] {fs:List (κ×α)} {x y:κ} {w:α}:look (z1e fs x w) y = if x = y then some w else look fs y:=by
 induction fs with
 | nil=>rw [zdq,z26,zks]
 | cons p r ih =>
  obtain ⟨z,q⟩:=p
  rw [z3f]
  by_cases hz:z = x
  ·subst hz;rw [if_pos rfl,z26,z26]
   by_cases hy:z = y
   ·rw [if_pos hy,if_pos hy]
   ·rw [if_neg hy,if_neg hy,if_neg hy]
  ·rw [if_neg hz,z26,ih,z26]
   by_cases hy:z = y
   ·subst hy;rw [if_pos rfl,if_neg (Ne.symm hz),if_pos rfl]
   ·rw [if_neg hy,if_neg hy]
theorem zkt (e3:σ[n]? = some (.ns fs)) (e7:(look fs (S "shared")).isSome = true):Ex M σ (σ.set n (.ns (z1e fs (S "shared") (.bool true)))):=by
 refine ⟨by simp,fun i o hm e=>?_⟩
 by_cases h:n = i
 ·subst h
  obtain rfl:=Option.some.inj ((e3).symm.trans e)
  refine ⟨_,by rw [z64,e3];rfl,.inr ⟨_,_,rfl,rfl,e7,by rw [z3o,if_pos rfl];rfl,zph e7,zfi e7⟩⟩
 ·exact ⟨o,by refine (z1n h).trans ?_;exact e,.refl⟩
theorem z9u (h:Val M σ v t):∃ σ',z05 TT (d + 1) 449 [v] σ = .ok v σ'∧Ex M0 σ σ':=by
 rcases h with ⟨a,j,n,l,fs,rfl,h⟩ | ⟨⟨j,n,rfl,e2,e3,_,_⟩,_⟩
 ·exact ⟨_,zpa h.i h.f h.ln,zkt h.f h.sh⟩
 ·exact ⟨_,zb6 e2 e3,.refl⟩
theorem zku {l n:Nat} (h1:σ[j]? = some (.inst 262 n)) (h2:σ[n]? = some (.ns fs)) (h3:look fs (S "kind") = some (.str k)) (h4:look fs (S "items") = some (.ref l)) (h5:σ[l]? = some (.list xs)) (hx:xs.length < 100000) (hk:PyData.strOk k = true) (hn:(k == S "NULL") = false):z05 TT (d + 1) 1126 [.ref j] σ = .ok (.tup [.str k,.ref σ.length]) (σ++[.list xs]):=by exact z19 rfl rfl (z0i (z08 (z2p rfl (z2k h1 h2 h3 rfl)) z0h (z14 hk z02)) (k_f hn (z07 (z0k (z11 (z03 (z2p rfl (z2k h1 h2 h3 rfl)) (z04 (z0r rfl rfl (z04 (z2p rfl (z2k h1 h2 h4 rfl))) (z6f h5 hx z1l z1k)))) rfl))))) rfl
theorem zkv {l n:Nat} (h1:σ[j]? = some (.inst 262 n)) (h2:σ[n]? = some (.ns fs)) (h3:look fs (S "kind") = some (.str (S "NULL"))):z05 TT (d + 1) 1126 [.ref j] σ = .ok (.tup [.str (S "NULL"),.ref σ.length]) (σ++[.list []]):=by exact z19 rfl rfl (z0i (z08 (z2p rfl (z2k h1 h2 h3 rfl)) z0h (z14 z02 z02)) (k_t rfl (z0k (z11 (z03 z0h (z04 (z0p z0w (of_decide_eq_true rfl) z1l z1k))) rfl)))) rfl
theorem zhp {n:Nat} (h1:σ[j]? = some (.inst 212 n)) (h2:σ[n]? = some (.ns z2d)):z05 TT (d + 1) 1126 [.ref j] σ = .ok (.tup [.str (S "NULL"),.ref σ.length]) (σ++[.list []]):=by exact z19 rfl rfl (z0i (z08 (z2p rfl (z2k h1 h2 rfl rfl)) z0h (z14 z02 z02)) (k_t rfl (z0k (z11 (z03 z0h (z04 (z0p z0w (of_decide_eq_true rfl) z1l z1k))) rfl)))) rfl
theorem zck (h:Val M σ v t) (ok:TOk t) (hn:t.1 = S "NULL"→t = (S "NULL",[])):z05 TT (d + 1) 1126 [v] σ = .ok (.tup [.str t.1,.ref σ.length]) (σ++[.list t.2]):=by
 rcases h with ⟨a,j,n,l,fs,rfl,h⟩ | ⟨⟨j,n,rfl,e2,e3,_,_⟩,e⟩
 ·by_cases hk:t.1 = S "NULL"
  ·obtain h3:=h.kd
   rw [hk] at h3
   rw [hn hk];exact zkv (l:=l) h.i h.f h3
  ·exact zku h.i h.f h.kd h.it h.ls (Nat.lt_trans ok.2.2.1 (by decide)) ok.1 (by simpa using hk)
 ·exact e ▸ zhp e2 e3
theorem zdr (hM:¬ M σ.length):TRep M (σ++[.list t.2]) (.tup [.str t.1,.ref σ.length]) t:=⟨_,rfl,z0y,hM⟩
end
end
section
open PySem PySem.W
noncomputable abbrev z9v:=List (Int×Nat)
noncomputable def zby (q:z9v):AO:=if q = [] then .sd [] else .idd (q.map fun p=>(p.1,.int p.2))
noncomputable def cnt (q:z9v) (m:Int):Nat:=(look q m).getD 0
noncomputable def z6m (ans:List Int) (c:Nat):Int:=match ans[c]? with
 | some a=>if a < 8 then a else Int.fmod a 6
 | none=>1
theorem zds {κ α β:Type} [DecidableEq κ] {f:α→β} {x:κ}:∀ {q:List (κ×α)},look (q.map fun p=>(p.1,f p.2)) x = (look q x).map f
 | []=>rfl
 | (y,v) :: r=>by
  rw [List.map_cons,z26,z26]
  by_cases h:y = x
  ·rw [if_pos h,if_pos h];rfl
  ·rw [if_neg h,if_neg h,zds]
theorem zhq {κ α β:Type} [DecidableEq κ] {f:α→β} {x:κ} {a:α}:∀ {q:List (κ×α)},z1e (q.map fun p=>(p.1,f p.2)) x (f a) = (z1e q x a).map fun p=>(p.1,f p.2)
 | []=>rfl
 | (y,v) :: r=>by
  rw [List.map_cons,z3f,z3f]
  by_cases h:y = x
  ·rw [if_pos h,if_pos h];rfl
  ·rw [if_neg h,if_neg h,zhq];rfl
theorem zdt {κ α:Type} [DecidableEq κ] {x:κ} {a:α}:∀ {q:List (κ×α)},z1e q x a ≠ []
 | []=>by rw [zdq];simp
 | (y,v) :: r=>by rw [z3f];split <;> simp
theorem zfj {a:Int} (h:0≤a):0≤Int.fmod a 6∧Int.fmod a 6 < 6:=by
 rw [Int.fmod_eq_emod_of_nonneg a (by decide)];lia
set_option tactic.hygienic true in
theorem z7p {ans:List Int} {c:Nat} (h:∀ a∈ans,0≤a∧a < 14):0≤z6m ans c∧z6m ans c < 8:=by
 unfold z6m
 split
 ·rename_i a e
  have:=h a (List.mem_of_getElem? e)
  have:=zfj this.1
  split <;> omega
 ·lia
section
variable {M:Nat→Prop} {d:Nat} {σ σ':AS} {j n l a:Nat} {x v at_:AV} {fs:List (Str×AV)} {xs ys:List AV} {k:Str} {t:z31} {q:z9v} {ans:List Int} {m:Int}
theorem zhr {I:z1q} (h:σ[a]? = some (zby q)):zaf I σ (.ref a) (Str.ofString "get") = some .dict:=by
 refine (?_:(match mkO _ σ[a]? with | some k=>some k | none=>mkI I σ a _) = _)
 rw [h];unfold zby
 by_cases h:q = []
 ·rw [if_pos h];rfl
 ·rw [if_neg h];rfl
theorem zpi {I:z1q} {c:Int} {nm:Str} (h:σ[a]? = some (zby q)):z6z I .dict σ (.ref a) nm [.int c,.int 0] = .ok (.int (cnt q c)) σ:=of_of (by
 refine (?_:zv2 σ[a]? _ _ = _)
 rw [h];unfold zby cnt
 by_cases h:q = []
 ·subst h;rfl
 ·rw [if_neg h]
  refine (?_:some ((look (q.map fun p=>(p.1,AV.int p.2)) c).getD _) = _)
  rw [zds (f:=fun n:Nat=>AV.int n)]
  cases look q c <;> rfl)
theorem zpj {c:Nat} {z:Int} (h:σ[a]? = some (zby q)) (hl:q.length < 100000) (hz:z = c):z4w σ (.ref a) (.int m) (.int z) = some (σ.set a (zby (z1e q m c))):=by
 refine (?_:zre σ a σ[a]? _ _ = _)
 rw [h,hz];unfold zby
 rw [if_neg (zdt (q:=q))]
 by_cases hq:q = []
 ·subst hq;rfl
 ·rw [if_neg hq,← zhq (f:=fun n:Nat=>AV.int n)]
  exact if_pos (by rw [List.length_map];exact hl)
theorem zdu (h1:σ[a]? = some (zby q)) (h2:σ[l]? = some (.list (ans.map .int))) (hal:a ≠ l) (hq:q.length < 100000) (hl:ans.length < 100000) :
  z05 TT (d + 1) 1107 [.int m,.ref l,.ref a] σ = .ok (.int (z6m ans (cnt q m))) (σ.set a (zby (z1e q m (cnt q m + 1)))):=by
 unfold z6m
 obtain hx:(ans.map AV.int).length < 1000000:=by rw [List.length_map];lia
 by_cases hc:cnt q m < ans.length
 ·obtain e8:decide (((cnt q m:Nat):Int) ≥ (((ans.map AV.int).length:Nat):Int)) = false:=by rw [List.length_map];exact decide_eq_false (by lia)
  obtain e9:atI (ans.map AV.int) ((cnt q m:Nat):Int) = some (.int ans[cnt q m]):=(if_pos (Int.natCast_nonneg _)).trans (by simp [hc])
  rw [List.getElem?_eq_getElem hc]
  dsimp only
  by_cases h8:ans[cnt q m] < 8
  ·rw [if_pos h8]
   obtain h8:=decide_eq_true h8
   exact z19 rfl rfl (z0f rfl (z0j rfl (z00 rfl) (zhr h1) (z1r rfl z2t) (zpi h1)) (z2a rfl (z1p (z00 rfl) z0b rfl) (z00 rfl) (z00 rfl) (zpj h1 hq rfl) (z0i (z08 (z00 rfl) (z0r rfl rfl (z3r rfl) (z3q (z62 hal h2) hx)) rfl) (k_f e8 (z07 (z0k (z6s (z24 (z0m rfl (z00 rfl) (z00 rfl) (z3w (z62 hal h2) hx e9)) rfl) (z7j h8 (z0m rfl (z00 rfl) (z00 rfl) (z3w (z62 hal h2) hx e9)))))))))) rfl
  ·rw [if_neg h8]
   obtain h8:=decide_eq_false h8
   exact z19 rfl rfl (z0f rfl (z0j rfl (z00 rfl) (zhr h1) (z1r rfl z2t) (zpi h1)) (z2a rfl (z1p (z00 rfl) z0b rfl) (z00 rfl) (z00 rfl) (zpj h1 hq rfl) (z0i (z08 (z00 rfl) (z0r rfl rfl (z3r rfl) (z3q (z62 hal h2) hx)) rfl) (k_f e8 (z07 (z0k (z6s (z24 (z0m rfl (z00 rfl) (z00 rfl) (z3w (z62 hal h2) hx e9)) rfl) (z60 h8 (z1p (z0m rfl (z00 rfl) (z00 rfl) (z3w (z62 hal h2) hx e9)) z0b rfl))))))))) rfl
 ·obtain e8:decide (((cnt q m:Nat):Int) ≥ (((ans.map AV.int).length:Nat):Int)) = true:=by rw [List.length_map];exact decide_eq_true (by lia)
  rw [List.getElem?_eq_none (Nat.le_of_not_lt hc)]
  exact z19 rfl rfl (z0f rfl (z0j rfl (z00 rfl) (zhr h1) (z1r rfl z2t) (zpi h1)) (z2a rfl (z1p (z00 rfl) z0b rfl) (z00 rfl) (z00 rfl) (zpj h1 hq rfl) (z0i (z08 (z00 rfl) (z0r rfl rfl (z3r rfl) (z3q (z62 hal h2) hx)) rfl) (k_t e8 (z0k z0b))))) rfl
noncomputable def zhs (n:Int):Str:=if n = 2 then S "double" else if n = 3 then S "integer" else if n = 4 then S "character" else if n = 5 then S "character" else S "logical"
noncomputable def zht (n:Int):AV:=if n = 0 then .int 1 else if n = 1 then .int 0 else if n = 2 then .tup [.int 1,.int 2] else if n = 3 then .int 0 else if n = 4 then .str (S "TRUE") else if n = 5 then .str (S "F") else .none
noncomputable def z9w (nth:Int):z31:=if nth = 7 then (S "character",[]) else (zhs nth,[zht nth])
theorem zsk {n:Int} {f g:Int→Option AV} (h:0≤n∧n < 7) (h0:f 0 = g 0) (h1:f 1 = g 1) (h2:f 2 = g 2) (h3:f 3 = g 3) (h4:f 4 = g 4) (h5:f 5 = g 5) (h6:f 6 = g 6):f n = g n:=by
 obtain hc:n = 0∨n = 1∨n = 2∨n = 3∨n = 4∨n = 5∨n = 6:=by lia
 rcases hc with rfl | rfl | rfl | rfl | rfl | rfl | rfl <;> assumption
theorem zpk {n:Int} (h:0≤n∧n < 7):atI [.str (S "logical"),.str (S "logical"),.str (S "double"),.str (S "integer"),.str (S "character"),.str (S "character"),.str (S "logical")] n = some (.str (zhs n)) :=
 zsk (g:=fun n=>some (.str (zhs n))) h rfl rfl rfl rfl rfl rfl rfl
theorem zpl {n:Int} (h:0≤n∧n < 7):atI [.int 1,.int 0,.tup [.int 1,.int 2],.int 0,.str (S "TRUE"),.str (S "F"),.none] n = some (zht n) :=
 zsk (g:=fun n=>some (zht n)) h rfl rfl rfl rfl rfl rfl rfl
section
theorem z8f (nth:Int) (h0:0≤nth) (h8:nth < 8) (hM:∀ i,σ.length≤i→¬ M i):∃ v σ',z05 TT (d + 3) 1114 [.int nth] σ = .ok v σ'∧Ex M0 σ σ'∧IsVec M σ' v (z9w nth).1 (z9w nth).2 .none:=by
 by_cases h7:nth = 7
 ·obtain rfl:=h7
  exact ⟨_,_,by exact z19 rfl rfl (z0i (z24 (z00 rfl) rfl) (k_t rfl (z0k (z0g rfl rfl (z15 (z04 (z0p z0w (of_decide_eq_true rfl) z1l z1k))) (z25 (z22 rfl) (z22 rfl) (z1f rfl)))))) rfl,Ex.app,IsVec.app (q:=0) rfl rfl rfl hM⟩
 ·have hn:0≤nth∧nth < 7:=⟨h0,by lia⟩
  have hq:(nth == 7) = false:=beq_eq_false_iff_ne.mpr h7
  unfold z9w
  rw [if_neg h7]
  exact ⟨_,_,by exact z19 rfl rfl (z0i (z24 (z00 rfl) rfl) (k_f hq (z07 (z0f rfl (z0m rfl (z0p (z15 (z15 (z15 (z15 (z15 (z15 z3k)))))) (of_decide_eq_true rfl) z1l z1k) (z00 rfl) (z3w (z4c rfl) (of_decide_eq_true rfl) (zpk hn))) (z0k (z0g rfl rfl (z1r rfl (z04 (z0p (z04 (z0m rfl (z0p (z03 z0b (z03 z0b (z03 (z11 (z03 z0b z2t) rfl) (z03 z0b (z15 (z15 (z04 z0l))))))) (of_decide_eq_true rfl) (z22 rfl) (z1f rfl)) (z00 rfl) (z3w (z4f rfl) (of_decide_eq_true rfl) (zpl hn)))) (of_decide_eq_true rfl) (z22 rfl) (z1f rfl)))) (z25 (z22 rfl) (z22 rfl) (z1f rfl)))))))) rfl,Ex.app,IsVec.app rfl rfl rfl hM⟩
end
end
end
section
open PySem PySem.W
section
variable {M:Nat→Prop} {d:Nat} {σ σ':AS} {j n l a:Nat} {x v at_:AV} {fs:List (Str×AV)} {xs ys:List AV} {k:Str} {t:z31} {q:z9v} {ans:List Int} {m:Int}
theorem zpm {nth:Int} (h:IsVec M σ v (z9w nth).1 (z9w nth).2 at_) (h0:0≤nth) (h8:nth < 8):z05 TT (d + 3) 470 [v] σ =
  if nth = 6 then .exc (S "missing value where TRUE/FALSE needed") σ else if nth = 7 then .exc (S "argument is of length zero") σ else .ok (.bool (nth % 2 == 0)) σ:=by
 revert M d σ v at_ nth;refine no_implicit_lambda% (z36 (z06 inferInstance (z06 inferInstance inferInstance)) ?_);generalize (e3 _ _).1 = M;generalize (e3 _ _).2.1 = d;generalize (e3 _ _).2.2 = σ;refine no_implicit_lambda% (z36 (z06 inferInstance (z06 inferInstance inferInstance)) ?_);generalize (e3 _ _).1 = v;generalize (e3 _ _).2.1 = at_;generalize (e3 _ _).2.2 = nth;unhygienic intros
 obtain ⟨j,n,l,fs,rfl,h⟩:=h
 revert j n l fs;refine no_implicit_lambda% (z36 (z06 inferInstance (z06 inferInstance inferInstance)) ?_);generalize (e3 _ _).1 = j;generalize (e3 _ _).2.1 = n;generalize (e3 _ _).2.2 = l;refine no_implicit_lambda% (z2b inferInstance ?_);generalize (e1 _ _) = fs;unhygienic intros
 obtain hc:nth = 0∨nth = 1∨nth = 2∨nth = 3∨nth = 4∨nth = 5∨nth = 6∨nth = 7:=by lia
 rcases hc with rfl | rfl | rfl | rfl | rfl | rfl | rfl | rfl
 ·exact z63 h.i h.f h.kd h.it h.ls z02 rfl rfl tl0
 ·exact z63 h.i h.f h.kd h.it h.ls z02 rfl rfl tl1
 ·exact z63 h.i h.f h.kd h.it h.ls z02 rfl rfl tl2
 ·exact z63 h.i h.f h.kd h.it h.ls z02 rfl rfl tl3
 ·exact z63 h.i h.f h.kd h.it h.ls z02 rfl rfl tl4
 ·exact z63 h.i h.f h.kd h.it h.ls z02 rfl rfl tl5
 ·exact zpf h.i h.f h.kd h.it h.ls
 ·exact zpe h.i h.f h.kd h.it h.ls z02 rfl
theorem z30 {elt:AV→AS→Res AV} {l:Nat} {xs:List AV} (R:Nat→AV→AS→Prop) (hs:σ[l]? = some (.list xs)) (hl:xs.length < 3000) (hm:¬ M l) (hR:∀ k y σ1 σ2,R k y σ1→Ex M σ1 σ2→R k y σ2)
  (step:∀ k x σ1,xs[k]? = some x→Ex M σ σ1→∃ y σ2,elt x σ1 = .ok y σ2∧Ex M σ1 σ2∧R k y σ2) :
  ∃ ys σ',z3y (.ref l) elt σ = .ok (.ref σ'.length) (σ'++[.list ys])∧Ex M σ σ'∧ys.length = xs.length∧∀ k y,ys[k]? = some y→R k y σ':=by
 obtain ⟨ys,σ',e,h1,h2,h3⟩:=z93 (body:=zjr elt) (l:=l) (xs:=xs) (fun k acc σ1=>Ex M σ σ1∧acc.length = k∧∀ i y,acc[i]? = some y→R i y σ1) (fun k b σ1 i=>i.1.list hm hs)
  (fun k x acc σ1 hx zm=>zmh zm fun i1 i2 i3=>by
   refine z1c (step k x σ1 hx i1) fun y σ2 e x2 r=>?_
   have hk:k < xs.length:=(List.getElem?_eq_some_iff.mp hx).1
   refine ⟨acc++[y],σ2,z0a e (if_pos (by lia)),i1.trans x2,by simp [i2],fun i z hz=>?_⟩
   by_cases hi:i < acc.length
   ·rw [List.getElem?_append_left hi] at hz
    exact hR i z _ _ (i3 i z hz) x2
   ·rw [List.getElem?_append_right (Nat.le_of_not_lt hi)] at hz
    have:i = k:=by
     have:=(List.getElem?_eq_some_iff.mp hz).1
     simp at this;lia
    subst this
    rw [i2] at hz;simp at hz;subst hz;exact r)
  z1i 0 [] σ (by unfold z1i;lia) (Nat.le_add_left _ _) ⟨.refl,rfl,fun i y h=>by simp at h⟩
 exact ⟨ys,σ',z0a e rfl,h1,h2,h3⟩
noncomputable def tri (a b c:AV) (k:Int):AV:=if k = 0 then a else if k = 1 then b else c
noncomputable def z94 (k:Int):Prop:=k = 0∨k = 1∨k = 2
noncomputable def z7q (sort k:Int):z31 :=
 if sort = 0 then (S "integer",[tri (.int 1) (.int 0) .none k]) else if sort = 1 then (S "logical",[tri (.int 1) (.int 0) .none k]) else if sort = 2 then (S "character",[tri (.str (S "c")) (.str (S "")) .none k])
 else if sort = 3 then (if k = 0 then (S "character",[.str (S "d")]) else if k = 1 then (S "NULL",[]) else (S "integer",[.int 7,.int 8]))
 else (S "character",[tri (.str (S "v")) (.str (S "u")) .none k])
noncomputable def z0z (sort:Int) (picks:List Int):List z31:=if sort < 5 then picks.map (z7q sort) else []
noncomputable def RelAll (P:AV→z31→Prop) (vs:List AV) (ts:List z31):Prop:=vs.length = ts.length∧∀ (k:Nat) (v:AV) (t:z31),vs[k]? = some v→ts[k]? = some t→P v t
theorem z5h {sort:Int} {picks:List Int} {k:Nat} {p:Int} {t:z31} (h5:sort < 5) (hp:picks[k]? = some p) (ht:(z0z sort picks)[k]? = some t):t = z7q sort p:=by
 unfold z0z at ht
 rw [if_pos h5,List.getElem?_map,hp] at ht
 simpa using ht.symm
theorem z4l {sort:Int} {picks:List Int} (h5:sort < 5):(z0z sort picks).length = picks.length:=by
 unfold z0z;rw [if_pos h5,List.length_map]
theorem TRep.app {τ:AS} {q:Nat} (hM:∀ i,σ.length≤i→¬ M i) (e:τ[q]? = some (.list t.2)) (e':k = t.1):TRep M (σ++τ) (.tup [.str k,.ref (σ.length + q)]) t :=
 ⟨_,by rw [e'],by refine (z12).trans ?_;exact e,hM _ (Nat.le_add_right (List.length σ) q)⟩
theorem zcl {picks:List Int} {k:Nat} {x:AV} (hk:∀ k∈picks,z94 k) (hx:(picks.map AV.int)[k]? = some x):∃ p,picks[k]? = some p∧x = .int p∧z94 p:=by
 rw [List.getElem?_map] at hx
 cases e:picks[k]? with
 | none=>rw [e] at hx;exact nn hx
 | some p=>rw [e] at hx;obtain rfl:=Option.some.inj hx;exact ⟨p,rfl,rfl,hk p (List.mem_of_getElem? e)⟩
theorem z7r {a b c:AV} {k:Int} (h:z94 k):atI [a,b,c] k = some (tri a b c k):=by
 rcases h with rfl | rfl | rfl <;> rfl
section
theorem zkw {sort:Int} {p:Nat} (h0:0≤sort) (h5:sort < 5) (hM:∀ i,σ.length≤i→¬ M i):∃ F:AV→AS→Res AV,(∀ r σ1,z3y (.ref p) F σ = .ok r σ1→z05 TT (d + 1) 1145 [.tup [.int sort,.ref p]] σ = .ok r σ1) ∧
  ∀ k σ1,z94 k→σ.length≤σ1.length→∃ v τ,F (.int k) σ1 = .ok v (σ1++τ)∧TRep M (σ1++τ) v (z7q sort k):=by
 revert M d σ sort p;refine no_implicit_lambda% (z36 (z06 inferInstance (z06 inferInstance inferInstance)) ?_);generalize (e3 _ _).1 = M;generalize (e3 _ _).2.1 = d;generalize (e3 _ _).2.2 = σ;refine no_implicit_lambda% (z2b inferInstance ?_);generalize (e1 _ _) = sort;refine no_implicit_lambda% (z2b inferInstance ?_);generalize (e1 _ _) = p;unhygienic intros
 obtain hc:sort = 0∨sort = 1∨sort = 2∨sort = 3∨sort = 4:=by lia
 rcases hc with rfl | rfl | rfl | rfl | rfl
 all_goals
  refine ⟨_,fun r σ1 hc=>by (first | exact z19 rfl rfl (z2c rfl (z00 rfl) (k_y (z0t (zac (z24 (z00 rfl) rfl) rfl)) (z0k (z2u rfl rfl (z00 rfl) hc)))) rfl | exact z19 rfl rfl (z2c rfl (z00 rfl) (k_y (z0t (z5t (z24 (z00 rfl) rfl) rfl (zac (z24 (z00 rfl) rfl) rfl))) (z0k (z2u rfl rfl (z00 rfl) hc)))) rfl | exact z19 rfl rfl (z2c rfl (z00 rfl) (k_z (z0t (z5t (z24 (z00 rfl) rfl) rfl (z92 (z24 (z00 rfl) rfl) rfl))) (k_y (z24 (z00 rfl) rfl) (z0k (z2u rfl rfl (z00 rfl) hc))))) rfl | exact z19 rfl rfl (z2c rfl (z00 rfl) (k_z (z0t (z5t (z24 (z00 rfl) rfl) rfl (z92 (z24 (z00 rfl) rfl) rfl))) (k_z (z24 (z00 rfl) rfl) (k_y (z24 (z00 rfl) rfl) (z0k (z2u rfl rfl (z00 rfl) hc)))))) rfl | exact z19 rfl rfl (z2c rfl (z00 rfl) (k_z (z0t (z5t (z24 (z00 rfl) rfl) rfl (z92 (z24 (z00 rfl) rfl) rfl))) (k_z (z24 (z00 rfl) rfl) (k_z (z24 (z00 rfl) rfl) (k_y (z24 (z00 rfl) rfl) (z0k (z2u rfl rfl (z00 rfl) hc))))))) rfl),fun k σ1 hk hs=>?_⟩
  obtain hM1:∀ i,σ1.length≤i→¬ M i:=fun i hi=>hM i (Nat.le_trans hs hi)
  refine ⟨_,_,by (first | exact z11 (z03 (z0m rfl (z0p (z15 z3k) (of_decide_eq_true rfl) z1l z1k) (z00 rfl) (z3w (z4c rfl) (of_decide_eq_true rfl) rfl)) (z04 (z0p (z04 (z0m rfl (z0p (z03 z0b (z03 z0b (z04 z0l))) (of_decide_eq_true rfl) (z22 rfl) (z1f rfl)) (z00 rfl) (z3w (z4f rfl) (of_decide_eq_true rfl) (z7r hk)))) (of_decide_eq_true rfl) (z22 rfl) (z1f rfl)))) rfl | exact z11 (z15 (z04 (z0p (z04 (z0m rfl (z0p (z15 (z15 (z04 z0l))) (of_decide_eq_true rfl) z1l z1k) (z00 rfl) (z3w (z4c rfl) (of_decide_eq_true rfl) (z7r hk)))) (of_decide_eq_true rfl) (z22 rfl) (z1f rfl)))) rfl | exact z0m rfl (z0p (z03 (z11 (z15 (z04 (z0p z3k (of_decide_eq_true rfl) z1l z1k))) rfl) (z03 (z11 (z15 (z04 (z0p z0w (of_decide_eq_true rfl) (z22 rfl) (z1f rfl)))) rfl) (z04 (z11 (z15 (z04 (z0p (z03 z0b z2t) (of_decide_eq_true rfl) (z22 rfl) (z1f rfl)))) rfl)))) (of_decide_eq_true rfl) (z22 rfl) (z1f rfl)) (z00 rfl) (z3w (z4f rfl) (of_decide_eq_true rfl) (z7r hk))),?_⟩
  first | exact TRep.app hM1 rfl rfl | exact TRep.app (q:=0) hM1 rfl rfl | skip
 rcases hk with rfl | rfl | rfl
 ·exact TRep.app (q:=0) hM1 rfl rfl
 ·exact TRep.app hM1 rfl rfl
 ·exact TRep.app hM1 rfl rfl
end
theorem zkx {sort:Int} {p:Nat} (h5:sort = 5∨sort = 6):z05 TT (d + 1) 1145 [.tup [.int sort,.ref p]] σ = .ok (.ref σ.length) (σ++[.list []]):=by
 rcases h5 with rfl | rfl
 ·exact z19 rfl rfl (z2c rfl (z00 rfl) (k_z (z0t (z5t (z24 (z00 rfl) rfl) rfl (z92 (z24 (z00 rfl) rfl) rfl))) (k_z (z24 (z00 rfl) rfl) (k_z (z24 (z00 rfl) rfl) (k_z (z24 (z00 rfl) rfl) (z0k (z0p z0w (of_decide_eq_true rfl) z1l z1k))))))) rfl
 ·exact z19 rfl rfl (z2c rfl (z00 rfl) (k_z (z0t (z5t (z24 (z00 rfl) rfl) rfl (z92 (z24 (z00 rfl) rfl) rfl))) (k_z (z24 (z00 rfl) rfl) (k_z (z24 (z00 rfl) rfl) (k_z (z24 (z00 rfl) rfl) (z0k (z0p z0w (of_decide_eq_true rfl) z1l z1k))))))) rfl
theorem zpn {sort:Int} {p:Nat} {picks:List Int} (h0:0≤sort) (h7:sort < 7) (hp:σ[p]? = some (.list (picks.map .int))) (hk:∀ k∈picks,z94 k) (hl:picks.length < 100) (hM:∀ i,σ.length≤i→¬ M i) :
  ∃ r ts σ',z05 TT (d + 1) 1145 [.tup [.int sort,.ref p]] σ = .ok (.ref r) σ'∧Ex M0 σ σ'∧σ'[r]? = some (.list ts)∧σ.length≤r∧RelAll (TRep M σ') ts (z0z sort picks):=by
 revert M d σ sort p picks;refine no_implicit_lambda% (z36 (z06 inferInstance (z06 inferInstance inferInstance)) ?_);generalize (e3 _ _).1 = M;generalize (e3 _ _).2.1 = d;generalize (e3 _ _).2.2 = σ;refine no_implicit_lambda% (z36 (z06 inferInstance (z06 inferInstance inferInstance)) ?_);generalize (e3 _ _).1 = sort;generalize (e3 _ _).2.1 = p;generalize (e3 _ _).2.2 = picks;unhygienic intros
 by_cases h5:sort < 5
 ·refine z0e (zkw (M:=M) (d:=d) (p:=p) h0 h5 hM) fun F e st=>?_
  obtain ⟨ts,σ1,e2,x1,l1,r1⟩:=z30 (M:=M0) (elt:=F) (fun k y σ=>∀ t,(z0z sort picks)[k]? = some t→TRep M σ y t) hp (by simp;lia) (fun h=>h) (fun k y σ1 σ2 r x t ht=>(r t ht).ex x.of0) (fun k x σ1 hx x1=>by
   refine z1m (zcl hk hx) fun p hp zq3n2 hpk=>?_;subst zq3n2
   refine z27 (st p σ1 hpk x1.1) fun v τ e r=>?_
   exact ⟨v,_,e,Ex.app,fun t ht=>by rw [z5h h5 hp ht];exact r⟩)
  exact ⟨_,_,_,e _ _ e2,x1.trans Ex.app,z0y,x1.1,by rw [l1,z4l h5,List.length_map],fun k v t hv ht=>(r1 k v hv t ht).ex Ex.app⟩
 ·refine ⟨_,_,_,zkx (by lia),Ex.app,z0y,Nat.le_refl _,?_,fun k v t h=>by simp at h⟩
  unfold z0z;rw [if_neg h5];rfl
end
end
section
open PySem PySem.W
section
variable {M:Nat→Prop} {d:Nat} {σ σ':AS} {j n l a:Nat} {x v at_:AV} {fs:List (Str×AV)} {xs ys vs:List AV} {k:Str} {t:z31} {ts:List z31} {sort:Int} {picks:List Int}
noncomputable def FactorAt (M:Nat→Prop) (σ:AS) (a:Nat):Prop:=¬ M a∧∃ lv cv,σ[a]? = some (.sd [(S "levels",lv),(S "class",cv)])∧IsVec M σ lv (S "character") [.str (S "u"),.str (S "v")] .none∧IsVec M σ cv (S "character") [.str (S "factor")] .none
theorem FactorAt.ex (h:FactorAt M σ a) (x:Ex M σ σ'):FactorAt M σ' a:=by
 obtain ⟨m,lv,cv,e,e1,e2⟩:=h
 exact ⟨m,lv,cv,x.sd m e,e1.ex x,e2.ex x⟩
noncomputable def kindOf (sort:Int):Str:=if sort = 0 then S "integer" else if sort = 1 then S "logical" else S "character"
noncomputable def z7s (sort:Int):Int→AV:=if sort < 2 then tri (.int 1) (.int 0) .none else tri (.str (S "c")) (.str (S "")) .none
noncomputable def OverV (M:Nat→Prop) (σ:AS) (v:AV) (sort:Int) (picks:List Int):Prop :=
 if sort < 3 then IsVec M σ v (kindOf sort) (picks.map (z7s sort)) .none
 else if sort = 3 then ∃ vs,IsVec M σ v (S "list") vs .none∧RelAll (Val M σ) vs (z0z 3 picks)
 else if sort = 4 then ∃ a,IsVec M σ v (S "integer") (picks.map (tri (.int 2) (.int 1) .none)) (.ref a)∧FactorAt M σ a
 else if sort = 5 then IsNull M σ v
 else ∃ j n fs,v = .ref j∧σ[j]? = some (.inst 305 n)∧σ[n]? = some (.ns fs)∧look fs (S "kind") = some (.str (S "builtin"))∧¬ M j∧¬ M n∧zg5 (.ns fs)
theorem RelAll.ex (h:RelAll (Val M σ) vs ts) (x:Ex M σ σ'):RelAll (Val M σ') vs ts:=⟨h.1,fun k v t a b=>(h.2 k v t a b).ex x⟩
theorem OverV.ex (h:OverV M σ v sort picks) (x:Ex M σ σ'):OverV M σ' v sort picks:=by
 revert M σ σ' v sort picks;refine no_implicit_lambda% (z36 (z06 inferInstance (z06 inferInstance inferInstance)) ?_);generalize (e3 _ _).1 = M;generalize (e3 _ _).2.1 = σ;generalize (e3 _ _).2.2 = σ';refine no_implicit_lambda% (z36 (z06 inferInstance (z06 inferInstance inferInstance)) ?_);generalize (e3 _ _).1 = v;generalize (e3 _ _).2.1 = sort;generalize (e3 _ _).2.2 = picks;unhygienic intros
 unfold OverV at h ⊢
 split at h
 ·rename_i q;rw [if_pos q];exact h.ex x
 ·rename_i q;rw [if_neg q]
  split at h
  ·rename_i q;rw [if_pos q];refine z0e h fun vs h1 h2=>?_;exact ⟨vs,h1.ex x,h2.ex x⟩
  ·rename_i q;rw [if_neg q]
   split at h
   ·rename_i q;rw [if_pos q];refine z0e h fun a h1 h2=>?_;exact ⟨a,h1.ex x,h2.ex x⟩
   ·rename_i q;rw [if_neg q]
    split at h
    ·rename_i q;rw [if_pos q];exact h.ex x
    ·rename_i q;rw [if_neg q]
     refine z75 h fun j n fs e1 e2 e3 e4 m1 m2 e5=>?_
     exact ⟨j,n,fs,e1,x.inst m1 e2,x.exact m2 e3 e5,e4,m1,m2,e5⟩
theorem zpo {f:Int→AV} {picks:List Int} {ys:List AV} (hl:ys.length = (picks.map AV.int).length) (h:∀ (k:Nat) (y:AV),ys[k]? = some y→∀ p,picks[k]? = some p→y = f p):ys = picks.map f:=by
 rw [List.length_map] at hl
 apply List.ext_getElem?
 intro k
 rw [List.getElem?_map]
 by_cases hk:k < picks.length
 ·rw [List.getElem?_eq_getElem hk]
  obtain hk':k < ys.length:=Nat.lt_of_lt_of_eq hk (id (Eq.symm hl))
  rw [List.getElem?_eq_getElem hk',h k _ (List.getElem?_eq_getElem hk') _ (List.getElem?_eq_getElem hk)];rfl
 ·rw [List.getElem?_eq_none (by lia),List.getElem?_eq_none (Nat.le_of_not_lt hk)];rfl
theorem z65 {F:AV→AS→Res AV} {p:Nat} (f:Int→AV) (hp:σ[p]? = some (.list (picks.map .int))) (hk:∀ k∈picks,z94 k) (hl:picks.length < 100)
  (step:∀ k σ1,z94 k→∃ τ,F (.int k) σ1 = .ok (f k) (σ1++τ)):∃ σ1,z3y (.ref p) F σ = .ok (.ref σ1.length) (σ1++[.list (picks.map f)])∧Ex M0 σ σ1:=by
 obtain ⟨ys,σ1,e,x1,l1,r1⟩:=z30 (M:=M0) (elt:=F) (fun k y σ=>∀ p,picks[k]? = some p→y = f p) hp (by simp;lia) (fun h=>h) (fun k y σ1 σ2 r x=>r) (fun k x σ1 hx x1=>by
  refine z1m (zcl hk hx) fun p hp zq4n2 hpk=>?_;obtain rfl:=zq4n2
  refine oEA (step p σ1 hpk) fun τ e=>?_
  exact ⟨_,_,e,Ex.app,fun t ht=>by obtain rfl:=Option.some.inj ((hp).symm.trans ht);rfl⟩)
 rw [zpo l1 r1] at e
 exact ⟨σ1,e,x1⟩
theorem zpp:∃ F:AV→AS→Res AV,(∀ ys σ1,z3y (.ref l) F σ = .ok (.ref σ1.length) (σ1++[.list ys])→z05 TT (d + 4) 407 [.ref l] σ = .ok (.ref (σ1.length + 2)) (σ1++[.list ys,.ns (z3s (.str (S "list")) (.ref σ1.length) .none),.inst 262 (σ1.length + 1)])) ∧
  ∀ x σ1 σ2,z05 TT (d + 3) 449 [x] σ1 = .ok x σ2→F x σ1 = .ok x σ2 :=
 ⟨_,fun ys σ1 hc=>by exact z19 rfl rfl (z0k (z0g rfl rfl (z03 (z0g rfl rfl (z15 (z04 (z2u rfl rfl (z00 rfl) hc))) (z25 (z22 rfl) (z22 rfl) (z1f rfl))) (z3r rfl)) rfl)) rfl,fun x σ1 σ2 h=>by exact z0g rfl rfl (z3r rfl) h⟩
theorem zhu (hl:σ[l]? = some (.list vs)) (hv:RelAll (Val M σ) vs ts) (hn:vs.length < 100) (hM:∀ i,σ.length≤i→¬ M i):∃ v σ',z05 TT (d + 4) 407 [.ref l] σ = .ok v σ'∧Ex M0 σ σ'∧IsVec M σ' v (S "list") vs .none:=by
 refine z0e (zpp (d:=d) (l:=l) (σ:=σ)) fun F e st=>?_
 obtain ⟨ys,σ1,e2,x1,l1,r1⟩:=z30 (M:=M0) (elt:=F) (fun k y σ=>vs[k]? = some y) hl (by lia) (fun h=>h) (fun k y σ1 σ2 r x=>r) (fun k x σ1 hx x1=>by
  obtain hk:k < ts.length:=by rw [← hv.1];exact (List.getElem?_eq_some_iff.mp hx).1
  refine z0e (z9u (d:=d + 2) ((hv.2 k x _ hx (List.getElem?_eq_getElem hk)).ex x1.of0)) fun σ2 e x2=>?_
  exact ⟨x,σ2,st _ _ _ e,x2,hx⟩)
 have hy:ys = vs:=by
  apply List.ext_getElem?
  intro k
  by_cases hk:k < ys.length
  ·rw [List.getElem?_eq_getElem hk];exact (r1 k _ (List.getElem?_eq_getElem hk)).symm
  ·rw [List.getElem?_eq_none (Nat.le_of_not_lt hk),List.getElem?_eq_none (by lia)]
 subst hy
 exact ⟨_,_,e _ _ e2,x1.trans Ex.app,IsVec.app (q:=0) rfl rfl rfl fun i hi=>hM i (Nat.le_trans x1.1 hi)⟩
section
theorem zhv {p:Nat} (hs:sort = 0∨sort = 1):∃ F:AV→AS→Res AV,(∀ ys σ1,z3y (.ref p) F (σ++[.list [.str (S "integer"),.str (S "logical")]]) = .ok (.ref σ1.length) (σ1++[.list ys])→z05 TT (d + 5) 1119 [.tup [.int sort,.ref p]] σ = .ok (.ref (σ1.length + 2)) (σ1++[.list ys,.ns (z3s (.str (kindOf sort)) (.ref σ1.length) .none),.inst 262 (σ1.length + 1)])) ∧
  ∀ k σ1,z94 k→∃ τ,F (.int k) σ1 = .ok (z7s sort k) (σ1++τ):=by
 rcases hs with rfl | rfl
 all_goals
  exact ⟨_,fun ys σ1 hc=>by (first | exact z19 rfl rfl (z2c rfl (z00 rfl) (z0i (z0t (zac (z24 (z00 rfl) rfl) rfl)) (k_t rfl (z0k (z0g rfl rfl (z03 (z0m rfl (z0p (z15 z3k) (of_decide_eq_true rfl) z1l z1k) (z00 rfl) (z3w (z4c rfl) (of_decide_eq_true rfl) rfl)) (z04 (z2u rfl rfl (z00 rfl) hc))) (z25 (z22 rfl) (z22 rfl) (z1f rfl))))))) rfl | exact z19 rfl rfl (z2c rfl (z00 rfl) (z0i (z0t (z5t (z24 (z00 rfl) rfl) rfl (zac (z24 (z00 rfl) rfl) rfl))) (k_t rfl (z0k (z0g rfl rfl (z03 (z0m rfl (z0p (z15 z3k) (of_decide_eq_true rfl) z1l z1k) (z00 rfl) (z3w (z4c rfl) (of_decide_eq_true rfl) rfl)) (z04 (z2u rfl rfl (z00 rfl) hc))) (z25 (z22 rfl) (z22 rfl) (z1f rfl))))))) rfl),fun k σ1 hk=>⟨_,by exact z0m rfl (z0p (z03 z0b (z03 z0b (z04 z0l))) (of_decide_eq_true rfl) z1l z1k) (z00 rfl) (z3w (z4c rfl) (of_decide_eq_true rfl) (z7r hk))⟩⟩
theorem zky {p:Nat}:∃ F:AV→AS→Res AV,(∀ ys σ1,ys.length < 100000→z3y (.ref p) F σ = .ok (.ref σ1.length) (σ1++[.list ys])→z05 TT (d + 5) 1119 [.tup [.int 2,.ref p]] σ = .ok (.ref (σ1.length + 3)) (σ1++[.list ys,.list ys,.ns (z3s (.str (S "character")) (.ref (σ1.length + 1)) .none),.inst 262 (σ1.length + 2)])) ∧
  ∀ k σ1,z94 k→∃ τ,F (.int k) σ1 = .ok (z7s 2 k) (σ1++τ):=by
 exact ⟨_,fun ys σ1 hy hc=>by exact z19 rfl rfl (z2c rfl (z00 rfl) (z0i (z0t (z5t (z24 (z00 rfl) rfl) rfl (z92 (z24 (z00 rfl) rfl) rfl))) (k_f rfl (z07 (z0i (z24 (z00 rfl) rfl) (k_t rfl (z0k (z0g rfl rfl (z04 (z2u rfl rfl (z00 rfl) hc)) (z7m (z4c rfl) hy (z22 rfl) (z22 rfl) (z22 rfl) (z1f rfl)))))))))) rfl,fun k σ1 hk=>⟨_,by exact z0m rfl (z0p (z15 (z15 (z04 z0l))) (of_decide_eq_true rfl) z1l z1k) (z00 rfl) (z3w (z4c rfl) (of_decide_eq_true rfl) (z7r hk))⟩⟩
theorem zkz {p:Nat} (hM:∀ i,σ.length≤i→¬ M i):∃ F:AV→AS→Res AV,(∀ ts σ1 v σ2,z3y (.ref p) F σ = .ok (.ref σ1.length) (σ1++[.list ts])→z05 TT (d + 4) 407 [.ref σ1.length] (σ1++[.list ts]) = .ok v σ2→z05 TT (d + 5) 1119 [.tup [.int 3,.ref p]] σ = .ok v σ2) ∧
  ∀ k σ1,z94 k→σ.length≤σ1.length→∃ v τ,F (.int k) σ1 = .ok v (σ1++τ)∧Val M (σ1++τ) v (z7q 3 k):=by
 refine ⟨_,fun ts σ1 v σ2 hc h=>by exact z19 rfl rfl (z2c rfl (z00 rfl) (z0i (z0t (z5t (z24 (z00 rfl) rfl) rfl (z92 (z24 (z00 rfl) rfl) rfl))) (k_f rfl (z07 (z0i (z24 (z00 rfl) rfl) (k_f rfl (z07 (z0i (z24 (z00 rfl) rfl) (k_t rfl (z0k (z0g rfl rfl (z04 (z2u rfl rfl (z00 rfl) hc)) h))))))))))) rfl,fun k σ1 hk hs=>?_⟩
 have hM1:∀ i,σ1.length≤i→¬ M i:=fun i hi=>hM i (Nat.le_trans hs hi)
 refine ⟨_,_,by exact z0m rfl (z0p (z03 (z0g rfl rfl z3k (zdp z1l zmt zmt z1k)) (z03 (z0g rfl rfl z0w (z7l (z22 rfl) (z22 rfl) (z1f rfl))) (z04 (z0g rfl rfl (z15 (z04 (z0p (z03 z0b z2t) (of_decide_eq_true rfl) (z22 rfl) (z1f rfl)))) (z25 (z22 rfl) (z22 rfl) (z1f rfl)))))) (of_decide_eq_true rfl) (z22 rfl) (z1f rfl)) (z00 rfl) (z3w (z4f rfl) (of_decide_eq_true rfl) (z7r hk)),?_⟩
 rcases hk with rfl | rfl | rfl
 ·exact .inl ⟨_,IsVec.app (q:=0) rfl rfl rfl hM1⟩
 ·exact .inr ⟨IsNull.app rfl rfl hM1,rfl⟩
 ·exact .inl ⟨_,IsVec.app rfl rfl rfl hM1⟩
theorem zl0 {p:Nat}:∃ F:AV→AS→Res AV,(∀ ys σ1,z3y (.ref p) F σ = .ok (.ref σ1.length) (σ1++[.list ys])→∃ τ,z05 TT (d + 5) 1119 [.tup [.int 4,.ref p]] σ = .ok (.ref (σ1.length + 2)) (σ1++τ)∧∀ M:Nat→Prop,(∀ i,σ1.length≤i→¬ M i)→∃ a,IsVec M (σ1++τ) (.ref (σ1.length + 2)) (S "integer") ys (.ref a)∧FactorAt M (σ1++τ) a) ∧
  ∀ k σ1,z94 k→∃ τ,F (.int k) σ1 = .ok (tri (.int 2) (.int 1) .none k) (σ1++τ):=by
 refine ⟨_,fun ys σ1 hc=>⟨_,by exact z19 rfl rfl (z2c rfl (z00 rfl) (z0i (z0t (z5t (z24 (z00 rfl) rfl) rfl (z92 (z24 (z00 rfl) rfl) rfl))) (k_f rfl (z07 (z0i (z24 (z00 rfl) rfl) (k_f rfl (z07 (z0i (z24 (z00 rfl) rfl) (k_f rfl (z07 (z0i (z24 (z00 rfl) rfl) (k_t rfl (z0f rfl (z0g rfl rfl (z15 (z04 (z2u rfl rfl (z00 rfl) hc))) (z25 (z22 rfl) (z22 rfl) (z1f rfl))) (z21 rfl (z5f rfl (z2w rfl (z0g rfl rfl (z04 (z0p (z15 z3k) (of_decide_eq_true rfl) (z22 rfl) (z1f rfl))) (z7m (z4f rfl) (of_decide_eq_true rfl) (z22 rfl) (z22 rfl) (z22 rfl) (z1f rfl))) (z2w rfl (z0g rfl rfl z3k (zdp (z22 rfl) (z22 rfl) (z22 rfl) (z1f rfl))) z5g)) rfl (z22 rfl) (z1f rfl)) (z00 rfl) (zsf rfl rfl rfl rfl zhn rfl) (z0k (z00 rfl)))))))))))))))) rfl,fun M hM=>⟨σ1.length + 10,IsVec.app (q:=0) rfl rfl rfl hM,hM _ (Nat.le_add_right _ _),.ref (σ1.length + 6),.ref (σ1.length + 9),(by refine (z12).trans ?_;exact rfl),IsVec.app rfl rfl rfl hM,IsVec.app rfl rfl rfl hM⟩⟩,fun k σ1 hk=>⟨_,by exact z0m rfl (z0p (z03 z0b (z03 z0b (z04 z0l))) (of_decide_eq_true rfl) z1l z1k) (z00 rfl) (z3w (z4c rfl) (of_decide_eq_true rfl) (z7r hk))⟩⟩
end
theorem zsl {p:Nat}:z05 TT (d + 5) 1119 [.tup [.int 5,.ref p]] σ = .ok (.ref (σ.length + 1)) (σ++[.ns z2d,.inst 212 σ.length]):=by exact z19 rfl rfl (z2c rfl (z00 rfl) (z0i (z0t (z1a (z08 (z00 rfl) z0b rfl) (z49 rfl (z1a (z08 (z00 rfl) z0b rfl) (z49 rfl z6d))))) (k_f rfl (z07 (z0i (z08 (z00 rfl) z0b rfl) (k_f rfl (z07 (z0i (z08 (z00 rfl) z0b rfl) (k_f rfl (z07 (z0i (z08 (z00 rfl) z0b rfl) (k_f rfl (z07 (z0i (z08 (z00 rfl) z0b rfl) (k_t rfl (z0k (z0g rfl rfl z0w (z7l z1l zmt z1k)))))))))))))))))) rfl
theorem zsm {p:Nat}:z05 TT (d + 5) 1119 [.tup [.int 6,.ref p]] σ = .ok (.ref (σ.length + 1)) (σ++[.ns [(S "kind",.str (S "builtin")),(S "name",.str (S "none")),(S "special",.bool false),(S "fn",.none),(S "group",.str (S "")),(S "attrs",.none)],.inst 305 σ.length]):=by exact z19 rfl rfl (z2c rfl (z00 rfl) (z0i (z0t (z1a (z08 (z00 rfl) z0b rfl) (z49 rfl (z1a (z08 (z00 rfl) z0b rfl) (z49 rfl z6d))))) (k_f rfl (z07 (z0i (z08 (z00 rfl) z0b rfl) (k_f rfl (z07 (z0i (z08 (z00 rfl) z0b rfl) (k_f rfl (z07 (z0i (z08 (z00 rfl) z0b rfl) (k_f rfl (z07 (z0i (z08 (z00 rfl) z0b rfl) (k_f rfl (z07 (z0k (z0g rfl rfl (z03 z0h (z03 z17 (z03 z0l (z04 z0h)))) (zho z1l zmt z1k))))))))))))))))))) rfl
theorem zb7 {p:Nat} (h0:0≤sort) (h7:sort < 7) (hp:σ[p]? = some (.list (picks.map .int))) (hk:∀ k∈picks,z94 k) (hl:picks.length < 100) (hM:∀ i,σ.length≤i→¬ M i) :
  ∃ v σ',z05 TT (d + 5) 1119 [.tup [.int sort,.ref p]] σ = .ok v σ'∧Ex M0 σ σ'∧OverV M σ' v sort picks:=by
 revert M d σ sort picks p;refine no_implicit_lambda% (z36 (z06 inferInstance (z06 inferInstance inferInstance)) ?_);generalize (e3 _ _).1 = M;generalize (e3 _ _).2.1 = d;generalize (e3 _ _).2.2 = σ;refine no_implicit_lambda% (z36 (z06 inferInstance (z06 inferInstance inferInstance)) ?_);generalize (e3 _ _).1 = sort;generalize (e3 _ _).2.1 = picks;generalize (e3 _ _).2.2 = p;unhygienic intros
 obtain hc:(sort = 0∨sort = 1)∨sort = 2∨sort = 3∨sort = 4∨sort = 5∨sort = 6:=by lia
 rcases hc with hs | rfl | rfl | rfl | rfl | rfl
 ·refine z0e (zhv (d:=d) (p:=p) (σ:=σ) hs) fun F e st=>?_
  obtain ⟨σ1,e2,x1⟩:=z65 (z7s sort) ((Ex.app (M:=M0)).list (fun h=>h) hp) hk hl st
  obtain hx:Ex M0 σ σ1:=Ex.app.trans x1
  refine ⟨_,_,e _ _ e2,hx.trans Ex.app,?_⟩
  unfold OverV
  rw [if_pos (by lia)]
  exact IsVec.app (q:=0) rfl rfl rfl fun i hi=>hM i (Nat.le_trans hx.1 hi)
 ·refine z0e (zky (d:=d) (p:=p) (σ:=σ)) fun F e st=>?_
  refine z0e (z65 (z7s 2) hp hk hl st) fun σ1 e2 x1=>?_
  exact ⟨_,_,e _ _ (by rw [List.length_map];lia) e2,x1.trans Ex.app,IsVec.app rfl rfl rfl fun i hi=>hM i (Nat.le_trans x1.1 hi)⟩
 ·refine z0e (zkz (d:=d) (p:=p) hM) fun F e st=>?_
  obtain ⟨ts,σ1,e2,x1,l1,r1⟩:=z30 (M:=M0) (elt:=F) (fun k y σ=>∀ t,(z0z 3 picks)[k]? = some t→Val M σ y t) hp (by simp;lia) (fun h=>h) (fun k y σ1 σ2 r x t ht=>(r t ht).ex x.of0) (fun k x σ1 hx x1=>by
   refine z1m (zcl hk hx) fun p hp zr62 hpk=>?_;obtain rfl:=zr62
   refine z27 (st p σ1 hpk x1.1) fun v τ e r=>?_
   exact ⟨_,_,e,Ex.app,fun t ht=>by rw [z5h (by decide) hp ht];exact r⟩)
  obtain ⟨v,σ2,e3,x2,r2⟩:=zhu (d:=d) (M:=M) (l:=σ1.length) (vs:=ts) (σ:=σ1++[.list ts]) (ts:=z0z 3 picks) z0y ⟨by rw [l1,z4l (by decide),List.length_map],fun k v t hv ht=>(r1 k v hv t ht).ex Ex.app⟩ (by rw [l1,List.length_map];exact Nat.lt_of_succ_le hl) (fun i hi=>hM i (Nat.le_trans x1.1 (Nat.le_trans (by simp) hi)))
  exact ⟨_,_,e _ _ _ _ e2 e3,(x1.trans Ex.app).trans x2,ts,r2,by rw [l1,z4l (by decide),List.length_map],fun k v t hv ht=>((r1 k v hv t ht).ex Ex.app).ex x2.of0⟩
 ·refine z0e (zl0 (d:=d) (p:=p) (σ:=σ)) fun F e st=>?_
  refine z0e (z65 (tri (.int 2) (.int 1) .none) hp hk hl st) fun σ1 e2 x1=>?_
  refine z0e (e _ _ e2) fun τ e3 r=>?_
  exact ⟨_,_,e3,x1.trans Ex.app,r M fun i hi=>hM i (Nat.le_trans x1.1 hi)⟩
 ·exact ⟨_,_,zsl,Ex.app,IsNull.new hM⟩
 ·exact ⟨_,_,zsm,Ex.app,_,_,_,rfl,z12,z0y,rfl,hM _ (Nat.le_add_right (List.length σ) 1),hM _ (Nat.le_refl (List.length σ)),rfl⟩
theorem zpq {code:AV} {g:Int} (hp:z94 g) (h:IsVec M σ v (S "character") [.str (S "u"),.str (S "v")] at_) (hc:code = tri (.int 2) (.int 1) .none g) :
  z05 TT (d + 1) 503 [v,code] σ = .ok (tri (.str (S "v")) (.str (S "u")) .none g) σ:=by
 obtain ⟨j,n,l,fs,rfl,h⟩:=h
 have h1:=h.i;have h2:=h.f;have h3:=h.kd;have h4:=h.it;have h5:=h.ls
 subst hc
 rcases hp with rfl | rfl | rfl
 ·refine (?_:z05 TT (d + 1) 503 [.ref j,.int 2] σ = .ok (.str (S "v")) σ)
  exact z19 rfl rfl (z0f rfl (z6s (z0t (z5t (z4u (z00 rfl) rfl) rfl (z92 (z29 (z1x rfl h1 h2 h3 rfl) rfl) rfl))) (z7j rfl (z1x rfl h1 h2 h4 rfl))) (k_z (z0t (z5t (z4u (z00 rfl) rfl) rfl (z92 (z0t (z5t (z4u (z00 rfl) rfl) rfl (zac (z2q (zmr z0b (z00 rfl) rfl (ch_t rfl (z0r rfl rfl (z3r rfl) (z3q h5 (of_decide_eq_true rfl))) rfl))) rfl))) rfl))) (z0k (z6s (z4u (z00 rfl) rfl) (z60 rfl (z0m rfl (z00 rfl) (z1p (z00 rfl) z0b rfl) (z3w h5 (of_decide_eq_true rfl) rfl))))))) rfl
 ·refine (?_:z05 TT (d + 1) 503 [.ref j,.int 1] σ = .ok (.str (S "u")) σ)
  exact z19 rfl rfl (z0f rfl (z6s (z0t (z5t (z4u (z00 rfl) rfl) rfl (z92 (z29 (z1x rfl h1 h2 h3 rfl) rfl) rfl))) (z7j rfl (z1x rfl h1 h2 h4 rfl))) (k_z (z0t (z5t (z4u (z00 rfl) rfl) rfl (z92 (z0t (z5t (z4u (z00 rfl) rfl) rfl (zac (z2q (zmr z0b (z00 rfl) rfl (ch_t rfl (z0r rfl rfl (z3r rfl) (z3q h5 (of_decide_eq_true rfl))) rfl))) rfl))) rfl))) (z0k (z6s (z4u (z00 rfl) rfl) (z60 rfl (z0m rfl (z00 rfl) (z1p (z00 rfl) z0b rfl) (z3w h5 (of_decide_eq_true rfl) rfl))))))) rfl
 ·refine (?_:z05 TT (d + 1) 503 [.ref j,.none] σ = .ok .none σ)
  exact z19 rfl rfl (z0f rfl (z6s (z0t (z5t (z4u (z00 rfl) rfl) rfl (z92 (z29 (z1x rfl h1 h2 h3 rfl) rfl) rfl))) (z7j rfl (z1x rfl h1 h2 h4 rfl))) (k_z (z0t (z5t (z4u (z00 rfl) rfl) rfl (z92 (z0t (zac (z4u (z00 rfl) rfl) rfl)) rfl))) (z0k (z6s (z4u (z00 rfl) rfl) (z7j rfl z0l))))) rfl
end
end
section
open PySem PySem.W
section
variable {M:Nat→Prop} {d:Nat} {σ σ':AS} {j n l a:Nat} {x v at_:AV} {fs:List (Str×AV)} {xs ys vs:List AV} {k:Str} {t:z31} {ts:List z31} {sort:Int} {picks:List Int}
theorem zhw {f:Int→AV} {picks:List Int} {k:Nat} {x:AV} (hx:(picks.map f)[k]? = some x):∃ p,picks[k]? = some p∧x = f p:=by
 rw [List.getElem?_map] at hx
 cases e:picks[k]? with
 | none=>rw [e] at hx;exact nn hx
 | some p=>rw [e] at hx;obtain rfl:=Option.some.inj hx;exact ⟨p,rfl,rfl⟩
theorem zdv {σ1:AS} {kd:Str} {x:AV} (hM:∀ i,σ1.length≤i→¬ M i):IsVec M (σ1++[.list [x],.ns (z3s (.str kd) (.ref σ1.length) .none),.inst 262 (σ1.length + 1)]) (.ref (σ1.length + 2)) kd [x] .none :=
 IsVec.app (q:=0) rfl rfl rfl hM
theorem zhx {p:Int} (h:sort < 3) (h0:0≤sort):z7q sort p = (kindOf sort,[z7s sort p]):=by
 obtain hc:sort = 0∨sort = 1∨sort = 2:=by lia
 rcases hc with rfl | rfl | rfl <;> rfl
theorem q_in {c:Bool} (h:σ[l]? = some (.list xs)) (hs:zg7 k xs = some c):z8b σ .In (.str k) (.ref l) = some c:=by
 refine (?_:(z34 σ l).bind _ = _)
 rw [z61 h];exact hs
theorem zpr (h1:σ[j]? = some (.inst 212 n)) (h2:σ[n]? = some (.ns z2d)):z05 TT (d + 5) 496 [.ref j] σ = .ok (.ref σ.length) (σ++[.list []]):=by exact z19 rfl rfl (z0i (z08 (z2p rfl (z2k h1 h2 rfl rfl)) z0h (z14 z02 z02)) (k_t rfl (z0k (z0p z0w (of_decide_eq_true rfl) z1l z1k)))) rfl
theorem zps (h1:σ[j]? = some (.inst 262 n)) (h2:σ[n]? = some (.ns fs)) (h3:look fs (S "kind") = some (.str (S "list"))) (h4:look fs (S "items") = some (.ref l)):∃ F:AV→AS→Res AV,(∀ ys σ1,z3y (.ref l) F σ = .ok (.ref σ1.length) (σ1++[.list ys])→z05 TT (d + 5) 496 [.ref j] σ = .ok (.ref σ1.length) (σ1++[.list ys])) ∧
  ∀ x σ1 σ2,z05 TT (d + 4) 449 [x] σ1 = .ok x σ2→F x σ1 = .ok x σ2:=by
 obtain ea:=@z4r (d + 3) σ j n fs (S "list") false h1 h2 h3 rfl
 exact ⟨_,fun ys σ1 hc=>by exact z19 rfl rfl (z0i (z08 (z2p rfl (z2k h1 h2 h3 rfl)) z0h (z14 z02 z02)) (k_f rfl (z07 (z0i (z2q (z13 rfl (z0r rfl rfl (z03 (z00 rfl) (z04 (z00 rfl))) (zb4 h1 h2 rfl)) rfl)) (k_f rfl (z07 (z0i (z2q (z13 rfl (z0g rfl rfl (z04 (z00 rfl)) ea) rfl)) (k_t rfl (z0k (z2u rfl rfl (z2p rfl (z2k h1 h2 h4 rfl)) hc)))))))))) rfl,fun x σ1 σ2 h=>by exact z0g rfl rfl (z04 (z00 rfl)) h⟩
noncomputable def newV (k:Str) (x:AV) (σ:AS):AS:=σ++[.list [x],.ns (z3s (.str k) (.ref σ.length) .none),.inst 262 (σ.length + 1)]
noncomputable def PlF (d j:Nat) (l:Nat) (k:Str) (σ σ0:AS) (F:AV→AS→Res AV):Prop:=(∀ ys σ1,z3y (.ref l) F σ0 = .ok (.ref σ1.length) (σ1++[.list ys])→z05 TT (d + 5) 496 [.ref j] σ = .ok (.ref σ1.length) (σ1++[.list ys])) ∧
  ∀ x σ1 n fs,σ1[j]? = some (.inst 262 n)→σ1[n]? = some (.ns fs)→look fs (S "kind") = some (.str k)→F x σ1 = .ok (.ref (σ1.length + 2)) (newV k x σ1)
theorem zsn (h1:σ[j]? = some (.inst 262 n)) (h2:σ[n]? = some (.ns fs)) (h3:look fs (S "kind") = some (.str k)) (h4:look fs (S "items") = some (.ref l)) (hk:PyData.strOk k = true) (hn:(k == S "NULL") = false) (hi:z4j .And (k == S "integer") = true) (hj:(k == S "integer") = false) (ha:(S "logical" == k || (S "integer" == k || (S "double" == k || (S "character" == k || false)))) = true):∃ F,PlF d j l k σ σ F:=by
 obtain ea:=@z4r (d + 3) σ j n fs k true h1 h2 h3 ha
 refine ⟨_,fun ys σ1 hc=>by exact z19 rfl rfl (z0i (z08 (z2p rfl (z2k h1 h2 h3 rfl)) z0h (z14 hk z02)) (k_f hn (z07 (z0i (z2q (z13 rfl (z0r rfl rfl (z03 (z00 rfl) (z04 (z00 rfl))) (zb4 h1 h2 rfl)) rfl)) (k_f rfl (z07 (z0i (z2q (z13 rfl (z0g rfl rfl (z04 (z00 rfl)) ea) rfl)) (k_f rfl (z07 (z0i (z0t (z1a (z08 (z2p rfl (z2k h1 h2 h3 rfl)) z0h (z14 hk z02)) (z48 hi))) (k_f hj (z07 (z0k (z2u rfl rfl (z2p rfl (z2k h1 h2 h4 rfl)) hc)))))))))))))) rfl,fun x σ1 n fs h1 h2 h3=>?_⟩
 exact z0g rfl rfl (z03 (z2p rfl (z2k h1 h2 h3 rfl)) (z04 (z0p (z04 (z00 rfl)) (of_decide_eq_true rfl) z1l z1k))) (z25 (z22 rfl) (z22 rfl) (z1f rfl))
theorem zso (h1:σ[j]? = some (.inst 262 n)) (h2:σ[n]? = some (.ns fs)) (h3:look fs (S "kind") = some (.str (S "integer"))) (h4:look fs (S "items") = some (.ref l)) (h5:look fs (S "attrs") = some .none):∃ F,PlF d j l (S "integer") σ (σ++[.list []]) F:=by
 obtain ea:=@z4r (d + 3) σ j n fs (S "integer") true h1 h2 h3 rfl
 obtain ec:=@z9r (d + 2) σ j n fs _ _ h1 h2 h5 z1l z1k
 refine ⟨_,fun ys σ1 hc=>by exact z19 rfl rfl (z0i (z08 (z2p rfl (z2k h1 h2 h3 rfl)) z0h (z14 z02 z02)) (k_f rfl (z07 (z0i (z2q (z13 rfl (z0r rfl rfl (z03 (z00 rfl) (z04 (z00 rfl))) (zb4 h1 h2 rfl)) rfl)) (k_f rfl (z07 (z0i (z2q (z13 rfl (z0g rfl rfl (z04 (z00 rfl)) ea) rfl)) (k_f rfl (z07 (z0i (z0t (z1a (z08 (z2p rfl (z2k h1 h2 h3 rfl)) z0h (z14 z02 z02)) (z49 rfl (z1a (z08 z0h (z0g rfl rfl (z04 (z00 rfl)) ec) (q_in (z4c rfl) rfl)) (z48 rfl))))) (k_f rfl (z07 (z0k (z2u rfl rfl (z2p rfl (z2k (z0n h1) (z0n h2) h4 rfl)) hc)))))))))))))) rfl,fun x σ1 n fs h1 h2 h3=>?_⟩
 exact z0g rfl rfl (z03 (z2p rfl (z2k h1 h2 h3 rfl)) (z04 (z0p (z04 (z00 rfl)) (of_decide_eq_true rfl) z1l z1k))) (z25 (z22 rfl) (z22 rfl) (z1f rfl))
theorem zvm (h0:0≤sort) (h3:sort < 3) (h:zsj M σ j n l fs (kindOf sort) xs .none):∃ σ0 F,Ex M0 σ σ0∧PlF d j l (kindOf sort) σ σ0 F:=by
 obtain hc:sort = 0∨sort = 1∨sort = 2:=by lia
 rcases hc with rfl | rfl | rfl
 ·obtain ⟨F,e⟩:=zso (d:=d) h.i h.f h.kd h.it h.att
  exact ⟨_,F,Ex.app,e⟩
 ·obtain ⟨F,e⟩:=zsn (d:=d) h.i h.f h.kd h.it z02 rfl rfl rfl rfl
  exact ⟨_,F,Ex.refl,e⟩
 ·obtain ⟨F,e⟩:=zsn (d:=d) h.i h.f h.kd h.it z02 rfl rfl rfl rfl
  exact ⟨_,F,Ex.refl,e⟩
theorem zsp {lv cj cn cl:Nat} {cfs:List (Str×AV)} (h1:σ[j]? = some (.inst 262 n)) (h2:σ[n]? = some (.ns fs)) (h3:look fs (S "kind") = some (.str (S "integer"))) (h4:look fs (S "items") = some (.ref l)) (h5:look fs (S "attrs") = some (.ref a)) (h6:σ[a]? = some (.sd [(S "levels",.ref lv),(S "class",.ref cj)]))
  (c1:σ[cj]? = some (.inst 262 cn)) (c2:σ[cn]? = some (.ns cfs)) (c3:look cfs (S "items") = some (.ref cl)) (c4:σ[cl]? = some (.list [.str (S "factor")])):∃ F:AV→AS→Res AV,(∀ ys σ1,z3y (.ref l) F (σ++[.list [.str (S "factor")]]) = .ok (.ref σ1.length) (σ1++[.list ys])→z05 TT (d + 5) 496 [.ref j] σ = .ok (.ref σ1.length) (σ1++[.list ys])) ∧
  ∀ x y σ1,z05 TT (d + 4) 503 [.ref lv,x] σ1 = .ok y σ1→F x σ1 = .ok (.ref (σ1.length + 2)) (newV (S "character") y σ1):=by
 obtain ea:=@z4r (d + 3) σ j n fs (S "integer") true h1 h2 h3 rfl
 obtain ec:=@z9s (d + 2) σ j n a cj cn cl fs cfs [.str (S "factor")] _ _ _ h1 h2 h5 h6 rfl c1 c2 c3 c4 (of_decide_eq_true rfl) z1l z1k
 obtain eg:=@z7n (d + 3) (σ++[.list [.str (S "factor")]]) j n a fs (S "levels") [(S "levels",.ref lv),(S "class",.ref cj)] (.ref lv) (z0n h1) (z0n h2) h5 (z0n h6) rfl
 refine ⟨_,fun ys σ1 hc=>by exact z19 rfl rfl (z0i (z08 (z2p rfl (z2k h1 h2 h3 rfl)) z0h (z14 z02 z02)) (k_f rfl (z07 (z0i (z2q (z13 rfl (z0r rfl rfl (z03 (z00 rfl) (z04 (z00 rfl))) (zb4 h1 h2 rfl)) rfl)) (k_f rfl (z07 (z0i (z2q (z13 rfl (z0g rfl rfl (z04 (z00 rfl)) ea) rfl)) (k_f rfl (z07 (z0i (z0t (z1a (z08 (z2p rfl (z2k h1 h2 h3 rfl)) z0h (z14 z02 z02)) (z49 rfl (z1a (z08 z0h (z0g rfl rfl (z04 (z00 rfl)) ec) (q_in (z4c rfl) rfl)) (z49 rfl z6d))))) (k_t rfl (z0f rfl (z0g rfl rfl (z03 (z00 rfl) (z04 z0h)) eg) (z0k (z2u rfl rfl (z2p rfl (z2k (z0n h1) (z0n h2) h4 rfl)) hc)))))))))))))) rfl,fun x y σ1 h=>?_⟩
 exact z0g rfl rfl (z03 z0h (z04 (z0p (z04 (z0g rfl rfl (z03 (z00 rfl) (z04 (z00 rfl))) h)) (of_decide_eq_true rfl) z1l z1k))) (z25 (z22 rfl) (z22 rfl) (z1f rfl))
theorem RelAll.of (h5:sort < 5) (hl:ys.length = picks.length) (h:∀ (k:Nat) (y:AV),ys[k]? = some y→∀ t,(z0z sort picks)[k]? = some t→Val M σ y t) (x:Ex M σ σ'):RelAll (Val M σ') ys (z0z sort picks) :=
 ⟨by rw [hl,z4l h5],fun k v t hv ht=>(h k v hv t ht).ex x⟩
noncomputable def zb8 (M:Nat→Prop) (d:Nat) (σ:AS) (v:AV) (ts:List z31):Prop:=∃ r vs σ',z05 TT (d + 5) 496 [v] σ = .ok (.ref r) σ'∧Ex M0 σ σ'∧σ'[r]? = some (.list vs)∧σ.length≤r∧RelAll (Val M σ') vs ts
theorem zpt (h:IsVec M σ v (kindOf sort) (picks.map (z7s sort)) .none) (h0:0≤sort) (h3:sort < 3) (hl:picks.length < 100) (hM:∀ i,σ.length≤i→¬ M i):zb8 M d σ v (z0z sort picks):=by
 have hs:=h
 obtain ⟨j,n,l,fs,rfl,h⟩:=h
 refine z1c (zvm (d:=d) h0 h3 h) fun σ0 F x0 e st=>?_
 obtain ⟨ys,σ1,e2,x1,l1,r1⟩:=z30 (M:=M0) (elt:=F) (fun k y σ=>∀ t,(z0z sort picks)[k]? = some t→Val M σ y t) (x0.list (fun h=>h) h.ls) (by rw [List.length_map];lia) (fun h=>h) (fun k y σ1 σ2 r x t ht=>(r t ht).ex x.of0) (fun k x σ1 hx x1=>by
  refine z0e (zhw hx) fun p hp zq5n2=>?_;subst zq5n2
  refine z3p (hs.ex (x0.trans x1).of0) fun j' n' l' fs' q1 h'=>?_
  cases q1
  exact ⟨_,_,st _ _ _ _ h'.i h'.f h'.kd,Ex.app,fun t ht=>by rw [z5h (by lia) hp ht,zhx h3 h0];exact .inl ⟨_,zdv fun i hi=>hM i (Nat.le_trans (x0.trans x1).1 hi)⟩⟩)
 rw [List.length_map] at l1
 exact ⟨_,_,_,e _ _ e2,(x0.trans x1).trans Ex.app,z0y,(x0.trans x1).1,.of (by lia) l1 r1 Ex.app⟩
theorem zsq (h:IsVec M σ v (S "list") vs .none) (hv:RelAll (Val M σ) vs ts) (hl:ts.length < 100):zb8 M d σ v ts:=by
 obtain ⟨j,n,l,fs,rfl,h⟩:=h
 refine z0e (zps (d:=d) h.i h.f h.kd h.it) fun F e st=>?_
 obtain ⟨ys,σ1,e2,x1,l1,r1⟩:=z30 (M:=M0) (elt:=F) (fun k y σ=>vs[k]? = some y) h.ls (by rw [hv.1];lia) (fun h=>h) (fun k y σ1 σ2 r x=>r) (fun k x σ1 hx x1=>by
  obtain hk:k < ts.length:=by rw [← hv.1];exact (List.getElem?_eq_some_iff.mp hx).1
  refine z0e (z9u (d:=d + 3) ((hv.2 k x _ hx (List.getElem?_eq_getElem hk)).ex x1.of0)) fun σ2 e x2=>?_
  exact ⟨x,σ2,st _ _ _ e,x2,hx⟩)
 have hy:ys = vs:=by
  apply List.ext_getElem?
  intro k
  by_cases hk:k < ys.length
  ·refine (List.getElem?_eq_getElem hk).trans ?_;exact (r1 k _ (List.getElem?_eq_getElem hk)).symm
  ·rw [List.getElem?_eq_none (Nat.le_of_not_lt hk),List.getElem?_eq_none (by lia)]
 subst hy
 exact ⟨_,_,_,e _ _ e2,x1.trans Ex.app,z0y,x1.1,(hv.ex x1.of0).ex Ex.app⟩
theorem zsr (h:IsVec M σ v (S "integer") (picks.map (tri (.int 2) (.int 1) .none)) (.ref a)) (hf:FactorAt M σ a) (hk:∀ k∈picks,z94 k) (hl:picks.length < 100) (hM:∀ i,σ.length≤i→¬ M i):zb8 M d σ v (z0z 4 picks):=by
 revert M d σ a v picks;refine no_implicit_lambda% (z36 (z06 inferInstance (z06 inferInstance inferInstance)) ?_);generalize (e3 _ _).1 = M;generalize (e3 _ _).2.1 = d;generalize (e3 _ _).2.2 = σ;refine no_implicit_lambda% (z36 (z06 inferInstance (z06 inferInstance inferInstance)) ?_);generalize (e3 _ _).1 = a;generalize (e3 _ _).2.1 = v;generalize (e3 _ _).2.2 = picks;unhygienic intros
 obtain ⟨j,n,l,fs,rfl,h⟩:=h
 revert j n l fs;refine no_implicit_lambda% (z36 (z06 inferInstance (z06 inferInstance inferInstance)) ?_);generalize (e3 _ _).1 = j;generalize (e3 _ _).2.1 = n;generalize (e3 _ _).2.2 = l;refine no_implicit_lambda% (z2b inferInstance ?_);generalize (e1 _ _) = fs;unhygienic intros
 obtain ⟨ma,lv,cv,ea,hlv,cj,cn,cl,cfs,rfl,hc⟩:=hf
 have hlv0:=hlv
 refine z3p hlv fun lj ln ll lfs zr24 hl2=>?_;obtain rfl:=zr24
 refine z0e (zsp (d:=d) h.i h.f h.kd h.it h.att ea hc.i hc.f hc.it hc.ls) fun F e st=>?_
 have x0:Ex M0 σ (σ++[.list [.str (S "factor")]]):=Ex.app
 obtain ⟨ys,σ1,e2,x1,l1,r1⟩:=z30 (M:=M0) (elt:=F) (fun k y σ=>∀ t,(z0z 4 picks)[k]? = some t→Val M σ y t) (x0.list (fun h=>h) h.ls) (by rw [List.length_map];lia) (fun h=>h) (fun k y σ1 σ2 r x t ht=>(r t ht).ex x.of0) (fun k x σ1 hx x1=>by
  refine z0e (zhw hx) fun p hp zq14n2=>?_;obtain rfl:=zq14n2
  exact ⟨_,_,st _ _ _ (zpq (hk p (List.mem_of_getElem? hp)) (hlv0.ex (x0.trans x1).of0) rfl),Ex.app,fun t ht=>by rw [z5h (by decide) hp ht];exact .inl ⟨_,zdv fun i hi=>hM i (Nat.le_trans (x0.trans x1).1 hi)⟩⟩)
 rw [List.length_map] at l1
 exact ⟨_,_,_,e _ _ e2,(x0.trans x1).trans Ex.app,z0y,(x0.trans x1).1,.of (by decide) l1 r1 Ex.app⟩
theorem z9x (h:OverV M σ v sort picks) (h0:0≤sort) (h6:sort < 6) (hk:∀ k∈picks,z94 k) (hl:picks.length < 100) (hM:∀ i,σ.length≤i→¬ M i):zb8 M d σ v (z0z sort picks):=by
 by_cases h3:sort < 3
 ·unfold OverV at h
  rw [if_pos h3] at h
  exact zpt h h0 h3 hl hM
 ·obtain hc:sort = 3∨sort = 4∨sort = 5:=by lia
  rcases hc with rfl | rfl | rfl
  ·obtain ⟨vs,h,hv⟩:∃ vs,IsVec M σ v (S "list") vs .none∧RelAll (Val M σ) vs (z0z 3 picks):=h
   exact zsq h hv (by rw [z4l (by decide)];exact hl)
  ·obtain ⟨a,h,hf⟩:∃ a,IsVec M σ v (S "integer") (picks.map (tri (.int 2) (.int 1) .none)) (.ref a)∧FactorAt M σ a:=h
   exact zsr h hf hk hl hM
  ·obtain ⟨j,n,rfl,e2,e3,m1,m2⟩:IsNull M σ v:=h
   exact ⟨_,_,_,zpr e2 e3,Ex.app,z0y,Nat.le_refl _,rfl,fun k v t h=>by simp at h⟩
theorem z8g (h:OverV M σ v 6 picks):z05 TT (d + 5) 496 [v] σ = .exc (S "invalid for() loop sequence") σ:=by
 obtain ⟨j,n,fs,rfl,e2,e3,e4,m1,m2,_⟩:∃ j n fs,v = .ref j∧σ[j]? = some (.inst 305 n)∧σ[n]? = some (.ns fs)∧look fs (S "kind") = some (.str (S "builtin"))∧¬ M j∧¬ M n∧zg5 (.ns fs):=h
 exact zhj rfl rfl (z0i (z08 (z2p rfl (z2k e2 e3 e4 rfl)) z0h (z14 z02 z02)) (k_f rfl (z07 (z0i (z2q (z13 rfl (z0r rfl rfl (z03 (z00 rfl) (z04 (z00 rfl))) (zb4 e2 e3 rfl)) rfl)) (k_t rfl (zcf rfl rfl rfl))))))
end
end
section
open PySem PySem.W
section
variable {d:Nat} {σ τ τ' σ':AS} {fs fs':List (Str×AV)} {p:AV} {vs:List AV} {sc:List (Str×NameKind)} {l:Bool} {r:Res AV} {o:AV} {m:Str} {i j n:Nat} {kd:MK} {C A:Addr}
theorem zdw {i:Nat} (hc:TT.fn A = none∧TT.cls A = some i) (h:z05 TT d i (.ref (σ.length + 1) :: vs) (σ++[.ns [],.inst A (σ.length + 0)]) = .ok .none σ'):z05 TT (d + 1) A vs σ = .ok (.ref (σ.length + 1)) σ':=by
 rw [z74 hc.1 hc.2,show z05 TT d i (.ref (σ.length + 1) :: vs) (σ++[.ns [],.inst A σ.length]) = _ from h];rfl
theorem zss {f:Addr} (h:z05 TT d f (o :: vs) σ = r):z6z (IE d sc l) (.fn f) σ o m vs = r:=h
theorem zhy (h1:σ[j]? = some (.inst C n)) (h2:σ[n]? = some (.ns fs)) (h3:(if (TT.cls C).isSome = true then (TT.meth C m).map MK.fn else none) = some kd):zaf (IE d sc l) σ (.ref j) m = some kd:=by
 show (match mkO _ σ[j]? with | some k=>some k | none=>mkI _ σ j _) = _
 rw [h1]
 show (z3x σ j).bind _ = _
 rw [z9q h1 h2]
 exact h3
noncomputable def z8h (n:Int) (parent:AV) (fr lk:Nat):List (Str×AV):=[(S "kind",.str (S "environment")),(S "number",.int n),(S "parent",parent),(S "attrs",.none),(S "frame",.ref fr),(S "locked",.bool false),(S "locks",.ref lk)]
theorem z9y {n:Int} {p:AV} {a i f l:Nat} {σ':AS} (ha:At σ 0 a) (hi:At σ 1 i) (hf:At σ 2 f) (hl:At σ 3 l) (hn:App σ [.ns (z8h n p f l),.inst 327 a,.sd [],.sd []] σ'):z05 TT (d + 2) 327 [.int n,p] σ = .ok (.ref i) σ':=by
 cases ha;cases hi;cases hf;cases hl;cases hn
 refine zdw (i:=324) ⟨rfl,rfl⟩ ?_
 exact z19 rfl rfl (z21 rfl z0h (z00 rfl) (z1d rfl rfl rfl rfl rfl rfl) (z21 rfl (z00 rfl) (z00 rfl) (z1d rfl rfl rfl rfl rfl rfl) (z21 rfl (z00 rfl) (z00 rfl) (z1d rfl rfl rfl rfl rfl rfl) (z21 rfl (z00 rfl) (z00 rfl) (z1d rfl rfl rfl rfl rfl rfl) (z21 rfl (z5f rfl z5g rfl (z22 rfl) (z1f rfl)) (z00 rfl) (z1d rfl rfl rfl rfl rfl rfl) (z21 rfl z17 (z00 rfl) (z1d rfl rfl rfl rfl rfl rfl) (z21 rfl (z5f rfl z5g rfl (z22 rfl) (z1f rfl)) (z00 rfl) (z1d rfl rfl rfl rfl rfl rfl) (z07 rfl)))))))) rfl
noncomputable abbrev zst (b:Nat) (z:Int) (p:AV) (a f l:Nat):List AO:=[.ns (z8h z p (b + f) (b + l)),.inst 327 (b + a),.sd [],.sd []]
theorem z7t {z:Int} {a i f l:Nat} (h1:τ[j]? = some (.inst 1058 (σ.length + n))) (h2:τ[n]? = some (.ns fs)) (h3:look fs (S "next_number") = some (.int z)) (hl:fs.length < 1000) (hp:z1e fs (S "next_number") (.int (z + 1)) = fs') (e0:τ.length + 0 = a) (e1:τ.length + 1 = i) (e2:τ.length + 2 = f) (e3:τ.length + 3 = l)
  (ht:(τ++zst σ.length z p a f l).set n (.ns fs') = τ'):z05 TT (d + 3) 874 [.ref (σ.length + j),p] (σ++τ) = .ok (.ref (σ.length + i)) (σ++τ'):=by
 have ne:=z9y (d:=d) (n:=z) (p:=p) (z22 (σ:=σ) e0) (z22 e1) (z22 e2) (z22 e3) (z1f rfl)
 subst ht;subst hp
 have g1:(σ++(τ++zst σ.length z p a f l))[σ.length + j]? = some (.inst 1058 (σ.length + n)):=z4f (z0n h1)
 have g2:(σ++(τ++zst σ.length z p a f l))[σ.length + n]? = some (.ns fs):=z4f (z0n h2)
 rw [← Nat.add_sub_cancel_left (n:=σ.length) (m:=n),← List.set_append_right _ _ (Nat.le_add_right ..)]
 have k1:=z4f (σ:=σ) h1
 have k2:=z4f (σ:=σ) h2
 exact z19 rfl rfl (z0f rfl (z0g rfl rfl (z03 (z2p rfl (z2k k1 k2 h3 rfl)) (z04 (z00 rfl))) ne) (z6e (z00 rfl) (z2k g1 g2 h3 rfl) z0b rfl (z4a g1 g2 hl rfl rfl) (z0k (z00 rfl)))) rfl
noncomputable def zbz (b:Nat) (next steps:Int) (vis:Bool):List (Str×AV):=[(S "limit",.int 20000),(S "most_frames",.int 40),(S "steps",.int steps),(S "next_number",.int next),(S "base",.ref (b + 3)),(S "globals",.ref (b + 7)),(S "frames",.ref (b + 10)),(S "out",.ref (b + 11)),
 (S "warnings",.ref (b + 12)),(S "handlers",.ref (b + 13)),(S "restarts",.ref (b + 14)),(S "targets",.int 0),(S "visible",.bool vis),(S "current",.none),(S "dispatcher",.none),(S "signaller",.none),(S "warner",.none),(S "deparser",.none),(S "s4",.none)]
noncomputable def zb9 (b:Nat) (next:Int):List AO:=[.ns (zbz b next 0 true),.inst 1058 b,.ns (z8h 0 .none (b + 4) (b + 5)),.inst 327 (b + 2),.sd [],.sd [],.ns (z8h 1 (.ref (b + 3)) (b + 8) (b + 9)),.inst 327 (b + 6),.sd [],.sd [],.list [],.list [],.list [],.list [],.list []]
theorem zcm:z05 TT (d + 6) 1058 [] σ = .ok (.ref (σ.length + 1)) (σ++zb9 σ.length 2):=by
 refine zdw (i:=867) ⟨rfl,rfl⟩ ?_
 apply z19 rfl rfl
 apply z21 rfl (z00 rfl) (z00 rfl) (z1d rfl rfl rfl rfl rfl rfl)
 apply z21 rfl (z00 rfl) (z00 rfl) (z1d rfl rfl rfl rfl rfl rfl)
 apply z21 rfl z0b (z00 rfl) (z1d rfl rfl rfl rfl rfl rfl)
 apply z21 rfl z0b (z00 rfl) (z1d rfl rfl rfl rfl rfl rfl)
 apply z21 rfl (z0j rfl (z00 rfl) (zhy (z4f rfl) (z4f rfl) rfl) (z04 z0l) (zss (by apply z7t rfl rfl rfl (of_decide_eq_true rfl) rfl rfl rfl rfl rfl;dsimp only [zst,List.set_cons_zero,List.cons_append,List.nil_append] <;> exact rfl)))
 exact z00 rfl
 exact z1d rfl rfl rfl rfl rfl rfl
 apply z21 rfl (z0j rfl (z00 rfl) (zhy (z4f rfl) (z4f rfl) rfl) (z04 (z2p rfl (z2k (z4f rfl) (z4f rfl) rfl rfl))) (zss (by apply z7t rfl rfl rfl (of_decide_eq_true rfl) rfl rfl rfl rfl rfl;dsimp only [zst,List.set_cons_zero,List.cons_append,List.nil_append] <;> exact rfl)))
 exact z00 rfl
 exact z1d rfl rfl rfl rfl rfl rfl
 show z0v _ _ _ (σ++[.ns [(S "limit",.int 20000),(S "most_frames",.int 40),(S "steps",.int 0),(S "next_number",.int 2),(S "base",.ref (σ.length + 3)),(S "globals",.ref (σ.length + 7))],.inst 1058 (σ.length + 0),.ns (z8h 0 .none (σ.length + 4) (σ.length + 5)),.inst 327 (σ.length + 2),.sd [],.sd [],.ns (z8h 1 (.ref (σ.length + 3)) (σ.length + 8) (σ.length + 9)),.inst 327 (σ.length + 6),.sd [],.sd []]) = _
 apply z21 rfl (z0p z0w (of_decide_eq_true rfl) (z22 rfl) (z1f rfl)) (z00 rfl) (z1d rfl rfl rfl rfl rfl rfl)
 apply z21 rfl (z0p z0w (of_decide_eq_true rfl) (z22 rfl) (z1f rfl)) (z00 rfl) (z1d rfl rfl rfl rfl rfl rfl)
 dsimp only [List.set_cons_zero,List.set_cons_succ,List.cons_append,List.nil_append]
 apply z21 rfl (z0p z0w (of_decide_eq_true rfl) (z22 rfl) (z1f rfl)) (z00 rfl) (z1d rfl rfl rfl rfl rfl rfl)
 apply z21 rfl (z0p z0w (of_decide_eq_true rfl) (z22 rfl) (z1f rfl)) (z00 rfl) (z1d rfl rfl rfl rfl rfl rfl)
 apply z21 rfl (z0p z0w (of_decide_eq_true rfl) (z22 rfl) (z1f rfl)) (z00 rfl) (z1d rfl rfl rfl rfl rfl rfl)
 apply z21 rfl z0b (z00 rfl) (z1d rfl rfl rfl rfl rfl rfl)
 apply z21 rfl z17 (z00 rfl) (z1d rfl rfl rfl rfl rfl rfl)
 apply z21 rfl z0l (z00 rfl) (z1d rfl rfl rfl rfl rfl rfl)
 apply z21 rfl z0l (z00 rfl) (z1d rfl rfl rfl rfl rfl rfl)
 apply z21 rfl z0l (z00 rfl) (z1d rfl rfl rfl rfl rfl rfl)
 dsimp only [List.set_cons_zero,List.set_cons_succ,List.cons_append,List.nil_append]
 apply z21 rfl z0l (z00 rfl) (z1d rfl rfl rfl rfl rfl rfl)
 apply z21 rfl z0l (z00 rfl) (z1d rfl rfl rfl rfl rfl rfl)
 apply z21 rfl z0l (z00 rfl) (z1d rfl rfl rfl rfl rfl rfl)
 exact z07 rfl
 exact rfl
theorem zfk:z05 TT (d + 3) 874 [.ref (σ.length + 1),.ref (σ.length + 7)] (σ++zb9 σ.length 2) = .ok (.ref (σ.length + 16)) (σ++(zb9 σ.length 3++[.ns (z8h 2 (.ref (σ.length + 7)) (σ.length + 17) (σ.length + 18)),.inst 327 (σ.length + 15),.sd [],.sd []])) :=
 z7t (n:=0) (fs:=zbz σ.length 2 0 true) rfl rfl rfl (of_decide_eq_true rfl) rfl rfl rfl rfl rfl rfl
noncomputable def zba (rw kc:Nat) (env:AV) (place:Int) (sk lp:Nat):List (Str×AV):=[(S "rows",.ref rw),(S "consts",.ref kc),(S "env",env),(S "place",.int place),(S "stack",.ref sk),(S "loops",.ref lp)]
theorem zvn {c cn rw kc:Nat} {env:AV} {cfs:List (Str×AV)} (h1:σ[c]? = some (.inst 827 cn)) (h2:σ[cn]? = some (.ns cfs)) (h3:look cfs (S "rows") = some (.ref rw)) (h4:look cfs (S "consts") = some (.ref kc)) :
  z05 TT (d + 2) 736 [.ref c,env] σ = .ok (.ref (σ.length + 1)) (σ++[.ns (zba rw kc env 0 (σ.length + 2) (σ.length + 3)),.inst 736 σ.length,.list [],.list []]):=by
 refine zdw (i:=733) ⟨rfl,rfl⟩ ?_
 exact z19 rfl rfl (z21 rfl (z2p rfl (z2k (z0n h1) (z0n h2) h3 rfl)) (z00 rfl) (z1d rfl rfl rfl rfl rfl rfl) (z21 rfl (z2p rfl (z2k (z0n h1) (z0n h2) h4 rfl)) (z00 rfl) (z1d rfl rfl rfl rfl rfl rfl) (z21 rfl (z00 rfl) (z00 rfl) (z1d rfl rfl rfl rfl rfl rfl) (z21 rfl z0b (z00 rfl) (z1d rfl rfl rfl rfl rfl rfl) (z21 rfl (z0p z0w (of_decide_eq_true rfl) (z22 rfl) (z1f rfl)) (z00 rfl) (z1d rfl rfl rfl rfl rfl rfl) (z21 rfl (z0p z0w (of_decide_eq_true rfl) (z22 rfl) (z1f rfl)) (z00 rfl) (z1d rfl rfl rfl rfl rfl rfl) (z07 rfl))))))) rfl
theorem zsu {e:AV}:z05 TT (d + 2) 827 [e] σ = .ok (.ref (σ.length + 1)) (σ++[.ns [(S "expr",e),(S "rows",.ref (σ.length + 2)),(S "consts",.ref (σ.length + 3)),(S "depth",.int 0)],.inst 827 σ.length,.list [],.list []]):=by
 refine zdw (i:=824) ⟨rfl,rfl⟩ ?_
 exact z19 rfl rfl (z21 rfl (z00 rfl) (z00 rfl) (z1d rfl rfl rfl rfl rfl rfl) (z21 rfl (z0p z0w (of_decide_eq_true rfl) (z22 rfl) (z1f rfl)) (z00 rfl) (z1d rfl rfl rfl rfl rfl rfl) (z21 rfl (z0p z0w (of_decide_eq_true rfl) (z22 rfl) (z1f rfl)) (z00 rfl) (z1d rfl rfl rfl rfl rfl rfl) (z21 rfl z0b (z00 rfl) (z1d rfl rfl rfl rfl rfl rfl) (z07 rfl))))) rfl
end
end
section
open PySem PySem.W
noncomputable def nm (x:Bool):Str:=if x then S "y" else S "x"
structure Mach where
 steps:Nat
 vis:Bool
 place:Nat
 stack:List AV
 loops:List AV
 vx:AV
 vy:AV
 eff:List AV
 asked:z9v
structure Pm where
 b:Nat
 rw:Nat
 kc:Nat
 rows:List AV
 consts:List AV
noncomputable def Mm (P:Pm):Nat→Prop:=fun i=>i = P.b∨i = P.b + 17∨i = P.b + 25∨i = P.b + 27∨i = P.b + 28∨i = P.b + 29∨i = P.b + 30
noncomputable def WinO (σ:AS) (b:Nat) (ws:List (Option AO)):Prop:=∀ k o,ws[k]? = some (some o)→σ[b + k]? = some o
noncomputable def AllO:List (Option AO)→Prop
 | []=>True
 | none :: r=>AllO r
 | some o :: r=>zg5 o∧AllO r
noncomputable def z7u (m:Mach):AO:=.sd [(S "x",m.vx),(S "y",m.vy)]
noncomputable def mw (P:Pm) (m:Mach):List (Option AO):=[some (.ns (zbz P.b 3 m.steps m.vis)),some (.inst 1058 P.b),none,none,none,none,none,none,none,none,none,none,none,none,none,
 some (.ns (z8h 2 (.ref (P.b + 7)) (P.b + 17) (P.b + 18))),some (.inst 327 (P.b + 15)),some (z7u m),some (.sd []),none,none,none,none,none,none,
 some (.ns (zba P.rw P.kc (.ref (P.b + 16)) m.place (P.b + 27) (P.b + 28))),some (.inst 736 (P.b + 25)),some (.list m.stack),some (.list m.loops),some (.list m.eff),some (zby m.asked)]
structure MR (P:Pm) (σ:AS) (m:Mach):Prop where
 w:WinO σ P.b (mw P m)
 rw:σ[P.rw]? = some (.list P.rows)
 kc:σ[P.kc]? = some (.list P.consts)
 lrw:P.rw < P.b
 lkc:P.kc < P.b
section
variable {P:Pm} {σ σ' τ:AS} {m m':Mach} {ws:List (Option AO)} {b k i j:Nat} {o o':AO} {M:Nat→Prop}
theorem AllO.mem:∀ {ws:List (Option AO)} {k:Nat},AllO ws→ws[k]? = some (some o)→zg5 o
 | none :: r,0,h,e=>by cases e
 | some p :: r,0,h,e=>by cases e;exact h.1
 | none :: r,k + 1,h,e=>AllO.mem (ws:=r) h e
 | some p :: r,k + 1,h,e=>AllO.mem (ws:=r) h.2 e
theorem z0d (e:σ[i]? = some o):(σ.set i o')[i]? = some o':=by rw [z64,e];rfl
theorem WinO.set (w:WinO σ b ws) (h:ws[k]? = some (some o')):WinO (σ.set (b + k) o) b (ws.set k (some o)):=fun j p e=>by
 by_cases hj:k = j
 ·subst hj
  rw [List.getElem?_set_self (List.getElem?_eq_some_iff.mp h).1] at e
  cases e
  exact z0d (w k _ h)
 ·rw [List.getElem?_set_ne hj] at e
  refine (z1n (by omega)).trans ?_;exact w j p e
theorem zdx {q:z9v}:zg5 (zby q):=by unfold zby;split <;> trivial
theorem zsv:AllO (mw P m):=⟨rfl,trivial,rfl,trivial,trivial,trivial,rfl,trivial,trivial,trivial,trivial,zdx,trivial⟩
theorem MR.len (h:MR P σ m):P.b + 30 < σ.length:=(List.getElem?_eq_some_iff.mp (h.w 30 _ rfl)).1
theorem MR.ex0 (h:MR P σ m) (x:Ex M0 σ σ'):MR P σ' m :=
 ⟨fun k o e=>x.exact (fun h=>h) (h.w k o e) (zsv.mem e),x.exact (fun h=>h) h.rw trivial,x.exact (fun h=>h) h.kc trivial,h.lrw,h.lkc⟩
theorem MR.app (h:MR P σ m):MR P (σ++τ) m:=h.ex0 Ex.app
theorem zmy (h:σ[i]? = some o) (hi:i < b):(σ.set (b + k) o')[i]? = some o:=by refine (z1n (Ne.symm (ktu_ne k hi))).trans ?_;exact h
theorem MR.set (h:MR P σ m) (hk:(mw P m)[k]? = some (some o')) (hm:(mw P m).set k (some o) = mw P m'):MR P (σ.set (P.b + k) o) m' :=
 ⟨hm ▸ h.w.set hk,zmy h.rw h.lrw,zmy h.kc h.lkc,h.lrw,h.lkc⟩
theorem MR.put (h:MR P σ m) (hi:P.b + 30 < i):MR P (σ.set i o) m :=
 have e:∀ j p,j≤P.b + 30→σ[j]? = some p→(σ.set i o)[j]? = some p:=fun j p hj e=>by refine (z1n (by lia)).trans ?_;exact e
 ⟨fun k o hk=>e _ _ (Nat.add_le_add_left (Nat.le_of_lt_succ (List.getElem?_eq_some_iff.mp hk).1) _) (h.w k o hk),e _ _ (by have:=h.lrw;lia) h.rw,e _ _ (by have:=h.lkc;lia) h.kc,h.lrw,h.lkc⟩
noncomputable def Mach.putV (m:Mach) (x:Bool) (v:AV):Mach:=⟨m.steps,m.vis,m.place,m.stack,m.loops,if x then m.vx else v,if x then v else m.vy,m.eff,m.asked⟩
noncomputable def Mach.var (m:Mach) (x:Bool):AV:=if x then m.vy else m.vx
theorem MR.setSteps (h:MR P σ m) {k:Nat}:MR P (σ.set P.b (.ns (zbz P.b 3 k m.vis))) { m with steps:=k }:=h.set (k:=0) rfl rfl
theorem MR.setVis (h:MR P σ m) {k:Bool}:MR P (σ.set P.b (.ns (zbz P.b 3 m.steps k))) { m with vis:=k }:=h.set (k:=0) rfl rfl
theorem MR.setPlace (h:MR P σ m) {k:Nat}:MR P (σ.set (P.b + 25) (.ns (zba P.rw P.kc (.ref (P.b + 16)) k (P.b + 27) (P.b + 28)))) { m with place:=k }:=h.set rfl rfl
theorem MR.setStack (h:MR P σ m) {k:List AV}:MR P (σ.set (P.b + 27) (.list k)) { m with stack:=k }:=h.set rfl rfl
theorem MR.setLoops (h:MR P σ m) {k:List AV}:MR P (σ.set (P.b + 28) (.list k)) { m with loops:=k }:=h.set rfl rfl
theorem MR.setEff (h:MR P σ m) {k:List AV}:MR P (σ.set (P.b + 29) (.list k)) { m with eff:=k }:=h.set rfl rfl
theorem MR.setAsked (h:MR P σ m) {k:z9v}:MR P (σ.set (P.b + 30) (zby k)) { m with asked:=k }:=h.set rfl rfl
theorem MR.setV (h:MR P σ m) {x:Bool} {v:AV}:MR P (σ.set (P.b + 17) (z7u (m.putV x v))) (m.putV x v):=by
 cases x
 ·exact h.set rfl rfl
 ·exact h.set rfl rfl
theorem Mm.in0:Mm P P.b:=.inl rfl
theorem Mm.in17:Mm P (P.b + 17):=.inr (.inl rfl)
theorem Mm.in25:Mm P (P.b + 25):=.inr (.inr (.inl rfl))
theorem Mm.in27:Mm P (P.b + 27):=.inr (.inr (.inr (.inl rfl)))
theorem Mm.in28:Mm P (P.b + 28):=.inr (.inr (.inr (.inr (.inl rfl))))
theorem Mm.in29:Mm P (P.b + 29):=.inr (.inr (.inr (.inr (.inr (.inl rfl)))))
theorem Mm.in30:Mm P (P.b + 30):=.inr (.inr (.inr (.inr (.inr (.inr rfl)))))
theorem Mm.gt {i:Nat} (hi:P.b + 30 < i):¬ Mm P i:=by unfold Mm;lia
theorem Mm.hi (h:MR P σ m) {i:Nat} (hi:σ.length≤i):¬ Mm P i:=Mm.gt (Nat.lt_of_lt_of_le h.len hi)
theorem hb1 (hj:(j == 0) = false) (h:σ[b + j]? = some o):(σ.set b o')[b + j]? = some o:=z62 (fun e=>by simp at hj;omega) h
theorem hb2 (hj:(j == 0) = false) (h:σ[b]? = some o):(σ.set (b + j) o')[b]? = some o:=z62 (fun e=>by simp at hj;omega) h
theorem hb3 (hj:(i == j) = false) (h:σ[b + j]? = some o):(σ.set (b + i) o')[b + j]? = some o:=z62 (fun e=>by simp at hj;omega) h
variable {r s l f:Nat} {n c p c' p':Int} {v v':Bool} {e q:AV}
theorem zsw:z1e (zbz b n c v) (Str.ofString "steps") (.int c') = zbz b n c' v:=rfl
theorem zdy:z1e (zbz b n c v) (Str.ofString "visible") (.bool v') = zbz b n c v':=rfl
theorem z5i:z1e (zba r k e p s l) (Str.ofString "place") (.int p') = zba r k e p' s l:=rfl
end
end
section
open PySem PySem.W
section
variable {P:Pm} {σ σ1 σ' τ:AS} {m m':Mach} {d:Nat} {t:z31} {v:AV} {k:Str} {rest:List AV} {sc:List (Str×NameKind)} {l:Bool} {ℓ ℓ' ℓ1:Loc} {e:Expr} {ss es:List Stmt} {st:List (List Stmt)} {p:Pos} {I:z1q} {M:Nat→Prop}
theorem z37 {β:Type} {turn:β→AS→Res (Ctl β)} {b b':β} {n:Nat} (h:turn b σ = .ok (.stop b') σ'):loopW turn (n + 1) b σ = .ok b' σ':=congrArg (zag _) h
noncomputable def z7v (t:Expr) (body:List Stmt) (I:z1q) (fl:z0o×Loc) (σ:AS):Res (Ctl (z0o×Loc)):=(z20 t I fl.2 (z09 t I fl.2) σ).bind fun c σ=>if c then (z39 body I fl.2 σ).bind fun fl σ=>z2v fl σ else .ok (.stop (.next,fl.2)) σ
theorem zcn:z72 (.While e ss [] p) I ℓ σ = loopW (z7v e ss I) z1i (.next,ℓ) σ:=by
 refine (?_:(if ([]:List Stmt).isEmpty = true then loopW (z7v e ss I) z1i (.next,ℓ) σ else .bad) = _)
 exact if_pos rfl
theorem zdz (h:z20 e I ℓ (z09 e I ℓ) σ = .ok true σ1) (h1:z0v [ss] I ℓ σ1 = .ok (.ret v,ℓ') σ'):z0v ((.While e ss [] p :: es) :: st) I ℓ σ = .ok (.ret v,ℓ') σ' :=
 zhi (zcn.trans (z37 (n:=3999) (show z7v e ss I (.next,ℓ) σ = .ok (.stop (.ret v,ℓ')) σ' from z0a h (z0a (zff ▸ h1) rfl))))
noncomputable def zpu (P:Pm) (σ:AS) (m:Mach):AS:=σ.set P.b (.ns (zbz P.b 3 ((m.steps + 1:Nat):Int) m.vis))
noncomputable def z1h (P:Pm) (σ:AS) (n:Int):AS:=σ.set (P.b + 25) (.ns (zba P.rw P.kc (.ref (P.b + 16)) n (P.b + 27) (P.b + 28)))
theorem MR.tick (h:MR P σ m):MR P (zpu P σ m) { m with steps:=m.steps + 1 }:=h.setSteps (k:=m.steps + 1)
theorem MR.placed (h:MR P σ m) {k:Nat}:MR P (z1h P σ k) { m with place:=k }:=h.setPlace
theorem zsx (h:MR P σ m) (hs:m.steps≤15000):z05 TT (d + 1) 889 [.ref (P.b + 1)] σ = .ok .none (zpu P σ m):=by
 obtain h1:=h.w 1 _ rfl
 obtain h2:=h.w 0 _ rfl
 obtain c1:decide ((m.steps:Int) + 1 > 20000) = false:=decide_eq_false (by lia)
 exact z19 rfl rfl (z6e (z00 rfl) (z2k h1 h2 rfl rfl) z0b rfl (z4a h1 h2 (of_decide_eq_true rfl) rfl zsw) (z0i (z08 (z1x rfl (hb1 rfl h1) (z0d h2) rfl rfl) (z1x rfl (hb1 rfl h1) (z0d h2) rfl rfl) rfl) (k_f c1 (z07 (z07 rfl))))) rfl
theorem zsy {t:Nat} (h:MR P σ m) (hs:m.steps≤15000):∃ σ',z05 TT (d + 2) 789 [.ref (P.b + 1),.ref (P.b + 26),.int t] σ = .ok .none σ' ∧
  MR P σ' { m with steps:=if t < m.place then m.steps + 1 else m.steps,place:=t }∧Ex (Mm P) σ σ':=by
 obtain h1:=h.w 26 _ rfl
 obtain h2:=h.w 25 _ rfl
 obtain i1:=h.w 1 _ rfl
 obtain i2:=h.w 0 _ rfl
 by_cases ht:t < m.place
 ·obtain e1:=zsx (d:=d) h hs
  obtain c1:decide ((t:Int) < m.place) = true:=decide_eq_true (Int.ofNat_lt.mpr ht)
  obtain k1:=h.tick.w 26 _ rfl
  obtain k2:=h.tick.w 25 _ rfl
  refine ⟨z1h P (zpu P σ m) t,?_,(if_pos ht).symm ▸ h.tick.placed,(Ex.set Mm.in0).trans (Ex.set Mm.in25)⟩
  exact z19 rfl rfl (z0i (z08 (z00 rfl) (z1x rfl h1 h2 rfl rfl) rfl) (k_t c1 (z0s rfl (z0j rfl (z00 rfl) (zhy i1 i2 rfl) z0w (zss e1)) (z07 (zmx rfl (z00 rfl) rfl (z4a k1 k2 (of_decide_eq_true rfl) rfl z5i) (z07 z23)))))) rfl
 ·obtain c1:decide ((t:Int) < m.place) = false:=decide_eq_false (fun q=>ht (Int.ofNat_lt.mp q))
  refine ⟨z1h P σ t,?_,(if_neg ht).symm ▸ h.placed,Ex.set Mm.in25⟩
  exact z19 rfl rfl (z0i (z08 (z00 rfl) (z1x rfl h1 h2 rfl rfl) rfl) (k_f c1 (z07 (zmx rfl (z00 rfl) rfl (z4a h1 h2 (of_decide_eq_true rfl) rfl z5i) (z07 z23))))) rfl
theorem zsz (x:Bool):z05 TT (d + 1) 677 [.str (nm x)] σ = .ok (.bool false) σ:=by
 cases x
 ·refine (?_:z05 TT (d + 1) 677 [.str (S "x")] σ = _)
  exact z19 rfl rfl (k_y (z0t (zac (z24 (z0r rfl rfl (z3r rfl) rfl) rfl) rfl)) (z0k z17)) rfl
 ·refine (?_:z05 TT (d + 1) 677 [.str (S "y")] σ = _)
  exact z19 rfl rfl (k_y (z0t (zac (z24 (z0r rfl rfl (z3r rfl) rfl) rfl) rfl)) (z0k z17)) rfl
end
end
section
open PySem PySem.W
section
variable {P:Pm} {σ σ1 σ' τ:AS} {m m':Mach} {d:Nat} {t:z31} {v c:AV} {k:Str} {rest st:List AV} {i j n:Nat} {fs:List (Str×AV)} {M:Nat→Prop}
theorem zl1 {x:Bool} (h:MR P σ m) (hv:m.var x = .ref i):z05 TT (d + 1) 615 [.ref (P.b + 16),.str (nm x)] σ = .ok (.ref i) σ:=by
 obtain h1:=h.w 16 _ rfl
 obtain h2:=h.w 15 _ rfl
 cases x
 ·have hv:m.vx = .ref i:=hv
  obtain h3:σ[P.b + 17]? = some (.sd [(S "x",.ref i),(S "y",m.vy)]):=hv ▸ h.w 17 _ rfl
  refine (?_:z05 TT (d + 1) 615 [.ref (P.b + 16),.str (S "x")] σ = _)
  exact z19 rfl rfl (zdz (z4u (z00 rfl) rfl) (z0f rfl (z0j rfl (z1x rfl h1 h2 rfl rfl) (zb5 h3) (z3r rfl) (zhm h3)) (k_y (z4u (z00 rfl) rfl) (z0k (z00 rfl))))) rfl
 ·have hv:m.vy = .ref i:=hv
  obtain h3:σ[P.b + 17]? = some (.sd [(S "x",m.vx),(S "y",.ref i)]):=hv ▸ h.w 17 _ rfl
  refine (?_:z05 TT (d + 1) 615 [.ref (P.b + 16),.str (S "y")] σ = _)
  exact z19 rfl rfl (zdz (z4u (z00 rfl) rfl) (z0f rfl (z0j rfl (z1x rfl h1 h2 rfl rfl) (zb5 h3) (z3r rfl) (zhm h3)) (k_y (z4u (z00 rfl) rfl) (z0k (z00 rfl))))) rfl
theorem ze0 {x:Bool} (h:MR P σ m):z05 TT (d + 1) 629 [.ref (P.b + 16),.str (nm x),v] σ = .ok .none (σ.set (P.b + 17) (z7u (m.putV x v))):=by
 obtain h1:=h.w 16 _ rfl
 obtain h2:=h.w 15 _ rfl
 obtain h3:σ[P.b + 17]? = some (.sd [(S "x",m.vx),(S "y",m.vy)]):=h.w 17 _ rfl
 obtain h4:=h.w 18 _ rfl
 cases x
 ·have e1:z1e [(S "x",m.vx),(S "y",m.vy)] (S "x") v = [(S "x",v),(S "y",m.vy)]:=rfl
  refine (?_:z05 TT (d + 1) 629 [.ref (P.b + 16),.str (S "x"),v] σ = .ok .none (σ.set (P.b + 17) (.sd [(S "x",v),(S "y",m.vy)])))
  exact z19 rfl rfl (k_z (z0t (zac (z13 rfl (z0j rfl (z1x rfl h1 h2 rfl rfl) (zb5 h4) (z3r rfl) (zhm h4)) rfl) rfl)) (k_z (z0t (zac (z13 rfl (z1x rfl h1 h2 rfl rfl) rfl) rfl)) (z2a rfl (z00 rfl) (z1x rfl h1 h2 rfl rfl) (z00 rfl) (z7k h3 (of_decide_eq_true rfl) e1) (z07 z23)))) rfl
 ·have e1:z1e [(S "x",m.vx),(S "y",m.vy)] (S "y") v = [(S "x",m.vx),(S "y",v)]:=rfl
  refine (?_:z05 TT (d + 1) 629 [.ref (P.b + 16),.str (S "y"),v] σ = .ok .none (σ.set (P.b + 17) (.sd [(S "x",m.vx),(S "y",v)])))
  exact z19 rfl rfl (k_z (z0t (zac (z13 rfl (z0j rfl (z1x rfl h1 h2 rfl rfl) (zb5 h4) (z3r rfl) (zhm h4)) rfl) rfl)) (k_z (z0t (zac (z13 rfl (z1x rfl h1 h2 rfl rfl) rfl) rfl)) (z2a rfl (z00 rfl) (z1x rfl h1 h2 rfl rfl) (z00 rfl) (z7k h3 (of_decide_eq_true rfl) e1) (z07 z23)))) rfl
section
theorem ze1 {x:Bool} (h:MR P σ m) (hv:m.var x = .ref j) (ea:∀ sc l,zae (IE (d + 1) sc l) σ (.ref j) (S "kind") = some (.str k)) (hk:PyData.strOk k = true) (k1:(k == S "promise") = false) (k2:(k == S "missing") = false) (k3:(k == S "dots") = false)
  (es:z05 TT (d + 1) 449 [.ref j] σ = .ok (.ref j) σ1):z05 TT (d + 2) 925 [.ref (P.b + 1),.str (nm x),.ref (P.b + 16)] σ = .ok (.ref j) σ1:=by
 obtain ed:=zsz (d:=d) (σ:=σ) x
 obtain el:=zl1 (d:=d) h hv
 exact z19 rfl rfl (z0i (z13 rfl (z0g rfl rfl (z3r rfl) ed) rfl) (k_f rfl (z0f rfl (z0g rfl rfl (z1r rfl (z3r rfl)) el) (z07 (z0i (z0t (zac (z4u (z00 rfl) rfl) rfl)) (k_f rfl (z07 (z0i (z4u (z00 rfl) rfl) (k_f rfl (z07 (z0i (z6g (z2p rfl (ea _ _)) (z14 hk z02)) (k_f k1 (z07 (z0i (z6g (z2p rfl (ea _ _)) (z14 hk z02)) (k_f k2 (z07 (z0i (z6g (z2p rfl (ea _ _)) (z14 hk z02)) (k_f k3 (z07 (z0k (z0g rfl rfl (z3r rfl) es))))))))))))))))))))) rfl
end
theorem zfl {M:Nat→Prop} {x:Bool} (h:MR P σ m) (hv:Val M σ (m.var x) t) (ok:TOk t):∃ σ',z05 TT (d + 2) 925 [.ref (P.b + 1),.str (nm x),.ref (P.b + 16)] σ = .ok (m.var x) σ'∧Ex M0 σ σ':=by
 refine z0e (z9u (d:=d) hv) fun σ1 es xs=>?_
 refine ⟨σ1,?_,xs⟩
 refine Or.elim (hv) (fun zo3=>?_) (fun zo3=>?_)
 ·refine z59 zo3 fun a j n l fs hr hv=>?_;rw [hr] at es ⊢
  exact ze1 h hr (fun sc l=>z2k hv.i hv.f hv.kd rfl) ok.1 ok.2.2.2.1 ok.2.2.2.2.1 ok.2.2.2.2.2 es
 ·obtain ⟨⟨j,n,hr,e2,e3,_⟩,e⟩:=zo3;rw [hr] at es ⊢
  exact ze1 h hr (fun sc l=>z2k e2 e3 rfl rfl) z02 rfl rfl rfl es
theorem z5j {k:AV} (hl:rest.length < 100):zjn σ (.tup (k :: rest)) (.int 0) = some k:=by
 refine (?_:(if (k :: rest).length < 1000000 then atI (k :: rest) 0 else none) = _)
 refine (if_pos (by rw [List.length_cons];lia)).trans ?_;rfl
theorem zco (hk:PyData.strOk k = true) (hn:(k == S "const" || (k == S "var" || (k == S "arg" || (k == S "force" || (k == S "call" || (k == S "closure" || k == S "pick")))))) = false) (hl:rest.length < 100) {i r:AV}:z05 TT (d + 1) 796 [i,r,.tup (.str k :: rest)] σ = .ok (.bool false) σ:=by
 obtain q0:=z5j (σ:=σ) (k:=.str k) hl
 simp only [Bool.or_eq_false_iff] at hn
 obtain ⟨h1,h2,h3,h4,h5,h6,h7⟩:=hn
 exact z19 rfl rfl (z0f rfl (z18 (z00 rfl) q0) (z0i (z6g (z00 rfl) (z14 hk z02)) (k_f h1 (z0i (z6g (z00 rfl) (z14 hk z02)) (k_f h2 (z0i (z6g (z00 rfl) (z14 hk z02)) (k_f h3 (z0i (z6g (z00 rfl) (z14 hk z02)) (k_f h4 (z0i (z6g (z00 rfl) (z14 hk z02)) (k_f h5 (z0i (z6g (z00 rfl) (z14 hk z02)) (k_f h6 (z0i (z6g (z00 rfl) (z14 hk z02)) (k_f h7 (z0k z17)))))))))))))))) rfl
theorem zpv (hk:PyData.strOk k = true) (hn:(k == S "guard" || (k == S "jump" || (k == S "unless" || (k == S "and" || (k == S "or" || (k == S "truth" || k == S "return")))))) = false) (hl:rest.length < 100) {i r:AV}:z05 TT (d + 1) 803 [i,r,.tup (.str k :: rest)] σ = .ok (.bool false) σ:=by
 obtain q0:=z5j (σ:=σ) (k:=.str k) hl
 simp only [Bool.or_eq_false_iff] at hn
 obtain ⟨h1,h2,h3,h4,h5,h6,h7⟩:=hn
 exact z19 rfl rfl (z0f rfl (z18 (z00 rfl) q0) (z0i (z6g (z00 rfl) (z14 hk z02)) (k_f h1 (z0i (z6g (z00 rfl) (z14 hk z02)) (k_f h2 (z0i (z6g (z00 rfl) (z14 hk z02)) (k_f h3 (k_o (z0t (z1a (z6g (z00 rfl) (z14 hk z02)) (z49 h4 (z1a (z6g (z00 rfl) (z14 hk z02)) (z49 h5 z6d))))) (z0i (z6g (z00 rfl) (z14 hk z02)) (k_f h6 (z0i (z6g (z00 rfl) (z14 hk z02)) (k_f h7 (z0k z17))))))))))))) rfl
end
end
section
open PySem PySem.W
set_option genCtorIdx true in
inductive Refu where
 | miss | zero | seq
noncomputable def Refu.str:Refu→Str
 | .miss=>S "missing value where TRUE/FALSE needed"
 | .zero=>S "argument is of length zero"
 | .seq=>S "invalid for() loop sequence"
noncomputable def z1y (nth:Int):Sum Bool Refu:=if nth = 6 then .inr .miss else if nth = 7 then .inr .zero else .inl (nth % 2 == 0)
section
variable {P:Pm} {σ σ1 σ' τ:AS} {m m':Mach} {d:Nat} {t:z31} {v c:AV} {k:Str} {rest st lp:List AV} {i j n:Nat} {fs:List (Str×AV)} {M:Nat→Prop} {xs:List AV}
theorem z3t (h:xs[i]? = some c):atI xs (i:Int) = some c:=(if_pos (Int.natCast_nonneg i)).trans (by rw [Int.toNat_natCast];exact h)
theorem lt5 {n:Nat} (h:n < 90000):n < 100000:=by lia
theorem lt6 {n:Nat} (h:n < 90000):n < 1000000:=by lia
theorem zl2 (h:st.length < 90000):(st++[v]).length < 100000:=by rw [List.length_append];exact Nat.lt_of_lt_of_le (Nat.add_lt_add_right h _) (of_decide_eq_true rfl)
noncomputable def Did (P:Pm) (M:Nat→Prop) (σ:AS) (r:Res AV) (m':Mach):Prop:=∃ σ',r = .ok (.bool true) σ'∧MR P σ' m'∧Ex M σ σ'
noncomputable def zvo (P:Pm) (σ:AS) (r:Res AV) (w:Str) (m':Mach):Prop:=∃ σ',r = .exc w σ'∧MR P σ' m'∧Ex (Mm P) σ σ'
noncomputable abbrev pa (P:Pm) (row:AV):List AV:=[.ref (P.b + 1),.ref (P.b + 26),row]
theorem ze2 (h:MR P σ m) (hc:P.consts[i]? = some c) (hl:P.consts.length < 1000000) (hs:m.stack.length < 90000) :
  Did P (Mm P) σ (z05 TT (d + 1) 796 (pa P (.tup [.str (S "const"),.int i])) σ) { m with vis:=true,stack:=m.stack++[c] }:=by
 refine ⟨(σ.set P.b (.ns (zbz P.b 3 m.steps true))).set (P.b + 27) (.list (m.stack++[c])),?_,(h.setVis (k:=true)).setStack,(Ex.set Mm.in0).trans (Ex.set Mm.in27)⟩
 obtain i1:=h.w 1 _ rfl
 obtain i2:=h.w 0 _ rfl
 obtain r1:=h.w 26 _ rfl
 obtain r2:=h.w 25 _ rfl
 obtain r3:=h.w 27 _ rfl
 obtain kc:=h.kc
 obtain n1:=Nat.ne_of_gt h.lkc
 obtain ci:=z3t hc
 obtain hs:=lt5 hs
 exact z19 rfl rfl (z0f rfl (z18 (z00 rfl) rfl) (k_y (z29 (z00 rfl) rfl) (zmx rfl z17 rfl (z4a i1 i2 (of_decide_eq_true rfl) rfl zdy) (z0s rfl (z0j rfl (z1x rfl (hb1 rfl r1) (hb1 rfl r2) rfl rfl) (z16 (hb1 rfl r3)) (z04 (z0m rfl (z1x rfl (hb1 rfl r1) (hb1 rfl r2) rfl rfl) (z18 (z00 rfl) rfl) (z3w (z62 n1 kc) hl ci))) (z3e (hb1 rfl r3) hs)) (z07 (z0k z17)))))) rfl
theorem zt0 {x:Bool} (h:MR P σ m) (hv:Val (Mm P) σ (m.var x) t) (ok:TOk t) (hs:m.stack.length < 90000) :
  Did P (Mm P) σ (z05 TT (d + 3) 796 (pa P (.tup [.str (S "var"),.str (nm x)])) σ) { m with vis:=true,stack:=m.stack++[m.var x] }:=by
 obtain h1:=h.setVis (k:=true)
 obtain x1:Ex (Mm P) σ (σ.set P.b (.ns (zbz P.b 3 m.steps true))):=Ex.set Mm.in0
 refine z0e (zfl (d:=d) h1 (show Val (Mm P) _ (({ m with vis:=true }:Mach).var x) t from hv.ex x1) ok) fun σ2 e2 x2=>?_
 obtain h2:=h1.ex0 x2
 refine ⟨_,?_,h2.setStack,(x1.trans x2.of0).trans (Ex.set Mm.in27)⟩
 have e2:z05 TT (d + 2) 925 [.ref (P.b + 1),.str (nm x),.ref (P.b + 16)] (σ.set P.b (.ns (zbz P.b 3 m.steps true))) = .ok (m.var x) σ2:=e2
 obtain i1:=h.w 1 _ rfl
 obtain i2:=h.w 0 _ rfl
 obtain r1:=h.w 26 _ rfl
 obtain r2:=h.w 25 _ rfl
 obtain r3:=h.w 27 _ rfl
 obtain r4:σ2[P.b + 27]? = some (.list m.stack):=h2.w 27 _ rfl
 obtain hs:=lt5 hs
 exact z19 rfl rfl (z0f rfl (z18 (z00 rfl) rfl) (k_o (z29 (z00 rfl) rfl) (k_y (z29 (z00 rfl) rfl) (zmx rfl z17 rfl (z4a i1 i2 (of_decide_eq_true rfl) rfl zdy) (z0s rfl (z0j rfl (z1x rfl (hb1 rfl r1) (hb1 rfl r2) rfl rfl) (z16 (hb1 rfl r3)) (z04 (z0j rfl (z00 rfl) (zhy (hb1 rfl i1) (z0d i2) rfl) (z03 (z18 (z00 rfl) rfl) (z04 (z1x rfl (hb1 rfl r1) (hb1 rfl r2) rfl rfl))) (zss e2))) (z3e r4 hs)) (z07 (z07 (z0k z17)))))))) rfl
theorem zpw {t:Nat} (h:MR P σ m) (hs:m.steps≤15000) :
  Did P (Mm P) σ (z05 TT (d + 3) 803 (pa P (.tup [.str (S "jump"),.int t])) σ) { m with steps:=if t < m.place then m.steps + 1 else m.steps,place:=t }:=by
 refine z1m (zsy (d:=d) (t:=t) h hs) fun σ1 e1 h1 x1=>?_
 refine ⟨σ1,?_,h1,x1⟩
 exact z19 rfl rfl (z0f rfl (z18 (z00 rfl) rfl) (z0i (z29 (z00 rfl) rfl) (k_f rfl (z0i (z29 (z00 rfl) rfl) (k_t rfl (z0s rfl (z0g rfl rfl (z1r rfl (z1r rfl (z04 (z18 (z00 rfl) rfl)))) e1) (z07 (z07 (z0k z17))))))))) rfl
theorem zt1 {t:Nat} {b:Bool} (h:MR P σ m) (hst:m.stack = st++[v]) (ec:z05 TT (d + 3) 470 [v] (σ.set (P.b + 27) (.list st)) = .ok (.bool b) (σ.set (P.b + 27) (.list st))) (hs:st.length < 90000) :
  Did P (Mm P) σ (z05 TT (d + 4) 803 (pa P (.tup [.str (S "unless"),.int t,.int 0])) σ) { m with stack:=st,place:=if b then m.place else t }:=by
 obtain h1:=h.setStack (k:=st)
 obtain r1:=h.w 26 _ rfl
 obtain r2:=h.w 25 _ rfl
 obtain r3:σ[P.b + 27]? = some (.list (st++[v])):=hst ▸ h.w 27 _ rfl
 obtain hs:=zl2 (v:=v) hs
 induction b with
 | true =>
  refine ⟨_,?_,h1,Ex.set Mm.in27⟩
  exact z19 rfl rfl (z0f rfl (z18 (z00 rfl) rfl) (z0i (z29 (z00 rfl) rfl) (k_f rfl (z0i (z29 (z00 rfl) rfl) (k_f rfl (z0i (z29 (z00 rfl) rfl) (k_t rfl (z0i (z2q (z13 rfl (z0g rfl rfl (z04 (z0j rfl (z1x rfl r1 r2 rfl rfl) (z41 r3) z0w (z6l r3 hs))) ec) rfl)) (k_f rfl (z07 (z07 (z07 (z07 (z0k z17)))))))))))))) rfl
 | false =>
  refine ⟨_,?_,h1.setPlace (k:=t),(Ex.set Mm.in27).trans (Ex.set Mm.in25)⟩
  exact z19 rfl rfl (z0f rfl (z18 (z00 rfl) rfl) (z0i (z29 (z00 rfl) rfl) (k_f rfl (z0i (z29 (z00 rfl) rfl) (k_f rfl (z0i (z29 (z00 rfl) rfl) (k_t rfl (z0i (z2q (z13 rfl (z0g rfl rfl (z04 (z0j rfl (z1x rfl r1 r2 rfl rfl) (z41 r3) z0w (z6l r3 hs))) ec) rfl)) (k_t rfl (zmx rfl (z18 (z00 rfl) rfl) rfl (z4a (hb3 rfl r1) (hb3 rfl r2) (of_decide_eq_true rfl) rfl z5i) (z07 (z07 (z07 (z07 (z0k z17))))))))))))))) rfl
section
theorem zmz {t:Nat} {w:Str} (h:MR P σ m) (hst:m.stack = st++[v]) (ec:z05 TT (d + 3) 470 [v] (σ.set (P.b + 27) (.list st)) = .exc w (σ.set (P.b + 27) (.list st))) (hs:st.length < 90000) :
  zvo P σ (z05 TT (d + 4) 803 (pa P (.tup [.str (S "unless"),.int t,.int 0])) σ) w { m with stack:=st }:=by
 obtain r1:=h.w 26 _ rfl
 obtain r2:=h.w 25 _ rfl
 obtain r3:σ[P.b + 27]? = some (.list (st++[v])):=hst ▸ h.w 27 _ rfl
 obtain hs:=zl2 (v:=v) hs
 refine ⟨_,?_,h.setStack,Ex.set Mm.in27⟩
 exact zhj rfl rfl (z0f rfl (z18 (z00 rfl) rfl) (z0i (z29 (z00 rfl) rfl) (k_f rfl (z0i (z29 (z00 rfl) rfl) (k_f rfl (z0i (z29 (z00 rfl) rfl) (k_t rfl (zvk (zp7 (zp6 rfl (z0g rfl rfl (z04 (z0j rfl (z1x rfl r1 r2 rfl rfl) (z41 r3) z0w (z6l r3 hs))) ec)))))))))))
end
theorem zhz {t:Nat} {nth:Int} {at_:AV} (h:MR P σ m) (hst:m.stack = st++[v]) (hv:IsVec (Mm P) σ v (z9w nth).1 (z9w nth).2 at_) (h0:0≤nth) (h8:nth < 8) (hs:st.length < 90000) :
  match z1y nth with
  | .inr e=>zvo P σ (z05 TT (d + 4) 803 (pa P (.tup [.str (S "unless"),.int t,.int 0])) σ) e.str { m with stack:=st }
  | .inl b=>Did P (Mm P) σ (z05 TT (d + 4) 803 (pa P (.tup [.str (S "unless"),.int t,.int 0])) σ) { m with stack:=st,place:=if b then m.place else t }:=by
 obtain ec:=zpm (d:=d) (hv.ex (Ex.set Mm.in27:Ex (Mm P) σ (σ.set (P.b + 27) (.list st)))) h0 h8
 unfold z1y
 by_cases q6:nth = 6
 ·rw [if_pos q6] at ec ⊢
  exact zmz h hst ec hs
 ·rw [if_neg q6] at ec ⊢
  by_cases q7:nth = 7
  ·rw [if_pos q7] at ec ⊢
   exact zmz h hst ec hs
  ·rw [if_neg q7] at ec ⊢
   exact zt1 h hst ec hs
noncomputable def FoS (σ:AS) (fj fn vl:Nat) (vs:List AV) (i:Nat):Prop:=σ[fj]? = some (.inst 715 fn)∧σ[fn]? = some (.ns [(S "values",.ref vl),(S "at",.int i)])∧σ[vl]? = some (.list vs)
theorem FoS.ex {M:Nat→Prop} {fj fn vl i:Nat} {vs:List AV} (h:FoS σ fj fn vl vs i) (x:Ex M σ σ') (m1:¬ M fj) (m2:¬ M fn) (m3:¬ M vl):FoS σ' fj fn vl vs i :=
 ⟨x.inst m1 h.1,x.exact m2 h.2.1 rfl,x.list m3 h.2.2⟩
theorem ze3:atI (st++[v]) (-1) = some v:=by
 refine (if_neg (by decide)).trans ((if_pos (by rw [List.length_append];show (0:Int)≤-1 + ((st.length + 1:Nat):Int);lia)).trans ?_)
 have:(-1 + ((st++[v]).length:Int)).toNat = st.length:=by rw [List.length_append];show (-1 + ((st.length + 1:Nat):Int)).toNat = _;lia
 rw [this,List.getElem?_append_right (Nat.le_refl _),Nat.sub_self];rfl
theorem zvp (h:st.length < 90000):(st++[v]).length < 1000000:=by rw [List.length_append];exact Nat.lt_of_lt_of_le (Nat.add_lt_add_right h _) (of_decide_eq_true rfl)
theorem zbb {x:Bool} {e fj fn vl:Nat} {vs:List AV} (h:MR P σ m) (hst:m.stack = st++[.ref fj]) (hf:FoS σ fj fn vl vs vs.length) (hs:st.length < 90000) (hv:vs.length < 90000) :
  Did P (Mm P) σ (z05 TT (d + 3) 810 (pa P (.tup [.str (S "step"),.int e,.str (nm x),.int 0])) σ) { m with place:=e }:=by
 obtain f1:=hf.1
 obtain f2:=hf.2.1
 obtain f3:=hf.2.2
 obtain r1:=h.w 26 _ rfl
 obtain r2:=h.w 25 _ rfl
 obtain r3:σ[P.b + 27]? = some (.list (st++[.ref fj])):=hst ▸ h.w 27 _ rfl
 obtain al:=ze3 (st:=st) (v:=.ref fj)
 obtain hs:=zvp (v:=.ref fj) hs
 obtain hv:=lt6 hv
 obtain c1:((vs.length:Int) == vs.length) = true:=beq_self_eq_true _
 have es:z05 TT (d + 2) 782 (pa P (.tup [.str (S "step"),.int e,.str (nm x),.int 0])) σ = .ok .none (z1h P σ e):=by
  unfold z1h
  exact z19 rfl rfl (z0f rfl (z0m rfl (z1x rfl r1 r2 rfl rfl) (zg4 z0b rfl) (z3w r3 hs al)) (z0i (z08 (z1x rfl f1 f2 rfl rfl) (z0r rfl rfl (z04 (z1x rfl f1 f2 rfl rfl)) (z3q f3 hv)) rfl) (k_t c1 (zmx rfl (z18 (z00 rfl) rfl) rfl (z4a r1 r2 (of_decide_eq_true rfl) rfl z5i) zms)))) rfl
 refine ⟨_,?_,h.placed (k:=e),Ex.set Mm.in25⟩
 exact z19 rfl rfl (z0f rfl (z18 (z00 rfl) rfl) (z0i (z29 (z00 rfl) rfl) (k_t rfl (z0s rfl (z0g rfl rfl (z1r rfl (z1r rfl (z3r rfl))) es) (z07 (z0k z17)))))) rfl
end
end
section
open PySem PySem.W
section
variable {P:Pm} {σ σ1 σ' τ:AS} {m m':Mach} {d:Nat} {t:z31} {v c:AV} {k:Str} {rest st lp vs:List AV} {i j n:Nat} {fs:List (Str×AV)} {M:Nat→Prop} {xs:List AV} {x:Bool}
theorem zbc {e fj fn vl i:Nat} (h:MR P σ m) (hst:m.stack = st++[.ref fj]) (hf:FoS σ fj fn vl vs i) (hi:vs[i]? = some v) (hs:st.length < 90000) (hv:vs.length < 90000) (hfn:P.b + 30 < fn) (hfj:P.b + 30 < fj) (hne:fn ≠ fj) (hvl:P.b + 30 < vl) (hne2:fn ≠ vl) :
  ∃ σ',z05 TT (d + 3) 810 (pa P (.tup [.str (S "step"),.int e,.str (nm x),.int 0])) σ = .ok (.bool true) σ'∧MR P σ' (m.putV x v)∧Ex (fun j=>Mm P j∨j = fn) σ σ'∧FoS σ' fj fn vl vs (i + 1):=by
 obtain h1:=h.put (o:=.ns [(S "values",.ref vl),(S "at",.int ((i:Int) + 1))]) hfn
 obtain ed:=ze0 (d:=d) (x:=x) (v:=v) h1
 obtain x1:Ex (fun j=>Mm P j∨j = fn) σ (σ.set fn (.ns [(S "values",.ref vl),(S "at",.int ((i:Int) + 1))])):=Ex.set (.inr rfl)
 obtain x2:Ex (Mm P) (σ.set fn (.ns [(S "values",.ref vl),(S "at",.int ((i:Int) + 1))])) _:=Ex.set (o:=z7u (m.putV x v)) Mm.in17
 obtain f1:=hf.1
 obtain f2:=hf.2.1
 obtain f3:=hf.2.2
 obtain g:FoS (σ.set fn (.ns [(S "values",.ref vl),(S "at",.int ((i:Int) + 1))])) fj fn vl vs (i + 1):=⟨z62 hne f1,z0d f2,z62 hne2 f3⟩
 refine ⟨_,?_,h1.setV,x1.trans (x2.mono fun uu=>.inl),g.ex x2 (Mm.gt hfj) (Mm.gt hfn) (Mm.gt hvl)⟩
 obtain r1:=h.w 26 _ rfl
 obtain r2:=h.w 25 _ rfl
 obtain k1:=h1.w 26 _ rfl
 obtain k2:=h1.w 25 _ rfl
 obtain r3:σ[P.b + 27]? = some (.list (st++[.ref fj])):=hst ▸ h.w 27 _ rfl
 obtain al:=ze3 (st:=st) (v:=.ref fj)
 obtain ai:=z3t hi
 obtain hs:=zvp (v:=.ref fj) hs
 obtain hv:=lt6 hv
 obtain hil:i < vs.length:=(List.getElem?_eq_some_iff.mp hi).1
 obtain c1:((i:Int) == vs.length) = false:=beq_eq_false_iff_ne.mpr fun q=>Nat.ne_of_lt hil (Int.ofNat.inj q)
 have ep:z1e [(S "values",AV.ref vl),(S "at",AV.int i)] (S "at") (AV.int ((i:Int) + 1)) = [(S "values",.ref vl),(S "at",.int ((i:Int) + 1))]:=rfl
 obtain es:z05 TT (d + 2) 782 (pa P (.tup [.str (S "step"),.int e,.str (nm x),.int 0])) σ = .ok .none ((σ.set fn (.ns [(S "values",.ref vl),(S "at",.int ((i:Int) + 1))])).set (P.b + 17) (z7u (m.putV x v))):=by exact z19 rfl rfl (z0f rfl (z0m rfl (z1x rfl r1 r2 rfl rfl) (zg4 z0b rfl) (z3w r3 hs al)) (z0i (z08 (z1x rfl f1 f2 rfl rfl) (z0r rfl rfl (z04 (z1x rfl f1 f2 rfl rfl)) (z3q f3 hv)) rfl) (k_f c1 (z07 (z0f rfl (z0m rfl (z1x rfl f1 f2 rfl rfl) (z1x rfl f1 f2 rfl rfl) (z3w f3 hv ai)) (z6e (z00 rfl) (z2k f1 f2 rfl rfl) z0b rfl (z4a f1 f2 (of_decide_eq_true rfl) rfl ep) (z0s rfl (z0g rfl rfl (z03 (z1x rfl k1 k2 rfl rfl) (z03 (z18 (z00 rfl) rfl) (z3r rfl))) ed) (z07 z23)))))))) rfl
 exact z19 rfl rfl (z0f rfl (z18 (z00 rfl) rfl) (z0i (z29 (z00 rfl) rfl) (k_t rfl (z0s rfl (z0g rfl rfl (z1r rfl (z1r rfl (z3r rfl))) es) (z07 (z0k z17)))))) rfl
theorem zpx {e hd:Nat} (h:MR P σ m) (hs:m.stack.length < 90000) (hl:m.loops.length < 90000) :
  Did P (Mm P) σ (z05 TT (d + 1) 810 (pa P (.tup [.str (S "loop"),.int e,.int hd])) σ) { m with loops:=m.loops++[.tup [.int m.stack.length,.int e,.int hd]] }:=by
 refine ⟨_,?_,h.setLoops,Ex.set Mm.in28⟩
 obtain r1:=h.w 26 _ rfl
 obtain r2:=h.w 25 _ rfl
 obtain r3:=h.w 27 _ rfl
 obtain r4:=h.w 28 _ rfl
 obtain hs:=lt6 hs
 obtain hl:=lt5 hl
 exact z19 rfl rfl (z0f rfl (z18 (z00 rfl) rfl) (k_o (z29 (z00 rfl) rfl) (k_o (z29 (z00 rfl) rfl) (k_y (z29 (z00 rfl) rfl) (z0s rfl (z0j rfl (z1x rfl r1 r2 rfl rfl) (z16 r4) (z04 (z11 (z03 (z0r rfl rfl (z04 (z1x rfl r1 r2 rfl rfl)) (z3q r3 hs)) (z03 (z18 (z00 rfl) rfl) (z04 (z18 (z00 rfl) rfl)))) rfl)) (z3e r4 hl)) (z07 (z07 (z07 (z0k z17))))))))) rfl
noncomputable def DidN (P:Pm) (σ:AS) (r:Res AV) (m':AV→Mach):Prop:=∃ σ' z,r = .ok (.bool true) σ'∧MR P σ' (m' z)∧Ex (Mm P) σ σ'∧IsNull (Mm P) σ' z
theorem zfm {y:AV} (h:MR P σ m) (hlp:m.loops = lp++[y]) (hs:m.stack.length < 90000) (hl:lp.length < 90000) :
  DidN P σ (z05 TT (d + 4) 810 (pa P (.tup [.str (S "endloop")])) σ) fun z=>{ m with loops:=lp,stack:=m.stack++[z],vis:=false }:=by
 obtain h1:=h.setLoops (k:=lp)
 obtain x3:Ex (Mm P) _ _:=(Ex.set (σ:=σ.set (P.b + 28) (.list lp)++[.ns z2d,.inst 212 (σ.set (P.b + 28) (.list lp)).length]) (o:=.list (m.stack++[AV.ref ((σ.set (P.b + 28) (.list lp)).length + 1)])) Mm.in27).trans (Ex.set (o:=.ns (zbz P.b 3 m.steps false)) Mm.in0)
 refine ⟨_,AV.ref ((σ.set (P.b + 28) (.list lp)).length + 1),?_,((h1.app.setStack).setVis (k:=false)),((Ex.set Mm.in28).trans Ex.app).trans x3,(IsNull.new fun i hi=>Mm.hi h1 hi).ex x3⟩
 obtain i1:=h.w 1 _ rfl
 obtain i2:=h.w 0 _ rfl
 obtain r1:=h.w 26 _ rfl
 obtain r2:=h.w 25 _ rfl
 obtain r3:=h.w 27 _ rfl
 obtain r4:σ[P.b + 28]? = some (.list (lp++[y])):=hlp ▸ h.w 28 _ rfl
 obtain hs:=lt5 hs
 obtain hl:=zl2 (v:=y) hl
 exact z19 rfl rfl (z0f rfl (z18 (z00 rfl) rfl) (z0i (z29 (z00 rfl) rfl) (k_f rfl (z0i (z29 (z00 rfl) rfl) (k_f rfl (z0i (z29 (z00 rfl) rfl) (k_f rfl (z0i (z0t (z5t (z29 (z00 rfl) rfl) rfl (zac (z29 (z00 rfl) rfl) rfl))) (k_t rfl (z0s rfl (z0j rfl (z1x rfl r1 r2 rfl rfl) (z41 r4) z0w (z6l r4 hl)) (z0i (z29 (z00 rfl) rfl) (k_f rfl (z07 (z0s rfl (z0j rfl (z1x rfl (hb3 rfl r1) (hb3 rfl r2) rfl rfl) (z16 (hb3 rfl r3)) (z04 (z0g rfl rfl z0w (z7l z1l zmt z1k))) (z3e (z0n (hb3 rfl r3)) hs)) (zmx rfl z17 rfl (z4a (hb3 rfl (z0n (hb3 rfl i1))) (hb2 rfl (z0n (hb2 rfl i2))) (of_decide_eq_true rfl) rfl zdy) (z07 (z07 (z07 (z07 (z0k z17)))))))))))))))))))) rfl
theorem zi0 {y w:AV} (h:MR P σ m) (hlp:m.loops = lp++[y]) (hst:m.stack = st++[w]) (hs:st.length < 90000) (hl:lp.length < 90000) :
  DidN P σ (z05 TT (d + 4) 810 (pa P (.tup [.str (S "endfor")])) σ) fun z=>{ m with loops:=lp,stack:=st++[z],vis:=false }:=by
 obtain h1:=(h.setLoops (k:=lp)).setStack (k:=st)
 obtain x3:Ex (Mm P) _ _:=(Ex.set (σ:=(σ.set (P.b + 28) (.list lp)).set (P.b + 27) (.list st)++[.ns z2d,.inst 212 ((σ.set (P.b + 28) (.list lp)).set (P.b + 27) (.list st)).length]) (o:=.list (st++[AV.ref (((σ.set (P.b + 28) (.list lp)).set (P.b + 27) (.list st)).length + 1)])) Mm.in27).trans (Ex.set (o:=.ns (zbz P.b 3 m.steps false)) Mm.in0)
 refine ⟨_,AV.ref (((σ.set (P.b + 28) (.list lp)).set (P.b + 27) (.list st)).length + 1),?_,((h1.app.setStack).setVis (k:=false)),(((Ex.set Mm.in28).trans (Ex.set Mm.in27)).trans Ex.app).trans x3,(IsNull.new fun i hi=>Mm.hi h1 hi).ex x3⟩
 obtain i1:=h.w 1 _ rfl
 obtain i2:=h.w 0 _ rfl
 obtain r1:=h.w 26 _ rfl
 obtain r2:=h.w 25 _ rfl
 obtain r3:σ[P.b + 27]? = some (.list (st++[w])):=hst ▸ h.w 27 _ rfl
 obtain r4:σ[P.b + 28]? = some (.list (lp++[y])):=hlp ▸ h.w 28 _ rfl
 obtain hs1:=lt5 hs
 obtain hs:=zl2 (v:=w) hs
 obtain hl:=zl2 (v:=y) hl
 exact z19 rfl rfl (z0f rfl (z18 (z00 rfl) rfl) (z0i (z29 (z00 rfl) rfl) (k_f rfl (z0i (z29 (z00 rfl) rfl) (k_f rfl (z0i (z29 (z00 rfl) rfl) (k_f rfl (z0i (z0t (zac (z29 (z00 rfl) rfl) rfl)) (k_t rfl (z0s rfl (z0j rfl (z1x rfl r1 r2 rfl rfl) (z41 r4) z0w (z6l r4 hl)) (z0i (z29 (z00 rfl) rfl) (k_t rfl (z0s rfl (z0j rfl (z1x rfl (hb3 rfl r1) (hb3 rfl r2) rfl rfl) (z41 (hb3 rfl r3)) z0w (z6l (hb3 rfl r3) hs)) (z07 (z0s rfl (z0j rfl (z1x rfl (hb3 rfl (hb3 rfl r1)) (hb3 rfl (hb3 rfl r2)) rfl rfl) (z16 (z0d (hb3 rfl r3))) (z04 (z0g rfl rfl z0w (z7l z1l zmt z1k))) (z3e (z0n (z0d (hb3 rfl r3))) hs1)) (zmx rfl z17 rfl (z4a (hb3 rfl (z0n (hb3 rfl (hb3 rfl i1)))) (hb2 rfl (z0n (hb2 rfl (hb2 rfl i2)))) (of_decide_eq_true rfl) rfl zdy) (z07 (z07 (z07 (z07 (z0k z17))))))))))))))))))))) rfl
end
end
section
open PySem PySem.W
section
variable {P:Pm} {σ σ1 σ' τ:AS} {m m':Mach} {d:Nat} {t:z31} {v c:AV} {rest st lp vs:List AV} {i j n:Nat} {M:Nat→Prop} {x:Bool} {sort:Int} {picks:List Int}
theorem zt2 {I:z1q} {ℓ:Loc} {p p':Pos} {y w:Str} {e:Expr} {ss:List Stmt} {ks:List (List Stmt)} (hi:zvi e = true) (hp:z2j e = true) (h:z09 e I ℓ σ = .exc w σ1):z0v ((.Assign [.Name y p'] e p :: ss) :: ks) I ℓ σ = .exc w σ1:=zp5 ((if_pos hp).trans (z91 h))
section
theorem zl3 {e:Nat} (h:MR P σ m) (hst:m.stack = st++[v]) (hv:OverV (Mm P) σ v 6 picks) (hs:st.length < 90000) :
  zvo P σ (z05 TT (d + 6) 810 (pa P (.tup [.str (S "for"),.int e,.int 0])) σ) Refu.seq.str { m with stack:=st }:=by
 obtain x1:Ex (Mm P) σ (σ.set (P.b + 27) (.list st)):=Ex.set Mm.in27
 obtain el:=z8g (d:=d) (hv.ex x1)
 obtain r1:=h.w 26 _ rfl
 obtain r2:=h.w 25 _ rfl
 obtain r3:σ[P.b + 27]? = some (.list (st++[v])):=hst ▸ h.w 27 _ rfl
 obtain hs:=zl2 (v:=v) hs
 refine ⟨_,?_,h.setStack,x1⟩
 exact zhj rfl rfl (z0f rfl (z18 (z00 rfl) rfl) (z0i (z29 (z00 rfl) rfl) (k_f rfl (z0i (z29 (z00 rfl) rfl) (k_t rfl (zt2 rfl rfl (z0g rfl rfl (z04 (z0j rfl (z1x rfl r1 r2 rfl rfl) (z41 r3) z0w (z6l r3 hs))) el)))))))
end
noncomputable def ForK (P:Pm) (σ:AS) (r:Res AV) (m':AV→Nat→Mach) (ts:List z31) (Q:Prop):Prop:=∀ σ' z fj fn vl vs,r = .ok (.bool true) σ'→MR P σ' (m' z fj)→Ex (Mm P) σ σ'→IsNull (Mm P) σ' z→FoS σ' fj fn vl vs 0→RelAll (Val (Mm P) σ') vs ts→σ.length≤fj→σ.length≤fn→σ.length≤vl→fn ≠ fj→fn ≠ vl→Q
theorem zt3 {e:Nat} {ts:List z31} {Q:Prop} (h:MR P σ m) (hst:m.stack = st++[v]) (hv:zb8 (Mm P) d (σ.set (P.b + 27) (.list st)) v ts) (hs:st.length < 90000) (hl:m.loops.length < 90000)
  (hrow:P.rows[m.place]? = some (.tup [.str (S "step"),.int e,.str (nm x),.int 0])) (hrl:P.rows.length < 1000000)
  (K:ForK P σ (z05 TT (d + 6) 810 (pa P (.tup [.str (S "for"),.int e,.int 0])) σ) (fun z fj=>({ m with stack:=st++[.ref fj],loops:=m.loops++[.tup [.int (st++[AV.ref fj]).length,.int e,.int m.place]] }:Mach).putV x z) ts Q):Q:=by
 refine zal hv fun vl vs σ2 e2 x2 v2 lvl rv=>?_
 obtain x1:Ex (Mm P) σ (σ.set (P.b + 27) (.list st)):=Ex.set Mm.in27
 obtain L1:(σ.set (P.b + 27) (.list st)).length = σ.length:=List.length_set
 obtain h1:=h.setStack (k:=st)
 obtain h2:=h1.ex0 x2
 obtain lv2:vl < σ2.length:=(List.getElem?_eq_some_iff.mp v2).1
 obtain l2:σ.length≤σ2.length:=L1 ▸ x2.1
 obtain h3:=h2.app (τ:=[.ns z2d,.inst 212 σ2.length])
 obtain ed:=ze0 (d:=d + 4) (x:=x) (v:=.ref (σ2.length + 1)) h3
 obtain h4:=h3.setV (x:=x) (v:=.ref (σ2.length + 1))
 obtain x4:Ex (Mm P) _ _:=Ex.set (σ:=σ2++[.ns z2d,.inst 212 σ2.length]) (o:=z7u (({ m with stack:=st }:Mach).putV x (.ref (σ2.length + 1)))) Mm.in17
 obtain ⟨σ4,q4⟩:∃ σ4,σ4 = (σ2++[AO.ns z2d,AO.inst 212 σ2.length]).set (P.b + 17) (z7u (({ m with stack:=st }:Mach).putV x (.ref (σ2.length + 1)))):=⟨_,rfl⟩
 rw [← q4] at h4 x4 ed
 obtain l4:σ4.length = σ2.length + 2:=by rw [q4,List.length_set,List.length_append];rfl
 obtain l4':σ.length≤σ4.length:=by exact l4 ▸ Nat.le_trans l2 (Nat.le_add_right ..)
 obtain h5:=h4.app (τ:=[.ns [(S "values",.ref vl),(S "at",.int 0)],.inst 715 σ4.length])
 obtain x57:Ex (Mm P) _ _:=(Ex.set (σ:=σ4++[.ns [(S "values",.ref vl),(S "at",.int 0)],.inst 715 σ4.length]) (o:=.list (st++[AV.ref (σ4.length + 1)])) Mm.in27).trans (Ex.set (o:=.list (m.loops++[.tup [.int (st++[AV.ref (σ4.length + 1)]).length,.int e,.int m.place]])) Mm.in28)
 obtain lvl:σ.length≤vl:=L1 ▸ lvl
 obtain g5:FoS (σ4++[.ns [(S "values",.ref vl),(S "at",.int 0)],.inst 715 σ4.length]) (σ4.length + 1) σ4.length vl vs 0:=⟨z4f rfl,z4c rfl,z0n (x4.list (Mm.hi h lvl) (z0n v2))⟩
 obtain x27:Ex (Mm P) σ2 _:=(Ex.app.trans x4).trans (Ex.app.trans x57)
 obtain hm:({ ({ ({ m with stack:=st }:Mach).putV x (.ref (σ2.length + 1)) with stack:=st++[AV.ref (σ4.length + 1)] }:Mach) with loops:=m.loops++[.tup [.int (st++[AV.ref (σ4.length + 1)]).length,.int e,.int m.place]] }:Mach) =
  ({ m with stack:=st++[AV.ref (σ4.length + 1)],loops:=m.loops++[.tup [.int (st++[AV.ref (σ4.length + 1)]).length,.int e,.int m.place]] }:Mach).putV x (.ref (σ2.length + 1)):=by cases x <;> rfl
 refine K _ (.ref (σ2.length + 1)) (σ4.length + 1) σ4.length vl vs ?_ (Eq.mp (congrArg (MR P _) hm) ((h5.setStack (k:=st++[AV.ref (σ4.length + 1)])).setLoops (k:=m.loops++[.tup [.int (st++[AV.ref (σ4.length + 1)]).length,.int e,.int m.place]]))) ((x1.trans x2.of0).trans x27) (((IsNull.new fun i hi=>Mm.hi h2 hi).ex x4).ex (Ex.app.trans x57))
  (g5.ex x57 (Mm.hi h (Nat.le_succ_of_le l4')) (Mm.hi h l4') (Mm.hi h lvl)) ⟨rv.1,fun k v t a b=>(rv.2 k v t a b).ex x27⟩ (Nat.le_succ_of_le l4') l4' lvl (Nat.ne_of_lt (Nat.lt_succ_self _)) (Nat.ne_of_gt (by exact l4 ▸ Nat.lt_add_right 2 lv2))
 obtain r1:=h.w 26 _ rfl
 obtain r2:=h.w 25 _ rfl
 obtain r3:σ[P.b + 27]? = some (.list (st++[v])):=hst ▸ h.w 27 _ rfl
 obtain b1:=h2.w 26 _ rfl
 obtain b2:=h2.w 25 _ rfl
 obtain b3:=h2.rw
 obtain c1:=h4.w 26 _ rfl
 obtain c2:σ4[P.b + 25]? = some (.ns (zba P.rw P.kc (.ref (P.b + 16)) m.place (P.b + 27) (P.b + 28))):=(by cases x <;> exact h4.w 25 _ rfl)
 obtain c3:σ4[P.b + 27]? = some (.list st):=(by cases x <;> exact h4.w 27 _ rfl)
 obtain c4:σ4[P.b + 28]? = some (.list m.loops):=(by cases x <;> exact h4.w 28 _ rfl)
 obtain ai:=z3t hrow
 obtain hs1:=lt5 hs
 obtain hs2:=zvp (v:=AV.ref (σ4.length + 1)) hs
 obtain hs:=zl2 (v:=v) hs
 obtain hl:=lt5 hl
 exact z19 rfl rfl (z0f rfl (z18 (z00 rfl) rfl) (z0i (z29 (z00 rfl) rfl) (k_f rfl (z0i (z29 (z00 rfl) rfl) (k_t rfl (z0f rfl (z0g rfl rfl (z04 (z0j rfl (z1x rfl r1 r2 rfl rfl) (z41 r3) z0w (z6l r3 hs))) e2) (z0s rfl (z0g rfl rfl (z03 (z1x rfl b1 b2 rfl rfl) (z03 (z18 (z0m rfl (z1x rfl b1 b2 rfl rfl) (z1x rfl b1 b2 rfl rfl) (z3w b3 hrl ai)) rfl) (z04 (z0g rfl rfl z0w (z7l z1l zmt z1k))))) ed) (z0s rfl (z0j rfl (z1x rfl c1 c2 rfl rfl) (z16 c3) (z04 (z0g rfl rfl (z3r rfl) (zfh z1l zmt z1k))) (z3e (z0n c3) hs1)) (z0s rfl (z0j rfl (z1x rfl (hb3 rfl (z0n c1)) (hb3 rfl (z0n c2)) rfl rfl) (z16 (hb3 rfl (z0n c4))) (z04 (z11 (z03 (z0r rfl rfl (z04 (z1x rfl (hb3 rfl (z0n c1)) (hb3 rfl (z0n c2)) rfl rfl)) (z3q (z0d (z0n c3)) hs2)) (z03 (z18 (z00 rfl) rfl) (z04 (z1x rfl (hb3 rfl (z0n c1)) (hb3 rfl (z0n c2)) rfl rfl)))) rfl)) (z3e (hb3 rfl (z0n c4)) hl)) (z07 (z07 (z0k z17)))))))))))) rfl
end
end
section
open PySem PySem.W
noncomputable def fiS (s:Option Stmt):zg1:=match fnV s with
 | some v=>zbx v
 | none=>⟨[],[],[],[]⟩
noncomputable def zra (t:Expr) (body:List Stmt) (I:z1q) (v:AV) (fl:z0o×Loc) (σ:AS):Res (Ctl (z0o×Loc)):=(z5u t v I fl.2 σ).bind fun ℓ σ=>(z39 body I ℓ σ).bind fun fl σ=>z2v fl σ
noncomputable def zn0 (I:z1q):Option Stmt→AV→z0o×Loc→AS→Res (Ctl (z0o×Loc))
 | some (.For t _ b _ _)=>zra t b I
 | _=>fun uu uu uu=>.bad
noncomputable def z8i (d:Nat):AV→z0o×Loc→AS→Res (Ctl (z0o×Loc)):=zn0 (IE d (fiS (stm 107)).sc true) (nth (fiS (stm 107)).body 1)
noncomputable def or3 (d:Nat) (vs:List AV) (σ:AS):Res AV:=(z05 TT d 796 vs σ).bind fun a σ=>(Res.of σ (tru a)).bind fun c σ=>if c then .ok a σ else (z05 TT d 803 vs σ).bind fun a σ=>(Res.of σ (tru a)).bind fun c σ=>if c then .ok a σ else z05 TT d 810 vs σ
section
variable {d:Nat} {I:z1q} {ℓ ℓ1:Loc} {σ σ1 σ2:AS} {x y w:Str} {v b:AV} {e e1 e2 e3:Expr} {p p':Pos} {ss es:List Stmt} {st:List (List Stmt)} {fl:z0o×Loc} {R:Res (z0o×Loc)} {r:Res AV} {vs:List AV} {t:zuk} {bd o f:List Stmt} {hs:List ExceptHandler}
theorem zi1 {fl0:z0o} {rc:Res (Ctl (z0o×Loc))} (hx:z1g I.sc x = true) (h:z0v [ss] I (z1e ℓ x v) σ = .ok fl σ1) (hr:z2v fl σ1 = rc):zra (.Name x p') ss I v (fl0,ℓ) σ = rc :=
 z0a (of_of (z3n hx)) (z0a (zff ▸ h) hr)
theorem zfn {as va ko kd kw dfs po kk nm g0 c0 m0} {fl0:z0o} {b:List Stmt} {rc:Res (Ctl (z0o×Loc))} (h0:fnV (stm 107) = some (⟨po,as,va,ko,kd,kw,dfs⟩,bd,⟨kk,nm,g0,c0,m0⟩)) (h1:nth bd 1 = some (.For (.Name x p') e b o p)) (hx:z1g nm x = true)
  (h:z0v [b] (IE d nm true) (z1e ℓ x v) σ = .ok fl σ1) (hr:z2v fl σ1 = rc):z8i d v (fl0,ℓ) σ = rc:=by
 unfold z8i fiS;rw [h0];dsimp only [zbx];rw [h1]
 exact zi1 hx h hr
theorem z01 (hx:z1g I.sc x = true) (h:look ℓ x = some v):z09 (.Name x p) I ℓ σ = .ok v σ:=z00 ((if_pos hx).trans h)
theorem z10:look (z1e ℓ x v) x = some v:=by rw [z3o,if_pos rfl]
theorem z0c (hn:decide (x = y) = false) (h:look ℓ y = some v):look (z1e ℓ x b) y = some v:=by refine ((z3o).trans (if_neg (of_decide_eq_false hn))).trans ?_;exact h
theorem zt4 {sc:List (Str×NameKind)} {l:Bool} (h1:∀ σ,z09 e1 (IE d sc l) ℓ σ = z05 TT d 796 vs σ) (h2:∀ σ,z09 e2 (IE d sc l) ℓ σ = z05 TT d 803 vs σ) (h3:∀ σ,z09 e3 (IE d sc l) ℓ σ = z05 TT d 810 vs σ) (h:or3 d vs σ = r):z09 (.BoolOp .Or [e1,e2,e3] p) (IE d sc l) ℓ σ = r:=by
 rw [← h]
 refine (?_:(z09 e1 _ ℓ σ).bind _ = _)
 rw [h1]
 unfold or3
 congr;funext a σ;congr;funext c σ
 refine (?_:(if c = true then _ else (z09 e2 _ ℓ σ).bind _) = _)
 rw [h2]
 congr;funext a σ;congr;funext c σ
 refine (?_:(if c = true then _ else z09 e3 _ ℓ σ) = _)
 rw [h3]
theorem zcp (h:z05 TT d 796 vs σ = .ok (.bool true) σ2):or3 d vs σ = .ok (.bool true) σ2:=z0a h rfl
theorem zpy (h:z05 TT d 796 vs σ = .ok (.bool false) σ):or3 d vs σ = (z05 TT d 803 vs σ).bind fun a σ=>(Res.of σ (tru a)).bind fun c σ=>if c then .ok a σ else z05 TT d 810 vs σ:=z0a h rfl
theorem zi2 (h:z05 TT d 796 vs σ = .ok (.bool false) σ) (h2:z05 TT d 803 vs σ = .ok (.bool true) σ2):or3 d vs σ = .ok (.bool true) σ2:=(zpy h).trans (z0a h2 rfl)
theorem zl4 (h:z05 TT d 796 vs σ = .ok (.bool false) σ) (h2:z05 TT d 803 vs σ = .exc w σ2):or3 d vs σ = .exc w σ2:=(zpy h).trans (z91 h2)
theorem zpz (h:z05 TT d 796 vs σ = .ok (.bool false) σ) (h2:z05 TT d 803 vs σ = .ok (.bool false) σ) (h3:z05 TT d 810 vs σ = r):or3 d vs σ = r:=(zpy h).trans (z0a h2 h3)
theorem zvq (ht:zjs bd hs o f = some t) (hc:((I.lvl && (z2j t.e && decide (I.sc.lookup t.n = some .local))) && z1g I.sc t.x) = true) (h:z09 t.e I ℓ σ = .ok v σ1) (h2:z0v (ss :: st) I (z1e ℓ t.x v) σ1 = R):z0v ((.Try bd hs o f p :: ss) :: st) I ℓ σ = R :=
 have hc:=Bool.and_eq_true_iff.mp hc
 z4z (z0a (of_of ht) ((if_pos hc.1).trans (by exact h ▸ z0a (of_of (z3n hc.2)) rfl))) h2
theorem zt5 (ht:zjs bd hs o f = some t) (hc:((I.lvl && (z2j t.e && decide (I.sc.lookup t.n = some .local))) && zg9 I t.c) = true) (h:z09 t.e I ℓ σ = .exc w σ1):z0v ((.Try bd hs o f p :: ss) :: st) I ℓ σ = .ok (.ret (.str w),[]) σ1 :=
 have hc:=Bool.and_eq_true_iff.mp hc
 zhi (z0a (of_of ht) ((if_pos hc.1).trans (h ▸ if_pos hc.2)))
end
structure LM (P:Pm) (ℓ:Loc):Prop where
 i:look ℓ (S "interp") = some (.ref (P.b + 1))
 r:look ℓ (S "run") = some (.ref (P.b + 26))
 e:look ℓ (S "effects") = some (.ref (P.b + 29))
 a:look ℓ (S "asked") = some (.ref (P.b + 30))
noncomputable def lmOk (x:Str):Bool:=!(decide (x = S "interp") || (decide (x = S "run") || (decide (x = S "effects") || decide (x = S "asked"))))
section
variable {P:Pm} {σ σ' σ1 σ2 τ:AS} {m:Mach} {d:Nat} {t:z31} {v c:AV} {k:Str} {rest st vs:List AV} {ℓ:Loc} {n:Nat} {x:Str}
theorem LM.put (h:LM P ℓ) (hx:lmOk x = true):LM P (z1e ℓ x v):=by
 unfold lmOk at hx
 simp only [Bool.not_eq_true',Bool.or_eq_false_iff] at hx
 exact ⟨z0c hx.1 h.i,z0c hx.2.1 h.r,z0c hx.2.2.1 h.e,z0c hx.2.2.2 h.a⟩
theorem MR.draw (h:MR P σ m):MR P (z1h P σ ((m.place:Int) + 1)) { m with place:=m.place + 1 }:=h.placed (k:=m.place + 1)
noncomputable def Go (P:Pm) (d:Nat) (ℓ:Loc) (σ σ':AS):Prop:=∀ n:Nat,∃ ℓ',z8i d (.int n) (.next,ℓ) σ = .ok (.go (.next,ℓ')) σ'∧LM P ℓ'
noncomputable def zvr (d:Nat) (ℓ:Loc) (σ:AS) (w:Str) (σ':AS):Prop:=∀ n:Nat,∃ ℓ',z8i d (.int n) (.next,ℓ) σ = .ok (.stop (.ret (.str w),ℓ')) σ'
theorem zt6 (L:LM P ℓ) (h:MR P σ m) (hr:P.rows[m.place]? = some (.tup [.str (S "end")])) (hl:P.rows.length < 1000000):zvr d ℓ σ (S "") σ:=by
 obtain r1:=h.w 26 _ rfl
 obtain r2:=h.w 25 _ rfl
 obtain r3:=h.rw
 obtain ai:=z3t hr
 obtain q1:=L.r
 refine fun n=>⟨?_,?e⟩
 case e=>refine zfn rfl rfl rfl (z0f rfl (z0m rfl (z6c (z01 rfl (z0c rfl q1)) (z2k r1 r2 rfl rfl)) (z6c (z01 rfl (z0c rfl q1)) (z2k r1 r2 rfl rfl)) (z3w r3 hl ai)) (z0i (z08 (z0m rfl (z01 rfl z10) z0b rfl) z0h (z14 z02 z02)) (k_t rfl (z0k z0h)))) ?_;exact rfl
theorem z3g (L:LM P ℓ) (h:MR P σ m) (hr:P.rows[m.place]? = some (.tup (.str k :: rest))) (hl:P.rows.length < 1000000) (hrl:rest.length < 100) (hk:PyData.strOk k = true) (hn:(k == S "end" || (k == S "ask" || (k == S "note" || k == S "gave"))) = false)
  (hp:or3 d (pa P (.tup (.str k :: rest))) (z1h P σ ((m.place:Int) + 1)) = .ok (.bool true) σ2):Go P d ℓ σ σ2:=by
 obtain r1:=h.w 26 _ rfl
 obtain r2:=h.w 25 _ rfl
 obtain r3:=h.rw
 obtain ai:=z3t hr
 obtain q1:=L.r
 obtain q2:=L.i
 simp only [Bool.or_eq_false_iff] at hn
 refine zjv hn fun k1 k2 k3 k4=>?_
 unfold z1h at hp
 refine fun n=>⟨?_,?e,?m⟩
 case e=>refine zfn rfl rfl rfl (z0f rfl (z0m rfl (z6c (z01 rfl (z0c rfl q1)) (z2k r1 r2 rfl rfl)) (z6c (z01 rfl (z0c rfl q1)) (z2k r1 r2 rfl rfl)) (z3w r3 hl ai)) (z0i (z08 (z0m rfl (z01 rfl z10) z0b (z5j hrl)) z0h (z14 hk z02)) (k_f k1 (z07 (z6e (z01 rfl (z0c rfl (z0c rfl q1))) (z2k r1 r2 rfl rfl) z0b rfl (z4a r1 r2 (of_decide_eq_true rfl) rfl z5i) (z0i (z08 (z0m rfl (z01 rfl z10) z0b (z5j hrl)) z0h (z14 hk z02)) (k_f k2 (z0i (z08 (z0m rfl (z01 rfl z10) z0b (z5j hrl)) z0h (z14 hk z02)) (k_f k3 (z0i (z08 (z0m rfl (z01 rfl z10) z0b (z5j hrl)) z0h (z14 hk z02)) (k_f k4 (zvq rfl rfl (zt4 (fun uu=>z0g rfl rfl (z03 (z01 rfl (z0c rfl (z0c rfl q2))) (z03 (z01 rfl (z0c rfl (z0c rfl q1))) (z04 (z01 rfl z10)))) rfl) (fun uu=>z0g rfl rfl (z03 (z01 rfl (z0c rfl (z0c rfl q2))) (z03 (z01 rfl (z0c rfl (z0c rfl q1))) (z04 (z01 rfl z10)))) rfl) (fun uu=>z0g rfl rfl (z03 (z01 rfl (z0c rfl (z0c rfl q2))) (z03 (z01 rfl (z0c rfl (z0c rfl q1))) (z04 (z01 rfl z10)))) rfl) hp) (z0i (z2q (z13 rfl (z01 rfl z10) rfl)) (k_f rfl (z07 (z07 (z07 (z07 (z07 z23))))))))))))))))))) ?_;exact rfl
 case m=>exact ((L.put rfl).put rfl).put rfl
section
theorem ze4 {w:Str} (L:LM P ℓ) (h:MR P σ m) (hr:P.rows[m.place]? = some (.tup (.str k :: rest))) (hl:P.rows.length < 1000000) (hrl:rest.length < 100) (hk:PyData.strOk k = true) (hn:(k == S "end" || (k == S "ask" || (k == S "note" || k == S "gave"))) = false)
  (hp:or3 d (pa P (.tup (.str k :: rest))) (z1h P σ ((m.place:Int) + 1)) = .exc w σ2):zvr d ℓ σ w σ2:=by
 obtain r1:=h.w 26 _ rfl
 obtain r2:=h.w 25 _ rfl
 obtain r3:=h.rw
 obtain ai:=z3t hr
 obtain q1:=L.r
 obtain q2:=L.i
 simp only [Bool.or_eq_false_iff] at hn
 refine zjv hn fun k1 k2 k3 k4=>?_
 unfold z1h at hp
 refine fun n=>⟨?_,?e⟩
 case e=>refine zfn rfl rfl rfl (z0f rfl (z0m rfl (z6c (z01 rfl (z0c rfl q1)) (z2k r1 r2 rfl rfl)) (z6c (z01 rfl (z0c rfl q1)) (z2k r1 r2 rfl rfl)) (z3w r3 hl ai)) (z0i (z08 (z0m rfl (z01 rfl z10) z0b (z5j hrl)) z0h (z14 hk z02)) (k_f k1 (z07 (z6e (z01 rfl (z0c rfl (z0c rfl q1))) (z2k r1 r2 rfl rfl) z0b rfl (z4a r1 r2 (of_decide_eq_true rfl) rfl z5i) (z0i (z08 (z0m rfl (z01 rfl z10) z0b (z5j hrl)) z0h (z14 hk z02)) (k_f k2 (z0i (z08 (z0m rfl (z01 rfl z10) z0b (z5j hrl)) z0h (z14 hk z02)) (k_f k3 (z0i (z08 (z0m rfl (z01 rfl z10) z0b (z5j hrl)) z0h (z14 hk z02)) (k_f k4 (zt5 rfl rfl (zt4 (fun uu=>z0g rfl rfl (z03 (z01 rfl (z0c rfl (z0c rfl q2))) (z03 (z01 rfl (z0c rfl (z0c rfl q1))) (z04 (z01 rfl z10)))) rfl) (fun uu=>z0g rfl rfl (z03 (z01 rfl (z0c rfl (z0c rfl q2))) (z03 (z01 rfl (z0c rfl (z0c rfl q1))) (z04 (z01 rfl z10)))) rfl) (fun uu=>z0g rfl rfl (z03 (z01 rfl (z0c rfl (z0c rfl q2))) (z03 (z01 rfl (z0c rfl (z0c rfl q1))) (z04 (z01 rfl z10)))) rfl) hp))))))))))))) ?_;exact rfl
end
end
end
section
open PySem PySem.W
noncomputable abbrev z1s:=Nat×Nat×Nat
set_option genCtorIdx true in
inductive Eff where
 | note (x:Bool) (t:z31) (fors:Nat) (opens:List z1s) (steps:Nat)
 | gave (mark:Int) (fors:Nat) (opens:List z1s) (steps:Nat)
noncomputable def z3j (o:z1s):AV:=.tup [.int o.1,.int o.2.1,.int o.2.2]
noncomputable def EffRep (M:Nat→Prop) (σ:AS) (v:AV):Eff→Prop
 | .note x t f o s=>∃ tv l,v = .tup [.str (S "note"),.str (nm x),tv,.int f,.ref l,.int s]∧TRep M σ tv t∧σ[l]? = some (.list (o.map z3j))∧¬ M l
 | .gave m f o s=>∃ l,v = .tup [.str (S "gave"),.int m,.str (S "NULL"),.bool false,.int f,.ref l,.int s]∧σ[l]? = some (.list (o.map z3j))∧¬ M l
theorem EffRep.ex {M:Nat→Prop} {σ σ':AS} {v:AV} {e:Eff} (h:EffRep M σ v e) (x:Ex M σ σ'):EffRep M σ' v e:=by
 induction e with
 | note b t f o s =>
  refine z47 h fun tv l e1 e2 e3 e4=>?_
  exact ⟨tv,l,e1,e2.ex x,x.list e4 e3,e4⟩
 | gave m f o s =>
  refine z1m h fun l e1 e3 e4=>?_
  exact ⟨l,e1,x.list e4 e3,e4⟩
section
variable {P:Pm} {σ σ' σ1 σ2 τ:AS} {m:Mach} {d:Nat} {t:z31} {v c:AV} {k:Str} {rest st vs:List AV} {ℓ:Loc} {n:Nat} {x:Bool} {ans:List Int} {mk:Int} {o:List z1s}
theorem zt7 {l:Nat} {Q:Prop} (L:LM P ℓ) (h:MR P σ m) (hr:P.rows[m.place]? = some (.tup [.str (S "ask"),.int mk,.ref l])) (hl:P.rows.length < 1000000) (ha:σ[l]? = some (.list (ans.map .int))) (hn:¬ Mm P l) (ok:∀ a∈ans,0≤a∧a < 14) (hal:ans.length < 1000)
  (hs:m.stack.length < 90000) (hq:m.asked.length < 90000)
  (K:∀ σ' v,Go P (d + 3) ℓ σ σ'→MR P σ' { m with place:=m.place + 1,stack:=m.stack++[v],asked:=z1e m.asked mk (cnt m.asked mk + 1) }→Ex (Mm P) σ σ'→IsVec (Mm P) σ' v (z9w (z6m ans (cnt m.asked mk))).1 (z9w (z6m ans (cnt m.asked mk))).2 .none→Q):Q:=by
 obtain h1:=h.draw
 obtain x1:Ex (Mm P) σ (z1h P σ ((m.place:Int) + 1)):=Ex.set Mm.in25
 obtain ea:=zdu (d:=d + 2) (m:=mk) (h1.w 30 _ rfl) (x1.list hn ha) (fun q=>hn (q ▸ Mm.in30)) (lt5 hq) (Nat.lt_trans hal (of_decide_eq_true rfl))
 obtain h2:=h1.setAsked (k:=z1e m.asked mk (cnt m.asked mk + 1))
 obtain r:=z7p (c:=cnt m.asked mk) ok
 refine z1c (z8f (d:=d) (σ:=(z1h P σ ((m.place:Int) + 1)).set (P.b + 30) (zby (z1e m.asked mk (cnt m.asked mk + 1)))) (M:=Mm P) _ r.1 r.2 (fun i hi=>Mm.hi h2 hi)) fun v σ3 ev x3 hv=>?_
 obtain h3:=h2.ex0 x3
 obtain x4:Ex (Mm P) σ3 (σ3.set (P.b + 27) (.list (m.stack++[v]))):=Ex.set Mm.in27
 refine K _ v (fun n=>⟨?_,?e,?l⟩) h3.setStack (((x1.trans (Ex.set Mm.in30)).trans x3.of0).trans x4) (hv.ex x4)
 case e =>
  obtain r1:=h.w 26 _ rfl
  obtain r2:=h.w 25 _ rfl
  obtain r3:=h.rw
  obtain r4:σ3[P.b + 27]? = some (.list m.stack):=h3.w 27 _ rfl
  obtain r5:=h.w 27 _ rfl
  obtain ai:=z3t hr
  obtain q1:=L.r
  obtain q2:=L.a
  obtain hs:=lt5 hs
  have ea:z05 TT (d + 2 + 1) 1107 [.int mk,.ref l,.ref (P.b + 30)] _ = _:=ea
  unfold z1h at ea ev
  refine zfn rfl rfl rfl (z0f rfl (z0m rfl (z6c (z01 rfl (z0c rfl q1)) (z2k r1 r2 rfl rfl)) (z6c (z01 rfl (z0c rfl q1)) (z2k r1 r2 rfl rfl)) (z3w r3 hl ai)) (z0i (z29 (z18 (z01 rfl z10) rfl) rfl) (k_f rfl (z07 (z6e (z01 rfl (z0c rfl (z0c rfl q1))) (z2k r1 r2 rfl rfl) z0b rfl (z4a r1 r2 (of_decide_eq_true rfl) rfl z5i) (z0i (z29 (z18 (z01 rfl z10) rfl) rfl) (k_t rfl (z0s rfl (z0j rfl (z6c (z01 rfl (z0c rfl (z0c rfl q1))) (z2k (hb3 rfl r1) (z0d r2) rfl rfl)) (z16 (hb3 rfl r5)) (z04 (z0g rfl rfl (z04 (z0g rfl rfl (z03 (z18 (z01 rfl z10) rfl) (z03 (z18 (z01 rfl z10) rfl) (z04 (z01 rfl (z0c rfl (z0c rfl q2)))))) ea)) ev)) (z3e r4 hs)) (z07 (z07 z23)))))))))) ?_;exact rfl
 case l=>exact (L.put rfl).put rfl
theorem zq0 {Q:Prop} (L:LM P ℓ) (h:MR P σ m) (hr:P.rows[m.place]? = some (.tup [.str (S "note"),.str (nm x)])) (hl:P.rows.length < 1000000) (hst:m.stack = st++[v]) (hv:Val (Mm P) σ v t) (ok:TOk t) (hz:t.1 = S "NULL"→t = (S "NULL",[]))
  (hs:st.length < 90000) (hlo:m.loops.length < 90000) (he:m.eff.length < 90000) (hlp:m.loops = o.map z3j)
  (K:∀ σ' ev,Go P (d + 3) ℓ σ σ'→MR P σ' { m with place:=m.place + 1,stack:=st,eff:=m.eff++[ev] }→Ex (Mm P) σ σ'→EffRep (Mm P) σ' ev (.note x t st.length o m.steps)→Q):Q:=by
 obtain h1:=h.draw
 obtain h2:=h1.setStack (k:=st)
 obtain x2:Ex (Mm P) σ ((z1h P σ ((m.place:Int) + 1)).set (P.b + 27) (.list st)):=(Ex.set Mm.in25).trans (Ex.set Mm.in27)
 obtain et:=zck (d:=d + 2) (hv.ex x2) ok hz
 obtain ⟨σ2,q2⟩:∃ σ2,σ2 = (z1h P σ ((m.place:Int) + 1)).set (P.b + 27) (.list st):=⟨_,rfl⟩
 rw [← q2] at h2 x2 et
 obtain h3:=h2.app (τ:=[.list t.2,.list m.loops])
 obtain n2:∀ i,σ2.length≤i→¬ Mm P i:=fun i hi=>Mm.hi h2 hi
 obtain x4:Ex (Mm P) (σ2++[AO.list t.2,AO.list m.loops]) ((σ2++[AO.list t.2,AO.list m.loops]).set (P.b + 29) (.list (m.eff++[AV.tup [.str (S "note"),.str (nm x),.tup [.str t.1,.ref σ2.length],.int st.length,.ref (σ2.length + 1),.int m.steps]]))):=Ex.set Mm.in29
 refine K _ (.tup [.str (S "note"),.str (nm x),.tup [.str t.1,.ref σ2.length],.int st.length,.ref (σ2.length + 1),.int m.steps]) (fun n=>⟨?_,?e,?l⟩) h3.setEff ((x2.trans Ex.app).trans x4)
  ⟨_,_,rfl,⟨_,rfl,x4.list (n2 _ (Nat.le_refl _)) z0y,n2 _ (Nat.le_refl _)⟩,x4.list (n2 _ (Nat.le_succ _)) (hlp ▸ z4f rfl),n2 _ (Nat.le_succ _)⟩
 case e =>
  obtain r1:=h.w 26 _ rfl
  obtain r2:=h.w 25 _ rfl
  obtain r3:=h.rw
  obtain r4:σ[P.b + 27]? = some (.list (st++[v])):=hst ▸ h.w 27 _ rfl
  obtain s1:=h2.w 26 _ rfl
  obtain s2:=h2.w 25 _ rfl
  obtain s3:=h2.w 27 _ rfl
  obtain s4:=h2.w 28 _ rfl
  obtain s5:=h2.w 29 _ rfl
  obtain s6:=h2.w 1 _ rfl
  obtain s7:=h2.w 0 _ rfl
  obtain ai:=z3t hr
  obtain q1:=L.r
  obtain q2':=L.i
  obtain q3:=L.e
  obtain hs1:=zl2 (v:=v) hs
  obtain hs:=lt6 hs
  obtain hlo:=lt5 hlo
  obtain he:=lt5 he
  subst q2
  refine zfn rfl rfl rfl (z0f rfl (z0m rfl (z6c (z01 rfl (z0c rfl q1)) (z2k r1 r2 rfl rfl)) (z6c (z01 rfl (z0c rfl q1)) (z2k r1 r2 rfl rfl)) (z3w r3 hl ai)) (z0i (z29 (z18 (z01 rfl z10) rfl) rfl) (k_f rfl (z07 (z6e (z01 rfl (z0c rfl (z0c rfl q1))) (z2k r1 r2 rfl rfl) z0b rfl (z4a r1 r2 (of_decide_eq_true rfl) rfl z5i) (z0i (z29 (z18 (z01 rfl z10) rfl) rfl) (k_f rfl (z0i (z29 (z18 (z01 rfl z10) rfl) rfl) (k_t rfl (z0f rfl (z0j rfl (z6c (z01 rfl (z0c rfl (z0c rfl q1))) (z2k (hb3 rfl r1) (z0d r2) rfl rfl)) (z41 (hb3 rfl r4)) z0w (z6l (hb3 rfl r4) hs1)) (z0s rfl (z0j rfl (z01 rfl (z0c rfl (z0c rfl (z0c rfl q3)))) (z16 s5) (z04 (z11 (z03 z0h (z03 (z18 (z01 rfl (z0c rfl z10)) rfl) (z03 (z0g rfl rfl (z04 (z01 rfl z10)) et) (z03 (z0r rfl rfl (z04 (z6c (z01 rfl (z0c rfl (z0c rfl (z0c rfl q1)))) (z2k (z0n (hb3 rfl (hb3 rfl r1))) (z0n (hb3 rfl (z0d r2))) rfl rfl))) (z3q (z0n (z0d (hb3 rfl r4))) hs)) (z03 (z0r rfl rfl (z04 (z6c (z01 rfl (z0c rfl (z0c rfl (z0c rfl q1)))) (z2k (z0n (hb3 rfl (hb3 rfl r1))) (z0n (hb3 rfl (z0d r2))) rfl rfl))) (z6f (z0n s4) hlo (z22 rfl) (z1f rfl))) (z04 (z6c (z01 rfl (z0c rfl (z0c rfl (z0c rfl q2')))) (z2k (z0n s6) (z0n s7) rfl rfl)))))))) rfl)) (z3e (z0n s5) he)) (z07 (z07 (z07 z23)))))))))))))) ?_;exact rfl
 case l=>exact ((L.put rfl).put rfl).put rfl
theorem zi3 {Q:Prop} (L:LM P ℓ) (h:MR P σ m) (hr:P.rows[m.place]? = some (.tup [.str (S "gave"),.int mk])) (hl:P.rows.length < 1000000) (hst:m.stack = st++[v]) (hv:IsNull (Mm P) σ v) (hvis:m.vis = false)
  (hs:st.length < 90000) (hlo:m.loops.length < 90000) (he:m.eff.length < 90000) (hlp:m.loops = o.map z3j)
  (K:∀ σ' ev,Go P (d + 3) ℓ σ σ'→MR P σ' { m with place:=m.place + 1,stack:=st,eff:=m.eff++[ev] }→Ex (Mm P) σ σ'→EffRep (Mm P) σ' ev (.gave mk st.length o m.steps)→Q):Q:=by
 obtain h1:=h.draw
 obtain h2:=h1.setStack (k:=st)
 obtain x2:Ex (Mm P) σ ((z1h P σ ((m.place:Int) + 1)).set (P.b + 27) (.list st)):=(Ex.set Mm.in25).trans (Ex.set Mm.in27)
 refine z47 (hv.ex x2) fun j jn zr02 e2 e3 uu=>?_;obtain rfl:=zr02
 obtain ⟨σ2,q2⟩:∃ σ2,σ2 = (z1h P σ ((m.place:Int) + 1)).set (P.b + 27) (.list st):=⟨_,rfl⟩
 rw [← q2] at h2 x2 e2 e3
 obtain h3:=h2.app (τ:=[.list m.loops])
 obtain n2:∀ i,σ2.length≤i→¬ Mm P i:=fun i hi=>Mm.hi h2 hi
 obtain x4:Ex (Mm P) (σ2++[AO.list m.loops]) ((σ2++[AO.list m.loops]).set (P.b + 29) (.list (m.eff++[AV.tup [.str (S "gave"),.int mk,.str (S "NULL"),.bool false,.int st.length,.ref σ2.length,.int m.steps]]))):=Ex.set Mm.in29
 refine K _ (.tup [.str (S "gave"),.int mk,.str (S "NULL"),.bool false,.int st.length,.ref σ2.length,.int m.steps]) (fun n=>⟨?_,?e,?l⟩) h3.setEff ((x2.trans Ex.app).trans x4)
  ⟨_,rfl,x4.list (n2 _ (Nat.le_refl _)) (hlp ▸ z0y),n2 _ (Nat.le_refl _)⟩
 case e =>
  obtain r1:=h.w 26 _ rfl
  obtain r2:=h.w 25 _ rfl
  obtain r3:=h.rw
  obtain r4:σ[P.b + 27]? = some (.list (st++[.ref j])):=hst ▸ h.w 27 _ rfl
  obtain s1:=h2.w 26 _ rfl
  obtain s2:=h2.w 25 _ rfl
  obtain s3:=h2.w 27 _ rfl
  obtain s4:=h2.w 28 _ rfl
  obtain s5:=h2.w 29 _ rfl
  obtain s6:=h2.w 1 _ rfl
  obtain s7:σ2[P.b]? = some (.ns (zbz P.b 3 m.steps false)):=hvis ▸ h2.w 0 _ rfl
  obtain ai:=z3t hr
  obtain q1:=L.r
  obtain q2':=L.i
  obtain q3:=L.e
  obtain hs1:=zl2 (v:=.ref j) hs
  obtain hs:=lt6 hs
  obtain hlo:=lt5 hlo
  obtain he:=lt5 he
  subst q2
  refine zfn rfl rfl rfl (z0f rfl (z0m rfl (z6c (z01 rfl (z0c rfl q1)) (z2k r1 r2 rfl rfl)) (z6c (z01 rfl (z0c rfl q1)) (z2k r1 r2 rfl rfl)) (z3w r3 hl ai)) (k_z (z29 (z18 (z01 rfl z10) rfl) rfl) (z6e (z01 rfl (z0c rfl (z0c rfl q1))) (z2k r1 r2 rfl rfl) z0b rfl (z4a r1 r2 (of_decide_eq_true rfl) rfl z5i) (k_o (z29 (z18 (z01 rfl z10) rfl) rfl) (k_o (z29 (z18 (z01 rfl z10) rfl) rfl) (k_y (z29 (z18 (z01 rfl z10) rfl) rfl) (z0f rfl (z0j rfl (z6c (z01 rfl (z0c rfl (z0c rfl q1))) (z2k (hb3 rfl r1) (z0d r2) rfl rfl)) (z41 (hb3 rfl r4)) z0w (z6l (hb3 rfl r4) hs1)) (z0s rfl (z0j rfl (z01 rfl (z0c rfl (z0c rfl (z0c rfl q3)))) (z16 s5) (z04 (z11 (z15 (z03 (z18 (z01 rfl (z0c rfl z10)) rfl) (z03 (z6c (z01 rfl z10) (z2k e2 e3 rfl rfl)) (z03 (z6c (z01 rfl (z0c rfl (z0c rfl (z0c rfl q2')))) (z2k s6 s7 rfl rfl)) (z03 (z0r rfl rfl (z04 (z6c (z01 rfl (z0c rfl (z0c rfl (z0c rfl q1)))) (z2k (hb3 rfl (hb3 rfl r1)) (hb3 rfl (z0d r2)) rfl rfl))) (z3q (z0d (hb3 rfl r4)) hs)) (z03 (z0r rfl rfl (z04 (z6c (z01 rfl (z0c rfl (z0c rfl (z0c rfl q1)))) (z2k (hb3 rfl (hb3 rfl r1)) (hb3 rfl (z0d r2)) rfl rfl))) (z6f s4 hlo z1l z1k)) (z04 (z6c (z01 rfl (z0c rfl (z0c rfl (z0c rfl q2')))) (z2k (z0n s6) (z0n s7) rfl rfl))))))))) rfl)) (z3e (z0n s5) he)) (z07 (z07 (z07 (z07 z23)))))))))))) ?_;exact rfl
 case l=>exact ((L.put rfl).put rfl).put rfl
end
end
section
open PySem PySem.W
set_option genCtorIdx true in
inductive Stm where
 | note (x:Bool)
 | leave (mark:Int) (brk:Bool) (ans:List Int)
 | loopF (mark:Int) (x:Bool) (sort:Int) (picks:List Int) (body:List Stm)
 | loopW (mark:Int) (ans:List Int) (body:List Stm)
noncomputable def z5k (b:Bool):Str:=if b then S "break" else S "next"
set_option genCtorIdx true in
inductive Way where
 | fall | brk | nxt | ref (r:Refu)
noncomputable def Way.av:Way→AV
 | .fall=>.none
 | .brk=>.str (S "break")
 | .nxt=>.str (S "next")
 | .ref r=>.str r.str
noncomputable def zl5 (b:Bool):Way:=if b then .brk else .nxt
structure PSt where
 hx:z31
 hy:z31
 steps:Nat
 opens:List z1s
 fors:Nat
 asked:z9v
 due:List Eff
namespace PSt
noncomputable def held (s:PSt) (x:Bool):z31:=if x then s.hy else s.hx
noncomputable def hold (s:PSt) (x:Bool) (t:z31):PSt:=⟨if x then s.hx else t,if x then t else s.hy,s.steps,s.opens,s.fors,s.asked,s.due⟩
noncomputable def noted (s:PSt) (x:Bool):PSt:={ s with due:=s.due++[.note x (s.held x) s.fors s.opens s.steps] }
noncomputable def ask (s:PSt) (m:Int):PSt:={ s with asked:=z1e s.asked m (cnt s.asked m + 1) }
noncomputable def nth (s:PSt) (m:Int) (ans:List Int):Int:=z6m ans (cnt s.asked m)
noncomputable def tick (s:PSt):PSt:={ s with steps:=s.steps + 1 }
noncomputable def enterF (s:PSt) (x:Bool) (e:Nat×Nat):PSt:={ s.hold x (S "NULL",[]) with fors:=s.fors + 1,opens:=s.opens++[(s.fors + 1,e.1,e.2)] }
noncomputable def enterW (s:PSt) (e:Nat×Nat):PSt:={ s with opens:=s.opens++[(s.fors,e.1,e.2)] }
noncomputable def exit (s:PSt) (m:Int) (fors:Nat):PSt:={ s with opens:=s.opens.dropLast,fors:=fors,due:=s.due++[.gave m fors s.opens.dropLast s.steps] }
noncomputable def size (s:PSt):Nat:=s.steps + s.opens.length + s.fors + s.asked.length + s.due.length
end PSt
noncomputable abbrev Out:=Way×PSt
noncomputable def andThen (f:PSt→Out):Out→Out
 | (.fall,s)=>f s
 | q=>q
noncomputable def lap (f:PSt→Out):Out→Out
 | (.brk,s)=>(.fall,s)
 | (.ref e,s)=>(.ref e,s)
 | (_,s)=>f s.tick
noncomputable def askR (f:Bool→PSt→Out) (s:PSt):Sum Bool Refu→Out
 | .inl b=>f b s
 | .inr e=>(.ref e,s)
noncomputable def z9z (g:PSt→Out) (x:Bool):List z31→PSt→Out
 | [],s=>(.fall,s)
 | t :: ts,s=>lap (z9z g x ts) (g (s.hold x t))
noncomputable def z4b (g:PSt→Out) (m:Int) (ans:List Int):Nat→PSt→Out
 | 0,s=>(.fall,s)
 | k + 1,s=>askR (fun b s=>if b then lap (z4b g m ans k) (g s) else (.fall,s)) (s.ask m) (z1y (s.nth m ans))
section
variable (en:Int→Nat×Nat)
mutual
noncomputable def evS:Stm→PSt→Out
 | .note x,s=>(.fall,s.noted x)
 | .leave m b ans,s=>askR (fun c s=>(if c then zl5 b else .fall,s)) (s.ask m) (z1y (s.nth m ans))
 | .loopF m x o p b,s=>if o = 6 then (.ref .seq,s) else andThen (fun s1=>(.fall,s1.exit m s.fors)) (z9z (evB b) x (z0z o p) (s.enterF x (en m)))
 | .loopW m ans b,s=>andThen (fun s1=>(.fall,s1.exit m s.fors)) (z4b (evB b) m ans 3 (s.enterW (en m)))
noncomputable def evB:List Stm→PSt→Out
 | [],s=>(.fall,s)
 | a :: r,s=>andThen (evB r) (evS a s)
end
end
noncomputable def z4g (c:Nat):Nat→Nat
 | 0=>1
 | n + 1=>z4g c n + 1 + c + 1
noncomputable def z3u (c:Nat):Nat→Nat
 | 0=>2
 | n + 1=>z3u c n + 1 + c + 2
mutual
noncomputable def z3h:Stm→Nat
 | .note _=>2
 | .leave _ _ _=>3
 | .loopF _ _ _ _ b=>2 + z4g (z0u b) 3 + 2
 | .loopW _ _ b=>2 + z3u (z0u b) 3 + 1
noncomputable def z0u:List Stm→Nat
 | []=>0
 | s :: r=>z0u r + z3h s
end
noncomputable def za0 (ans:List Int):Prop:=ans.length≤2∧∀ a∈ans,0≤a∧a < 14
noncomputable def z95 (sort:Int) (picks:List Int):Prop:=0≤sort∧sort < 7∧picks.length≤3∧∀ k∈picks,z94 k
mutual
noncomputable def wfS:Stm→Prop
 | .note _=>True
 | .leave _ _ ans=>za0 ans
 | .loopF _ _ o p b=>z95 o p∧b.length < 3900∧wfB b
 | .loopW _ ans b=>za0 ans∧b.length < 3900∧wfB b
noncomputable def wfB:List Stm→Prop
 | []=>True
 | s :: r=>wfS s∧wfB r
end
section
variable {s:PSt} {m m':Int} {x:Bool} {t:z31} {ans:List Int}
theorem z4s {κ α:Type} [DecidableEq κ] {x:κ} {w:α}:∀ {fs:List (κ×α)},(z1e fs x w).length≤fs.length + 1
 | []=>Nat.le_refl _
 | (y,v) :: r=>by
  rw [z3f];split
  ·exact Nat.le_succ _
  ·exact Nat.succ_le_succ z4s
theorem zcq:cnt (s.ask m).asked m' = if m = m' then cnt s.asked m + 1 else cnt s.asked m':=by
 unfold PSt.ask cnt;dsimp only
 rw [z3o];split <;> rfl
theorem z96:cnt s.asked m'≤cnt (s.ask m).asked m':=by
 rw [zcq];split
 ·rename_i h;subst h;exact Nat.le_succ _
 ·exact Nat.le_refl _
theorem za1 (h:ans.length≤cnt s.asked m):z1y (s.nth m ans) = .inl false:=by
 unfold PSt.nth z6m
 rw [List.getElem?_eq_none h];rfl
noncomputable def Upw (s:PSt) (q:Out):Prop:=∀ m,cnt s.asked m≤cnt q.2.asked m
theorem Upw.andThen {f:PSt→Out} {q:Out} (h:Upw s q) (hf:∀ s,Upw s (f s)):Upw s (andThen f q):=by
 obtain ⟨w,s1⟩:=q
 cases w <;> first | exact fun m=>Nat.le_trans (h m) (hf _ m) | exact h
theorem Upw.lap {f:PSt→Out} {q:Out} (h:Upw s q) (hf:∀ s,Upw s (f s)):Upw s (lap f q):=by
 obtain ⟨w,s1⟩:=q
 cases w <;> first | exact h | exact fun m=>Nat.le_trans (h m) (hf s1.tick m)
theorem Upw.askR {f:Bool→PSt→Out} {a:Sum Bool Refu} (hf:∀ b s,Upw s (f b s)):Upw s (askR f (s.ask m) a):=by
 cases a
 ·exact fun m'=>Nat.le_trans z96 (hf _ _ m')
 ·exact fun m'=>z96
theorem Upw.rfl {w:Way}:Upw s (w,s):=fun m=>Nat.le_refl _
theorem zn1 {g:PSt→Out} (hg:∀ s,Upw s (g s)):∀ ts s,Upw s (z9z g x ts s)
 | [],s=>.rfl
 | t :: ts,s=>Upw.lap (s:=s) (fun m=>hg (s.hold x t) m) (zn1 hg ts)
theorem ze5 {g:PSt→Out} (hg:∀ s,Upw s (g s)):∀ k s,Upw s (z4b g m ans k s)
 | 0,s=>.rfl
 | k + 1,s=>Upw.askR fun b s=>by
  cases b
  ·exact .rfl
  ·exact (hg s).lap (ze5 hg k)
variable {en:Int→Nat×Nat}
mutual
theorem up_S:∀ a s,Upw s (evS en a s)
 | .note x,s=>fun uu=>Nat.le_refl _
 | .leave m b ans,s=>Upw.askR fun b s uu=>Nat.le_refl _
 | .loopF m x o p b,s=>by
  show Upw s (if o = 6 then _ else _)
  split
  ·exact .rfl
  ·exact Upw.andThen (s:=s) (fun m'=>zn1 (zt8 b) _ (s.enterF x (en m)) m') fun s uu=>Nat.le_refl _
 | .loopW m ans b,s=>Upw.andThen (s:=s) (fun m'=>ze5 (zt8 b) _ (s.enterW (en m)) m') fun s uu=>Nat.le_refl _
theorem zt8:∀ l s,Upw s (evB en l s)
 | [],s=>.rfl
 | a :: r,s=>(up_S a s).andThen (zt8 r)
end
end
end
section
open PySem PySem.W
noncomputable def WP (d r:Nat) (ℓ:Loc) (σ:AS) (Q:Str→AS→Prop):Prop:=∀ k f,k + r≤3000→r < f→∃ w ℓ' σ',z1b (.rng 3000) (z8i d) f k (.next,ℓ) σ = .ok (.ret (.str w),ℓ') σ'∧Q w σ'
section
variable {P:Pm} {d r r':Nat} {ℓ:Loc} {σ σ':AS} {Q:Str→AS→Prop} {w:Str}
theorem zl6 {k f:Nat} {a b:z0o×Loc} (hk:k < 3000) (e:z8i d (.int k) a σ = .ok (.go b) σ'):z1b (.rng 3000) (z8i d) (f + 1) k a σ = z1b (.rng 3000) (z8i d) f (k + 1) b σ':=zfg (zp9 (Int.lt_toNat.mp hk)) e
theorem zl7 {k f:Nat} {a b:z0o×Loc} (hk:k < 3000) (e:z8i d (.int k) a σ = .ok (.stop b) σ'):z1b (.rng 3000) (z8i d) (f + 1) k a σ = .ok b σ':=zhl (zp9 (Int.lt_toNat.mp hk)) e
theorem WP.go (g:Go P d ℓ σ σ') (K:∀ ℓ',LM P ℓ'→WP d r ℓ' σ' Q):WP d (r + 1) ℓ σ Q
 | k,0,h1,h2=>absurd h2 (Nat.not_lt_zero _)
 | k,f + 1,h1,h2=>by
  obtain ⟨ℓ',e,L⟩:=g k
  rw [zl6 (Nat.lt_of_add_right_lt h1) e]
  exact K ℓ' L (k + 1) f (by lia) (Nat.lt_of_succ_lt_succ h2)
theorem WP.stop (g:zvr d ℓ σ w σ') (q:Q w σ'):WP d (r + 1) ℓ σ Q
 | k,0,h1,h2=>absurd h2 (Nat.not_lt_zero _)
 | k,f + 1,h1,h2=>by
  obtain ⟨ℓ',e⟩:=g k
  exact ⟨w,ℓ',σ',zl7 (Nat.lt_of_add_right_lt h1) e,q⟩
theorem WP.le (h:WP d r ℓ σ Q) (hr:r≤r'):WP d r' ℓ σ Q:=fun k f h1 h2=>h k f (Nat.le_trans (Nat.add_le_add_left hr k) h1) (Nat.lt_of_le_of_lt hr h2)
end
structure TGood (t:z31):Prop where
 ok:TOk t
 nul:t.1 = S "NULL"→t = (S "NULL",[])
noncomputable def EffAll (M:Nat→Prop) (σ:AS) (vs:List AV) (es:List Eff):Prop:=vs.length = es.length∧∀ (k:Nat) (v:AV) (e:Eff),vs[k]? = some v→es[k]? = some e→EffRep M σ v e
theorem EffAll.ex {M:Nat→Prop} {σ σ':AS} {vs:List AV} {es:List Eff} (h:EffAll M σ vs es) (x:Ex M σ σ'):EffAll M σ' vs es:=⟨h.1,fun k v e a b=>(h.2 k v e a b).ex x⟩
theorem EffAll.snoc {M:Nat→Prop} {σ:AS} {vs:List AV} {es:List Eff} {v:AV} {e:Eff} (h:EffAll M σ vs es) (h1:EffRep M σ v e):EffAll M σ (vs++[v]) (es++[e]) :=
 ⟨by rw [List.length_append,List.length_append,h.1];rfl,fun k v' e' a b=>by
  by_cases hk:k < vs.length
  ·rw [List.getElem?_append_left hk] at a
   rw [List.getElem?_append_left (h.1 ▸ hk)] at b
   exact h.2 k v' e' a b
  ·obtain hk:=Nat.le_of_not_lt hk
   rw [List.getElem?_append_right hk] at a
   rw [List.getElem?_append_right (h.1 ▸ hk),← h.1] at b
   cases hj:k - vs.length with
   | zero=>rw [hj] at a b;obtain rfl:=Option.some.inj a;obtain rfl:=Option.some.inj b;exact h1
   | succ j=>rw [hj] at a;exact nn a⟩
noncomputable def zfo:Eff→Prop
 | .note _ t _ _ _=>TOk t
 | .gave _ _ _ _=>True
theorem zi4 {l:List Eff} {e:Eff} (h:∀ e∈l,zfo e) (h1:zfo e):∀ e'∈l++[e],zfo e':=fun e' he=>(List.mem_append.mp he).elim (h e') fun q=>(List.mem_singleton.mp q) ▸ h1
structure Core (P:Pm) (σ:AS) (m:Mach) (s:PSt) (os:List z1s) (r:Nat):Prop where
 mr:MR P σ m
 steps:m.steps = s.steps
 loops:m.loops = os.map z3j
 opens:s.opens = os
 asked:m.asked = s.asked
 eff:EffAll (Mm P) σ m.eff s.due
 ge:∀ e∈s.due,zfo e
 vx:Val (Mm P) σ m.vx s.hx
 vy:Val (Mm P) σ m.vy s.hy
 gx:TGood s.hx
 gy:TGood s.hy
 sz:s.size + 4 * r≤12000
structure MC (P:Pm) (σ:AS) (m:Mach) (s:PSt) (p:Nat) (stk:List AV) (os:List z1s) (r:Nat):Prop extends Core P σ m s os r where
 place:m.place = p
 stack:m.stack = stk
 fors:stk.length = s.fors
noncomputable def MS (P:Pm) (σ:AS) (s:PSt) (p:Nat) (stk:List AV) (os:List z1s) (r:Nat):Prop:=∃ m,MC P σ m s p stk os r
noncomputable def MX (P:Pm) (σ:AS) (s:PSt):Prop:=∃ m os,Core P σ m s os 0
structure Ok (P:Pm):Prop where
 rl:P.rows.length < 1000000
 cl:P.consts.length < 1000000
section
variable {P:Pm} {σ σ' σ1 σ2:AS} {m m':Mach} {d n k p t r r':Nat} {ℓ ℓ':Loc} {s s':PSt} {stk:List AV} {x:Bool} {mk:Int} {ans:List Int} {os:List z1s} {tt:z31} {v:AV}
theorem szs (h:s.size + 4 * r≤12000):s.steps≤15000∧s.opens.length < 90000∧s.fors < 90000∧s.asked.length < 90000∧s.due.length < 90000:=by
 unfold PSt.size at h;lia
theorem Core.l1 (h:Core P σ m s os r):m.steps≤15000:=h.steps ▸ (szs h.sz).1
theorem Core.l2 (h:Core P σ m s os r):m.loops.length < 90000:=by rw [h.loops,List.length_map,← h.opens];exact (szs h.sz).2.1
theorem MC.l3 (h:MC P σ m s p stk os r):m.stack.length < 90000:=by rw [h.stack,h.fors];exact (szs h.sz).2.2.1
theorem Core.l4 (h:Core P σ m s os r):m.asked.length < 90000:=h.asked ▸ (szs h.sz).2.2.2.1
theorem Core.l5 (h:Core P σ m s os r):m.eff.length < 90000:=by rw [h.eff.1];exact (szs h.sz).2.2.2.2
theorem Core.var (h:Core P σ m s os r) (x:Bool):Val (Mm P) σ (m.var x) (s.held x):=by cases x;exact h.vx;exact h.vy
theorem Core.good (h:Core P σ m s os r) (x:Bool):TGood (s.held x):=by cases x;exact h.gx;exact h.gy
theorem Core.next {os':List z1s} (h:Core P σ m s os r) (h2:MR P σ' m') (x:Ex (Mm P) σ σ') (h3:m'.steps = s'.steps) (h4:m'.loops = os'.map z3j) (h5:s'.opens = os') (h6:m'.asked = s'.asked) (h7:m'.eff = m.eff) (h8:s'.due = s.due)
  (h9:m'.vx = m.vx) (h10:m'.vy = m.vy) (h11:s'.hx = s.hx) (h12:s'.hy = s.hy) (h13:s'.size + 4 * r'≤12000):Core P σ' m' s' os' r' :=
 ⟨h2,h3,h4,h5,h6,h7 ▸ h8 ▸ h.eff.ex x,h8 ▸ h.ge,h9 ▸ h11 ▸ h.vx.ex x,h10 ▸ h12 ▸ h.vy.ex x,h11 ▸ h.gx,h12 ▸ h.gy,h13⟩
end
end
section
open PySem PySem.W
noncomputable def KS (P:Pm) (d:Nat) (Q:Str→AS→Prop) (M:Nat→Prop) (σ:AS) (s:PSt) (p:Nat) (stk:List AV) (os:List z1s) (r:Nat):Prop:=∀ ℓ' σ',LM P ℓ'→MS P σ' s p stk os r→Ex M σ σ'→WP d r ℓ' σ' Q
noncomputable def KX (P:Pm) (Q:Str→AS→Prop) (M:Nat→Prop) (σ:AS) (s:PSt) (e:Refu):Prop:=∀ σ',MX P σ' s→Ex M σ σ'→Q e.str σ'
noncomputable def lit5 (rest:List AV):Prop:=rest.length < 100
section
variable {P:Pm} {σ σ' σ1 σ2:AS} {m m':Mach} {d n k p t r r':Nat} {ℓ ℓ':Loc} {s s':PSt} {stk:List AV} {x:Bool} {mk:Int} {ans:List Int} {os:List z1s} {tt:z31} {v:AV} {Q:Str→AS→Prop}
theorem zi5 (h:s.size + 4 * (r + 2)≤12000):(s.noted x).size + 4 * r≤12000:=by
 have:(s.noted x).size = s.size + 1:=by unfold PSt.size PSt.noted;rw [List.length_append];rfl
 lia
theorem ze6 (h:s.size + 4 * (r + 2)≤12000):(s.ask mk).size + 4 * r≤12000:=by
 have a:(s.ask mk).asked.length≤s.asked.length + 1:=z4s
 refine (?_:s.steps + s.opens.length + s.fors + (s.ask mk).asked.length + s.due.length + 4 * r≤12000)
 unfold PSt.size at h
 lia
theorem zcr {a b:Nat} (h:a + 4 * r'≤12000) (hr:b + 4 * r≤a + 4 * r'):b + 4 * r≤12000:=Nat.le_trans hr h
theorem zq1 (O:Ok P) (L:LM P ℓ) (h:MS P σ s p stk os (r + 2)) (h1:P.rows[p]? = some (.tup [.str (S "var"),.str (nm x)])) (h2:P.rows[p + 1]? = some (.tup [.str (S "note"),.str (nm x)]))
  (K:KS P (d + 6) Q (Mm P) σ (s.noted x) (p + 2) stk os r):WP (d + 6) (r + 2) ℓ σ Q:=by
 obtain ⟨m,h⟩:=h
 obtain hp:=h.place;subst hp
 obtain hs:=h.stack;subst hs
 have x1:Ex (Mm P) σ (z1h P σ ((m.place:Int) + 1)):=Ex.set Mm.in25
 refine z1m (zt0 (d:=d + 3) (x:=x) (t:=s.held x) h.mr.draw ((h.var x).ex x1) (h.good x).ok h.l3) fun σ1 e1 m1 x2=>?_
 refine WP.go (z3g L h.mr h1 O.rl (of_decide_eq_true rfl) z02 rfl (zcp e1)) fun ℓ1 L1=>?_
 have X:=x1.trans x2
 refine zq0 (d:=d + 3) L1 m1 h2 O.rl rfl ((h.var x).ex X) (h.good x).ok (h.good x).nul h.l3 h.l2 h.l5 h.loops fun σ2 ev g m2 x3 ef=>?_
 rw [h.fors,← h.opens] at ef
 have ef:EffRep (Mm P) σ2 ev (.note x (s.held x) s.fors s.opens m.steps):=ef
 rw [h.steps] at ef
 obtain X:=X.trans x3
 exact WP.go g fun ℓ2 L2=>K ℓ2 σ2 L2 ⟨_,{ mr:=m2,steps:=h.steps,loops:=h.loops,opens:=h.opens,asked:=h.asked,eff:=(h.eff.ex X).snoc ef,ge:=zi4 h.ge (h.good x).ok,vx:=h.vx.ex X,vy:=h.vy.ex X,gx:=h.gx,gy:=h.gy,sz:=zi5 h.sz,place:=rfl,stack:=rfl,fors:=h.fors }⟩ X
theorem zi6 {l:Nat} (O:Ok P) (L:LM P ℓ) (h:MS P σ s p stk os (r + 2)) (h1:P.rows[p]? = some (.tup [.str (S "ask"),.int mk,.ref l])) (h2:P.rows[p + 1]? = some (.tup [.str (S "unless"),.int t,.int 0]))
  (ha:σ[l]? = some (.list (ans.map .int))) (hn:¬ Mm P l) (ok:za0 ans)
  (K:match z1y (s.nth mk ans) with
   | .inr e=>KX P Q (Mm P) σ (s.ask mk) e
   | .inl b=>KS P (d + 6) Q (Mm P) σ (s.ask mk) (if b then p + 2 else t) stk os r):WP (d + 6) (r + 2) ℓ σ Q:=by
 obtain ⟨m,h⟩:=h
 obtain hp:=h.place;subst hp
 obtain hs:=h.stack;subst hs
 refine zt7 (d:=d + 3) L h.mr h1 O.rl ha hn ok.2 (Nat.lt_of_le_of_lt ok.1 (of_decide_eq_true rfl)) h.l3 h.l4 fun σ1 v g m1 x1 hv=>?_
 refine WP.go g fun ℓ1 L1=>?_
 have hx1:Ex (Mm P) σ1 (z1h P σ1 (((m.place + 1:Nat):Int) + 1)):=Ex.set Mm.in25
 obtain rr:=z7p (c:=cnt m.asked mk) ok.2
 obtain pj:=zhz (d:=d + 2) (t:=t) (st:=m.stack) m1.draw rfl (hv.ex hx1) rr.1 rr.2 h.l3
 obtain pn:z05 TT (d + 6) 796 (pa P (.tup [.str (S "unless"),.int t,.int 0])) (z1h P σ1 (((m.place + 1:Nat):Int) + 1)) = .ok (.bool false) (z1h P σ1 (((m.place + 1:Nat):Int) + 1)):=zco z02 rfl (of_decide_eq_true rfl)
 have en:s.nth mk ans = z6m ans (cnt m.asked mk):=by unfold PSt.nth;rw [h.asked]
 rw [en] at K
 have core:∀ {σ2:AS} {m2:Mach} {r'},r'≤r→MR P σ2 m2→Ex (Mm P) σ σ2→m2.steps = m.steps→m2.loops = m.loops→m2.asked = z1e m.asked mk (cnt m.asked mk + 1)→m2.eff = m.eff→m2.vx = m.vx→m2.vy = m.vy→Core P σ2 m2 (s.ask mk) os r' :=
  fun hr mr X q1 q2 q3 q4 q5 q6=>h.next mr X (q1.trans h.steps) (q2.trans h.loops) h.opens (q3.trans (by rw [h.asked];rfl)) q4 rfl q5 q6 rfl rfl (Nat.le_trans (Nat.add_le_add_left (Nat.mul_le_mul_left 4 hr) _) (ze6 h.sz))
 cases ht:z1y (z6m ans (cnt m.asked mk)) with
 | inr e =>
  rw [ht] at pj K
  obtain ⟨σ2,e2,m2,x2⟩:=pj
  have X:=x1.trans (hx1.trans x2)
  exact WP.stop (r:=r) (ze4 L1 m1 h2 O.rl (of_decide_eq_true rfl) z02 rfl (zl4 pn e2)) (K σ2 ⟨_,_,core (Nat.zero_le _) m2 X rfl rfl rfl rfl rfl rfl⟩ X)
 | inl b =>
  rw [ht] at pj K
  obtain ⟨σ2,e2,m2,x2⟩:=pj
  have X:=x1.trans (hx1.trans x2)
  refine WP.go (r:=r) (z3g L1 m1 h2 O.rl (of_decide_eq_true rfl) z02 rfl (zi2 pn e2)) fun ℓ2 L2=>K ℓ2 σ2 L2 ⟨_,{ toCore:=core (Nat.le_refl _) m2 X rfl rfl rfl rfl rfl rfl,place:=?_,stack:=rfl,fors:=h.fors }⟩ X
  cases b <;> rfl
end
end
section
open PySem PySem.W
structure FB (b fj fn vl:Nat):Prop where
 j:b≤fj
 n:b≤fn
 l:b≤vl
 nj:fn ≠ fj
 nl:fn ≠ vl
section
variable {P:Pm} {σ σ' σ1 σ2:AS} {m m':Mach} {d n k p t r r':Nat} {ℓ ℓ':Loc} {s s':PSt} {stk st vs rest:List AV} {x:Bool} {mk:Int} {ans:List Int} {os:List z1s} {tt:z31} {v c:AV} {Q:Str→AS→Prop} {w:Str} {y:Res AV}
theorem z55 (hk:PyData.strOk w = true) (h1:(w == S "const" || (w == S "var" || (w == S "arg" || (w == S "force" || (w == S "call" || (w == S "closure" || w == S "pick")))))) = false) (h2:(w == S "guard" || (w == S "jump" || (w == S "unless" || (w == S "and" || (w == S "or" || (w == S "truth" || w == S "return")))))) = false)
  (hl:rest.length < 100) (h3:z05 TT (d + 1) 810 (pa P (.tup (.str w :: rest))) σ = y):or3 (d + 1) (pa P (.tup (.str w :: rest))) σ = y:=zpz (zco hk h1 hl) (zpv hk h2 hl) h3
theorem zi7 (h:s.size + 4 * (r + 1)≤12000):s.tick.size + 4 * r≤12000:=by
 refine (?_:s.steps + 1 + s.opens.length + s.fors + s.asked.length + s.due.length + 4 * r≤12000)
 unfold PSt.size at h
 lia
theorem zbd (h:s.size + 4 * (r + 1)≤12000):s.size + 4 * r≤12000:=by lia
theorem za2 {a b c:Nat} (h:s.size + 4 * (r + 1)≤12000):s.steps + (s.opens++[(a,b,c)]).length + (s.fors + 1) + s.asked.length + s.due.length + 4 * r≤12000:=by
 unfold PSt.size at h
 rw [List.length_append]
 refine (?_:s.steps + (s.opens.length + 1) + _ + _ + _ + _≤_)
 lia
theorem zi8 (O:Ok P) (L:LM P ℓ) (h:MS P σ s p stk os (r + 1)) (h1:P.rows[p]? = some (.tup [.str (S "jump"),.int t])) (K:KS P (d + 6) Q (Mm P) σ (if t < p + 1 then s.tick else s) t stk os r):WP (d + 6) (r + 1) ℓ σ Q:=by
 obtain ⟨m,h⟩:=h
 obtain hp:=h.place;subst hp
 obtain hx1:Ex (Mm P) σ (z1h P σ ((m.place:Int) + 1)):=Ex.set Mm.in25
 refine z1m (zpw (d:=d + 3) (t:=t) h.mr.draw h.l1) fun σ2 e2 m2 x2=>?_
 obtain pn:z05 TT (d + 6) 796 (pa P (.tup [.str (S "jump"),.int t])) (z1h P σ ((m.place:Int) + 1)) = .ok (.bool false) (z1h P σ ((m.place:Int) + 1)):=zco z02 rfl (of_decide_eq_true rfl)
 obtain X:=hx1.trans x2
 refine WP.go (z3g L h.mr h1 O.rl (of_decide_eq_true rfl) z02 rfl (zi2 pn e2)) fun ℓ2 L2=>K ℓ2 σ2 L2 ?_ X
 by_cases ht:t < m.place + 1
 ·rw [if_pos ht] at m2 ⊢
  exact ⟨_,{ toCore:=h.next m2 X (congrArg (· + 1) h.steps) h.loops h.opens h.asked rfl rfl rfl rfl rfl rfl (zi7 h.sz),place:=rfl,stack:=h.stack,fors:=h.fors }⟩
 ·rw [if_neg ht] at m2 ⊢
  exact ⟨_,{ toCore:=h.next m2 X h.steps h.loops h.opens h.asked rfl rfl rfl rfl rfl rfl (zbd h.sz),place:=rfl,stack:=h.stack,fors:=h.fors }⟩
theorem zq2 {e hd:Nat} (O:Ok P) (L:LM P ℓ) (h:MS P σ s p stk os (r + 1)) (h1:P.rows[p]? = some (.tup [.str (S "loop"),.int e,.int hd])) (K:KS P (d + 6) Q (Mm P) σ (s.enterW (e,hd)) (p + 1) stk (os++[(s.fors,e,hd)]) r):WP (d + 6) (r + 1) ℓ σ Q:=by
 obtain ⟨m,h⟩:=h
 obtain hp:=h.place;subst hp
 obtain hs:=h.stack;subst hs
 obtain hx1:Ex (Mm P) σ (z1h P σ ((m.place:Int) + 1)):=Ex.set Mm.in25
 refine z1m (zpx (d:=d + 5) (e:=e) (hd:=hd) h.mr.draw h.l3 h.l2) fun σ2 e2 m2 x2=>?_
 obtain X:=hx1.trans x2
 obtain hl:m.loops++[.tup [.int m.stack.length,.int e,.int hd]] = (os++[(s.fors,e,hd)]).map z3j:=by rw [List.map_append,h.loops,← h.fors];rfl
 obtain sz:(s.enterW (e,hd)).size + 4 * r≤12000:=Nat.le_trans (Nat.add_le_add_right (Nat.add_le_add_right (Nat.add_le_add_right (Nat.add_le_add_left (Nat.le_succ _) _) _) _) _) (za2 h.sz)
 exact WP.go (z3g L h.mr h1 O.rl (of_decide_eq_true rfl) z02 rfl (z55 z02 rfl rfl (of_decide_eq_true rfl) e2)) fun ℓ2 L2=>K ℓ2 σ2 L2 ⟨_,{ toCore:=h.next m2 X h.steps hl (congrArg (·++_) h.opens) h.asked rfl rfl rfl rfl rfl rfl sz,place:=rfl,stack:=rfl,fors:=h.fors }⟩ X
theorem Core.hold {z:AV} {os':List z1s} (h:Core P σ m s os r) (hm:MR P σ' (m'.putV x z)) (X:Ex (Mm P) σ σ') (hz:Val (Mm P) σ' z tt) (hg:TGood tt) (h3:m'.steps = s'.steps) (h4:m'.loops = os'.map z3j) (h5:s'.opens = os') (h6:m'.asked = s'.asked) (h7:m'.eff = m.eff) (h8:s'.due = s.due)
  (h9:m'.vx = m.vx) (h10:m'.vy = m.vy) (h11:s'.hx = s.hx) (h12:s'.hy = s.hy) (h13:s'.size + 4 * r'≤12000):Core P σ' (m'.putV x z) (s'.hold x tt) os' r':=by
 cases x
 ·exact ⟨hm,h3,h4,h5,h6,h7 ▸ h8 ▸ h.eff.ex X,h8 ▸ h.ge,hz,h10 ▸ h12 ▸ h.vy.ex X,hg,h12 ▸ h.gy,h13⟩
 ·exact ⟨hm,h3,h4,h5,h6,h7 ▸ h8 ▸ h.eff.ex X,h8 ▸ h.ge,h9 ▸ h11 ▸ h.vx.ex X,hz,h11 ▸ h.gx,hg,h13⟩
theorem TGood.null:TGood (S "NULL",[]):=⟨⟨z02,rfl,of_decide_eq_true rfl,rfl,rfl,rfl⟩,fun uu=>rfl⟩
theorem zl8 {i:Nat} {picks:List Int} {e:Nat} (O:Ok P) (L:LM P ℓ) (h:MS P σ s p stk os (r + 2)) (h1:P.rows[p]? = some (.tup [.str (S "const"),.int i])) (hi:P.consts[i]? = some c) (hv:OverV (Mm P) σ c 6 picks)
  (h2:P.rows[p + 1]? = some (.tup [.str (S "for"),.int e,.int 0])) (K:KX P Q (Mm P) σ s .seq):WP (d + 6) (r + 2) ℓ σ Q:=by
 obtain ⟨m,h⟩:=h
 obtain hp:=h.place;subst hp
 obtain hs:=h.stack;subst hs
 obtain hx1:Ex (Mm P) σ (z1h P σ ((m.place:Int) + 1)):=Ex.set Mm.in25
 refine z1m (ze2 (d:=d + 5) h.mr.draw hi O.cl h.l3) fun σ1 e1 m1 x1=>?_
 refine WP.go (z3g L h.mr h1 O.rl (of_decide_eq_true rfl) z02 rfl (zcp e1)) fun ℓ1 L1=>?_
 obtain hx2:Ex (Mm P) σ1 (z1h P σ1 (((m.place + 1:Nat):Int) + 1)):=Ex.set Mm.in25
 obtain X:=(hx1.trans x1).trans hx2
 refine z1m (zl3 (d:=d) (e:=e) (st:=m.stack) m1.draw rfl (hv.ex X) h.l3) fun σ2 e2 m2 x2=>?_
 obtain X:=X.trans x2
 exact WP.stop (r:=r) (ze4 L1 m1 h2 O.rl (of_decide_eq_true rfl) z02 rfl (z55 z02 rfl rfl (of_decide_eq_true rfl) e2)) (K σ2 ⟨_,_,h.next m2 X h.steps h.loops h.opens h.asked rfl rfl rfl rfl rfl rfl (zcr h.sz (Nat.le_add_right (s.size + 4 * 0) (4 * (r + 2))))⟩ X)
noncomputable def KF (P:Pm) (d:Nat) (Q:Str→AS→Prop) (σ:AS) (s:PSt) (p:Nat) (stk:List AV) (os:List z1s) (r:Nat) (ts:List z31):Prop :=
 ∀ ℓ' σ' fj fn vl vs,LM P ℓ'→MS P σ' s p (stk++[.ref fj]) os r→Ex (Mm P) σ σ'→FoS σ' fj fn vl vs 0→RelAll (Val (Mm P) σ') vs ts→FB σ.length fj fn vl→WP d r ℓ' σ' Q
theorem zt9 {i:Nat} {picks:List Int} {e:Nat} {sort:Int} (O:Ok P) (L:LM P ℓ) (h:MS P σ s p stk os (r + 2)) (h1:P.rows[p]? = some (.tup [.str (S "const"),.int i])) (hi:P.consts[i]? = some c) (hv:OverV (Mm P) σ c sort picks)
  (h0:0≤sort) (h6:sort < 6) (hk:∀ k∈picks,z94 k) (hpl:picks.length < 100)
  (h2:P.rows[p + 1]? = some (.tup [.str (S "for"),.int e,.int 0])) (h3:P.rows[p + 2]? = some (.tup [.str (S "step"),.int e,.str (nm x),.int 0]))
  (K:KF P (d + 6) Q σ (s.enterF x (e,p + 2)) (p + 2) stk (os++[(s.fors + 1,e,p + 2)]) r (z0z sort picks)):WP (d + 6) (r + 2) ℓ σ Q:=by
 obtain ⟨m,h⟩:=h
 obtain hp:=h.place;subst hp
 obtain hs:=h.stack;subst hs
 obtain hx1:Ex (Mm P) σ (z1h P σ ((m.place:Int) + 1)):=Ex.set Mm.in25
 refine z1m (ze2 (d:=d + 5) h.mr.draw hi O.cl h.l3) fun σ1 e1 m1 x1=>?_
 refine WP.go (z3g L h.mr h1 O.rl (of_decide_eq_true rfl) z02 rfl (zcp e1)) fun ℓ1 L1=>?_
 obtain hx2:Ex (Mm P) σ1 (z1h P σ1 (((m.place + 1:Nat):Int) + 1)):=Ex.set Mm.in25
 obtain X:=(hx1.trans x1).trans hx2
 obtain x27:Ex (Mm P) (z1h P σ1 (((m.place + 1:Nat):Int) + 1)) ((z1h P σ1 (((m.place + 1:Nat):Int) + 1)).set (P.b + 27) (.list m.stack)):=Ex.set Mm.in27
 obtain lv:=z9x (d:=d) (M:=Mm P) (hv.ex (X.trans x27)) h0 h6 hk hpl (fun i hi=>Mm.hi (m1.draw.setStack (k:=m.stack)) hi)
 refine zt3 (e:=e) (st:=m.stack) (x:=x) m1.draw rfl lv h.l3 h.l2 h3 O.rl fun σ2 z fj fn vl vs e2 m2 x2 hz hf hrel g1 g2 g3 g4 g5=>?_
 obtain xl:=X.1
 obtain X:=X.trans x2
 obtain hl:m.loops++[.tup [.int (m.stack++[AV.ref fj]).length,.int e,.int (m.place + 2:Nat)]] = (os++[(s.fors + 1,e,m.place + 2)]).map z3j:=by rw [List.map_append,h.loops,List.length_append,h.fors];rfl
 obtain hf1:(m.stack++[AV.ref fj]).length = s.fors + 1:=by rw [List.length_append,h.fors];rfl
 exact WP.go (r:=r) (z3g L1 m1 h2 O.rl (of_decide_eq_true rfl) z02 rfl (z55 z02 rfl rfl (of_decide_eq_true rfl) e2)) fun ℓ2 L2=>K ℓ2 σ2 fj fn vl vs L2
  ⟨_,{ toCore:=h.hold (x:=x) (s':={ s with fors:=s.fors + 1,opens:=s.opens++[(s.fors + 1,e,m.place + 2)] }) m2 X (.inr ⟨hz,rfl⟩) TGood.null h.steps hl (congrArg (·++_) h.opens) h.asked rfl rfl rfl rfl rfl rfl (za2 (zbd h.sz)),place:=rfl,stack:=rfl,fors:=hf1 }⟩ X hf hrel ⟨Nat.le_trans xl g1,Nat.le_trans xl g2,Nat.le_trans xl g3,g4,g5⟩
end
end
section
open PySem PySem.W
section
variable {P:Pm} {σ σ' σ1 σ2:AS} {m m':Mach} {d n k p t r r':Nat} {ℓ ℓ':Loc} {s s':PSt} {stk st vs:List AV} {x:Bool} {mk:Int} {ans:List Int} {os:List z1s} {td:z31} {v c w:AV} {Q:Str→AS→Prop} {M M':Nat→Prop} {fn fj vl:Nat} {es:List Eff} {e:Eff} {o:z1s}
noncomputable def zfp (σ:AS) (fn:Nat):Prop:=∃ fs,σ[fn]? = some (.ns fs)∧look fs (S "shared") = none∧(look fs (S "values")).isSome = true
theorem Val.more (a:zfp σ fn) (h:Val M σ v td):Val (fun j=>M j∨j = fn) σ v td:=by
 refine z1m a fun fs hf h1 h2=>?_
 refine Or.elim (h) (fun zo2=>?_) (fun zo2=>?_)
 ·refine z59 zo2 fun a j n l fs' hr h=>?_;refine .inl ⟨a,j,n,l,fs',hr,{ h with m1:=fun q=>q.elim h.m1 fun q=>?_,m2:=fun q=>q.elim h.m2 fun q=>?_,m3:=fun q=>q.elim h.m3 fun q=>?_ }⟩
  ·have:=h.i;rw [q,hf] at this;exact nomatch this
  ·have:=h.f;rw [q,hf] at this;cases this;have:=h.sh;rw [h1] at this;exact nf this
  ·have:=h.ls;rw [q,hf] at this;exact nomatch this
 ·obtain ⟨⟨j,n,hr,e2,e3,m1,m2⟩,e⟩:=zo2;refine .inr ⟨⟨j,n,hr,e2,e3,fun q=>q.elim m1 fun q=>?_,fun q=>q.elim m2 fun q=>?_⟩,e⟩
  ·rw [q,hf] at e2;exact nomatch e2
  ·rw [q,hf] at e3;cases e3;exact nf h2
theorem Val.less (sub:∀ j,M j→M' j) (h:Val M' σ v td):Val M σ v td:=by
 refine Or.elim (h) (fun zo1=>?_) (fun zo1=>?_)
 ·refine z59 zo1 fun a j n l fs' hr h=>?_;exact .inl ⟨a,j,n,l,fs',hr,{ h with m1:=fun q=>h.m1 (sub _ q),m2:=fun q=>h.m2 (sub _ q),m3:=fun q=>h.m3 (sub _ q) }⟩
 ·obtain ⟨⟨j,n,hr,e2,e3,m1,m2⟩,e⟩:=zo1;exact .inr ⟨⟨j,n,hr,e2,e3,fun q=>m1 (sub _ q),fun q=>m2 (sub _ q)⟩,e⟩
theorem Val.over (a:zfp σ fn) (x:Ex (fun j=>M j∨j = fn) σ σ') (h:Val M σ v td):Val M σ' v td:=((h.more a).ex x).less fun uu=>.inl
theorem z7w {l:Nat} {xs:List AV} (a:zfp σ fn) (x:Ex (fun j=>M j∨j = fn) σ σ') (hm:¬ M l) (e:σ[l]? = some (.list xs)):σ'[l]? = some (.list xs):=by
 refine z0e a fun fs hf uu=>?_
 exact x.list (fun q=>q.elim hm fun q=>by obtain rfl:=q;rw [hf] at e;exact nomatch e) e
theorem EffAll.over (a:zfp σ fn) (x:Ex (fun j=>M j∨j = fn) σ σ') (h:EffAll M σ vs es):EffAll M σ' vs es:=⟨h.1,fun k v e h1 h2=>by
 have:=h.2 k v e h1 h2
 induction e with
 | note b t f o s =>
  obtain ⟨tv,l,e1,⟨l',e2,e3,e4⟩,e5,e6⟩:=this
  exact ⟨tv,l,e1,⟨l',e2,z7w a x e4 e3,e4⟩,z7w a x e6 e5,e6⟩
 | gave m f o s =>
  refine z1m this fun l e1 e5 e6=>?_
  exact ⟨l,e1,z7w a x e6 e5,e6⟩⟩
theorem FoS.aside {i:Nat} (h:FoS σ fj fn vl vs i):zfp σ fn:=⟨_,h.2.1,rfl,rfl⟩
theorem l3s (h:MC P σ m s p (st++[w]) os r):st.length < 90000:=by
 obtain h0:=h.l3
 rw [h.stack,List.length_append] at h0
 exact Nat.lt_of_le_of_lt (Nat.le_add_right _ _) h0
theorem zcs (h:s.size + 4 * (r + 2)≤12000) (hf:n≤s.fors):(s.exit mk n).size + 4 * r≤12000:=by
 unfold PSt.size PSt.exit
 rw [List.length_append,List.length_dropLast]
 unfold PSt.size at h
 refine (?_:s.steps + (s.opens.length - 1) + n + s.asked.length + (s.due.length + 1) + 4 * r≤12000)
 lia
theorem zbe {e:Nat} (O:Ok P) (L:LM P ℓ) (h:MS P σ s p (st++[.ref fj]) os (r + 1)) (h1:P.rows[p]? = some (.tup [.str (S "step"),.int e,.str (nm x),.int 0])) (hf:FoS σ fj fn vl vs vs.length) (hv:vs.length < 90000) (N:FB (P.b + 31) fj fn vl)
  (K:KS P (d + 6) Q (Mm P) σ s e (st++[.ref fj]) os r):WP (d + 6) (r + 1) ℓ σ Q:=by
 obtain ⟨m,h⟩:=h
 obtain hp:=h.place;subst hp
 obtain hx1:Ex (Mm P) σ (z1h P σ ((m.place:Int) + 1)):=Ex.set Mm.in25
 refine z1m (zbb (d:=d + 3) (x:=x) (e:=e) (st:=st) h.mr.draw h.stack (hf.ex hx1 (Mm.gt N.j) (Mm.gt N.n) (Mm.gt N.l)) (l3s h) hv) fun σ2 e2 m2 x2=>?_
 obtain X:=hx1.trans x2
 exact WP.go (z3g L h.mr h1 O.rl (of_decide_eq_true rfl) z02 rfl (z55 z02 rfl rfl (of_decide_eq_true rfl) e2)) fun ℓ2 L2=>K ℓ2 σ2 L2 ⟨_,{ toCore:=h.next m2 X h.steps h.loops h.opens h.asked rfl rfl rfl rfl rfl rfl (zbd h.sz),place:=rfl,stack:=h.stack,fors:=h.fors }⟩ X
theorem Core.over (h:Core P σ m s os r) (a:zfp σ fn) (hm:MR P σ' (m'.putV x v)) (X:Ex (fun j=>Mm P j∨j = fn) σ σ') (hz:Val (Mm P) σ v td) (hg:TGood td) (h3:m'.steps = s.steps) (h4:m'.loops = os.map z3j) (h6:m'.asked = s.asked) (h7:m'.eff = m.eff)
  (h9:m'.vx = m.vx) (h10:m'.vy = m.vy) (h13:s.size + 4 * r'≤12000):Core P σ' (m'.putV x v) (s.hold x td) os r':=by
 cases x
 ·exact ⟨hm,h3,h4,h.opens,h6,h7 ▸ h.eff.over a X,h.ge,hz.over a X,h10 ▸ h.vy.over a X,hg,h.gy,h13⟩
 ·exact ⟨hm,h3,h4,h.opens,h6,h7 ▸ h.eff.over a X,h.ge,h9 ▸ h.vx.over a X,hz.over a X,h.gx,hg,h13⟩
noncomputable def KN (P:Pm) (d:Nat) (Q:Str→AS→Prop) (σ:AS) (s:PSt) (p:Nat) (stk:List AV) (os:List z1s) (r fj fn vl:Nat) (vs:List AV) (i:Nat):Prop :=
 ∀ ℓ' σ',LM P ℓ'→MS P σ' s p stk os r→Ex (fun j=>Mm P j∨j = fn) σ σ'→FoS σ' fj fn vl vs i→WP d r ℓ' σ' Q
theorem zbf {e i:Nat} (O:Ok P) (L:LM P ℓ) (h:MS P σ s p (st++[.ref fj]) os (r + 1)) (h1:P.rows[p]? = some (.tup [.str (S "step"),.int e,.str (nm x),.int 0])) (hf:FoS σ fj fn vl vs i) (hi:vs[i]? = some v) (hv:vs.length < 90000) (N:FB (P.b + 31) fj fn vl)
  (hval:Val (Mm P) σ v td) (hg:TGood td) (K:KN P (d + 6) Q σ (s.hold x td) (p + 1) (st++[.ref fj]) os r fj fn vl vs (i + 1)):WP (d + 6) (r + 1) ℓ σ Q:=by
 obtain ⟨m,h⟩:=h
 obtain hp:=h.place;subst hp
 have hx1:Ex (Mm P) σ (z1h P σ ((m.place:Int) + 1)):=Ex.set Mm.in25
 refine z8n (zbc (d:=d + 3) (x:=x) (e:=e) (st:=st) h.mr.draw h.stack (hf.ex hx1 (Mm.gt N.j) (Mm.gt N.n) (Mm.gt N.l)) hi (l3s h) hv N.n N.j N.nj N.l N.nl) fun σ2 e2 m2 x2 f2=>?_
 have X:Ex (fun j=>Mm P j∨j = fn) σ σ2:=(hx1.mono fun uu=>.inl).trans x2
 refine WP.go (z3g L h.mr h1 O.rl (of_decide_eq_true rfl) z02 rfl (z55 z02 rfl rfl (of_decide_eq_true rfl) e2)) fun ℓ2 L2=>K ℓ2 σ2 L2 ⟨_,{ toCore:=h.toCore.over hf.aside m2 X hval hg h.steps h.loops h.asked rfl rfl rfl (zbd h.sz),place:=?_,stack:=?_,fors:=?_ }⟩ X f2
 ·cases x <;> rfl
 ·cases x <;> exact h.stack
 ·cases x <;> exact h.fors
theorem zi9 {z:AV} {σ2:AS} {m2:Mach} {ev:AV} (h:Core P σ m s (os++[o]) (r + 2)) (m1:MR P σ2 m2) (X:Ex (Mm P) σ σ2) (h1:m2.steps = s.steps) (h2:m2.loops = os.map z3j) (h3:m2.asked = s.asked) (h4:m2.eff = m.eff++[ev]) (h5:m2.vx = m.vx) (h6:m2.vy = m.vy)
  (h7:m2.place = p) (h8:m2.stack = st) (hs:st.length≤s.fors) (ef:EffRep (Mm P) σ2 ev (.gave mk st.length os m.steps)):MC P σ2 m2 (s.exit mk st.length) p st os r:=by
 obtain ho:s.opens.dropLast = os:=by rw [h.opens,List.dropLast_concat]
 obtain hd:(s.exit mk st.length).due = s.due++[.gave mk st.length os s.steps]:=by unfold PSt.exit;rw [ho]
 exact { mr:=m1,steps:=h1,loops:=h2,opens:=ho,asked:=h3,eff:=by rw [h4,hd];exact (h.eff.ex X).snoc (h.steps ▸ ef),ge:=by exact hd ▸ zi4 h.ge trivial,vx:=h5 ▸ h.vx.ex X,vy:=h6 ▸ h.vy.ex X,gx:=h.gx,gy:=h.gy,sz:=zcs h.sz hs,place:=h7,stack:=h8,fors:=rfl }
theorem zta (h:Core P σ m s (os++[o]) r):m.loops = os.map z3j++[z3j o]∧(os.map z3j).length < 90000:=by
 obtain e:m.loops = os.map z3j++[z3j o]:=by exact (h.loops).trans (List.map_append)
 have:=h.l2
 rw [e,List.length_append] at this
 exact ⟨e,Nat.lt_of_le_of_lt (Nat.le_add_right _ _) this⟩
theorem zia (O:Ok P) (L:LM P ℓ) (h:MS P σ s p (st++[w]) (os++[o]) (r + 2)) (h1:P.rows[p]? = some (.tup [.str (S "endfor")])) (h2:P.rows[p + 1]? = some (.tup [.str (S "gave"),.int mk]))
  (K:KS P (d + 6) Q (Mm P) σ (s.exit mk st.length) (p + 2) st os r):WP (d + 6) (r + 2) ℓ σ Q:=by
 obtain ⟨m,h⟩:=h
 obtain hp:=h.place;subst hp
 obtain hx1:Ex (Mm P) σ (z1h P σ ((m.place:Int) + 1)):=Ex.set Mm.in25
 refine oAA (zta h.toCore) fun hlo hll=>?_
 obtain hs:=l3s h
 refine z47 (zi0 (d:=d + 2) (st:=st) (w:=w) h.mr.draw hlo h.stack hs hll) fun σ1 z e1 m1 x1 hz=>?_
 refine WP.go (z3g L h.mr h1 O.rl (of_decide_eq_true rfl) z02 rfl (z55 z02 rfl rfl (of_decide_eq_true rfl) e1)) fun ℓ1 L1=>?_
 refine zi3 (d:=d + 3) (mk:=mk) (st:=st) (o:=os) L1 m1 h2 O.rl rfl hz rfl hs hll h.l5 rfl fun σ2 ev g m2 x2 ef=>?_
 obtain X:=(hx1.trans x1).trans x2
 exact WP.go g fun ℓ2 L2=>K ℓ2 σ2 L2 ⟨_,zi9 (z:=z) h.toCore m2 X h.steps rfl h.asked rfl rfl rfl rfl rfl (by have:=h.fors;rw [List.length_append] at this;exact Nat.le.intro this) ef⟩ X
theorem zfq (O:Ok P) (L:LM P ℓ) (h:MS P σ s p st (os++[o]) (r + 2)) (h1:P.rows[p]? = some (.tup [.str (S "endloop")])) (h2:P.rows[p + 1]? = some (.tup [.str (S "gave"),.int mk]))
  (K:KS P (d + 6) Q (Mm P) σ (s.exit mk st.length) (p + 2) st os r):WP (d + 6) (r + 2) ℓ σ Q:=by
 obtain ⟨m,h⟩:=h
 obtain hp:=h.place;subst hp
 obtain hs:=h.stack;subst hs
 obtain hx1:Ex (Mm P) σ (z1h P σ ((m.place:Int) + 1)):=Ex.set Mm.in25
 refine oAA (zta h.toCore) fun hlo hll=>?_
 refine z47 (zfm (d:=d + 2) h.mr.draw hlo h.l3 hll) fun σ1 z e1 m1 x1 hz=>?_
 refine WP.go (z3g L h.mr h1 O.rl (of_decide_eq_true rfl) z02 rfl (z55 z02 rfl rfl (of_decide_eq_true rfl) e1)) fun ℓ1 L1=>?_
 refine zi3 (d:=d + 3) (mk:=mk) (st:=m.stack) (o:=os) L1 m1 h2 O.rl rfl hz rfl h.l3 hll h.l5 rfl fun σ2 ev g m2 x2 ef=>?_
 obtain X:=(hx1.trans x1).trans x2
 exact WP.go g fun ℓ2 L2=>K ℓ2 σ2 L2 ⟨_,zi9 (z:=z) h.toCore m2 X h.steps rfl h.asked rfl rfl rfl rfl rfl (Nat.le_of_eq h.fors) ef⟩ X
end
end
section
open PySem PySem.W
structure Lw where
 g:Nat→Option AV
 kf:Nat→Option AV
 PA:Nat→List Int→Prop
 PC:AV→Int→List Int→Prop
 En:Int→Nat×Nat→Prop
noncomputable def Pm.lw (P:Pm) (PA:Nat→List Int→Prop) (PC:AV→Int→List Int→Prop) (en:Int→Nat×Nat):Lw:=⟨fun i=>P.rows[i]?,fun i=>P.consts[i]?,PA,PC,fun m q=>en m = q⟩
structure zvs (w:Lw) (m:Int) (x:Bool) (o:Int) (pk:List Int) (p q i:Nat) (c:AV) (e:Nat) (B:Prop):Prop where
 r1:w.g p = some (.tup [.str (S "const"),.int i])
 rc:w.kf i = some c
 pc:w.PC c o pk
 r2:w.g (p + 1) = some (.tup [.str (S "for"),.int (e + 1:Nat),.int 0])
 r3:w.g (p + 2) = some (.tup [.str (S "step"),.int (e + 1:Nat),.str (nm x),.int 0])
 b:B
 r4:w.g e = some (.tup [.str (S "jump"),.int (p + 2:Nat)])
 r5:w.g (e + 1) = some (.tup [.str (S "endfor")])
 r6:w.g (e + 2) = some (.tup [.str (S "gave"),.int m])
 q:q = e + 3
 en:w.En m (e + 1,p + 2)
structure zvt (w:Lw) (m:Int) (ans:List Int) (p q l e:Nat) (B:Prop):Prop where
 r1:w.g p = some (.tup [.str (S "loop"),.int (e + 1:Nat),.int (p + 1:Nat)])
 r2:w.g (p + 1) = some (.tup [.str (S "ask"),.int m,.ref l])
 pa:w.PA l ans
 r3:w.g (p + 2) = some (.tup [.str (S "unless"),.int (e + 1:Nat),.int 0])
 b:B
 r4:w.g e = some (.tup [.str (S "jump"),.int (p + 1:Nat)])
 r5:w.g (e + 1) = some (.tup [.str (S "endloop")])
 r6:w.g (e + 2) = some (.tup [.str (S "gave"),.int m])
 q:q = e + 3
 en:w.En m (e + 1,p + 1)
structure zvu (w:Lw) (m:Int) (b:Bool) (ans:List Int) (p q B N l:Nat):Prop where
 r1:w.g p = some (.tup [.str (S "ask"),.int m,.ref l])
 pa:w.PA l ans
 r2:w.g (p + 1) = some (.tup [.str (S "unless"),.int (p + 3:Nat),.int 0])
 r3:w.g (p + 2) = some (.tup [.str (S "jump"),.int (if b then B else N:Nat)])
 q:q = p + 3
structure zq3 (w:Lw) (x:Bool) (p q:Nat):Prop where
 r1:w.g p = some (.tup [.str (S "var"),.str (nm x)])
 r2:w.g (p + 1) = some (.tup [.str (S "note"),.str (nm x)])
 q:q = p + 2
section
variable (w:Lw)
mutual
noncomputable def LaidS:Stm→Nat→Nat→Nat→Nat→Prop
 | .note x,p,q,_,_=>zq3 w x p q
 | .leave m b ans,p,q,B,N=>∃ l,zvu w m b ans p q B N l
 | .loopF m x o pk b,p,q,_,_=>∃ i c e,zvs w m x o pk p q i c e (LaidB b (p + 3) e (e + 1) (p + 2))
 | .loopW m ans b,p,q,_,_=>∃ l e,zvt w m ans p q l e (LaidB b (p + 3) e (e + 1) (p + 1))
noncomputable def LaidB:List Stm→Nat→Nat→Nat→Nat→Prop
 | [],p,q,_,_=>q = p
 | s :: r,p,q,B,N=>∃ p',LaidS s p p' B N∧LaidB r p' q B N
end
end
section
variable {P:Pm} {PA:Nat→List Int→Prop} {PC:AV→Int→List Int→Prop} {en:Int→Nat×Nat} {d:Nat} {σ0 σ σ1 σ2:AS} {Q:Str→AS→Prop} {s s1:PSt} {p q B N r r' e i fj fn vl:Nat} {stk st vs:List AV} {os:List z1s} {M M':Nat→Prop} {z:Out} {ℓ:Loc} {b:List Stm} {a:Stm} {m o:Int} {x br:Bool} {pk ans:List Int} {w:Lw}
mutual
theorem LaidS.le:∀ {s:Stm} {p q B N:Nat},LaidS w s p q B N→p + 2≤q
 | .note _=>fun h=>Nat.le_of_eq (zq3.q h).symm
 | .leave _ _ _=>fun zp4=>oEA zp4 fun uu h=>h.q ▸ Nat.le_succ _
 | .loopF _ _ _ _ b=>fun zp4=>oEEEA zp4 fun uu uu uu h=>h.q ▸ Nat.le_add_right_of_le (Nat.le_trans (Nat.le_succ _) (LaidB.le h.b))
 | .loopW _ _ b=>fun zp4=>z58 zp4 fun uu uu h=>h.q ▸ Nat.le_add_right_of_le (Nat.le_trans (Nat.le_succ _) (LaidB.le h.b))
theorem LaidB.le:∀ {l:List Stm} {p q B N:Nat},LaidB w l p q B N→p≤q
 | []=>fun h=>Nat.le_of_eq h.symm
 | s :: r=>fun zp4=>z0e zp4 fun uu h1 h2=>Nat.le_trans (Nat.le_of_add_right_le (LaidS.le h1)) (LaidB.le h2)
end
theorem MS.le (h:MS P σ s p stk os r') (hr:r≤r'):MS P σ s p stk os r:=h.imp fun m h=>{ h with sz:=Nat.le_trans (Nat.add_le_add_left (Nat.mul_le_mul_left 4 hr) _) h.sz }
theorem MS.fors (h:MS P σ s p stk os r):stk.length = s.fors:=h.elim fun uu h=>h.fors
theorem KS.more (K:KS P d Q M σ s p stk os r) (hr:r≤r'):KS P d Q M σ s p stk os r':=fun ℓ σ' L h x=>(K ℓ σ' L (h.le hr) x).le hr
theorem KS.ex (K:KS P d Q M σ s p stk os r) (x:Ex M σ σ1):KS P d Q M σ1 s p stk os r:=fun ℓ σ' L h y=>K ℓ σ' L h (x.trans y)
variable (P d Q) in
noncomputable def KB (σ:AS) (q B N:Nat) (stk:List AV) (os:List z1s) (r:Nat):Out→Prop
 | (.fall,s)=>KS P (d + 6) Q (Mm P) σ s q stk os r
 | (.brk,s)=>KS P (d + 6) Q (Mm P) σ s B stk os r
 | (.nxt,s)=>KS P (d + 6) Q (Mm P) σ s.tick N stk os r
 | (.ref e,s)=>KX P Q (Mm P) σ s e
variable (P d Q) in
noncomputable def KL (M:Nat→Prop) (σ:AS) (q:Nat) (stk:List AV) (os:List z1s) (r:Nat):Out→Prop
 | (.fall,s)=>KS P (d + 6) Q M σ s q stk os r
 | (.ref e,s)=>KX P Q M σ s e
 | _=>True
theorem KB.ex (K:KB P d Q σ q B N stk os r z) (x:Ex (Mm P) σ σ1):KB P d Q σ1 q B N stk os r z:=by
 obtain ⟨w,s⟩:=z
 cases w
 ·exact KS.ex K x
 ·exact KS.ex K x
 ·exact KS.ex K x
 ·exact fun σ' h y=>K σ' h (x.trans y)
theorem KL.ex (K:KL P d Q M σ q stk os r z) (x:Ex M σ σ1):KL P d Q M σ1 q stk os r z:=by
 obtain ⟨w,s⟩:=z
 cases w
 ·exact KS.ex K x
 ·trivial
 ·trivial
 ·exact fun σ' h y=>K σ' h (x.trans y)
theorem KB.seq {f:PSt→Out} (K:KB P d Q σ q B N stk os r (andThen f z)) (hr:r≤r') (hf:∀ s,KB P d Q σ q B N stk os r (f s)→KS P (d + 6) Q (Mm P) σ s p stk os r'):KB P d Q σ p B N stk os r' z:=by
 obtain ⟨w,s⟩:=z
 cases w
 ·exact hf s K
 ·exact KS.more K hr
 ·exact KS.more K hr
 ·exact K
theorem KB.loop {f:PSt→Out} {stk':List AV} {os':List z1s} (K:KB P d Q σ q B N stk os r (andThen f z)) (g:∀ σ',Ex M σ1 σ'→Ex (Mm P) σ σ') (hf:∀ s,KB P d Q σ q B N stk os r (f s)→KS P (d + 6) Q M σ1 s p stk' os' r'):KL P d Q M σ1 p stk' os' r' z:=by
 obtain ⟨w,s⟩:=z
 cases w
 ·exact hf s K
 ·trivial
 ·trivial
 ·exact fun σ' h y=>K σ' h (g σ' y)
theorem KL.lap {f:PSt→Out} {k:Nat} (K:KL P d Q M σ (e + 1) stk os r (lap f z)) (O:Ok P) (rj:P.rows[e]? = some (.tup [.str (S "jump"),.int p])) (hp:p≤e) (g:∀ σ',Ex (Mm P) σ1 σ'→Ex M σ σ')
  (hf:KL P d Q M σ (e + 1) stk os r (f z.2.tick)→KS P (d + 6) Q (Mm P) σ1 z.2.tick p stk os (r + k)):KB P d Q σ1 e (e + 1) p stk os (r + (k + 1)) z:=by
 obtain ⟨w,s⟩:=z
 cases w
 ·refine fun ℓ2 σ2 L2 m2 x2=>zi8 O L2 m2 rj ?_
  rw [if_pos (Nat.lt_succ_of_le hp)]
  exact KS.ex (hf K) x2
 ·exact fun ℓ2 σ2 L2 m2 x2=>(K ℓ2 σ2 L2 (m2.le (Nat.le_add_right _ _)) (g _ x2)).le (Nat.le_add_right _ _)
 ·exact KS.more (hf K) (Nat.le_succ _)
 ·exact fun σ2 m2 x2=>K σ2 m2 (g _ x2)
variable (P σ0) in
structure St (ℓ:Loc) (σ:AS) (s:PSt) (p:Nat) (stk:List AV) (os:List z1s) (r:Nat):Prop where
 L:LM P ℓ
 h:MS P σ s p stk os r
 X:Ex (Mm P) σ0 σ
variable (P PA PC σ0) in
structure zl9:Prop where
 O:Ok P
 A:∀ l ans,PA l ans→σ0[l]? = some (.list (ans.map .int))∧¬ Mm P l
 C:∀ c o p,PC c o p→OverV (Mm P) σ0 c o p
 b:P.b + 31≤σ0.length
variable (P PA PC en d σ0) in
noncomputable def zrb (a:Stm):Prop:=∀ p q B N r stk os ℓ σ s Q,wfS a→LaidS (P.lw PA PC en) a p q B N→N≤p→q≤B→St P σ0 ℓ σ s p stk os (r + z3h a)→KB P d Q σ q B N stk os r (evS en a s)→WP (d + 6) (r + z3h a) ℓ σ Q
variable (P PA PC en d σ0) in
noncomputable def zn2 (a:List Stm):Prop:=∀ p q B N r stk os ℓ σ s Q,wfB a→LaidB (P.lw PA PC en) a p q B N→N≤p→q≤B→St P σ0 ℓ σ s p stk os (r + z0u a)→KB P d Q σ q B N stk os r (evB en a s)→WP (d + 6) (r + z0u a) ℓ σ Q
theorem zq4:zn2 P PA PC en d σ0 []:=fun p q B N r stk os ℓ σ s Q wf hl hN hB h K=>by
 have hl:q = p:=hl
 subst hl
 exact K ℓ σ h.L h.h .refl
theorem zla (h1:zrb P PA PC en d σ0 a) (h2:zn2 P PA PC en d σ0 b):zn2 P PA PC en d σ0 (a :: b):=fun p q B N r stk os ℓ σ s Q wf zm hN hB h K=>z0e zm fun p' l1 l2=>by
 obtain e:r + z0u (a :: b) = r + z0u b + z3h a:=(Nat.add_assoc ..).symm
 rw [e] at h ⊢
 exact h1 _ _ _ _ _ _ _ _ _ _ _ wf.1 l1 hN (Nat.le_trans l2.le hB) h (K.seq (Nat.le_add_right _ _) fun s K ℓ1 σ1 L1 m1 x1 =>
  h2 _ _ _ _ _ _ _ _ _ _ _ wf.2 l2 (Nat.le_trans hN (Nat.le_of_add_right_le l1.le)) hB ⟨L1,m1,h.X.trans x1⟩ (K.ex x1))
theorem zlb (C:zl9 P PA PC σ0):zrb P PA PC en d σ0 (.note x):=fun p q B N r stk os ℓ σ s Q wf hl hN hB h K=>by
 obtain ⟨r1,r2,rfl⟩:=hl
 exact zq1 C.O h.L h.h r1 r2 K
theorem zib (C:zl9 P PA PC σ0):zrb P PA PC en d σ0 (.leave m br ans):=fun p q B N r stk os ℓ σ s Q wf zm hN hB h K=>oEA zm fun l hl=>by
 obtain ⟨r1,ra,r2,r3,rfl⟩:=hl
 obtain hA:=C.A _ _ ra
 refine zi6 (r:=r + 1) C.O h.L h.h r1 r2 (h.X.list hA.2 hA.1) hA.2 wf ?_
 have K:KB P d Q σ (p + 3) B N stk os r (askR _ (s.ask m) (z1y (s.nth m ans))):=K
 generalize z1y (s.nth m ans) = z at K ⊢
 induction z with
 | inr e=>exact K
 | inl c =>
  cases c
  ·exact KS.more K (Nat.le_succ _)
  ·refine fun ℓ1 σ1 L1 m1 x1=>zi8 C.O L1 m1 r3 ?_
   cases br
   ·refine (?_:KS P (d + 6) Q (Mm P) σ1 (if N < p + 2 + 1 then (s.ask m).tick else s.ask m) N stk os r)
    rw [if_pos (Nat.lt_succ_of_le (Nat.le_trans hN (Nat.le_add_right _ _)))]
    exact KS.ex K x1
   ·refine (?_:KS P (d + 6) Q (Mm P) σ1 (if B < p + 2 + 1 then (s.ask m).tick else s.ask m) B stk os r)
    rw [if_neg (Nat.not_lt.mpr hB)]
    exact KS.ex K x1
noncomputable def Rest (R:AV→z31→Prop) (vs:List AV):Nat→List z31→Prop
 | i,[]=>vs.length = i
 | i,t :: ts=>(∃ v,vs[i]? = some v∧R v t)∧Rest R vs (i + 1) ts
theorem Rest.map {R R':AV→z31→Prop} (h:∀ v t,R v t→R' v t):∀ {ts i},Rest R vs i ts→Rest R' vs i ts
 | [],_,r=>r
 | t :: ts,_,⟨⟨v,e,q⟩,r⟩=>⟨⟨v,e,h _ _ q⟩,Rest.map h r⟩
theorem Rest.of {R:AV→z31→Prop}:∀ {ts i},vs.length = i + ts.length→(∀ j v t,vs[i + j]? = some v→ts[j]? = some t→R v t)→Rest R vs i ts
 | [],_,hl,_=>hl
 | t :: ts,i,hl,h=>⟨⟨_,List.getElem?_eq_getElem (hl ▸ Nat.lt_add_of_pos_right (Nat.succ_pos _)),h 0 _ t (List.getElem?_eq_getElem _) rfl⟩,
  Rest.of (hl.trans (Nat.succ_add_eq_add_succ ..).symm) fun j v t a b=>h (j + 1) v t ((Nat.succ_add_eq_add_succ i j) ▸ a) b⟩
theorem zq5 (X:Ex (Mm P) σ0 σ) (y:Ex (fun j=>Mm P j∨j = fn) σ σ1) (h:σ0.length≤fn):Ex (Mm P) σ0 σ1:=X.fresh (y.mono fun j hj=>hj.imp id fun (q:j = fn)=>q.symm ▸ h)
theorem FoS.exM (hf:FoS σ fj fn vl vs i) (x:Ex (Mm P) σ σ1) (N:FB (P.b + 31) fj fn vl):FoS σ1 fj fn vl vs i:=hf.ex x (Mm.gt N.j) (Mm.gt N.n) (Mm.gt N.l)
theorem zic (C:zl9 P PA PC σ0) (hb:zn2 P PA PC en d σ0 b) (wf:wfB b) (r1:P.rows[p]? = some (.tup [.str (S "step"),.int (e + 1:Nat),.str (nm x),.int 0])) (rb:LaidB (P.lw PA PC en) b (p + 1) e (e + 1) p) (rj:P.rows[e]? = some (.tup [.str (S "jump"),.int p]))
  (hv:vs.length < 90000) (N:FB (P.b + 31) fj fn vl) (hn:σ0.length≤fn):∀ ts i r ℓ σ s,St P σ0 ℓ σ s p (st++[.ref fj]) os (r + z4g (z0u b) ts.length)→FoS σ fj fn vl vs i→Rest (fun v t=>Val (Mm P) σ v t∧TGood t) vs i ts →
   KL P d Q (fun j=>Mm P j∨j = fn) σ (e + 1) (st++[.ref fj]) os r (z9z (evB en b) x ts s)→WP (d + 6) (r + z4g (z0u b) ts.length) ℓ σ Q
 | [],i,r,ℓ,σ,s,h,hf,hr,K=>by
  have hr:vs.length = i:=hr
  obtain rfl:=hr
  exact zbe C.O h.L h.h r1 hf hv N fun ℓ2 σ2 L2 m2 x2=>K ℓ2 σ2 L2 m2 (x2.mono fun uu=>.inl)
 | t :: ts,i,r,ℓ,σ,s,h,hf,⟨⟨v,hi,hval,hg⟩,hr⟩,K=>by
  refine zbf (r:=r + (z4g (z0u b) ts.length + 1 + z0u b)) C.O h.L h.h r1 hf hi hv N hval hg fun ℓ1 σ1 L1 m1 x1 f1=>?_
  obtain e1:r + (z4g (z0u b) ts.length + 1 + z0u b) = r + (z4g (z0u b) ts.length + 1) + z0u b:=(Nat.add_assoc ..).symm
  rw [e1] at m1 ⊢
  obtain X1:=zq5 h.X x1 hn
  exact hb _ _ _ _ _ _ _ _ _ _ _ wf rb (Nat.le_succ _) (Nat.le_succ _) ⟨L1,m1,X1⟩ (KL.lap K C.O rj (Nat.le_of_succ_le rb.le) (fun σ' x2=>x1.trans (x2.mono fun uu=>.inl)) fun K ℓ2 σ2 L2 m2 x2 =>
   zic C hb wf r1 rb rj hv N hn ts (i + 1) r ℓ2 σ2 _ ⟨L2,m2,X1.trans x2⟩ (f1.exM x2 N) (hr.map fun v t q=>⟨(Val.over hf.aside x1 q.1).ex x2,q.2⟩) (K.ex (x1.trans (x2.mono fun uu=>.inl))))
theorem zbg (C:zl9 P PA PC σ0) (hb:zn2 P PA PC en d σ0 b) (wf:wfB b) {l:Nat} (r1:P.rows[p]? = some (.tup [.str (S "ask"),.int m,.ref l])) (ra:PA l ans) (wa:za0 ans) (r2:P.rows[p + 1]? = some (.tup [.str (S "unless"),.int (e + 1:Nat),.int 0])) (rb:LaidB (P.lw PA PC en) b (p + 2) e (e + 1) p)
  (rj:P.rows[e]? = some (.tup [.str (S "jump"),.int p])):∀ k r ℓ σ s,ans.length≤cnt s.asked m + k→St P σ0 ℓ σ s p stk os (r + z3u (z0u b) k) →
   KL P d Q (Mm P) σ (e + 1) stk os r (z4b (evB en b) m ans (k + 1) s)→WP (d + 6) (r + z3u (z0u b) k) ℓ σ Q
 | 0=>fun r ℓ σ s hk h K=>by
  obtain hA:=C.A _ _ ra
  refine zi6 C.O h.L h.h r1 r2 (h.X.list hA.2 hA.1) hA.2 wa ?_
  have K:KL P d Q (Mm P) σ (e + 1) stk os r (askR _ (s.ask m) (z1y (s.nth m ans))):=K
  rw [za1 hk] at K ⊢
  exact K
 | k + 1=>fun r ℓ σ s hk h K=>by
  obtain hA:=C.A _ _ ra
  refine zi6 (r:=r + (z3u (z0u b) k + 1 + z0u b)) C.O h.L h.h r1 r2 (h.X.list hA.2 hA.1) hA.2 wa ?_
  have K:KL P d Q (Mm P) σ (e + 1) stk os r (askR _ (s.ask m) (z1y (s.nth m ans))):=K
  cases hz:z1y (s.nth m ans) with
  | inr er=>rw [hz] at K;exact K
  | inl c =>
   rw [hz] at K
   induction c with
   | false=>exact KS.more K (Nat.le_add_right _ _)
   | true =>
    obtain hlt:cnt s.asked m < ans.length:=Nat.lt_of_not_le fun q=>by rw [za1 q] at hz;exact nomatch hz
    intro ℓ1 σ1 L1 m1 x1
    obtain e1:r + (z3u (z0u b) k + 1 + z0u b) = r + (z3u (z0u b) k + 1) + z0u b:=(Nat.add_assoc ..).symm
    rw [e1] at m1 ⊢
    obtain hc:cnt s.asked m + 1≤cnt (s.ask m).asked m:=by rw [zcq,if_pos rfl];exact Nat.le_refl _
    obtain X1:=h.X.trans x1
    refine hb _ _ _ _ _ _ _ _ _ _ _ wf rb (Nat.le_add_right _ _) (Nat.le_succ _) ⟨L1,m1,X1⟩ (KL.lap K C.O rj (Nat.le_of_add_right_le rb.le) (fun σ' x2=>x1.trans x2) fun K ℓ2 σ2 L2 m2 x2=>?_)
    obtain hu:=Nat.le_trans hc (zt8 (en:=en) b (s.ask m) m)
    exact zbg C hb wf r1 ra wa r2 rb rj k r ℓ2 σ2 _ (Nat.le_trans hk (by rw [← Nat.succ_add_eq_add_succ];exact Nat.add_le_add_right hu _)) ⟨L2,m2,X1.trans x2⟩ (K.ex (x1.trans x2))
theorem za3 {c:Nat}:∀ {n n':Nat},n≤n'→z4g c n≤z4g c n'
 | _,0,h=>Nat.le_zero.mp h ▸ Nat.le_refl _
 | n,n' + 1,h=>(Nat.eq_or_lt_of_le h).elim (fun q=>q ▸ Nat.le_refl _) fun q=>Nat.le_trans (za3 (Nat.le_of_lt_succ q)) (by show z4g c n'≤z4g c n' + 1 + c + 1;lia)
theorem zid (C:zl9 P PA PC σ0) (hb:zn2 P PA PC en d σ0 b):zrb P PA PC en d σ0 (.loopW m ans b):=fun p q B N r stk os ℓ σ s Q wf ⟨l,e,hl⟩ hN hB h K=>by
 obtain ⟨r1,r2,ra,r3,rb,r4,r5,r6,rfl,re⟩:=hl
 obtain e1:r + z3h (.loopW m ans b) = r + 2 + z3u (z0u b) 3 + 1:=by show r + (2 + _ + 1) = _;lia
 rw [e1] at h ⊢
 have K:KB P d Q σ (e + 3) B N stk os r (andThen _ (z4b (evB en b) m ans 3 (s.enterW (en m)))):=K
 rw [re] at K
 obtain hst:=h.h.fors
 obtain hc:z3u (z0u b) 2≤z3u (z0u b) 3:=by show _≤z3u (z0u b) 2 + 1 + z0u b + 2;lia
 refine zq2 C.O h.L h.h r1 fun ℓ1 σ1 L1 m1 x1=>?_
 refine WP.le (zbg C hb wf.2.2 r2 ra wf.1 r3 rb r4 2 (r + 2) ℓ1 σ1 _ (Nat.le_add_left_of_le wf.1.1) ⟨L1,m1.le (Nat.add_le_add_left hc _),h.X.trans x1⟩ ?_) (Nat.add_le_add_left hc _)
 exact K.loop (fun σ' y=>x1.trans y) fun s1 K ℓ2 σ2 L2 m2 x2=>zfq C.O L2 m2 r5 r6 (hst ▸ KS.ex K (x1.trans x2))
theorem zie (C:zl9 P PA PC σ0) (hb:zn2 P PA PC en d σ0 b) (hg:∀ o p,z95 o p→∀ t∈z0z o p,TGood t):zrb P PA PC en d σ0 (.loopF m x o pk b):=fun p q B N r stk os ℓ σ s Q wf ⟨i,c,e,hl⟩ hN hB h K=>by
 obtain ⟨r1,rc,pc,r2,r3,rb,r4,r5,r6,rfl,re⟩:=hl
 obtain e1:r + z3h (.loopF m x o pk b) = r + 2 + z4g (z0u b) 3 + 2:=by show r + (2 + _ + 2) = _;lia
 rw [e1] at h ⊢
 obtain hC:=(C.C _ _ _ pc).ex h.X
 by_cases ho:o = 6
 ·obtain rfl:=ho
  exact zl8 C.O h.L h.h r1 rc hC r2 K
 ·have K:KB P d Q σ (e + 3) B N stk os r (if o = 6 then _ else andThen _ (z9z (evB en b) x (z0z o pk) (s.enterF x (en m)))):=K
  rw [if_neg ho,re] at K
  obtain hst:=h.h.fors
  obtain o1:=wf.1
  obtain h5:o < 6:=by have:=o1.2.1;lia
  have tl:(z0z o pk).length≤3:=by
   unfold z0z;split
   ·rw [List.length_map];exact o1.2.2.1
   ·exact Nat.zero_le _
  obtain hc:=za3 (c:=z0u b) tl
  refine zt9 C.O h.L h.h r1 rc hC o1.1 h5 o1.2.2.2 (Nat.lt_of_le_of_lt o1.2.2.1 (of_decide_eq_true rfl)) r2 r3 fun ℓ1 σ1 fj fn vl vs L1 m1 x1 hf hrel N=>?_
  obtain hn:=Nat.le_trans h.X.1 N.n
  obtain N':FB (P.b + 31) fj fn vl:=⟨Nat.le_trans C.b (Nat.le_trans h.X.1 N.j),Nat.le_trans C.b hn,Nat.le_trans C.b (Nat.le_trans h.X.1 N.l),N.nj,N.nl⟩
  refine WP.le (zic C hb wf.2.2 r3 rb r4 (by rw [hrel.1];exact Nat.lt_of_le_of_lt tl (of_decide_eq_true rfl)) N' hn (z0z o pk) 0 (r + 2) ℓ1 σ1 _ ⟨L1,m1.le (Nat.add_le_add_left hc _),h.X.trans x1⟩ hf
   (Rest.of (hrel.1.trans (Nat.zero_add _).symm) fun j v t a b=>⟨hrel.2 j v t (Nat.zero_add j ▸ a) b,hg _ _ o1 t (List.mem_of_getElem? b)⟩) ?_) (Nat.add_le_add_left hc _)
  exact K.loop (fun σ' y=>zq5 x1 y N.n) fun s1 K ℓ2 σ2 L2 m2 x2=>zia C.O L2 m2 r5 r6 (hst ▸ KS.ex K (zq5 x1 x2 N.n))
mutual
theorem zvv (C:zl9 P PA PC σ0) (hg:∀ o p,z95 o p→∀ t∈z0z o p,TGood t):∀ a,zrb P PA PC en d σ0 a
 | .note x=>zlb C
 | .leave m b ans=>zib C
 | .loopF m x o p b=>zie C (zlc C hg b) hg
 | .loopW m ans b=>zid C (zlc C hg b)
theorem zlc (C:zl9 P PA PC σ0) (hg:∀ o p,z95 o p→∀ t∈z0z o p,TGood t):∀ b,zn2 P PA PC en d σ0 b
 | []=>zq4
 | a :: r=>zla (zvv C hg a) (zlc C hg r)
end
end
end
section
open PySem PySem.W
noncomputable def zq6 (I:z1q):Option Stmt→z0o×Loc→AS→Res (Ctl (z0o×Loc))
 | some (.While t b _ _)=>z7v t b I
 | _=>fun uu uu=>.bad
noncomputable def z2f (fi k d:Nat):AV→z0o×Loc→AS→Res (Ctl (z0o×Loc)):=zn0 (IE d (fiS (stm fi)).sc true) (nth (fiS (stm fi)).body k)
noncomputable def zg6 (fi k d:Nat):z0o×Loc→AS→Res (Ctl (z0o×Loc)):=zq6 (IE d (fiS (stm fi)).sc true) (nth (fiS (stm fi)).body k)
section
variable {fi k d:Nat} {po as va ko kd kw dfs kk nm g0 c0 m0} {bd b o es ss:List Stmt} {e t:Expr} {p p' p2 p3:Pos} {st:List (List Stmt)} {ℓ ℓ0 ℓ1 ℓ':Loc} {σ σ1 σ2:AS} {v w a:AV} {x y:Str} {fl:z0o×Loc} {fl0:z0o} {rc:Res (Ctl (z0o×Loc))} {I:z1q} {R:Res (z0o×Loc)}
theorem z1u (h0:fnV (stm fi) = some (⟨po,as,va,ko,kd,kw,dfs⟩,bd,⟨kk,nm,g0,c0,m0⟩)) (h1:nth bd k = some (.For t e b o p)):z2f fi k d = zra t b (IE d nm true):=by
 unfold z2f fiS;rw [h0];dsimp only [zbx];rw [h1];rfl
theorem z7x (h0:fnV (stm fi) = some (⟨po,as,va,ko,kd,kw,dfs⟩,bd,⟨kk,nm,g0,c0,m0⟩)) (h1:nth bd k = some (.While e b o p)):zg6 fi k d = z7v e b (IE d nm true):=by
 unfold zg6 fiS;rw [h0];dsimp only [zbx];rw [h1];rfl
theorem z5l (h0:fnV (stm fi) = some (⟨po,as,va,ko,kd,kw,dfs⟩,bd,⟨kk,nm,g0,c0,m0⟩)) (h1:nth bd k = some (.For (.Name x p') e b o p)) (hx:z1g nm x = true)
  (h:z0v [b] (IE d nm true) (z1e ℓ x v) σ = .ok fl σ1) (hr:z2v fl σ1 = rc):z2f fi k d v (fl0,ℓ) σ = rc:=by
 rw [z1u h0 h1]
 exact zi1 hx h hr
theorem zn3 {n:Nat} (h0:fnV (stm fi) = some (⟨po,as,va,ko,kd,kw,dfs⟩,bd,⟨kk,nm,g0,c0,m0⟩)) (h1:nth bd k = some (.For (.Tuple [.Name x p2,.Name y p3] n p') e b o p)) (hx:(z1g nm x && z1g nm y) = true)
  (h:z0v [b] (IE d nm true) (z1e (z1e ℓ x a) y w) σ = .ok fl σ1) (hr:z2v fl σ1 = rc):z2f fi k d (.tup [a,w]) (fl0,ℓ) σ = rc:=by
 rw [z1u h0 h1]
 obtain hq:=Bool.and_eq_true_iff.mp hx
 exact z0a (of_of (by
  refine (?_:((z6i (IE d nm true) ℓ x a).bind fun ℓ=>z6i (IE d nm true) ℓ y w) = _)
  rw [z3n hq.1];exact z3n hq.2)) (z0a (zff ▸ h) hr)
theorem zif (h0:fnV (stm fi) = some (⟨po,as,va,ko,kd,kw,dfs⟩,bd,⟨kk,nm,g0,c0,m0⟩)) (h1:nth bd k = some (.While e b o p)) (ht:z20 e (IE d nm true) ℓ (z09 e (IE d nm true) ℓ) σ = .ok true σ1)
  (h:z0v [b] (IE d nm true) ℓ σ1 = .ok fl σ2) (hr:z2v fl σ2 = rc):zg6 fi k d (fl0,ℓ) σ = rc:=by
 rw [z7x h0 h1]
 exact z0a ht (z0a (zff ▸ h) hr)
theorem ztb:z72 (.For t e ss [] p) I ℓ σ = (z09 e I ℓ σ).bind fun src σ=>z1b src (zra t ss I) z1i 0 (.next,ℓ) σ:=by
 show (if ([]:List Stmt).isEmpty = true then _ else .bad) = _
 exact if_pos rfl
theorem z8j (h:z09 e I ℓ σ = .ok v σ1) (hl:z1b v (z2f fi k d) z1i 0 (.next,ℓ0) σ1 = .ok (.next,ℓ1) σ2) (hℓ:ℓ = ℓ0) (hT:z2f fi k d = zra t ss I) (h2:z0v (es :: st) I ℓ1 σ2 = R):z0v ((.For t e ss [] p :: es) :: st) I ℓ σ = R :=
 z4z (ztb.trans (z0a h (by rw [hℓ,← hT];exact hl))) h2
theorem ze7 (h:z09 e I ℓ σ = .ok v σ1) (hl:z1b v (z2f fi k d) z1i 0 (.next,ℓ0) σ1 = .ok (.ret w,ℓ1) σ2) (hℓ:ℓ = ℓ0) (hT:z2f fi k d = zra t ss I):z0v ((.For t e ss [] p :: es) :: st) I ℓ σ = .ok (.ret w,ℓ1) σ2 :=
 zhi (ztb.trans (z0a h (by rw [hℓ,← hT];exact hl)))
theorem k_wh (hl:loopW (zg6 fi k d) z1i (.next,ℓ0) σ = .ok (.next,ℓ1) σ2) (hℓ:ℓ = ℓ0) (hT:zg6 fi k d = z7v e ss I) (h2:z0v (es :: st) I ℓ1 σ2 = R):z0v ((.While e ss [] p :: es) :: st) I ℓ σ = R :=
 z4z (zcn.trans (by rw [hℓ,← hT];exact hl)) h2
theorem ztc (hl:loopW (zg6 fi k d) z1i (.next,ℓ0) σ = .ok (.ret w,ℓ1) σ2) (hℓ:ℓ = ℓ0) (hT:zg6 fi k d = z7v e ss I):z0v ((.While e ss [] p :: es) :: st) I ℓ σ = .ok (.ret w,ℓ1) σ2 :=
 zhi (zcn.trans (by rw [hℓ,← hT];exact hl))
theorem ze8 {β:Type} {turn:β→AS→Res (Ctl β)} {n:Nat} {b b':β} {σ σ':AS} (e:turn b σ = .ok (.go b') σ'):loopW turn (n + 1) b σ = loopW turn n b' σ':=congrArg (zag _) e
theorem z7y {β:Type} {body:AV→β→AS→Res (Ctl β)} {n k bl:Nat} {b:β} {σ:AS} {vs:List AV} (h:σ[bl]? = some (.list vs)) (hk:vs.length≤k):z1b (.ref bl) body (n + 1) k b σ = .ok b σ:=zdo ((zkr h).trans (congrArg some (List.getElem?_eq_none hk)))
theorem za4 {β:Type} {body:AV→β→AS→Res (Ctl β)} {n k bl:Nat} {b b':β} {σ σ':AS} {vs:List AV} {v:AV} (h:σ[bl]? = some (.list vs)) (hv:vs[k]? = some v) (e:body v b σ = .ok (.go b') σ'):z1b (.ref bl) body (n + 1) k b σ = z1b (.ref bl) body n (k + 1) b' σ':=zfg ((zkr h).trans (congrArg some hv)) e
theorem z66 {β:Type} {body:AV→β→AS→Res (Ctl β)} {n k bl:Nat} {b b':β} {σ σ':AS} {vs:List AV} {v:AV} (h:σ[bl]? = some (.list vs)) (hv:vs[k]? = some v) (e:body v b σ = .ok (.stop b') σ'):z1b (.ref bl) body (n + 1) k b σ = .ok b' σ':=zhl ((zkr h).trans (congrArg some hv)) e
theorem z56 (h:PyData.strOk x = true) (h2:PyData.strOk y = true):z8b σ .NotEq (.str x) (.str y) = some (!(x == y)):=by
 refine (?_:(z8b σ .Eq (.str x) (.str y)).map _ = _)
 rw [z14 h h2];rfl
theorem z7z {vs ws:List AV} {i:Nat} (h:vs.drop i = v :: ws):vs[i]? = some v∧vs.drop (i + 1) = ws:=by
 have h1:vs[i]? = some v:=by
  have:=congrArg (fun l=>l[0]?) h
  simpa using this
 refine ⟨h1,?_⟩
 have:=congrArg List.tail h
 simpa using this
end
noncomputable def Mr (r:Nat):Nat→Prop:=fun i=>i = r + 2∨i = r + 3∨i = r + 4∨i = r + 5∨i = r + 6
noncomputable def stF (r E:Nat) (steps fors:Int):List (Str×AV):=[(S "held",.ref (r + 2)),(S "steps",.int steps),(S "open",.ref (r + 3)),(S "fors",.int fors),(S "due",.ref (r + 4)),(S "asked",.ref (r + 5)),(S "ends",.ref E)]
noncomputable def ztd (r E:Nat) (s:PSt) (hx hy:AV) (ds:List AV):List (Option AO) :=
 [none,none,some (.sd [(S "x",hx),(S "y",hy)]),some (.list (s.opens.map z3j)),some (.list ds),some (zby s.asked),some (.sd (stF r E s.steps s.fors))]
structure RW (r E:Nat) (ends:List (Int×AV)) (σ:AS) (s:PSt) (hx hy:AV) (ds:List AV):Prop where
 w:WinO σ r (ztd r E s hx hy ds)
 tx:TRep (Mr r) σ hx s.hx
 ty:TRep (Mr r) σ hy s.hy
 du:EffAll (Mr r) σ ds s.due
 en:σ[E]? = some (.idd ends)
 lE:E < r
structure RS (r E:Nat) (ends:List (Int×AV)) (σ:AS) (s:PSt) (os:List z1s) (f n:Nat):Prop where
 rw:∃ hx hy ds,RW r E ends σ s hx hy ds
 sz:s.size + 4 * n≤12000
 op:s.opens = os
 fo:s.fors = f
noncomputable def RO (r E:Nat) (ends:List (Int×AV)) (σ:AS) (os:List z1s) (f n:Nat):Out→Prop
 | (.ref _,s)=>∃ os f,RS r E ends σ s os f 0
 | (_,s)=>RS r E ends σ s os f n
section
variable {r E:Nat} {ends:List (Int×AV)} {σ σ' τ:AS} {s s':PSt} {d n n' k:Nat} {t:z31} {v tv hx hy hx' hy':AV} {ds ds':List AV} {x:Bool} {m:Int} {ans:List Int} {o o':AO}
theorem Mr.in2:Mr r (r + 2):=.inl rfl
theorem Mr.in3:Mr r (r + 3):=.inr (.inl rfl)
theorem Mr.in4:Mr r (r + 4):=.inr (.inr (.inl rfl))
theorem Mr.in5:Mr r (r + 5):=.inr (.inr (.inr (.inl rfl)))
theorem Mr.in6:Mr r (r + 6):=.inr (.inr (.inr (.inr rfl)))
theorem Mr.lo {i:Nat} (h:i < r + 2):¬ Mr r i:=by unfold Mr;lia
theorem RW.len (h:RW r E ends σ s hx hy ds):r + 6 < σ.length:=(List.getElem?_eq_some_iff.mp (h.w 6 _ rfl)).1
theorem Mr.hi (h:RW r E ends σ s hx hy ds) {i:Nat} (hi:σ.length≤i):¬ Mr r i:=by
 have:=h.len
 unfold Mr;lia
theorem zld:AllO (ztd r E s hx hy ds):=⟨trivial,trivial,trivial,zdx,trivial,trivial⟩
theorem RW.ex0 (h:RW r E ends σ s hx hy ds) (x:Ex M0 σ σ'):RW r E ends σ' s hx hy ds :=
 ⟨fun k o e=>x.exact (fun h=>h) (h.w k o e) (zld.mem e),h.tx.ex x.of0,h.ty.ex x.of0,h.du.ex x.of0,x.exact (fun h=>h) h.en trivial,h.lE⟩
theorem RS.ex0 {os:List z1s} {f:Nat} (h:RS r E ends σ s os f n) (x:Ex M0 σ σ'):RS r E ends σ' s os f n:={ h with rw:=h.rw.imp fun uu h=>h.imp fun uu h=>h.imp fun uu h=>h.ex0 x }
theorem RS.le {os:List z1s} {f:Nat} (h:RS r E ends σ s os f n') (hn:n≤n'):RS r E ends σ s os f n:={ h with sz:=Nat.le_trans (Nat.add_le_add_left (Nat.mul_le_mul_left 4 hn) _) h.sz }
theorem RW.set (h:RW r E ends σ s hx hy ds) (hk:(ztd r E s hx hy ds)[k]? = some (some o')) (hi:Mr r (r + k)) (hm:(ztd r E s hx hy ds).set k (some o) = ztd r E s' hx' hy' ds') (tx:TRep (Mr r) σ hx' s'.hx) (ty:TRep (Mr r) σ hy' s'.hy) (du:EffAll (Mr r) σ ds' s'.due) :
  RW r E ends (σ.set (r + k) o) s' hx' hy' ds' :=
 have x:Ex (Mr r) σ (σ.set (r + k) o):=Ex.set hi
 ⟨hm ▸ h.w.set hk,tx.ex x,ty.ex x,du.ex x,by refine (z1n (by have:=h.lE;exact Ne.symm (ktu_ne k this))).trans ?_;exact h.en,h.lE⟩
theorem RW.setSteps (h:RW r E ends σ s hx hy ds) {k:Nat}:RW r E ends (σ.set (r + 6) (.sd (stF r E k s.fors))) { s with steps:=k } hx hy ds:=h.set rfl Mr.in6 rfl h.tx h.ty h.du
theorem RW.setFors (h:RW r E ends σ s hx hy ds) {k:Nat}:RW r E ends (σ.set (r + 6) (.sd (stF r E s.steps k))) { s with fors:=k } hx hy ds:=h.set rfl Mr.in6 rfl h.tx h.ty h.du
theorem RW.setOpens (h:RW r E ends σ s hx hy ds) {os:List z1s}:RW r E ends (σ.set (r + 3) (.list (os.map z3j))) { s with opens:=os } hx hy ds:=h.set rfl Mr.in3 rfl h.tx h.ty h.du
theorem RW.setAsked (h:RW r E ends σ s hx hy ds) {q:z9v}:RW r E ends (σ.set (r + 5) (zby q)) { s with asked:=q } hx hy ds:=h.set rfl Mr.in5 rfl h.tx h.ty h.du
theorem RW.addDue {ev:AV} {e:Eff} (h:RW r E ends σ s hx hy ds) (he:EffRep (Mr r) σ ev e):RW r E ends (σ.set (r + 4) (.list (ds++[ev]))) { s with due:=s.due++[e] } hx hy (ds++[ev]):=h.set rfl Mr.in4 rfl h.tx h.ty (h.du.snoc he)
noncomputable def zig (hx hy:AV) (x:Bool) (v:AV):List (Str×AV):=[(S "x",if x then hx else v),(S "y",if x then v else hy)]
theorem RW.hold (h:RW r E ends σ s hx hy ds) (ht:TRep (Mr r) σ tv t):RW r E ends (σ.set (r + 2) (.sd (zig hx hy x tv))) (s.hold x t) (if x then hx else tv) (if x then tv else hy) ds:=by
 cases x
 ·exact h.set rfl Mr.in2 rfl ht h.ty h.du
 ·exact h.set rfl Mr.in2 rfl h.tx ht h.du
theorem z4t:z1e [(S "x",hx),(S "y",hy)] (nm x) v = zig hx hy x v:=by cases x <;> rfl
theorem zle:look [(S "x",hx),(S "y",hy)] (nm x) = some (if x then hy else hx):=by cases x <;> rfl
theorem RW.held (h:RW r E ends σ s hx hy ds):TRep (Mr r) σ (if x then hy else hx) (s.held x):=by
 cases x
 ·exact h.tx
 ·exact h.ty
theorem z6t {a b c:Int}:z1e (stF r E a b) (Str.ofString "steps") (.int c) = stF r E c b:=rfl
theorem za5 {a b c:Int}:z1e (stF r E a b) (Str.ofString "fors") (.int c) = stF r E a c:=rfl
noncomputable def zih:Sum Bool Refu→AV
 | .inr e=>.tup [.bool false,.str e.str]
 | .inl b=>.tup [.bool b,.str (S "")]
theorem zii {l:Nat} (h:RW r E ends σ s hx hy ds) (ha:σ[l]? = some (.list (ans.map .int))) (hn:¬ Mr r l) (ok:za0 ans) (hq:s.asked.length < 90000) :
  ∃ σ',z05 TT (d + 2) 1152 [.ref (r + 6),.int m,.ref l] σ = .ok (zih (z1y (s.nth m ans))) σ'∧RW r E ends σ' (s.ask m) hx hy ds∧Ex (Mr r) σ σ':=by
 refine ⟨_,?_,h.setAsked (q:=z1e s.asked m (cnt s.asked m + 1)),Ex.set Mr.in5⟩
 obtain ea:=zdu (d:=d) (m:=m) (h.w 5 _ rfl) ha (fun q=>hn (q ▸ Mr.in5)) (lt5 hq) (Nat.lt_of_le_of_lt ok.1 (of_decide_eq_true rfl))
 obtain h6:σ[r + 6]? = some (.sd (stF r E s.steps s.fors)):=h.w 6 _ rfl
 unfold PSt.nth z1y
 generalize z6m ans (cnt s.asked m) = nth at ea ⊢
 by_cases q6:nth = 6
 ·cases q6
  exact z19 rfl rfl (z0f rfl (z0g rfl rfl (z1r rfl (z1r rfl (z04 (z2l (z00 rfl) h6 rfl)))) ea) (k_y (z24 (z00 rfl) rfl) (z0k (z11 (z03 z17 z3k) rfl)))) rfl
 ·obtain c6:(nth == 6) = false:=beq_eq_false_iff_ne.mpr q6
  rw [if_neg q6]
  by_cases q7:nth = 7
  ·subst q7
   exact z19 rfl rfl (z0f rfl (z0g rfl rfl (z1r rfl (z1r rfl (z04 (z2l (z00 rfl) h6 rfl)))) ea) (k_z (z24 (z00 rfl) rfl) (k_y (z24 (z00 rfl) rfl) (z0k (z11 (z03 z17 z3k) rfl))))) rfl
  ·obtain c7:(nth == 7) = false:=beq_eq_false_iff_ne.mpr q7
   rw [if_neg q7,show nth % 2 = Int.fmod nth 2 from (Int.fmod_eq_emod_of_nonneg nth (by decide)).symm]
   exact z19 rfl rfl (z0f rfl (z0g rfl rfl (z1r rfl (z1r rfl (z04 (z2l (z00 rfl) h6 rfl)))) ea) (z0i (z24 (z00 rfl) rfl) (k_f c6 (z07 (z0i (z24 (z00 rfl) rfl) (k_f c7 (z07 (z0k (z11 (z03 (zce (z1p (z00 rfl) z0b rfl) z0b rfl) z3k) rfl))))))))) rfl
end
end
section
open PySem PySem.W
noncomputable def zlf (d:Nat):AV→z0o×Loc→AS→Res (Ctl (z0o×Loc)):=z2f 111 0 d
noncomputable def rlT (d:Nat):z0o×Loc→AS→Res (Ctl (z0o×Loc)):=zg6 110 6 d
noncomputable def LR (r:Nat) (ℓ:Loc):Prop:=look ℓ (S "state") = some (.ref (r + 6))
noncomputable def zlg:Way→Loc→Ctl (z0o×Loc)
 | .fall,ℓ=>.go (.next,ℓ)
 | w,ℓ=>.stop (.ret w.av,ℓ)
noncomputable def zvw:Way→z0o
 | .fall=>.next
 | w=>.ret w.av
section
variable {r E:Nat} {ends:List (Int×AV)} {σ σ' σ2 τ:AS} {s:PSt} {d n:Nat} {t:z31} {v tv:AV} {x b:Bool} {m:Int} {ans:List Int} {ℓ:Loc} {k w:Str} {z:Out}
theorem LR.put (h:LR r ℓ) (hx:decide (k = S "state") = false):LR r (z1e ℓ k v):=z0c hx h
variable {os:List z1s} {f:Nat}
variable (r E ends d) in
noncomputable def RdT (v:AV) (ℓ:Loc) (σ:AS) (os:List z1s) (f n:Nat) (z:Out):Prop:=∃ ℓ' σ',zlf d v (.next,ℓ) σ = .ok (zlg z.1 ℓ') σ'∧LR r ℓ'∧RO r E ends σ' os f n z∧Ex (Mr r) σ σ'
theorem zq7 (L:LR r ℓ) (h:RS r E ends σ s os f (n + 2)):RdT r E ends d (.tup [.str (S "note"),.str (nm x)]) ℓ σ os f n (.fall,s.noted x):=by
 obtain ⟨⟨hx,hy,ds,h0⟩,sz,op,fo⟩:=h
 obtain h1:=h0.ex0 (Ex.app (τ:=[AO.list (s.opens.map z3j)]))
 have er:EffRep (Mr r) (σ++[AO.list (s.opens.map z3j)]) (.tup [.str (S "note"),.str (nm x),if x then hy else hx,.int s.fors,.ref σ.length,.int s.steps]) (.note x (s.held x) s.fors s.opens s.steps) :=
  ⟨_,_,rfl,h1.held,z0y,Mr.hi h0 (Nat.le_refl _)⟩
 obtain g2:σ[r + 2]? = some (.sd [(S "x",hx),(S "y",hy)]):=h0.w 2 _ rfl
 obtain g3:σ[r + 3]? = some (.list (s.opens.map z3j)):=h0.w 3 _ rfl
 obtain g4:σ[r + 4]? = some (.list ds):=h0.w 4 _ rfl
 obtain g6:σ[r + 6]? = some (.sd (stF r E s.steps s.fors)):=h0.w 6 _ rfl
 obtain ss:=szs sz
 obtain l1:ds.length < 100000:=by rw [h0.du.1];exact lt5 ss.2.2.2.2
 obtain l2:(s.opens.map z3j).length < 100000:=by rw [List.length_map];exact lt5 ss.2.1
 have L':look ℓ (S "state") = some (.ref (r + 6)):=L
 refine ⟨?_,_,?e,?l,⟨⟨hx,hy,_,h1.addDue er⟩,zi5 sz,op,fo⟩,Ex.app.trans (Ex.set Mr.in4)⟩
 case e =>
  refine z5l rfl rfl rfl (z0f rfl z0l (k_y (z29 (z18 (z01 rfl (z0c rfl z10)) rfl) rfl) (z0f rfl (z0m rfl (z2l (z01 rfl (z0c rfl (z0c rfl L'))) g6 rfl) (z18 (z01 rfl (z0c rfl z10)) rfl) (zdn g2 zle)) (z0s rfl (z0j rfl (z2l (z01 rfl (z0c rfl (z0c rfl (z0c rfl L')))) g6 rfl) (z16 g4) (z04 (z11 (z15 (z03 (z18 (z01 rfl (z0c rfl (z0c rfl z10))) rfl) (z03 (z01 rfl z10) (z03 (z2l (z01 rfl (z0c rfl (z0c rfl (z0c rfl L')))) g6 rfl) (z03 (z0r rfl rfl (z04 (z2l (z01 rfl (z0c rfl (z0c rfl (z0c rfl L')))) g6 rfl)) (z6f g3 l2 z1l z1k)) (z04 (z2l (z01 rfl (z0c rfl (z0c rfl (z0c rfl L')))) (z0n g6) rfl))))))) rfl)) (z3e (z0n g4) l1)) (z07 (k_z (z4u (z01 rfl (z0c rfl z10)) rfl) (z07 z23))))))) ?_;exact rfl
 case l=>exact ((L.put rfl).put rfl).put rfl
theorem zlh {l:Nat} {en:Int→Nat×Nat} (L:LR r ℓ) (h:RS r E ends σ s os f (n + 3)) (ha:σ[l]? = some (.list (ans.map .int))) (hn:¬ Mr r l) (ok:za0 ans) :
  RdT r E ends (d + 2) (.tup [.str (S "leave"),.int m,.str (z5k b),.ref l]) ℓ σ os f n (evS en (.leave m b ans) s):=by
 obtain ⟨⟨hx,hy,ds,h0⟩,sz,op,fo⟩:=h
 refine z1m (zii (d:=d) (m:=m) h0 ha hn ok (szs sz).2.2.2.1) fun σ1 e1 h1 x1=>?_
 have L':look ℓ (S "state") = some (.ref (r + 6)):=L
 have sz1:(s.ask m).size + 4 * n≤12000:=ze6 (zcr sz (by lia))
 refine (?_:RdT r E ends (d + 2) _ ℓ σ os f n (askR (fun c s=>(if c then zl5 b else .fall,s)) (s.ask m) (z1y (s.nth m ans))))
 generalize z1y (s.nth m ans) = z at e1 ⊢
 induction z with
 | inr e =>
  have c1:(!(e.str == S "")) = true:=by cases e <;> rfl
  have c2:PyData.strOk e.str = true:=by cases e <;> exact z02
  have e1:z05 TT (d + 2) 1152 [.ref (r + 6),.int m,.ref l] σ = .ok (.tup [.bool false,.str e.str]) σ1:=e1
  refine ⟨?_,σ1,?e,?l,⟨os,f,⟨hx,hy,ds,h1⟩,zcr sz1 (Nat.add_le_add_left (Nat.zero_le _) _),op,fo⟩,x1⟩
  case e =>
   refine (?_:z2f 111 0 (d + 2) _ _ _ = .ok (.stop (.ret (.str e.str),_)) _)
   refine z5l rfl rfl rfl (z0f rfl z0l (z0i (z29 (z18 (z01 rfl (z0c rfl z10)) rfl) rfl) (k_f rfl (z0i (z29 (z18 (z01 rfl (z0c rfl z10)) rfl) rfl) (k_t rfl (z2c rfl (z0g rfl rfl (z03 (z01 rfl (z0c rfl (z0c rfl L'))) (z03 (z18 (z01 rfl (z0c rfl z10)) rfl) (z04 (z18 (z01 rfl (z0c rfl z10)) rfl)))) e1) (z0i (z6g (z01 rfl z10) (z56 c2 z02)) (k_t c1 (z0f rfl (z01 rfl z10) (z07 (z07 (z07 (k_y (z4u (z01 rfl z10) rfl) (z0k (z01 rfl z10))))))))))))))) ?_;exact rfl
  case l=>exact ((((L.put rfl).put rfl).put rfl).put rfl).put rfl
 | inl c =>
  cases c with
  | true =>
   have e1:z05 TT (d + 2) 1152 [.ref (r + 6),.int m,.ref l] σ = .ok (.tup [.bool true,.str (S "")]) σ1:=e1
   refine ⟨?_,σ1,?ge,?gl,(by cases b <;> exact ⟨⟨hx,hy,ds,h1⟩,sz1,op,fo⟩),x1⟩
   case ge =>
    obtain e:∀ ℓ:Loc,zlg (zl5 b) ℓ = .stop (.ret (.str (z5k b)),ℓ):=fun ℓ=>by cases b <;> rfl
    refine (?_:z2f 111 0 (d + 2) _ _ _ = .ok (zlg (zl5 b) _) _)
    rw [e]
    refine z5l rfl rfl rfl (z0f rfl z0l (z0i (z29 (z18 (z01 rfl (z0c rfl z10)) rfl) rfl) (k_f rfl (z0i (z29 (z18 (z01 rfl (z0c rfl z10)) rfl) rfl) (k_t rfl (z2c rfl (z0g rfl rfl (z03 (z01 rfl (z0c rfl (z0c rfl L'))) (z03 (z18 (z01 rfl (z0c rfl z10)) rfl) (z04 (z18 (z01 rfl (z0c rfl z10)) rfl)))) e1) (k_o (z6g (z01 rfl z10) (z56 z02 z02)) (k_y (z13 rfl (z01 rfl (z0c rfl z10)) rfl) (z0f rfl (z18 (z01 rfl (z0c rfl (z0c rfl (z0c rfl z10)))) rfl) (z07 (z07 (z07 (z07 (k_y (z4u (z01 rfl z10) rfl) (z0k (z01 rfl z10)))))))))))))))) ?_;exact rfl
   case gl=>exact ((((L.put rfl).put rfl).put rfl).put rfl).put rfl
  | false =>
   have e1:z05 TT (d + 2) 1152 [.ref (r + 6),.int m,.ref l] σ = .ok (.tup [.bool false,.str (S "")]) σ1:=e1
   refine ⟨?_,σ1,?he,?hl,⟨⟨hx,hy,ds,h1⟩,sz1,op,fo⟩,x1⟩
   case he =>
    refine (?_:z2f 111 0 (d + 2) _ _ _ = .ok (.go (.next,_)) _)
    refine z5l rfl rfl rfl (z0f rfl z0l (z0i (z29 (z18 (z01 rfl (z0c rfl z10)) rfl) rfl) (k_f rfl (z0i (z29 (z18 (z01 rfl (z0c rfl z10)) rfl) rfl) (k_t rfl (z2c rfl (z0g rfl rfl (z03 (z01 rfl (z0c rfl (z0c rfl L'))) (z03 (z18 (z01 rfl (z0c rfl z10)) rfl) (z04 (z18 (z01 rfl (z0c rfl z10)) rfl)))) e1) (k_o (z6g (z01 rfl z10) (z56 z02 z02)) (k_z (z13 rfl (z01 rfl (z0c rfl z10)) rfl) (z07 (z07 (z07 (k_z (z4u (z01 rfl (z0c rfl (z0c rfl z10))) rfl) (z07 z23))))))))))))) ?_;exact rfl
   case hl=>exact (((L.put rfl).put rfl).put rfl).put rfl
noncomputable def zn4 (k:Str):Prop:=k = S "for"∨k = S "while"
theorem zij {rest:List AV} {o:Option Refu} (L:LR r ℓ) (hk:zn4 k) (hr:rest.length < 100) (e1:z05 TT d 1159 [.ref (r + 6),.tup (.str k :: rest)] σ = .ok (match o with | none=>.none | some e=>.str e.str) σ2) :
  ∃ ℓ',zlf d (.tup (.str k :: rest)) (.next,ℓ) σ = .ok (zlg (match o with | none=>.fall | some e=>.ref e) ℓ') σ2∧LR r ℓ':=by
 revert r σ σ2 d ℓ k rest o;refine no_implicit_lambda% (z76 (z06 inferInstance (z06 inferInstance (z06 inferInstance (z06 inferInstance (z06 inferInstance (z06 inferInstance inferInstance)))))) ?_);generalize (e7 _ _).1 = r;generalize (e7 _ _).2.1 = σ;generalize (e7 _ _).2.2.1 = σ2;generalize (e7 _ _).2.2.2.1 = d;generalize (e7 _ _).2.2.2.2.1 = ℓ;generalize (e7 _ _).2.2.2.2.2.1 = k;generalize (e7 _ _).2.2.2.2.2.2 = rest;refine no_implicit_lambda% (z2b inferInstance ?_);generalize (e1 _ _) = o;unhygienic intros
 have L':look ℓ (S "state") = some (.ref (r + 6)):=L
 have c0:PyData.strOk k = true:=by rcases hk with rfl | rfl <;> exact z02
 have c1:(k == S "note") = false:=by rcases hk with rfl | rfl <;> rfl
 have c2:(k == S "leave") = false:=by rcases hk with rfl | rfl <;> rfl
 induction o with
 | none =>
  have e1:z05 TT d 1159 [.ref (r + 6),.tup (.str k :: rest)] σ = .ok .none σ2:=e1
  refine ⟨?_,?e,?l⟩
  case e =>
   refine z5l rfl rfl rfl (z0f rfl z0l (z0i (z6g (z18 (z01 rfl (z0c rfl z10)) (z5j hr)) (z14 c0 z02)) (k_f c1 (z0i (z6g (z18 (z01 rfl (z0c rfl z10)) (z5j hr)) (z14 c0 z02)) (k_f c2 (z0f rfl (z0g rfl rfl (z03 (z01 rfl (z0c rfl (z0c rfl L'))) (z04 (z01 rfl (z0c rfl z10)))) e1) (z07 (z07 (k_z (z4u (z01 rfl z10) rfl) (z07 z23)))))))))) ?_;exact rfl
  case l=>exact ((L.put rfl).put rfl).put rfl
 | some e =>
  have e1:z05 TT d 1159 [.ref (r + 6),.tup (.str k :: rest)] σ = .ok (.str e.str) σ2:=e1
  refine ⟨?_,?he,?hl⟩
  case he =>
   refine z5l rfl rfl rfl (z0f rfl z0l (z0i (z6g (z18 (z01 rfl (z0c rfl z10)) (z5j hr)) (z14 c0 z02)) (k_f c1 (z0i (z6g (z18 (z01 rfl (z0c rfl z10)) (z5j hr)) (z14 c0 z02)) (k_f c2 (z0f rfl (z0g rfl rfl (z03 (z01 rfl (z0c rfl (z0c rfl L'))) (z04 (z01 rfl (z0c rfl z10)))) e1) (z07 (z07 (k_y (z4u (z01 rfl z10) rfl) (z0k (z01 rfl z10))))))))))) ?_;exact rfl
  case hl=>exact ((L.put rfl).put rfl).put rfl
section
theorem zte {bl:Nat} {w:Way} {ℓ':Loc} (e:z1b (.ref bl) (zlf d) z1i 0 (.next,[(S "state",.ref (r + 6)),(S "body",.ref bl)]) σ = .ok (zvw w,ℓ') σ2):z05 TT (d + 1) 1166 [.ref (r + 6),.ref bl] σ = .ok w.av σ2:=by
 induction w with
 | fall =>
  have e:z1b (.ref bl) (z2f 111 0 d) z1i 0 (.next,[(S "state",.ref (r + 6)),(S "body",.ref bl)]) σ = .ok (.next,ℓ') σ2:=e
  refine z19 rfl rfl (z8j (z00 rfl) e rfl (z1u rfl rfl) (z0k z0l)) ?_;exact rfl
 | brk =>
  have e:z1b (.ref bl) (z2f 111 0 d) z1i 0 (.next,[(S "state",.ref (r + 6)),(S "body",.ref bl)]) σ = .ok (.ret (.str (S "break")),ℓ') σ2:=e
  refine (?_:z05 TT (d + 1) 1166 _ _ = .ok (.str (S "break")) _)
  refine z19 rfl rfl (ze7 (z00 rfl) e rfl (z1u rfl rfl)) ?_;exact rfl
 | nxt =>
  have e:z1b (.ref bl) (z2f 111 0 d) z1i 0 (.next,[(S "state",.ref (r + 6)),(S "body",.ref bl)]) σ = .ok (.ret (.str (S "next")),ℓ') σ2:=e
  refine (?_:z05 TT (d + 1) 1166 _ _ = .ok (.str (S "next")) _)
  refine z19 rfl rfl (ze7 (z00 rfl) e rfl (z1u rfl rfl)) ?_;exact rfl
 | ref er =>
  have e:z1b (.ref bl) (z2f 111 0 d) z1i 0 (.next,[(S "state",.ref (r + 6)),(S "body",.ref bl)]) σ = .ok (.ret (.str er.str),ℓ') σ2:=e
  refine (?_:z05 TT (d + 1) 1166 _ _ = .ok (.str er.str) _)
  refine z19 rfl rfl (ze7 (z00 rfl) e rfl (z1u rfl rfl)) ?_;exact rfl
end
end
end
section
open PySem PySem.W
structure LL (r:Nat) (ℓ:Loc) (sv:AV) (m:Int) (f:Nat) (turns:AV) (i:Nat):Prop where
 st:look ℓ (S "state") = some (.ref (r + 6))
 sm:look ℓ (S "stm") = some sv
 mkk:look ℓ (S "mark") = some (.int m)
 fo:look ℓ (S "fors") = some (.int f)
 tu:look ℓ (S "turns") = some turns
 at_:look ℓ (S "at") = some (.int i)
noncomputable def llOk (x:Str):Bool:=!(decide (x = S "state") || (decide (x = S "stm") || (decide (x = S "mark") || (decide (x = S "fors") || (decide (x = S "turns") || decide (x = S "at"))))))
noncomputable def lapC:Way→Loc→Ctl (z0o×Loc)
 | .brk,ℓ=>.stop (.next,ℓ)
 | .ref e,ℓ=>.stop (.ret (.str e.str),ℓ)
 | _,ℓ=>.go (.next,ℓ)
noncomputable def zvx (r E:Nat) (s:PSt) (σ:AS):Way→AS
 | .brk=>σ
 | .ref e=>σ
 | _=>σ.set (r + 6) (.sd (stF r E ((s.steps:Int) + 1) s.fors))
section
variable {r E:Nat} {ends:List (Int×AV)} {σ σ' σ1 σ2 τ:AS} {s s2:PSt} {d f i n:Nat} {t:z31} {v tv sv hx hy:AV} {ds:List AV} {x:Bool} {m:Int} {ans:List Int} {ℓ:Loc} {k:Str} {w:Way}
theorem LL.put (h:LL r ℓ sv m f tv i) (hx:llOk k = true):LL r (z1e ℓ k v) sv m f tv i:=by
 unfold llOk at hx
 simp only [Bool.not_eq_true',Bool.or_eq_false_iff] at hx
 exact ⟨z0c hx.1 h.st,z0c hx.2.1 h.sm,z0c hx.2.2.1 h.mkk,z0c hx.2.2.2.1 h.fo,z0c hx.2.2.2.2.1 h.tu,z0c hx.2.2.2.2.2 h.at_⟩
theorem LL.putAt (h:LL r ℓ sv m f tv i):LL r (z1e ℓ (S "at") (.int ((i:Int) + 1))) sv m f tv (i + 1):=⟨z0c rfl h.st,z0c rfl h.sm,z0c rfl h.mkk,z0c rfl h.fo,z0c rfl h.tu,z10⟩
theorem zn5 (h:PyData.strOk k = true):z8b σ .Eq .none (.str k) = some false:=by
 refine (?_:eqA σ _ _ = _)
 exact zmw (a:=.none) (da:=.none) rfl (rd8 h)
theorem z6u {I:z1q} (hx:z1g I.sc k = true) (h:look ℓ k = some v):z4e I ℓ k = some v:=(if_pos hx).trans h
structure zq8 (r E:Nat) (ends:List (Int×AV)) (d:Nat) (ℓ:Loc) (σ σ1:AS) (bl:Nat) (L:Loc→Prop):Prop where
 on:∀ (σ2:AS) (w:Way) (s2:PSt) (hx hy:AV) (ds:List AV),z05 TT d 1166 [.ref (r + 6),.ref bl] σ1 = .ok w.av σ2→RW r E ends σ2 s2 hx hy ds→∃ ℓ',rlT d (.next,ℓ) σ = .ok (lapC w ℓ') (zvx r E s2 σ2 w)∧L ℓ'
theorem zct {l bl:Nat} {Z:Sum Bool Refu} (L:LL r ℓ (.tup [.str (S "while"),.int m,.ref l,.ref bl]) m f .none i) (e1:z05 TT d 1152 [.ref (r + 6),.int m,.ref l] σ = .ok (zih Z) σ1) :
  match Z with
  | .inr e=>∃ ℓ',rlT d (.next,ℓ) σ = .ok (.stop (.ret (.str e.str),ℓ')) σ1
  | .inl false=>∃ ℓ',rlT d (.next,ℓ) σ = .ok (.stop (.next,ℓ')) σ1∧LL r ℓ' (.tup [.str (S "while"),.int m,.ref l,.ref bl]) m f .none i
  | .inl true=>zq8 r E ends d ℓ σ σ1 bl fun ℓ'=>LL r ℓ' (.tup [.str (S "while"),.int m,.ref l,.ref bl]) m f .none i:=by
 revert r E ends σ σ1 d f i m ℓ l bl Z;refine no_implicit_lambda% (z76 (z06 inferInstance (z06 inferInstance (z06 inferInstance (z06 inferInstance (z06 inferInstance (z06 inferInstance inferInstance)))))) ?_);generalize (e7 _ _).1 = r;generalize (e7 _ _).2.1 = E;generalize (e7 _ _).2.2.1 = ends;generalize (e7 _ _).2.2.2.1 = σ;generalize (e7 _ _).2.2.2.2.1 = σ1;generalize (e7 _ _).2.2.2.2.2.1 = d;generalize (e7 _ _).2.2.2.2.2.2 = f;refine no_implicit_lambda% (z36 (z06 inferInstance (z06 inferInstance inferInstance)) ?_);generalize (e3 _ _).1 = i;generalize (e3 _ _).2.1 = m;generalize (e3 _ _).2.2 = ℓ;refine no_implicit_lambda% (z36 (z06 inferInstance (z06 inferInstance inferInstance)) ?_);generalize (e3 _ _).1 = l;generalize (e3 _ _).2.1 = bl;generalize (e3 _ _).2.2 = Z;unhygienic intros
 obtain q1:=L.st
 have q2:=L.sm
 have q3:=L.mkk
 have q5:=L.tu
 induction Z with
 | inr e =>
  have c1:(!(e.str == S "")) = true:=by cases e <;> rfl
  have c2:PyData.strOk e.str = true:=by cases e <;> exact z02
  have e1:z05 TT d 1152 [.ref (r + 6),.int m,.ref l] σ = .ok (.tup [.bool false,.str e.str]) σ1:=e1
  refine ⟨?_,?gx⟩
  case gx =>
   refine zif rfl rfl (z13 rfl z17 rfl) (z0i (z08 (z01 rfl q5) z0l rfl) (k_t rfl (z2c rfl (z0g rfl rfl (z03 (z01 rfl q1) (z03 (z01 rfl q3) (z04 (z0m rfl (z01 rfl q2) z0b rfl)))) e1) (z0i (z08 (z01 rfl z10) z0h (z56 c2 z02)) (k_t c1 (z0k (z01 rfl z10))))))) ?_
   exact rfl
 | inl c =>
  cases c with
  | false =>
   have e1:z05 TT d 1152 [.ref (r + 6),.int m,.ref l] σ = .ok (.tup [.bool false,.str (S "")]) σ1:=e1
   refine ⟨?_,?gy,?gz⟩
   case gy =>
    refine zif rfl rfl (z13 rfl z17 rfl) (z0i (z08 (z01 rfl q5) z0l rfl) (k_t rfl (z2c rfl (z0g rfl rfl (z03 (z01 rfl q1) (z03 (z01 rfl q3) (z04 (z0m rfl (z01 rfl q2) z0b rfl)))) e1) (z0i (z08 (z01 rfl z10) z0h (z56 z02 z02)) (k_f rfl (z07 (z0i (z2q (z13 rfl (z01 rfl (z0c rfl z10)) rfl)) (k_t rfl zkq)))))))) ?_
    exact rfl
   case gz=>exact (L.put rfl).put rfl
  | true =>
   have e1:z05 TT d 1152 [.ref (r + 6),.int m,.ref l] σ = .ok (.tup [.bool true,.str (S "")]) σ1:=e1
   refine ⟨fun σ2 w s2 hx hy ds e2 h2=>?_⟩
   obtain g6:σ2[r + 6]? = some (.sd (stF r E s2.steps s2.fors)):=h2.w 6 _ rfl
   have L2:∀ {a b c},LL r (z1e (z1e (z1e ℓ (S "truth") a) (S "words") b) (S "way") c) (.tup [.str (S "while"),.int m,.ref l,.ref bl]) m f .none i:=((L.put rfl).put rfl).put rfl
   induction w with
   | fall =>
    have e2:z05 TT d 1166 [.ref (r + 6),.ref bl] σ1 = .ok .none σ2:=e2
    refine ⟨?_,?ga,?gb⟩
    case ga =>
     refine zif rfl rfl (z13 rfl z17 rfl) (z0i (z08 (z01 rfl q5) z0l rfl) (k_t rfl (z2c rfl (z0g rfl rfl (z03 (z01 rfl q1) (z03 (z01 rfl q3) (z04 (z0m rfl (z01 rfl q2) z0b rfl)))) e1) (z0i (z08 (z01 rfl z10) z0h (z56 z02 z02)) (k_f rfl (z07 (z0i (z2q (z13 rfl (z01 rfl (z0c rfl z10)) rfl)) (k_f rfl (z07 (z07 (z0f rfl (z0g rfl rfl (z03 (z01 rfl (z0c rfl (z0c rfl q1))) (z04 (z0m rfl (z01 rfl (z0c rfl (z0c rfl q2))) (zg4 z0b rfl) rfl))) e2) (z0i (z08 (z01 rfl z10) z0h (zn5 z02)) (k_f rfl (z07 (z0i (z0t (z1a (z08 (z01 rfl z10) z0l rfl) (z48 rfl))) (k_f rfl (z07 (z2a rfl (z1p (z0m rfl (z01 rfl (z0c rfl (z0c rfl (z0c rfl q1)))) z0h (zdn g6 rfl)) z0b rfl) (z01 rfl (z0c rfl (z0c rfl (z0c rfl q1)))) z0h (z7k g6 (of_decide_eq_true rfl) z6t) (z07 z23))))))))))))))))))) ?_
     exact rfl
    case gb=>exact L2
   | nxt =>
    have e2:z05 TT d 1166 [.ref (r + 6),.ref bl] σ1 = .ok (.str (S "next")) σ2:=e2
    refine ⟨?_,?gc,?gd⟩
    case gc =>
     refine zif rfl rfl (z13 rfl z17 rfl) (z0i (z08 (z01 rfl q5) z0l rfl) (k_t rfl (z2c rfl (z0g rfl rfl (z03 (z01 rfl q1) (z03 (z01 rfl q3) (z04 (z0m rfl (z01 rfl q2) z0b rfl)))) e1) (z0i (z08 (z01 rfl z10) z0h (z56 z02 z02)) (k_f rfl (z07 (z0i (z2q (z13 rfl (z01 rfl (z0c rfl z10)) rfl)) (k_f rfl (z07 (z07 (z0f rfl (z0g rfl rfl (z03 (z01 rfl (z0c rfl (z0c rfl q1))) (z04 (z0m rfl (z01 rfl (z0c rfl (z0c rfl q2))) (zg4 z0b rfl) rfl))) e2) (z0i (z08 (z01 rfl z10) z0h (z14 z02 z02)) (k_f rfl (z07 (z0i (z0t (z1a (z08 (z01 rfl z10) z0l rfl) (z49 rfl (z1a (z08 (z01 rfl z10) z0h (z56 z02 z02)) (z48 rfl))))) (k_f rfl (z07 (z2a rfl (z1p (z0m rfl (z01 rfl (z0c rfl (z0c rfl (z0c rfl q1)))) z0h (zdn g6 rfl)) z0b rfl) (z01 rfl (z0c rfl (z0c rfl (z0c rfl q1)))) z0h (z7k g6 (of_decide_eq_true rfl) z6t) (z07 z23))))))))))))))))))) ?_
     exact rfl
    case gd=>exact L2
   | brk =>
    have e2:z05 TT d 1166 [.ref (r + 6),.ref bl] σ1 = .ok (.str (S "break")) σ2:=e2
    refine ⟨?_,?ge,?gf⟩
    case ge =>
     refine zif rfl rfl (z13 rfl z17 rfl) (z0i (z08 (z01 rfl q5) z0l rfl) (k_t rfl (z2c rfl (z0g rfl rfl (z03 (z01 rfl q1) (z03 (z01 rfl q3) (z04 (z0m rfl (z01 rfl q2) z0b rfl)))) e1) (z0i (z08 (z01 rfl z10) z0h (z56 z02 z02)) (k_f rfl (z07 (z0i (z2q (z13 rfl (z01 rfl (z0c rfl z10)) rfl)) (k_f rfl (z07 (z07 (z0f rfl (z0g rfl rfl (z03 (z01 rfl (z0c rfl (z0c rfl q1))) (z04 (z0m rfl (z01 rfl (z0c rfl (z0c rfl q2))) (zg4 z0b rfl) rfl))) e2) (z0i (z08 (z01 rfl z10) z0h (z14 z02 z02)) (k_t rfl zkq))))))))))))) ?_
     exact rfl
    case gf=>exact L2
   | ref e =>
    have e2:z05 TT d 1166 [.ref (r + 6),.ref bl] σ1 = .ok (.str e.str) σ2:=e2
    have c1:(e.str == S "break") = false:=by cases e <;> rfl
    obtain c3:z4j .And (!(e.str == S "next")) = false:=by cases e <;> rfl
    have c2:PyData.strOk e.str = true:=by cases e <;> exact z02
    refine ⟨?_,?gg,?gh⟩
    case gg =>
     refine zif rfl rfl (z13 rfl z17 rfl) (z0i (z08 (z01 rfl q5) z0l rfl) (k_t rfl (z2c rfl (z0g rfl rfl (z03 (z01 rfl q1) (z03 (z01 rfl q3) (z04 (z0m rfl (z01 rfl q2) z0b rfl)))) e1) (z0i (z08 (z01 rfl z10) z0h (z56 z02 z02)) (k_f rfl (z07 (z0i (z2q (z13 rfl (z01 rfl (z0c rfl z10)) rfl)) (k_f rfl (z07 (z07 (z0f rfl (z0g rfl rfl (z03 (z01 rfl (z0c rfl (z0c rfl q1))) (z04 (z0m rfl (z01 rfl (z0c rfl (z0c rfl q2))) (zg4 z0b rfl) rfl))) e2) (z0i (z08 (z01 rfl z10) z0h (z14 c2 z02)) (k_f c1 (z07 (z0i (z0t (z1a (z08 (z01 rfl z10) z0l rfl) (z49 rfl (z1a (z08 (z01 rfl z10) z0h (z56 c2 z02)) (z49 c3 z6d))))) (k_t rfl (z0k (z01 rfl z10)))))))))))))))))) ?_
     exact rfl
    case gh=>exact L2
theorem zq9 {p bl tl:Nat} {o:Int} {tvs:List AV} (L:LL r ℓ (.tup [.str (S "for"),.int m,.str (nm x),.tup [.int o,.ref p],.ref bl]) m f (.ref tl) i) (ht:σ[tl]? = some (.list tvs)) (hi:tvs.length = i) (hl:tvs.length < 1000) :
  rlT d (.next,ℓ) σ = .ok (.stop (.next,ℓ)) σ:=by
 subst hi
 obtain q5:=L.tu
 obtain q6:=L.at_
 obtain l1:tvs.length < 1000000:=Nat.lt_trans hl (of_decide_eq_true rfl)
 obtain c1:((tvs.length:Int) == tvs.length) = true:=beq_self_eq_true _
 refine zif rfl rfl (z13 rfl z17 rfl) (z0i (z08 (z01 rfl q5) z0l rfl) (k_f rfl (z0i (z08 (z01 rfl q6) (z0r rfl rfl (z04 (z01 rfl q5)) (z3q ht l1)) rfl) (k_t c1 zkq)))) ?_
 exact rfl
theorem zqa {p bl tl:Nat} {o:Int} {tvs:List AV} (L:LL r ℓ (.tup [.str (S "for"),.int m,.str (nm x),.tup [.int o,.ref p],.ref bl]) m f (.ref tl) i) (h:RW r E ends σ s hx hy ds) (ht:σ[tl]? = some (.list tvs)) (hi:tvs[i]? = some tv) (hl:tvs.length < 1000) (nt:¬ Mr r tl) :
  zq8 r E ends d ℓ σ (σ.set (r + 2) (.sd (zig hx hy x tv))) bl fun ℓ'=>LL r ℓ' (.tup [.str (S "for"),.int m,.str (nm x),.tup [.int o,.ref p],.ref bl]) m f (.ref tl) (i + 1):=by
 obtain q1:=L.st
 obtain q2:=L.sm
 obtain q5:=L.tu
 obtain q6:=L.at_
 obtain l1:tvs.length < 1000000:=Nat.lt_trans hl (of_decide_eq_true rfl)
 obtain ai:=z3t hi
 obtain hil:i < tvs.length:=(List.getElem?_eq_some_iff.mp hi).1
 obtain c1:((i:Int) == tvs.length) = false:=beq_eq_false_iff_ne.mpr fun q=>Nat.ne_of_lt hil (Int.ofNat.inj q)
 obtain k2:σ[r + 2]? = some (.sd [(S "x",hx),(S "y",hy)]):=h.w 2 _ rfl
 obtain k6:σ[r + 6]? = some (.sd (stF r E s.steps s.fors)):=h.w 6 _ rfl
 refine ⟨fun σ2 w s2 hx hy ds e2 h2=>?_⟩
 obtain g6:σ2[r + 6]? = some (.sd (stF r E s2.steps s2.fors)):=h2.w 6 _ rfl
 obtain L2:∀ {c},LL r (z1e (z1e ℓ (S "at") (.int ((i:Int) + 1))) (S "way") c) (.tup [.str (S "for"),.int m,.str (nm x),.tup [.int o,.ref p],.ref bl]) m f (.ref tl) (i + 1):=L.putAt.put rfl
 induction w with
 | fall =>
  have e2:z05 TT d 1166 [.ref (r + 6),.ref bl] _ = .ok .none σ2:=e2
  refine ⟨?_,?ga,?gb⟩
  case ga =>
   refine zif rfl rfl (z13 rfl z17 rfl) (z0i (z08 (z01 rfl q5) z0l rfl) (k_f rfl (z0i (z08 (z01 rfl q6) (z0r rfl rfl (z04 (z01 rfl q5)) (z3q ht l1)) rfl) (k_f c1 (z07 (z2a rfl (z0m rfl (z01 rfl q5) (z01 rfl q6) (z3w ht l1 ai)) (z0m rfl (z01 rfl q1) z0h (zdn k6 rfl)) (z0m rfl (z01 rfl q2) z0b rfl) (z7k k2 (of_decide_eq_true rfl) z4t) (zdm rfl (z6u rfl q6) z0b rfl (z07 (z0f rfl (z0g rfl rfl (z03 (z01 rfl (z0c rfl q1)) (z04 (z0m rfl (z01 rfl (z0c rfl q2)) (zg4 z0b rfl) rfl))) e2) (z0i (z08 (z01 rfl z10) z0h (zn5 z02)) (k_f rfl (z07 (z0i (z0t (z1a (z08 (z01 rfl z10) z0l rfl) (z48 rfl))) (k_f rfl (z07 (z2a rfl (z1p (z0m rfl (z01 rfl (z0c rfl (z0c rfl q1))) z0h (zdn g6 rfl)) z0b rfl) (z01 rfl (z0c rfl (z0c rfl q1))) z0h (z7k g6 (of_decide_eq_true rfl) z6t) (z07 z23))))))))))))))))) ?_
   exact rfl
  case gb=>exact L2
 | nxt =>
  have e2:z05 TT d 1166 [.ref (r + 6),.ref bl] _ = .ok (.str (S "next")) σ2:=e2
  refine ⟨?_,?gc,?gd⟩
  case gc =>
   refine zif rfl rfl (z13 rfl z17 rfl) (z0i (z08 (z01 rfl q5) z0l rfl) (k_f rfl (z0i (z08 (z01 rfl q6) (z0r rfl rfl (z04 (z01 rfl q5)) (z3q ht l1)) rfl) (k_f c1 (z07 (z2a rfl (z0m rfl (z01 rfl q5) (z01 rfl q6) (z3w ht l1 ai)) (z0m rfl (z01 rfl q1) z0h (zdn k6 rfl)) (z0m rfl (z01 rfl q2) z0b rfl) (z7k k2 (of_decide_eq_true rfl) z4t) (zdm rfl (z6u rfl q6) z0b rfl (z07 (z0f rfl (z0g rfl rfl (z03 (z01 rfl (z0c rfl q1)) (z04 (z0m rfl (z01 rfl (z0c rfl q2)) (zg4 z0b rfl) rfl))) e2) (z0i (z08 (z01 rfl z10) z0h (z14 z02 z02)) (k_f rfl (z07 (z0i (z0t (z1a (z08 (z01 rfl z10) z0l rfl) (z49 rfl (z1a (z08 (z01 rfl z10) z0h (z56 z02 z02)) (z48 rfl))))) (k_f rfl (z07 (z2a rfl (z1p (z0m rfl (z01 rfl (z0c rfl (z0c rfl q1))) z0h (zdn g6 rfl)) z0b rfl) (z01 rfl (z0c rfl (z0c rfl q1))) z0h (z7k g6 (of_decide_eq_true rfl) z6t) (z07 z23))))))))))))))))) ?_
   exact rfl
  case gd=>exact L2
 | brk =>
  have e2:z05 TT d 1166 [.ref (r + 6),.ref bl] _ = .ok (.str (S "break")) σ2:=e2
  refine ⟨?_,?ge,?gf⟩
  case ge =>
   refine zif rfl rfl (z13 rfl z17 rfl) (z0i (z08 (z01 rfl q5) z0l rfl) (k_f rfl (z0i (z08 (z01 rfl q6) (z0r rfl rfl (z04 (z01 rfl q5)) (z3q ht l1)) rfl) (k_f c1 (z07 (z2a rfl (z0m rfl (z01 rfl q5) (z01 rfl q6) (z3w ht l1 ai)) (z0m rfl (z01 rfl q1) z0h (zdn k6 rfl)) (z0m rfl (z01 rfl q2) z0b rfl) (z7k k2 (of_decide_eq_true rfl) z4t) (zdm rfl (z6u rfl q6) z0b rfl (z07 (z0f rfl (z0g rfl rfl (z03 (z01 rfl (z0c rfl q1)) (z04 (z0m rfl (z01 rfl (z0c rfl q2)) (zg4 z0b rfl) rfl))) e2) (z0i (z08 (z01 rfl z10) z0h (z14 z02 z02)) (k_t rfl zkq))))))))))) ?_
   exact rfl
  case gf=>exact L2
 | ref e =>
  have e2:z05 TT d 1166 [.ref (r + 6),.ref bl] _ = .ok (.str e.str) σ2:=e2
  obtain c1:(e.str == S "break") = false:=by cases e <;> rfl
  obtain c3:z4j .And (!(e.str == S "next")) = false:=by cases e <;> rfl
  obtain c2:PyData.strOk e.str = true:=by cases e <;> exact z02
  refine ⟨?_,?gg,?gh⟩
  case gg =>
   refine zif rfl rfl (z13 rfl z17 rfl) (z0i (z08 (z01 rfl q5) z0l rfl) (k_f rfl (z0i (z08 (z01 rfl q6) (z0r rfl rfl (z04 (z01 rfl q5)) (z3q ht l1)) rfl) (k_f ‹_› (z07 (z2a rfl (z0m rfl (z01 rfl q5) (z01 rfl q6) (z3w ht l1 ai)) (z0m rfl (z01 rfl q1) z0h (zdn k6 rfl)) (z0m rfl (z01 rfl q2) z0b rfl) (z7k k2 (of_decide_eq_true rfl) z4t) (zdm rfl (z6u rfl q6) z0b rfl (z07 (z0f rfl (z0g rfl rfl (z03 (z01 rfl (z0c rfl q1)) (z04 (z0m rfl (z01 rfl (z0c rfl q2)) (zg4 z0b rfl) rfl))) e2) (z0i (z08 (z01 rfl z10) z0h (z14 c2 z02)) (k_f c1 (z07 (z0i (z0t (z1a (z08 (z01 rfl z10) z0l rfl) (z49 rfl (z1a (z08 (z01 rfl z10) z0h (z56 c2 z02)) (z49 c3 z6d))))) (k_t rfl (z0k (z01 rfl z10)))))))))))))))) ?_
   exact rfl
  case gh=>exact L2
end
end
section
open PySem PySem.W
noncomputable def z80 (r:Nat) (sv:AV) (m:Int) (f:Nat) (tu:AV):Loc:=[(S "state",.ref (r + 6)),(S "stm",sv),(S "mark",.int m),(S "fors",.int f),(S "turns",tu),(S "at",.int 0)]
theorem zbh {r:Nat} {sv tu:AV} {m:Int} {f:Nat}:LL r (z80 r sv m f tu) sv m f tu 0:=⟨rfl,rfl,rfl,rfl,rfl,rfl⟩
section
variable {r E:Nat} {ends:List (Int×AV)} {σ σ' σ1 σ2 τ:AS} {s s2:PSt} {d f i n e hd:Nat} {t:z31} {v tv sv hx hy hx2 hy2:AV} {ds ds2:List AV} {x:Bool} {m:Int} {ans:List Int} {ℓ ℓ':Loc} {k:Str} {w:Way} {os:List z1s} {o:z1s} {z:Out} {LLp:Loc→Prop}
variable (r E ends d) in
noncomputable def zbi (fu:Nat) (ℓ:Loc) (σ:AS) (LLp:Loc→Prop) (os:List z1s) (f n:Nat):Out→Prop
 | (.fall,s)=>∃ ℓ' σ',loopW (rlT d) fu (.next,ℓ) σ = .ok (.next,ℓ') σ'∧LLp ℓ'∧RS r E ends σ' s os f n∧Ex (Mr r) σ σ'
 | (.ref e,s)=>∃ ℓ' σ',loopW (rlT d) fu (.next,ℓ) σ = .ok (.ret (.str e.str),ℓ') σ'∧(∃ os f,RS r E ends σ' s os f 0)∧Ex (Mr r) σ σ'
 | _=>False
variable (r E ends d) in
noncomputable def zik (sv:AV) (σ:AS) (os:List z1s) (f n:Nat):Out→Prop
 | (.fall,s)=>∃ σ',z05 TT d 1159 [.ref (r + 6),sv] σ = .ok .none σ'∧RS r E ends σ' s os f n∧Ex (Mr r) σ σ'
 | (.ref e,s)=>∃ σ',z05 TT d 1159 [.ref (r + 6),sv] σ = .ok (.str e.str) σ'∧(∃ os f,RS r E ends σ' s os f 0)∧Ex (Mr r) σ σ'
 | _=>False
theorem RW.enterW (h:RW r E ends σ s hx hy ds):RW r E ends (σ.set (r + 3) (.list (s.opens.map z3j++[.tup [.int s.fors,.int e,.int hd]]))) (s.enterW (e,hd)) hx hy ds:=by
 have:=h.setOpens (os:=s.opens++[(s.fors,e,hd)])
 rw [List.map_append] at this
 exact this
noncomputable def zbj (r E:Nat) (σ:AS) (s:PSt) (f:Nat) (os:List z1s):AS:=(σ.set (r + 3) (AO.list (os.map z3j))).set (r + 6) (.sd (stF r E s.steps f))
noncomputable def zil (m:Int) (f j:Nat) (s:PSt):AV:=.tup [.str (S "gave"),.int m,.str (S "NULL"),.bool false,.int f,.ref j,.int s.steps]
noncomputable def ze9 (r E:Nat) (σ:AS) (s:PSt) (f:Nat) (os:List z1s) (m:Int) (ds:List AV):AS:=(zbj r E σ s f os++[AO.list (os.map z3j)]).set (r + 4) (.list (ds++[zil m f (zbj r E σ s f os).length s]))
theorem zea (h:RW r E ends σ s hx hy ds) (ho:s.opens = os++[o]):RW r E ends (ze9 r E σ s f os m ds) (s.exit m f) hx hy (ds++[zil m f (zbj r E σ s f os).length s]):=by
 obtain h1:=(h.setOpens (os:=os)).setFors (k:=f)
 obtain h2:=h1.ex0 (Ex.app (τ:=[AO.list (os.map z3j)]))
 obtain er:EffRep (Mr r) (zbj r E σ s f os++[AO.list (os.map z3j)]) (zil m f (zbj r E σ s f os).length s) (.gave m f os s.steps):=⟨_,rfl,z0y,Mr.hi h1 (Nat.le_refl _)⟩
 unfold PSt.exit
 rw [ho,List.dropLast_concat]
 exact h2.addDue er
theorem zeb:Ex (Mr r) σ (ze9 r E σ s f os m ds):=((((Ex.set Mr.in3).trans (Ex.set Mr.in6)).trans Ex.app).trans (Ex.set Mr.in4):Ex (Mr r) σ _)
theorem z5m (sz:s.size + 4 * n≤12000) (ho:s.opens = os++[o]):(os.map z3j++[z3j o]).length < 100000∧(os.map z3j).length < 100000:=by
 obtain h:=(szs sz).2.1
 rw [ho,List.length_append] at h
 rw [List.length_append,List.length_map]
 exact ⟨lt5 h,lt5 (Nat.lt_of_le_of_lt (Nat.le_add_right _ _) h)⟩
noncomputable def z2r (m:Int) (l bl:Nat):AV:=.tup [.str (S "while"),.int m,.ref l,.ref bl]
noncomputable def inW (r:Nat) (s:PSt) (e hd:Nat) (σ:AS):AS:=σ.set (r + 3) (.list (s.opens.map z3j++[.tup [.int s.fors,.int e,.int hd]]))
theorem zli {l bl n':Nat} (h:RS r E ends σ s os f (n' + 1)) (hen:look ends m = some (.tup [.int e,.int hd]))
  (K:RS r E ends (inW r s e hd σ) (s.enterW (e,hd)) (os++[(f,e,hd)]) f n'→zbi r E ends d z1i (z80 r (z2r m l bl) m s.fors .none) (inW r s e hd σ) (fun ℓ'=>∃ i,LL r ℓ' (z2r m l bl) m s.fors .none i) (os++[(f,e,hd)]) f (n + 2) z) :
  zik r E ends (d + 1) (z2r m l bl) σ os f n (andThen (fun s1=>(.fall,s1.exit m s.fors)) z):=by
 obtain ⟨⟨hx,hy,ds,h0⟩,sz,op,fo⟩:=h
 obtain hl:=K ⟨⟨_,_,_,h0.enterW⟩,Nat.le_trans (Nat.add_le_add_right (Nat.add_le_add_right (Nat.add_le_add_right (Nat.add_le_add_left (Nat.le_succ _) _) _) _) _) (za2 (a:=s.fors) (b:=e) (c:=hd) sz),by rw [← op,← fo];rfl,fo⟩
 obtain g3:σ[r + 3]? = some (.list (s.opens.map z3j)):=h0.w 3 _ rfl
 obtain g6:σ[r + 6]? = some (.sd (stF r E s.steps s.fors)):=h0.w 6 _ rfl
 obtain gE:=h0.en
 obtain x1:Ex (Mr r) σ (inW r s e hd σ):=Ex.set Mr.in3
 obtain s1:(s.opens.map z3j).length < 100000:=by rw [List.length_map];exact lt5 (szs sz).2.1
 obtain ⟨w,s2⟩:=z
 induction w with
 | fall =>
  obtain ⟨ℓ',σ2,hl,⟨i,L⟩,⟨⟨hx2,hy2,ds2,h2⟩,sz2,op2,fo2⟩,x2⟩:=hl
  have hl:loopW (zg6 110 6 d) z1i (.next,z80 r (z2r m l bl) m s.fors .none) _ = _:=hl
  refine ⟨ze9 r E σ2 s2 s.fors os m ds2,?_,⟨⟨_,_,_,zea h2 op2⟩,zcs sz2 (Nat.le_of_eq (fo.trans fo2.symm)),by show s2.opens.dropLast = os;rw [op2,List.dropLast_concat],fo⟩,(x1.trans x2).trans zeb⟩
  obtain q1:=L.st
  obtain q3:=L.mkk
  obtain q4:=L.fo
  have k3:σ2[r + 3]? = some (.list (os.map z3j++[z3j (f,e,hd)])):=by
   have:σ2[r + 3]? = some (.list (s2.opens.map z3j)):=h2.w 3 _ rfl
   rw [op2,List.map_append] at this;exact this
  obtain k4:σ2[r + 4]? = some (.list ds2):=h2.w 4 _ rfl
  obtain k6:σ2[r + 6]? = some (.sd (stF r E s2.steps s2.fors)):=h2.w 6 _ rfl
  obtain s3:=(z5m sz2 op2).1
  obtain s4:=(z5m sz2 op2).2
  obtain s5:ds2.length < 100000:=by rw [h2.du.1];exact lt5 (szs sz2).2.2.2.2
  exact z19 rfl rfl (z0f rfl (z18 (z00 rfl) rfl) (z0f rfl (z2l (z00 rfl) g6 rfl) (z0f rfl z0l (k_z (z29 (z18 (z00 rfl) rfl) rfl) (z0s rfl (z0j rfl (z2l (z00 rfl) g6 rfl) (z16 g3) (z04 (z11 (z03 (z2l (z00 rfl) g6 rfl) (z03 (z18 (z0m rfl (z2l (z00 rfl) g6 rfl) (z01 rfl (z0c rfl (z0c rfl z10))) (zmu gE hen)) rfl) (z04 (z18 (z0m rfl (z2l (z00 rfl) g6 rfl) (z01 rfl (z0c rfl (z0c rfl z10))) (zmu gE hen)) rfl)))) rfl)) (z3e g3 s1)) (z0f rfl z0b (k_wh hl rfl (z7x rfl rfl) (z0s rfl (z0j rfl (z2l (z01 rfl q1) k6 rfl) (z41 k3) z0w (z6l k3 s3)) (z2a rfl (z01 rfl q4) (z01 rfl q1) z0h (z7k (hb3 rfl k6) (of_decide_eq_true rfl) za5) (z0s rfl (z0j rfl (z2l (z01 rfl q1) (z0d (hb3 rfl k6)) rfl) (z16 (hb3 rfl (hb3 rfl k4))) (z04 (z11 (z15 (z03 (z01 rfl q3) (z15 (z03 z17 (z03 (z01 rfl q4) (z03 (z0r rfl rfl (z04 (z2l (z01 rfl q1) (z0d (hb3 rfl k6)) rfl)) (z6f (hb3 rfl (z0d k3)) s4 z1l z1k)) (z04 (z2l (z01 rfl q1) (z0n (z0d (hb3 rfl k6))) rfl)))))))) rfl)) (z3e (z0n (hb3 rfl (hb3 rfl k4))) s5)) (z0k z0l))))))))))) rfl
 | brk=>exact hl.elim
 | nxt=>exact hl.elim
 | ref er =>
  refine z1c hl fun ℓ' σ2 hl h2 x2=>?_
  have hl:loopW (zg6 110 6 d) z1i (.next,z80 r (z2r m l bl) m s.fors .none) _ = _:=hl
  refine ⟨σ2,?_,h2,x1.trans x2⟩
  exact z19 rfl rfl (z0f rfl (z18 (z00 rfl) rfl) (z0f rfl (z2l (z00 rfl) g6 rfl) (z0f rfl z0l (k_z (z29 (z18 (z00 rfl) rfl) rfl) (z0s rfl (z0j rfl (z2l (z00 rfl) g6 rfl) (z16 g3) (z04 (z11 (z03 (z2l (z00 rfl) g6 rfl) (z03 (z18 (z0m rfl (z2l (z00 rfl) g6 rfl) (z01 rfl (z0c rfl (z0c rfl z10))) (zmu gE hen)) rfl) (z04 (z18 (z0m rfl (z2l (z00 rfl) g6 rfl) (z01 rfl (z0c rfl (z0c rfl z10))) (zmu gE hen)) rfl)))) rfl)) (z3e g3 s1)) (z0f rfl z0b (ztc hl rfl (z7x rfl rfl)))))))) rfl
noncomputable def z4v (m:Int) (x:Bool) (o:Int) (p bl:Nat):AV:=.tup [.str (S "for"),.int m,.str (nm x),.tup [.int o,.ref p],.ref bl]
noncomputable def inF (r E:Nat) (s:PSt) (hx hy:AV) (x:Bool) (e hd:Nat) (σ:AS):AS:=(((σ++[AO.list []]).set (r + 2) (.sd (zig hx hy x (.tup [.str (S "NULL"),.ref σ.length])))).set (r + 6) (.sd (stF r E s.steps ((s.fors:Int) + 1)))).set (r + 3) (.list (s.opens.map z3j++[.tup [.int ((s.fors:Int) + 1),.int e,.int hd]]))
theorem ztf (h:RW r E ends σ s hx hy ds):RW r E ends (inF r E s hx hy x e hd σ) (s.enterF x (e,hd)) (if x then hx else .tup [.str (S "NULL"),.ref σ.length]) (if x then .tup [.str (S "NULL"),.ref σ.length] else hy) ds:=by
 obtain h1:=h.ex0 (Ex.app (τ:=[AO.list []]))
 obtain tn:TRep (Mr r) (σ++[AO.list []]) (.tup [.str (S "NULL"),.ref σ.length]) (S "NULL",[]):=⟨_,rfl,z0y,Mr.hi h (Nat.le_refl _)⟩
 obtain h4:=((h1.hold (x:=x) tn).setFors (k:=s.fors + 1)).setOpens (os:=s.opens++[(s.fors + 1,e,hd)])
 rw [List.map_append] at h4
 exact h4
theorem ztg:Ex (Mr r) σ (inF r E s hx hy x e hd σ):=((Ex.app.trans (Ex.set Mr.in2)).trans (Ex.set Mr.in6)).trans (Ex.set Mr.in3)
variable {Q:Prop}
theorem zth {p bl n':Nat} {o6:Int} {picks:List Int} (h:RS r E ends σ s os f (n' + 2)) (hp:σ[p]? = some (.list (picks.map .int))) (h0:0≤o6) (h7:o6 < 6) (hk:∀ k∈picks,z94 k) (hl:picks.length < 100) (hen:look ends m = some (.tup [.int e,.int hd]))
  (K:∀ tl tvs σ1,RS r E ends σ1 (s.enterF x (e,hd)) (os++[(f + 1,e,hd)]) (f + 1) n'→Ex (Mr r) σ σ1→σ1[tl]? = some (.list tvs)→¬ Mr r tl→RelAll (TRep (Mr r) σ1) tvs (z0z o6 picks) →
   zbi r E ends (d + 1) z1i (z80 r (z4v m x o6 p bl) m s.fors (.ref tl)) σ1 (fun ℓ'=>∃ i,LL r ℓ' (z4v m x o6 p bl) m s.fors (.ref tl) i) (os++[(f + 1,e,hd)]) (f + 1) (n + 2) z) :
  zik r E ends (d + 2) (z4v m x o6 p bl) σ os f n (andThen (fun s1=>(.fall,s1.exit m s.fors)) z):=by
 obtain ⟨⟨hx,hy,ds,h0'⟩,sz,op,fo⟩:=h
 refine zal (zpn (d:=d) (M:=Mr r) (sort:=o6) h0 (Int.lt_trans h7 (by decide)) hp hk hl (fun i hi=>Mr.hi h0' hi)) fun tl tvs σa et xa ht htl hrel=>?_
 obtain ha:=h0'.ex0 xa
 obtain ntl:¬ Mr r tl:=Mr.hi h0' htl
 have x1:Ex (Mr r) σa (inF r E s hx hy x e hd σa):=ztg
 obtain X:=xa.of0.trans x1
 obtain hl:=K tl tvs (inF r E s hx hy x e hd σa) ⟨⟨_,_,_,ztf ha⟩,by
  have:=za2 (r:=n') (a:=s.fors + 1) (b:=e) (c:=hd) (zcr sz (b:=s.size) (by lia))
  exact this,by rw [← op,← fo];rfl,by rw [← fo];rfl⟩ X (x1.list ntl ht) ntl ⟨hrel.1,fun k v t a b=>(hrel.2 k v t a b).ex x1⟩
 obtain g6:σ[r + 6]? = some (.sd (stF r E s.steps s.fors)):=h0'.w 6 _ rfl
 obtain a2:σa[r + 2]? = some (.sd [(S "x",hx),(S "y",hy)]):=ha.w 2 _ rfl
 obtain a3:σa[r + 3]? = some (.list (s.opens.map z3j)):=ha.w 3 _ rfl
 obtain a6:σa[r + 6]? = some (.sd (stF r E s.steps s.fors)):=ha.w 6 _ rfl
 obtain aE:=ha.en
 obtain n2:r + 2 ≠ E:=Nat.ne_of_gt (Nat.lt_add_right 2 ha.lE)
 obtain n3:r + 3 ≠ E:=Nat.ne_of_gt (Nat.lt_add_right 3 ha.lE)
 obtain n6:r + 6 ≠ E:=Nat.ne_of_gt (Nat.lt_add_right 6 ha.lE)
 obtain s1:(s.opens.map z3j).length < 100000:=by rw [List.length_map];exact lt5 (szs sz).2.1
 obtain c6:(o6 == 6) = false:=beq_eq_false_iff_ne.mpr (Int.ne_of_lt h7)
 obtain ⟨w,s2⟩:=z
 induction w with
 | fall =>
  obtain ⟨ℓ',σ2,hl,⟨i,L⟩,⟨⟨hx2,hy2,ds2,h2⟩,sz2,op2,fo2⟩,x2⟩:=hl
  have hl:loopW (zg6 110 6 (d + 1)) z1i (.next,z80 r (z4v m x o6 p bl) m s.fors (.ref tl)) _ = _:=hl
  refine ⟨ze9 r E σ2 s2 s.fors os m ds2,?_,⟨⟨_,_,_,zea h2 op2⟩,zcs sz2 (by rw [fo2,fo];exact Nat.le_succ _),by show s2.opens.dropLast = os;rw [op2,List.dropLast_concat],fo⟩,(X.trans x2).trans zeb⟩
  obtain q1:=L.st
  obtain q3:=L.mkk
  obtain q4:=L.fo
  have k3:σ2[r + 3]? = some (.list (os.map z3j++[z3j (f + 1,e,hd)])):=by
   have:σ2[r + 3]? = some (.list (s2.opens.map z3j)):=h2.w 3 _ rfl
   rw [op2,List.map_append] at this;exact this
  obtain k4:σ2[r + 4]? = some (.list ds2):=h2.w 4 _ rfl
  obtain k6:σ2[r + 6]? = some (.sd (stF r E s2.steps s2.fors)):=h2.w 6 _ rfl
  obtain s3:=(z5m sz2 op2).1
  obtain s4:=(z5m sz2 op2).2
  obtain s5:ds2.length < 100000:=by rw [h2.du.1];exact lt5 (szs sz2).2.2.2.2
  exact z19 rfl rfl (z0f rfl (z18 (z00 rfl) rfl) (z0f rfl (z2l (z00 rfl) g6 rfl) (z0f rfl z0l (z0i (z29 (z18 (z00 rfl) rfl) rfl) (k_t rfl (z0i (z24 (z18 (z18 (z00 rfl) rfl) rfl) rfl) (k_f c6 (z07 (z0f rfl (z0g rfl rfl (z04 (z18 (z00 rfl) rfl)) et) (z2a rfl (z11 (z15 (z04 (z0p z0w (of_decide_eq_true rfl) z1l z1k))) rfl) (z2l (z00 rfl) (z0n a6) rfl) (z18 (z00 rfl) rfl) (z7k (z0n a2) (of_decide_eq_true rfl) z4t) (z2a rfl (z1p (z01 rfl (z0c rfl (z0c rfl z10))) z0b rfl) (z00 rfl) z0h (z7k (hb3 rfl (z0n a6)) (of_decide_eq_true rfl) za5) (z07 (z0s rfl (z0j rfl (z2l (z00 rfl) (z0d (hb3 rfl (z0n a6))) rfl) (z16 (hb3 rfl (hb3 rfl (z0n a3)))) (z04 (z11 (z03 (z2l (z00 rfl) (z0d (hb3 rfl (z0n a6))) rfl) (z03 (z18 (z0m rfl (z2l (z00 rfl) (z0d (hb3 rfl (z0n a6))) rfl) (z01 rfl (z0c rfl (z0c rfl (z0c rfl z10)))) (zmu (z62 n6 (z62 n2 (z0n aE))) hen)) rfl) (z04 (z18 (z0m rfl (z2l (z00 rfl) (z0d (hb3 rfl (z0n a6))) rfl) (z01 rfl (z0c rfl (z0c rfl (z0c rfl z10)))) (zmu (z62 n6 (z62 n2 (z0n aE))) hen)) rfl)))) rfl)) (z3e (hb3 rfl (hb3 rfl (z0n a3))) s1)) (z0f rfl z0b (k_wh hl rfl (z7x rfl rfl) (z0s rfl (z0j rfl (z2l (z01 rfl q1) k6 rfl) (z41 k3) z0w (z6l k3 s3)) (z2a rfl (z01 rfl q4) (z01 rfl q1) z0h (z7k (hb3 rfl k6) (of_decide_eq_true rfl) za5) (z0s rfl (z0j rfl (z2l (z01 rfl q1) (z0d (hb3 rfl k6)) rfl) (z16 (hb3 rfl (hb3 rfl k4))) (z04 (z11 (z15 (z03 (z01 rfl q3) (z15 (z03 z17 (z03 (z01 rfl q4) (z03 (z0r rfl rfl (z04 (z2l (z01 rfl q1) (z0d (hb3 rfl k6)) rfl)) (z6f (hb3 rfl (z0d k3)) s4 z1l z1k)) (z04 (z2l (z01 rfl q1) (z0n (z0d (hb3 rfl k6))) rfl)))))))) rfl)) (z3e (z0n (hb3 rfl (hb3 rfl k4))) s5)) (z0k z0l))))))))))))))))))) rfl
 | brk=>exact hl.elim
 | nxt=>exact hl.elim
 | ref er =>
  refine z1c hl fun ℓ' σ2 hl h2 x2=>?_
  have hl:loopW (zg6 110 6 (d + 1)) z1i (.next,z80 r (z4v m x o6 p bl) m s.fors (.ref tl)) _ = _:=hl
  refine ⟨σ2,?_,h2,X.trans x2⟩
  exact z19 rfl rfl (z0f rfl (z18 (z00 rfl) rfl) (z0f rfl (z2l (z00 rfl) g6 rfl) (z0f rfl z0l (z0i (z29 (z18 (z00 rfl) rfl) rfl) (k_t rfl (z0i (z24 (z18 (z18 (z00 rfl) rfl) rfl) rfl) (k_f c6 (z07 (z0f rfl (z0g rfl rfl (z04 (z18 (z00 rfl) rfl)) et) (z2a rfl (z11 (z15 (z04 (z0p z0w (of_decide_eq_true rfl) z1l z1k))) rfl) (z2l (z00 rfl) (z0n a6) rfl) (z18 (z00 rfl) rfl) (z7k (z0n a2) (of_decide_eq_true rfl) z4t) (z2a rfl (z1p (z01 rfl (z0c rfl (z0c rfl z10))) z0b rfl) (z00 rfl) z0h (z7k (hb3 rfl (z0n a6)) (of_decide_eq_true rfl) za5) (z07 (z0s rfl (z0j rfl (z2l (z00 rfl) (z0d (hb3 rfl (z0n a6))) rfl) (z16 (hb3 rfl (hb3 rfl (z0n a3)))) (z04 (z11 (z03 (z2l (z00 rfl) (z0d (hb3 rfl (z0n a6))) rfl) (z03 (z18 (z0m rfl (z2l (z00 rfl) (z0d (hb3 rfl (z0n a6))) rfl) (z01 rfl (z0c rfl (z0c rfl (z0c rfl z10)))) (zmu (z62 n6 (z62 n2 (z0n aE))) hen)) rfl) (z04 (z18 (z0m rfl (z2l (z00 rfl) (z0d (hb3 rfl (z0n a6))) rfl) (z01 rfl (z0c rfl (z0c rfl (z0c rfl z10)))) (zmu (z62 n6 (z62 n2 (z0n aE))) hen)) rfl)))) rfl)) (z3e (hb3 rfl (hb3 rfl (z0n a3))) s1)) (z0f rfl z0b (ztc hl rfl (z7x rfl rfl)))))))))))))))) rfl
theorem zqb {p bl:Nat} (h:RS r E ends σ s os f n):zik r E ends (d + 1) (z4v m x 6 p bl) σ os f n (.ref .seq,s):=by
 obtain ⟨⟨hx,hy,ds,h0⟩,sz,op,fo⟩:=h
 obtain g6:σ[r + 6]? = some (.sd (stF r E s.steps s.fors)):=h0.w 6 _ rfl
 refine ⟨σ,?_,⟨os,f,⟨hx,hy,ds,h0⟩,zcr sz (by lia),op,fo⟩,.refl⟩
 exact z19 rfl rfl (z0f rfl (z18 (z00 rfl) rfl) (z0f rfl (z2l (z00 rfl) g6 rfl) (z0f rfl z0l (k_y (z29 (z18 (z00 rfl) rfl) rfl) (k_y (z24 (z18 (z18 (z00 rfl) rfl) rfl) rfl) (z0k z0h)))))) rfl
end
end
section
open PySem PySem.W
noncomputable def IsL (M:Nat→Prop) (σ:AS) (l:Nat) (xs:List AV):Prop:=σ[l]? = some (.list xs)∧¬ M l
structure zti (M:Nat→Prop) (σ:AS) (l bl:Nat) (xs vs:List AV) (v w:AV) (B:Prop):Prop where
 e:v = w
 l:IsL M σ l xs
 b:IsL M σ bl vs
 t:B
section
variable (M:Nat→Prop) (σ:AS)
mutual
noncomputable def TreeS:Stm→AV→Prop
 | .note x,v=>v = .tup [.str (S "note"),.str (nm x)]
 | .leave m b ans,v=>∃ l,v = .tup [.str (S "leave"),.int m,.str (z5k b),.ref l]∧IsL M σ l (ans.map .int)
 | .loopF m x o pk b,v=>∃ p bl vs,zti M σ p bl (pk.map .int) vs v (z4v m x o p bl) (TreeB b vs)
 | .loopW m ans b,v=>∃ l bl vs,zti M σ l bl (ans.map .int) vs v (z2r m l bl) (TreeB b vs)
noncomputable def TreeB:List Stm→List AV→Prop
 | [],vs=>vs = []
 | s :: r,vs=>∃ v ws,vs = v :: ws∧TreeS s v∧TreeB r ws
end
end
noncomputable def zim:Stm→Nat
 | .loopF _ _ _ _ b=>depB b + 1
 | .loopW _ _ b=>depB b + 1
 | _=>0
where depB:List Stm→Nat
 | []=>0
 | s :: r=>max (zim s) (depB r)
noncomputable abbrev depB:List Stm→Nat:=zim.depB
section
variable (en:Int→Nat×Nat) (ends:List (Int×AV))
noncomputable def zlj (m:Int):Prop:=look ends m = some (.tup [.int (en m).1,.int (en m).2])
mutual
noncomputable def zqc:Stm→Prop
 | .loopF m _ _ _ b=>zlj en ends m∧zfr b
 | .loopW m _ b=>zlj en ends m∧zfr b
 | _=>True
noncomputable def zfr:List Stm→Prop
 | []=>True
 | s :: r=>zqc s∧zfr r
end
end
section
variable {M M':Nat→Prop} {σ σ':AS}
theorem IsL.ex {l:Nat} {xs:List AV} (x:Ex M σ σ') (h:IsL M σ l xs):IsL M σ' l xs:=⟨x.list h.2 h.1,h.2⟩
mutual
theorem TreeS.map (g:∀ l xs,IsL M σ l xs→IsL M' σ' l xs):∀ {s:Stm} {v:AV},TreeS M σ s v→TreeS M' σ' s v
 | .note _=>fun h=>h
 | .leave _ _ _=>fun zm=>z0e zm fun l e h=>⟨l,e,g _ _ h⟩
 | .loopF _ _ _ _ _=>fun zm=>oEEEA zm fun p bl vs h=>⟨p,bl,vs,h.e,g _ _ h.l,g _ _ h.b,TreeB.map g h.t⟩
 | .loopW _ _ _=>fun zm=>oEEEA zm fun p bl vs h=>⟨p,bl,vs,h.e,g _ _ h.l,g _ _ h.b,TreeB.map g h.t⟩
theorem TreeB.map (g:∀ l xs,IsL M σ l xs→IsL M' σ' l xs):∀ {l:List Stm} {vs:List AV},TreeB M σ l vs→TreeB M' σ' l vs
 | []=>fun h=>h
 | _ :: _=>fun zm=>z1c zm fun v ws e h1 h2=>⟨v,ws,e,TreeS.map g h1,TreeB.map g h2⟩
end
theorem TreeS.ex {s:Stm} {v:AV} (x:Ex M σ σ') (h:TreeS M σ s v):TreeS M σ' s v:=h.map fun uu uu=>IsL.ex x
theorem TreeB.ex {s:List Stm} {v:List AV} (x:Ex M σ σ') (h:TreeB M σ s v):TreeB M σ' s v:=h.map fun uu uu=>IsL.ex x
end
section
variable {r E:Nat} {ends:List (Int×AV)} {en:Int→Nat×Nat} {σ σ' σ1 σ2:AS} {s s1 s2:PSt} {D d f i n n' k fu bl e hd:Nat} {ℓ ℓ':Loc} {os os':List z1s} {z:Out} {a:Stm} {b:List Stm} {m o:Int} {x br:Bool} {pk ans:List Int} {vs tvs:List AV} {v sv:AV} {L LLp:Loc→Prop} {w:Way}
theorem RO.le (h:RO r E ends σ os f n' z) (hn:n≤n'):RO r E ends σ os f n z:=by
 obtain ⟨w,s⟩:=z
 cases w
 ·exact RS.le h hn
 ·exact RS.le h hn
 ·exact RS.le h hn
 ·exact h
variable (r E ends D) in
noncomputable def zlk (bl:Nat) (σ:AS) (os:List z1s) (f n:Nat) (z:Out):Prop:=∃ σ',z05 TT D 1166 [.ref (r + 6),.ref bl] σ = .ok z.1.av σ'∧RO r E ends σ' os f n z∧Ex (Mr r) σ σ'
theorem ztj {F:PSt→Out} (T:zq8 r E ends D ℓ σ σ1 bl L) (hL:∀ ℓ',L ℓ'→LLp ℓ') (x:Ex (Mr r) σ σ1) (c:zlk r E ends D bl σ1 os f (n + (k + 1)) z)
  (K:∀ ℓ' σ',L ℓ'→RS r E ends σ' z.2.tick os f (n + k)→Ex (Mr r) σ σ'→zbi r E ends D fu ℓ' σ' LLp os f n (F z.2.tick)):zbi r E ends D (fu + 1) ℓ σ LLp os f n (lap F z):=by
 obtain ⟨w,s2⟩:=z
 refine z1m c fun σ2 e2 h2 x2=>?_
 have X:=x.trans x2
 have go:∀ ℓ':Loc,rlT D (.next,ℓ) σ = .ok (.go (.next,ℓ')) (zvx r E s2 σ2 .fall)→L ℓ'→RS r E ends σ2 s2 os f (n + (k + 1))→zbi r E ends D (fu + 1) ℓ σ LLp os f n (F s2.tick):=fun ℓ' e3 l3 ⟨⟨hx,hy,ds,h3⟩,sz,op,fo⟩=>by
  obtain x3:Ex (Mr r) σ2 (zvx r E s2 σ2 .fall):=Ex.set Mr.in6
  obtain q:=K ℓ' _ l3 ⟨⟨hx,hy,ds,h3.setSteps (k:=s2.steps + 1)⟩,zi7 sz,op,fo⟩ (X.trans x3)
  obtain X:=X.trans x3
  revert q
  generalize F _ = z'
  intro q
  obtain ⟨w',s'⟩:=z'
  induction w' with
  | fall =>
   refine z47 q fun ℓ4 σ4 e4 l4 h4 x4=>?_
   exact ⟨ℓ4,σ4,(ze8 e3).trans e4,l4,h4,X.trans x4⟩
  | brk=>exact q
  | nxt=>exact q
  | ref er =>
   refine z1c q fun ℓ4 σ4 e4 h4 x4=>?_
   exact ⟨ℓ4,σ4,(ze8 e3).trans e4,h4,X.trans x4⟩
 induction w with
 | fall =>
  refine oEEEA (RS.rw h2) fun hx hy ds h3=>?_
  refine z0e (T.on σ2 .fall s2 hx hy ds e2 h3) fun ℓ' e3 l3=>?_
  exact go ℓ' e3 l3 h2
 | nxt =>
  refine oEEEA (RS.rw h2) fun hx hy ds h3=>?_
  refine z0e (T.on σ2 .nxt s2 hx hy ds e2 h3) fun ℓ' e3 l3=>?_
  exact go ℓ' e3 l3 h2
 | brk =>
  refine oEEEA (RS.rw h2) fun hx hy ds h3=>?_
  refine z0e (T.on σ2 .brk s2 hx hy ds e2 h3) fun ℓ' e3 l3=>?_
  exact ⟨ℓ',σ2,z37 e3,hL _ l3,RS.le h2 (Nat.le_add_right _ _),X⟩
 | ref er =>
  refine z58 h2 fun os' f' h2=>?_
  refine oEEEA h2.rw fun hx hy ds h3=>?_
  refine z0e (T.on σ2 (.ref er) s2 hx hy ds e2 h3) fun ℓ' e3 l3=>?_
  exact ⟨ℓ',σ2,z37 e3,⟨os',f',h2⟩,X⟩
theorem zin (hb:∀ σ s n,IsL (Mr r) σ bl vs→TreeB (Mr r) σ b vs→RS r E ends σ s os f (n + z0u b)→zlk r E ends D bl σ os f n (evB en b s)) {p tl:Nat} (ht:tvs.length < 1000):∀ ts i fu n ℓ σ s,ts.length < fu→IsL (Mr r) σ bl vs→TreeB (Mr r) σ b vs→IsL (Mr r) σ tl tvs→Rest (TRep (Mr r) σ) tvs i ts →
   LL r ℓ (z4v m x o p bl) m d (.ref tl) i→RS r E ends σ s os f (n + z4g (z0u b) ts.length)→zbi r E ends D fu ℓ σ (fun ℓ'=>∃ i,LL r ℓ' (z4v m x o p bl) m d (.ref tl) i) os f n (z9z (evB en b) x ts s)
 | ts,i,0,n,ℓ,σ,s,hf,_,_,_,_,_,_=>absurd hf (Nat.not_lt_zero _)
 | [],i,fu + 1,n,ℓ,σ,s,hf,t1,t2,t3,hr,L,h=>⟨ℓ,σ,z37 (zq9 L t3.1 hr ht),⟨_,L⟩,h.le (Nat.le_add_right _ _),.refl⟩
 | t :: ts,i,fu + 1,n,ℓ,σ,s,hf,t1,t2,t3,⟨⟨v,hi,hv⟩,hr⟩,L,h=>by
  obtain ⟨⟨hx,hy,ds,h0⟩,sz,op,fo⟩:=h
  have x1:Ex (Mr r) σ (σ.set (r + 2) (.sd (zig hx hy x v))):=Ex.set Mr.in2
  have e1:n + z4g (z0u b) (t :: ts).length = n + (z4g (z0u b) ts.length + 1) + z0u b + 1:=by show n + (z4g (z0u b) ts.length + 1 + z0u b + 1) = _;lia
  rw [e1] at sz
  refine ztj (zqa L h0 t3.1 hi ht t3.2) (fun ℓ' h=>⟨_,h⟩) x1 (hb _ (s.hold x t) _ (t1.ex x1) (t2.ex x1) ⟨⟨_,_,_,h0.hold hv⟩,zbd sz,op,fo⟩) fun ℓ' σ' L' h' X =>
   zin hb ht ts (i + 1) fu n ℓ' σ' _ (Nat.lt_of_succ_lt_succ hf) (t1.ex X) (t2.ex X) (t3.ex X) (hr.map fun uu uu q=>q.ex X) L' h'
theorem zbk (hb:∀ σ s n,IsL (Mr r) σ bl vs→TreeB (Mr r) σ b vs→RS r E ends σ s os f (n + z0u b)→zlk r E ends (D + 2) bl σ os f n (evB en b s)) {l:Nat} (wa:za0 ans):∀ k fu n ℓ σ s i,k < fu→ans.length≤cnt s.asked m + k→IsL (Mr r) σ bl vs→TreeB (Mr r) σ b vs→IsL (Mr r) σ l (ans.map .int) →
   LL r ℓ (z2r m l bl) m d .none i→RS r E ends σ s os f (n + z3u (z0u b) k)→zbi r E ends (D + 2) fu ℓ σ (fun ℓ'=>∃ i,LL r ℓ' (z2r m l bl) m d .none i) os f n (z4b (evB en b) m ans (k + 1) s)
 | k,0,n,ℓ,σ,s,i,hf,_,_,_,_,_,_=>absurd hf (Nat.not_lt_zero _)
 | k,fu + 1,n,ℓ,σ,s,i,hf,hk,t1,t2,t3,L,⟨⟨hx,hy,ds,h0⟩,sz,op,fo⟩=>by
  refine z1m (zii (d:=D) (m:=m) h0 t3.1 t3.2 wa (szs sz).2.2.2.1) fun σ1 e1 h1 x1=>?_
  show zbi r E ends (D + 2) (fu + 1) ℓ σ _ os f n (askR _ (s.ask m) (z1y (s.nth m ans)))
  have c2:2≤z3u (z0u b) k:=by cases k <;> exact Nat.le_add_left _ _
  obtain sz0:(s.ask m).size + 4 * n≤12000:=ze6 (zcr sz (by lia))
  obtain hu:=zt8 (en:=en) b (s.ask m) m
  cases hz:z1y (s.nth m ans) with
  | inr er =>
   rw [hz] at e1
   refine oEA (zct (r:=r) (E:=E) (ends:=ends) (Z:=.inr er) L e1) fun ℓ' e2=>?_
   exact ⟨ℓ',σ1,z37 e2,⟨os,f,⟨hx,hy,ds,h1⟩,zcr sz0 (Nat.le_add_right _ _),op,fo⟩,x1⟩
  | inl c =>
   rw [hz] at e1
   induction c with
   | false =>
    refine z0e (zct (r:=r) (E:=E) (ends:=ends) (Z:=.inl false) L e1) fun ℓ' e2 L2=>?_
    exact ⟨ℓ',σ1,z37 e2,⟨_,L2⟩,⟨⟨hx,hy,ds,h1⟩,sz0,op,fo⟩,x1⟩
   | true =>
    obtain hlt:cnt s.asked m < ans.length:=Nat.lt_of_not_le fun q=>by rw [za1 q] at hz;exact nomatch hz
    obtain hc:cnt s.asked m + 1≤cnt (s.ask m).asked m:=by rw [zcq,if_pos rfl];exact Nat.le_refl _
    obtain hu:=Nat.le_trans hc hu
    induction k with
    | zero=>exact absurd (Nat.lt_of_lt_of_le hlt hk) (Nat.lt_irrefl _)
    | succ k =>
     obtain e2:n + z3u (z0u b) (k + 1) = n + (z3u (z0u b) k + 1) + z0u b + 2:=by show n + (z3u (z0u b) k + 1 + z0u b + 2) = _;lia
     rw [e2] at sz
     exact ztj (zct (r:=r) (E:=E) (ends:=ends) (Z:=.inl true) L e1) (fun ℓ' h=>⟨_,h⟩) x1 (hb _ (s.ask m) _ (t1.ex x1) (t2.ex x1) ⟨⟨hx,hy,ds,h1⟩,ze6 sz,op,fo⟩) fun ℓ' σ' L' h' X =>
      zbk hb wa k fu n ℓ' σ' _ i (Nat.lt_of_succ_lt_succ hf) (Nat.le_trans hk (by rw [← Nat.succ_add_eq_add_succ];exact Nat.add_le_add_right hu _)) (t1.ex X) (t2.ex X) (t3.ex X) L' h'
end
end
section
open PySem PySem.W
section
variable {r E:Nat} {ends:List (Int×AV)} {en:Int→Nat×Nat} {σ σ' σ1 σ2:AS} {s s1 s2:PSt} {D d f i n n' k fu bl e hd:Nat} {ℓ ℓ':Loc} {os os':List z1s} {z:Out} {a:Stm} {b:List Stm} {m o:Int} {x br:Bool} {pk ans:List Int} {vs tvs rest:List AV} {v sv:AV} {kk:Str}
variable (r E ends en) in
noncomputable def RdS (a:Stm):Prop:=∀ D v ℓ σ s os f n,2 * zim a + 2≤D→wfS a→zqc en ends a→TreeS (Mr r) σ a v→LR r ℓ→RS r E ends σ s os f (n + z3h a)→RdT r E ends D v ℓ σ os f n (evS en a s)
variable (r E ends en) in
noncomputable def RdB (b:List Stm):Prop:=∀ D bl vs i fu ℓ σ s os f n,2 * depB b + 2≤D→wfB b→zfr en ends b→IsL (Mr r) σ bl vs→TreeB (Mr r) σ b (vs.drop i)→LR r ℓ→b.length < fu→RS r E ends σ s os f (n + z0u b) →
 ∃ ℓ' σ',z1b (.ref bl) (zlf D) fu i (.next,ℓ) σ = .ok (zvw (evB en b s).1,ℓ') σ'∧RO r E ends σ' os f n (evB en b s)∧Ex (Mr r) σ σ'
theorem zio (hk:zn4 kk) (hr:rest.length < 100) (L:LR r ℓ) (c:zik r E ends D (.tup (.str kk :: rest)) σ os f n z):RdT r E ends D (.tup (.str kk :: rest)) ℓ σ os f n z:=by
 obtain ⟨w,s⟩:=z
 induction w with
 | fall =>
  refine z1m c fun σ' e1 h1 x1=>?_
  refine z0e (zij (o:=none) L hk hr e1) fun ℓ' e2 L2=>?_
  exact ⟨ℓ',σ',e2,L2,h1,x1⟩
 | brk=>exact c.elim
 | nxt=>exact c.elim
 | ref e =>
  refine z1m c fun σ' e1 h1 x1=>?_
  refine z0e (zij (o:=some e) L hk hr e1) fun ℓ' e2 L2=>?_
  exact ⟨ℓ',σ',e2,L2,h1,x1⟩
theorem ziq (hb:RdB r E ends en b) (hD:2 * depB b + 2≤D) (wf:wfB b) (he:zfr en ends b) (hl:b.length < 3900) (t1:IsL (Mr r) σ bl vs) (t2:TreeB (Mr r) σ b vs) (h:RS r E ends σ s os f (n + z0u b)):zlk r E ends (D + 1) bl σ os f n (evB en b s):=by
 refine z1c (hb D bl vs 0 z1i [(S "state",.ref (r + 6)),(S "body",.ref bl)] σ s os f n hD wf he t1 t2 rfl (Nat.lt_trans hl (of_decide_eq_true rfl)) h) fun ℓ' σ' e h' x=>?_
 exact ⟨σ',zte e,h',x⟩
theorem zll (hb:RdB r E ends en b):RdS r E ends en (.loopF m x o pk b):=fun D v ℓ σ s os f n hD wf he ⟨p,bl,vs,ht⟩ L h=>by
 obtain ⟨rfl,t1,t2,t3⟩:=ht
 obtain ⟨d,rfl⟩:∃ d,D = d + 2:=⟨D - 2,by lia⟩
 have hD:2 * depB b + 2≤d:=by have:2 * (depB b + 1) + 2≤d + 2:=hD;exact Nat.add_le_add_iff_right.mp hD
 refine zio (.inl rfl) (of_decide_eq_true rfl) L ?_
 refine (?_:zik r E ends (d + 2) (z4v m x o p bl) σ os f n (if o = 6 then (.ref .seq,s) else andThen (fun s1=>(.fall,s1.exit m s.fors)) (z9z (evB en b) x (z0z o pk) (s.enterF x (en m)))))
 by_cases ho:o = 6
 ·subst ho
  exact zqb (h.le (Nat.le_add_right _ _))
 ·rw [if_neg ho]
  obtain o1:=wf.1
  have tl:(z0z o pk).length≤3:=by
   unfold z0z;split
   ·rw [List.length_map];exact o1.2.2.1
   ·exact Nat.zero_le _
  obtain hc:=za3 (c:=z0u b) tl
  obtain h6:o < 6:=by have:=o1.2.1;lia
  obtain h:RS r E ends σ s os f (n + 2 + z4g (z0u b) (z0z o pk).length + 2):=h.le (by show _≤n + (2 + z4g (z0u b) 3 + 2);lia)
  refine zth h t1.1 o1.1 h6 o1.2.2.2 (Nat.lt_of_le_of_lt o1.2.2.1 (of_decide_eq_true rfl)) he.1 fun tl' tvs σ1 h1 x1 ht1 htn hrel=>?_
  exact zin (fun σ s n q1 q2 q3=>ziq hb hD wf.2.2 he.2 wf.2.1 q1 q2 q3) (by rw [hrel.1];exact Nat.lt_of_le_of_lt tl (of_decide_eq_true rfl)) (z0z o pk) 0 z1i (n + 2) _ σ1 _ (Nat.lt_of_le_of_lt tl (of_decide_eq_true rfl)) (t2.ex x1) (t3.ex x1) ⟨ht1,htn⟩
   (Rest.of (hrel.1.trans (Nat.zero_add _).symm) fun j v t a=>hrel.2 j v t (Nat.zero_add j ▸ a)) zbh h1
theorem zlm (hb:RdB r E ends en b):RdS r E ends en (.loopW m ans b):=fun D v ℓ σ s os f n hD wf he ⟨l,bl,vs,ht⟩ L h=>by
 obtain ⟨rfl,t1,t2,t3⟩:=ht
 obtain ⟨d,rfl⟩:∃ d,D = d + 4:=⟨D - 4,by have:2 * (depB b + 1) + 2≤D:=hD;lia⟩
 have hD:2 * depB b + 2≤d + 2:=by have:2 * (depB b + 1) + 2≤d + 4:=hD;exact Nat.add_le_add_iff_right.mp hD
 refine zio (.inr rfl) (of_decide_eq_true rfl) L ?_
 obtain hc:z3u (z0u b) 2≤z3u (z0u b) 3:=by show _≤z3u (z0u b) 2 + 1 + z0u b + 2;lia
 obtain h:RS r E ends σ s os f (n + 2 + z3u (z0u b) 2 + 1):=h.le (by show _≤n + (2 + z3u (z0u b) 3 + 1);lia)
 obtain x1:Ex (Mr r) σ (inW r s (en m).1 (en m).2 σ):=Ex.set Mr.in3
 exact zli (d:=d + 3) (e:=(en m).1) (hd:=(en m).2) h he.1 fun h1 =>
  zbk (D:=d + 1) (fun σ s n q1 q2 q3=>ziq hb hD wf.2.2 he.2 wf.2.1 q1 q2 q3) wf.1 2 z1i (n + 2) _ _ _ 0 (of_decide_eq_true rfl) (Nat.le_add_left_of_le wf.1.1) (t2.ex x1) (t3.ex x1) (t1.ex x1) zbh h1
theorem ztk:RdB r E ends en []:=fun D bl vs i fu ℓ σ s os f n hD wf he t1 t2 L hf h=>by
 have t2:vs.drop i = []:=t2
 induction fu with
 | zero=>exact nomatch hf
 | succ fu=>exact ⟨ℓ,σ,z7y t1.1 (List.drop_eq_nil_iff.mp t2),h,.refl⟩
theorem zqd (h1:RdS r E ends en a) (h2:RdB r E ends en b):RdB r E ends en (a :: b):=fun D bl vs i fu ℓ σ s os f n hD wf he t1 zm L hf h=>z1c zm fun v ws hd ta tb=>by
 obtain d1:2 * zim a + 2≤D:=Nat.le_trans (Nat.add_le_add_right (Nat.mul_le_mul_left 2 (Nat.le_max_left _ _)) 2) hD
 obtain d2:2 * depB b + 2≤D:=Nat.le_trans (Nat.add_le_add_right (Nat.mul_le_mul_left 2 (Nat.le_max_right _ _)) 2) hD
 refine oAA (z7z hd) fun hv hd'=>?_
 induction fu with
 | zero=>exact nomatch hf
 | succ fu =>
  obtain h:RS r E ends σ s os f (n + z0u b + z3h a):=h.le (Nat.le_of_eq (Nat.add_assoc ..))
  refine z47 (h1 D v ℓ σ s os f _ d1 wf.1 he.1 ta L h) fun ℓ1 σ1 e1 L1 q1 x1=>?_
  refine (?_:∃ ℓ' σ',z1b _ _ _ _ _ _ = .ok (zvw (andThen (evB en b) (evS en a s)).1,ℓ') σ'∧RO r E ends σ' os f n (andThen (evB en b) (evS en a s))∧_)
  revert e1 q1
  generalize evS en a s = z
  intro e1 q1
  obtain ⟨w,s1⟩:=z
  induction w with
  | fall =>
   refine z1c (h2 D bl vs (i + 1) fu ℓ1 σ1 s1 os f n d2 wf.2 he.2 (t1.ex x1) (hd'.symm ▸ tb.ex x1) L1 (Nat.lt_of_succ_lt_succ hf) q1) fun ℓ2 σ2 e2 q2 x2=>?_
   exact ⟨ℓ2,σ2,(za4 t1.1 hv e1).trans e2,q2,x1.trans x2⟩
  | brk=>exact ⟨ℓ1,σ1,z66 t1.1 hv e1,RS.le q1 (Nat.le_add_right _ _),x1⟩
  | nxt=>exact ⟨ℓ1,σ1,z66 t1.1 hv e1,RS.le q1 (Nat.le_add_right _ _),x1⟩
  | ref e=>exact ⟨ℓ1,σ1,z66 t1.1 hv e1,q1,x1⟩
theorem zvy:RdS r E ends en (.leave m br ans):=fun D v ℓ σ s os f n hD wf he zm L h=>z0e zm fun l e t=>by
 obtain ⟨d,rfl⟩:∃ d,D = d + 2:=⟨D - 2,by lia⟩
 obtain rfl:=e
 exact zlh L h t.1 t.2 wf
theorem zvz:RdS r E ends en (.note x):=fun D v ℓ σ s os f n hD wf he e L h=>by
 have e:v = _:=e
 subst e
 exact zq7 L h
mutual
theorem rd_S:∀ a,RdS r E ends en a
 | .note x=>zvz
 | .leave m b ans=>zvy
 | .loopF m x o p b=>zll (zuo b)
 | .loopW m ans b=>zlm (zuo b)
theorem zuo:∀ b,RdB r E ends en b
 | []=>ztk
 | a :: r=>zqd (rd_S a) (zuo r)
end
end
end
section
open PySem PySem.W
noncomputable abbrev z5n:=List (Int×AV)
noncomputable abbrev z81:=List (Nat×Bool)
noncomputable def z4d (t:Nat):AV:=.tup [.str (S "jump"),.int t]
noncomputable def z67 (a b:Nat):AV:=.tup [.int a,.int b]
mutual
noncomputable def z2h:Stm→Nat
 | .note _=>2
 | .leave _ _ _=>3
 | .loopF _ _ _ _ b=>sizeB b + 6
 | .loopW _ _ b=>sizeB b + 6
noncomputable def sizeB:List Stm→Nat
 | []=>0
 | s :: r=>z2h s + sizeB r
end
noncomputable def z82 (p:Nat):Stm→z81
 | .leave _ b _=>[(p + 2,b)]
 | _=>[]
noncomputable def z5o:Nat→List Stm→z81
 | _,[]=>[]
 | p,s :: r=>z82 p s++z5o (p + z2h s) r
mutual
noncomputable def z6n:Nat→Stm→z5n→z5n
 | p,.loopF m _ _ _ b,e=>z1e (z6o (p + 3) b e) m (z67 (p + 3 + sizeB b + 1) (p + 2))
 | p,.loopW m _ b,e=>z1e (z6o (p + 3) b e) m (z67 (p + 3 + sizeB b + 1) (p + 1))
 | _,_,e=>e
noncomputable def z6o:Nat→List Stm→z5n→z5n
 | _,[],e=>e
 | p,s :: r,e=>z6o (p + z2h s) r (z6n p s e)
end
mutual
noncomputable def mkS (lo hi:Int):Stm→Prop
 | .note _=>lo≤hi
 | .leave _ _ _=>lo≤hi
 | .loopF m _ _ _ b=>lo < m∧mkB m hi b
 | .loopW m _ b=>lo < m∧mkB m hi b
noncomputable def mkB (lo hi:Int):List Stm→Prop
 | []=>lo≤hi
 | s :: r=>∃ mid,mkS lo mid s∧mkB mid hi r
end
mutual
theorem zec {lo hi:Int}:∀ {s:Stm},mkS lo hi s→lo≤hi
 | .note _=>fun h=>h
 | .leave _ _ _=>fun h=>h
 | .loopF m _ _ _ b=>fun h=>Int.le_trans (Int.le_of_lt h.1) (z5p h.2)
 | .loopW m _ b=>fun h=>Int.le_trans (Int.le_of_lt h.1) (z5p h.2)
theorem z5p {lo hi:Int}:∀ {l:List Stm},mkB lo hi l→lo≤hi
 | []=>fun h=>h
 | s :: r=>fun zp0=>z0e zp0 fun uu h1 h2=>Int.le_trans (zec h1) (z5p h2)
end
mutual
theorem zln {k lo hi:Int} (hk:k≤lo∨hi < k):∀ {s:Stm} {p:Nat} {e:z5n},mkS lo hi s→look (z6n p s e) k = look e k
 | .note _=>fun uu=>rfl
 | .leave _ _ _=>fun uu=>rfl
 | .loopF m _ _ _ b=>fun h=>zed hk h fun q=>z5q q h.2
 | .loopW m _ b=>fun h=>zed hk h fun q=>z5q q h.2
theorem z5q {k lo hi:Int} (hk:k≤lo∨hi < k):∀ {l:List Stm} {p:Nat} {e:z5n},mkB lo hi l→look (z6o p l e) k = look e k
 | []=>fun uu=>rfl
 | s :: r=>fun zp2=>z0e zp2 fun mid h1 h2=>(z5q (hk.imp (fun q=>Int.le_trans q (zec h1)) id) h2).trans (zln (hk.imp id fun q=>Int.lt_of_le_of_lt (z5p h2) q) h1)
theorem zed {k lo hi m:Int} {b:List Stm} {e e':z5n} {v:AV} (hk:k≤lo∨hi < k) (h:lo < m∧mkB m hi b) (g:(k≤m∨hi < k)→look e' k = look e k):look (z1e e' m v) k = look e k:=by
 have hm:=z5p h.2
 rw [z3o,if_neg (by lia)]
 exact g (hk.imp (fun q=>by lia) id)
end
structure LwLe (w w':Lw) (lo hi:Int):Prop where
 kf:∀ i c,w.kf i = some c→w'.kf i = some c
 pa:∀ l a,w.PA l a→w'.PA l a
 pc:∀ c o p,w.PC c o p→w'.PC c o p
 en:∀ m x,lo < m→m≤hi→w.En m x→w'.En m x
theorem LwLe.sub {w w':Lw} {lo hi lo' hi':Int} (h:LwLe w w' lo hi) (h1:lo≤lo') (h2:hi'≤hi):LwLe w w' lo' hi':={ h with en:=fun m x a b=>h.en m x (Int.lt_of_le_of_lt h1 a) (Int.le_trans b h2) }
theorem za6 {g g':Nat→Option AV} {p q p' q':Nat} (h:∀ i,p≤i→i < q→g' i = g i) (h1:p≤p') (h2:q'≤q):∀ i,p'≤i→i < q'→g' i = g i:=fun i a b=>h i (Nat.le_trans h1 a) (Nat.lt_of_lt_of_le b h2)
section
variable {w w':Lw}
mutual
theorem LaidS.cg:∀ {s:Stm} {p q B N:Nat} {lo hi:Int},mkS lo hi s→LwLe w w' lo hi→(∀ i,p≤i→i < q→w'.g i = w.g i)→LaidS w s p q B N→LaidS w' s p q B N
 | .note x=>fun uu uu g h=>by
  obtain ⟨h1,h2,rfl⟩:=h
  exact ⟨(g _ (Nat.le_refl _) (Nat.lt_add_of_pos_right (Nat.succ_pos _))).trans h1,(g _ (Nat.le_succ _) (Nat.lt_succ_self _)).trans h2,rfl⟩
 | .leave m b ans=>fun uu le g zm=>oEA zm fun l h=>by
  obtain ⟨h1,h2,h3,h4,rfl⟩:=h
  exact ⟨l,(g _ (by lia) (by lia)).trans h1,le.pa _ _ h2,(g _ (by lia) (by lia)).trans h3,(g _ (by lia) (by lia)).trans h4,rfl⟩
 | .loopF m x o pk b=>fun mk le g zm=>oEEEA zm fun i c e h=>by
  have hle:=h.b.le
  have hq:=h.q
  have hm:=z5p mk.2
  exact ⟨i,c,e,(g _ (by lia) (by lia)).trans h.r1,le.kf _ _ h.rc,le.pc _ _ _ h.pc,(g _ (by lia) (by lia)).trans h.r2,(g _ (by lia) (by lia)).trans h.r3,LaidB.cg mk.2 (le.sub (Int.le_of_lt mk.1) (Int.le_refl _)) (za6 g (by lia) (by lia)) h.b,
   (g _ (by lia) (by lia)).trans h.r4,(g _ (by lia) (by lia)).trans h.r5,(g _ (by lia) (by lia)).trans h.r6,h.q,le.en _ _ mk.1 hm h.en⟩
 | .loopW m ans b=>fun mk le g zm=>z58 zm fun l e h=>by
  have hle:=h.b.le
  have hq:=h.q
  have hm:=z5p mk.2
  exact ⟨l,e,(g _ (by lia) (by lia)).trans h.r1,(g _ (by lia) (by lia)).trans h.r2,le.pa _ _ h.pa,(g _ (by lia) (by lia)).trans h.r3,LaidB.cg mk.2 (le.sub (Int.le_of_lt mk.1) (Int.le_refl _)) (za6 g (by lia) (by lia)) h.b,
   (g _ (by lia) (by lia)).trans h.r4,(g _ (by lia) (by lia)).trans h.r5,(g _ (by lia) (by lia)).trans h.r6,h.q,le.en _ _ mk.1 hm h.en⟩
theorem LaidB.cg:∀ {l:List Stm} {p q B N:Nat} {lo hi:Int},mkB lo hi l→LwLe w w' lo hi→(∀ i,p≤i→i < q→w'.g i = w.g i)→LaidB w l p q B N→LaidB w' l p q B N
 | []=>fun uu uu uu h=>h
 | s :: r=>fun zm le g zn=>z0e zm fun mid k1 k2=>z0e zn fun p' h1 h2=>⟨p',LaidS.cg k1 (le.sub (Int.le_refl _) (z5p k2)) (za6 g (Nat.le_refl _) h2.le) h1,LaidB.cg k2 (le.sub (zec k1) (Int.le_refl _)) (za6 g (Nat.le_of_add_right_le h1.le) (Nat.le_refl _)) h2⟩
end
mutual
theorem LaidS.sz:∀ {s:Stm} {p q B N:Nat},LaidS w s p q B N→q = p + z2h s
 | .note _=>fun h=>zq3.q h
 | .leave _ _ _=>fun zm=>oEA zm fun uu h=>h.q
 | .loopF _ _ _ _ b=>fun zm=>oEEEA zm fun uu uu e h=>by
  have:=h.b.sz;have:=h.q
  show _ = _ + (sizeB b + 6);lia
 | .loopW _ _ b=>fun zm=>z58 zm fun uu e h=>by
  have:=h.b.sz;have:=h.q
  show _ = _ + (sizeB b + 6);lia
theorem LaidB.sz:∀ {l:List Stm} {p q B N:Nat},LaidB w l p q B N→q = p + sizeB l
 | []=>fun h=>h
 | s :: r=>fun zm=>z0e zm fun uu h1 h2=>h2.sz.trans ((congrArg (· + sizeB r) h1.sz).trans (Nat.add_assoc ..))
end
theorem zee {i p:Nat} {b:Bool} {s:Stm} (h:(i,b)∈z82 p s):p≤i∧i < p + z2h s:=by
 cases s with
 | leave m b' ans=>cases List.mem_singleton.mp h;exact ⟨Nat.le_add_right _ _,Nat.lt_succ_self _⟩
 | _=>cases h
theorem z32 {i:Nat} {b:Bool}:∀ {l:List Stm} {p:Nat},(i,b)∈z5o p l→p≤i∧i < p + sizeB l
 | s :: r,p,h=>by
  show p≤i∧i < p + (z2h s + sizeB r)
  rcases List.mem_append.mp h with q | q
  ·have:=zee q;lia
  ·have:=z32 q;lia
theorem ztl {i p:Nat} {b b':Bool} {s:Stm} (h:(i,b)∈z82 p s) (h':(i,b')∈z82 p s):b = b':=by
 cases s with
 | leave m b0 ans=>cases List.mem_singleton.mp h;cases List.mem_singleton.mp h';rfl
 | _=>cases h
theorem zcu {i:Nat} {b b':Bool}:∀ {l:List Stm} {p:Nat},(i,b)∈z5o p l→(i,b')∈z5o p l→b = b'
 | s :: r,p,h,h'=>by
  rcases List.mem_append.mp h with q | q <;> rcases List.mem_append.mp h' with q' | q'
  ·exact ztl q q'
  ·exact absurd (zee q).2 (Nat.not_lt.mpr (z32 q').1)
  ·exact absurd (zee q').2 (Nat.not_lt.mpr (z32 q).1)
  ·exact zcu q q'
structure ztm (w w':Lw) (p q:Nat) (W:z81) (B N:Nat):Prop where
 out:∀ i,p≤i→i < q→(∀ b,(i,b) ∉ W)→w'.g i = w.g i
 on:∀ i b,(i,b)∈W→w'.g i = some (z4d (if b then B else N))
theorem LaidS.re {s:Stm} {p q B0 N0 B N:Nat} {lo hi:Int} (mk:mkS lo hi s) (le:LwLe w w' lo hi) (h:LaidS w s p q B0 N0) (P:ztm w w' p q (z82 p s) B N):LaidS w' s p q B N:=by
 cases s with
 | note x=>exact LaidS.cg mk le (fun i a b=>P.out i a b fun uu h=>nomatch h) h
 | loopF m x o pk b=>exact LaidS.cg mk le (fun i a b=>P.out i a b fun uu h=>nomatch h) h
 | loopW m ans b=>exact LaidS.cg mk le (fun i a b=>P.out i a b fun uu h=>nomatch h) h
 | leave m b ans =>
  obtain ⟨l,r1,pa,r2,r3,rfl⟩:=h
  obtain ne:∀ i,i < p + 2→∀ b',(i,b') ∉ z82 p (.leave m b ans):=fun i hi b' h=>by cases List.mem_singleton.mp h;exact Nat.lt_irrefl _ hi
  exact ⟨l,(P.out _ (Nat.le_refl p) (by lia) (ne _ (by lia))).trans r1,le.pa _ _ pa,(P.out _ (Nat.le_add_right p 1) (by lia) (ne _ (Nat.lt_add_one (p + 1)))).trans r2,P.on _ _ (List.mem_singleton.mpr rfl),rfl⟩
theorem LaidB.re:∀ {l:List Stm} {p q B0 N0 B N:Nat} {lo hi:Int},mkB lo hi l→LwLe w w' lo hi→LaidB w l p q B0 N0→ztm w w' p q (z5o p l) B N→LaidB w' l p q B N
 | []=>fun uu uu h uu=>h
 | s :: r=>fun zp8 le zp10 P=>z0e zp8 fun mid k1 k2=>z0e zp10 fun p' h1 h2=>by
  have e:=h1.sz
  obtain l1:=h1.le
  obtain l2:=h2.le
  subst e
  exact ⟨_,LaidS.re k1 (le.sub (Int.le_refl _) (z5p k2)) h1 ⟨fun i a b n=>P.out i a (Nat.lt_of_lt_of_le b l2) fun b' h=>(List.mem_append.mp h).elim (n b') fun h=>absurd b (Nat.not_lt.mpr (z32 h).1),fun i b h=>P.on i b (List.mem_append_left _ h)⟩,
   LaidB.re k2 (le.sub (zec k1) (Int.le_refl _)) h2 ⟨fun i a b n=>P.out i (Nat.le_of_add_right_le (Nat.le_trans l1 a)) b fun b' h=>(List.mem_append.mp h).elim (fun h=>absurd (zee h).2 (Nat.not_lt.mpr a)) (n b'),fun i b h=>P.on i b (List.mem_append_right _ h)⟩⟩
end
noncomputable def zfs (R:List AV) (W:z81) (B N:Nat):List AV:=W.foldl (fun R w=>R.set w.1 (z4d (if w.2 then B else N))) R
section
variable {B N i:Nat} {b:Bool}
theorem z2i:∀ {W:z81} {R:List AV},(zfs R W B N).length = R.length
 | []=>rfl
 | w :: W=>(z2i (W:=W)).trans (List.length_set ..)
theorem z5r:∀ {W:z81} {R:List AV},(∀ b,(i,b) ∉ W)→(zfs R W B N)[i]? = R[i]?
 | []=>fun uu=>rfl
 | w :: W=>fun h=>(z5r (W:=W) fun b hb=>h b (.tail _ hb)).trans (List.getElem?_set_ne fun q=>h w.2 (by exact q ▸ .head _))
theorem zef:∀ {W:z81} {R:List AV},(∀ b',(i,b')∈W→b = b')→i < R.length→(i,b)∈W→(zfs R W B N)[i]? = some (z4d (if b then B else N))
 | w :: W,R,f,hl,h=>by
  refine (?_:(zfs (R.set w.1 (z4d (if w.2 then B else N))) W B N)[i]? = _)
  by_cases q:(i,b)∈W
  ·exact zef (fun b' h'=>f b' (.tail _ h')) (by rw [List.length_set];exact hl) q
  ·refine (z5r fun b' hb'=>q (f b' (.tail _ hb') ▸ hb')).trans ?_
   rcases List.mem_cons.mp h with rfl | h
   ·exact List.getElem?_set_self hl
   ·exact absurd h q
end
end
section
open PySem PySem.W
noncomputable def zbl (b:Nat):List (Str×AV):=[(S "expr",.ref (b + 1)),(S "rows",.ref (b + 4)),(S "consts",.ref (b + 5)),(S "depth",.int 0)]
noncomputable def zjj (e:z5n):AO:=if e = [] then .sd [] else .idd e
noncomputable def ztn (b:Nat) (R K:List AV) (e:z5n):List (Option AO):=[none,none,some (.ns (zbl b)),some (.inst 827 (b + 2)),some (.list R),some (.list K),none,none,some (zjj e)]
noncomputable def z8k (w:Nat×Bool):AV:=.tup [.int w.1,.str (z5k w.2)]
structure LY (b wl:Nat) (σ:AS) (R K:List AV) (W:z81) (e:z5n):Prop where
 w:WinO σ b (ztn b R K e)
 wy:σ[wl]? = some (.list (W.map z8k))
 lw:b + 9≤wl
noncomputable def ML (b wl:Nat):Nat→Prop:=fun i=>i = b + 4∨i = b + 5∨i = b + 8∨i = wl
section
variable {b wl k n p i:Nat} {σ σ' σ1 σ2 τ:AS} {R R' K K' xs:List AV} {W W':z81} {e e':z5n} {d:Nat} {x br:Bool} {m:Int} {ℓ:Loc} {o o':AO} {v:AV} {j:Nat} {nm':Str}
theorem ML.i4:ML b wl (b + 4):=.inl rfl
theorem ML.i5:ML b wl (b + 5):=.inr (.inl rfl)
theorem ML.i8:ML b wl (b + 8):=.inr (.inr (.inl rfl))
theorem ML.iw:ML b wl wl:=.inr (.inr (.inr rfl))
theorem zbm:zg5 (zjj e):=by unfold zjj;split <;> trivial
theorem zlo:AllO (ztn b R K e):=⟨rfl,trivial,trivial,trivial,zbm,trivial⟩
theorem LY.ex0 (h:LY b wl σ R K W e) (x:Ex M0 σ σ'):LY b wl σ' R K W e:=⟨fun k o q=>x.exact (fun h=>h) (h.w k o q) (zlo.mem q),x.list (fun h=>h) h.wy,h.lw⟩
theorem LY.set (h:LY b wl σ R K W e) (hk:(ztn b R K e)[k]? = some (some o')) (hm:(ztn b R K e).set k (some o) = ztn b R' K' e'):LY b wl (σ.set (b + k) o) R' K' W e' :=
 ⟨hm ▸ h.w.set hk,by
  obtain h9:k < 9:=(List.getElem?_eq_some_iff.mp hk).1
  refine (z1n (Nat.ne_of_lt (Nat.lt_of_lt_of_le (Nat.add_lt_add_left h9 b) h.lw))).trans ?_;exact h.wy,h.lw⟩
theorem LY.setR (h:LY b wl σ R K W e) {R':List AV}:LY b wl (σ.set (b + 4) (.list R')) R' K W e:=h.set rfl rfl
theorem LY.setK (h:LY b wl σ R K W e) {K':List AV}:LY b wl (σ.set (b + 5) (.list K')) R K' W e:=h.set rfl rfl
theorem LY.setE (h:LY b wl σ R K W e) {e':z5n}:LY b wl (σ.set (b + 8) (zjj e')) R K W e':=h.set rfl rfl
theorem LY.lo (h:LY b wl σ R K W e) (hk:k < 9):wl ≠ b + k:=Nat.ne_of_gt (Nat.lt_of_lt_of_le (Nat.add_lt_add_left hk b) h.lw)
theorem LY.setW (h:LY b wl σ R K W e) {W':z81}:LY b wl (σ.set wl (.list (W'.map z8k))) R K W' e :=
 ⟨fun k o q=>by
  obtain h9:k < 9:=(List.getElem?_eq_some_iff.mp q).1
  refine (z1n (h.lo h9)).trans ?_;exact h.w k o q,z0d h.wy,h.lw⟩
theorem LY.ways (h:LY b wl σ R K W e) {wl':Nat} (hw:σ[wl']? = some (.list (W'.map z8k))) (h1:b + 9≤wl'):LY b wl' σ R K W' e:=⟨h.w,hw,h1⟩
theorem zto (h:σ[j]? = some (zjj e)) (hl:e.length < 100000):z4w σ (.ref j) (.int m) v = some (σ.set j (zjj (z1e e m v))):=by
 refine (?_:zre σ j σ[j]? _ _ = _)
 rw [h];unfold zjj
 rw [if_neg (zdt (q:=e))]
 by_cases hq:e = []
 ·subst hq;rfl
 ·rw [if_neg hq];exact if_pos hl
theorem ln (h:xs.length = n):(xs++[v]).length = n + 1:=by rw [List.length_append,h];rfl
theorem z83 {I:z1q} (h:σ[j]? = some (.list xs)) (hl:xs.length = n) (hn:n < 1000000):z6h I (.builtin "len") [.ref j] σ = .ok (.int n) σ:=hl ▸ z3q h (hl.symm ▸ hn)
theorem z2s {I:z1q} (h:σ[j]? = some (.list xs)) (hl:xs.length = n) (hn:n < 100000):z6z I .list σ (.ref j) (Str.ofString "append") [v] = .ok .none (σ.set j (.list (xs++[v]))):=z3e h (hl.symm ▸ hn)
theorem zlp (h:σ[j]? = some (.list xs)) (hl:xs.length = n) (hn:n < 1000000) (hi:i < n):z4w σ (.ref j) (.int (i:Nat)) v = some (σ.set j (.list (xs.set i v))):=zsg h ⟨Int.natCast_nonneg _,Int.ofNat_lt.mpr (hl.symm ▸ hi),hl.symm ▸ hn⟩ rfl
theorem zw0 (h:σ[j]? = some (.list xs)) (hl:xs.length = n) (hn:n < 1000000) (hi:i + 1 < n):z4w σ (.ref j) (.int ((i:Int) + 1)) v = some (σ.set j (.list (xs.set (i + 1) v))):=zlp (i:=i + 1) h hl hn hi
theorem zw1 (h:σ[j]? = some (.list xs)) (hl:xs.length = n) (hn:n < 1000000) (hi:i + 2 < n):z4w σ (.ref j) (.int ((i:Int) + 2)) v = some (σ.set j (.list (xs.set (i + 2) v))):=zlp (i:=i + 2) h hl hn hi
theorem ztp:zjm .Sub (.int ((k + 1:Nat):Int)) (.int 1) = some (.int k):=by
 refine (?_:some (AV.int (((k + 1:Nat):Int) - 1)) = _)
 congr;lia
end
section
variable {b wl k n p i:Nat} {σ σ' σ1 σ2 τ:AS} {R R' K K' xs:List AV} {W W':z81} {e e':z5n} {d:Nat} {x br:Bool} {m:Int} {ℓ:Loc} {o o':AO} {v:AV} {j:Nat} {nm':Str}
noncomputable def zw2 (x:Bool) (R:List AV):List AV:=R++[.tup [.str (S "var"),.str (nm x)]]++[.tup [.str (S "note"),.str (nm x)]]
theorem zqe (h:LY b wl σ R K W e) (hp:R.length = p) (hR:p < 80000):∃ σ',z05 TT (d + 1) 1133 [.ref (b + 3),.tup [.str (S "note"),.str (nm x)],.ref wl,.ref (b + 8)] σ = .ok .none σ' ∧
  LY b wl σ' (zw2 x R) K W e∧Ex (ML b wl) σ σ':=by
 refine ⟨_,?_,(h.setR (R':=R++[.tup [.str (S "var"),.str (nm x)]])).setR,(Ex.set ML.i4).trans (Ex.set ML.i4)⟩
 obtain g2:=h.w 2 _ rfl
 obtain g3:=h.w 3 _ rfl
 obtain g4:=h.w 4 _ rfl
 exact z19 rfl rfl (z0f rfl (z1x rfl g3 g2 rfl rfl) (k_y (z29 (z18 (z00 rfl) rfl) rfl) (z0s rfl (z0j rfl (z00 rfl) (z16 g4) (z04 (z11 (z15 (z04 (z18 (z00 rfl) rfl))) rfl)) (z2s g4 hp (by lia))) (z0s rfl (z0j rfl (z00 rfl) (z16 (z0d g4)) (z04 (z11 (z15 (z04 (z18 (z00 rfl) rfl))) rfl)) (z2s (z0d g4) (ln hp) (Nat.lt_of_lt_of_le (Nat.add_lt_add_right hR _) (of_decide_eq_true rfl)))) zms)))) rfl
noncomputable def ztq (m:Int) (l p:Nat) (R:List AV):List AV:=R++[.tup [.str (S "ask"),.int m,.ref l]]++[.tup [.str (S "unless"),.int (p + 3:Nat),.int 0]]++[.tup [.str (S "jump"),.int 0]]
theorem zlq {l:Nat} (h:LY b wl σ R K W e) (hp:R.length = p) (hR:p < 80000) (hW:W.length < 80000):∃ σ',z05 TT (d + 1) 1133 [.ref (b + 3),.tup [.str (S "leave"),.int m,.str (z5k br),.ref l],.ref wl,.ref (b + 8)] σ = .ok .none σ' ∧
  LY b wl σ' (ztq m l p R) K (W++[(p + 2,br)]) e∧Ex (ML b wl) σ σ':=by
 refine ⟨_,?_,(((h.setR (R':=R++[.tup [.str (S "ask"),.int m,.ref l]])).setR (R':=R++[.tup [.str (S "ask"),.int m,.ref l]]++[.tup [.str (S "unless"),.int (p + 3:Nat),.int 0]])).setW (W':=W++[(p + 2,br)])).setR,(((Ex.set ML.i4).trans (Ex.set ML.i4)).trans (Ex.set ML.iw)).trans (Ex.set ML.i4)⟩
 obtain g2:=h.w 2 _ rfl
 obtain g3:=h.w 3 _ rfl
 obtain g4:=h.w 4 _ rfl
 obtain gw:=h.wy
 obtain n1:wl ≠ b + 4:=h.lo (of_decide_eq_true rfl)
 obtain n2:=n1.symm
 obtain hw:(W.map z8k).length < 80000:=by rw [List.length_map];exact hW
 have hw2:(W.map z8k).length = (W.map z8k).length:=rfl
 obtain ew:(W++[(p + 2,br)]).map z8k = W.map z8k++[.tup [.int (p + 2:Nat),.str (z5k br)]]:=by rw [List.map_append];rfl
 rw [ew]
 exact z19 rfl rfl (z0f rfl (z1x rfl g3 g2 rfl rfl) (k_z (z29 (z18 (z00 rfl) rfl) rfl) (k_y (z29 (z18 (z00 rfl) rfl) rfl) (z0s rfl (z0j rfl (z00 rfl) (z16 g4) (z04 (z11 (z15 (z03 (z18 (z00 rfl) rfl) (z04 (z18 (z00 rfl) rfl)))) rfl)) (z2s g4 hp (by lia))) (z0s rfl (z0j rfl (z00 rfl) (z16 (z0d g4)) (z04 (z11 (z15 (z03 (z1p (z0r rfl rfl (z3r rfl) (z83 (z0d g4) (ln hp) (Nat.lt_of_lt_of_le (Nat.add_lt_add_right hR _) (of_decide_eq_true rfl)))) z0b rfl) z2t)) rfl)) (z2s (z0d g4) (ln hp) (Nat.lt_of_lt_of_le (Nat.add_lt_add_right hR _) (of_decide_eq_true rfl)))) (z0s rfl (z0j rfl (z00 rfl) (z16 (z62 n2 (z62 n2 gw))) (z04 (z11 (z03 (z0r rfl rfl (z3r rfl) (z83 (z0d (z0d g4)) (ln (ln hp)) (by lia))) (z04 (z18 (z00 rfl) rfl))) rfl)) (z2s (z62 n2 (z62 n2 gw)) hw2 (by lia))) (z0s rfl (z0j rfl (z00 rfl) (z16 (z62 n1 (z0d (z0d g4)))) (z04 (z11 (z15 z2t) rfl)) (z2s (z62 n1 (z0d (z0d g4))) (ln (ln hp)) (by lia))) rfl))))))) rfl
end
end
section
open PySem PySem.W
noncomputable def patT (d:Nat):AV→z0o×Loc→AS→Res (Ctl (z0o×Loc)):=z2f 106 12 d
noncomputable def zup (d:Nat):AV→z0o×Loc→AS→Res (Ctl (z0o×Loc)):=z2f 106 9 d
structure LB (b:Nat) (ℓ:Loc) (sv:AV) (l:Nat) (m:Int) (hd:Nat):Prop where
 c:look ℓ (S "code") = some (.ref (b + 3))
 s:look ℓ (S "stm") = some sv
 e:look ℓ (S "ends") = some (.ref (b + 8))
 r:look ℓ (S "rows") = some (.ref (b + 4))
 m:look ℓ (S "mark") = some (.int m)
 h:look ℓ (S "head") = some (.int hd)
 l:look ℓ (S "left") = some (.ref l)
noncomputable def lbOk (x:Str):Bool:=!(decide (x = S "code") || (decide (x = S "stm") || (decide (x = S "ends") || (decide (x = S "rows") || (decide (x = S "mark") || (decide (x = S "head") || decide (x = S "left")))))))
section
variable {b wl k n p i l hd B:Nat} {σ σ' σ1 σ2 τ:AS} {R R' K K' xs vs:List AV} {W W':z81} {e e':z5n} {d:Nat} {x br:Bool} {m:Int} {ℓ:Loc} {o o':AO} {v sv:AV} {j:Nat} {nm':Str}
theorem LB.put (h:LB b ℓ sv l m hd) (hx:lbOk nm' = true):LB b (z1e ℓ nm' v) sv l m hd:=by
 unfold lbOk at hx
 simp only [Bool.not_eq_true',Bool.or_eq_false_iff] at hx
 exact ⟨z0c hx.1 h.c,z0c hx.2.1 h.s,z0c hx.2.2.1 h.e,z0c hx.2.2.2.1 h.r,z0c hx.2.2.2.2.1 h.m,z0c hx.2.2.2.2.2.1 h.h,z0c hx.2.2.2.2.2.2 h.l⟩
theorem zlr (L:LB b ℓ sv l m hd) (e:z05 TT d 1133 [.ref (b + 3),v,.ref l,.ref (b + 8)] σ = .ok .none σ'):∃ ℓ',zup d v (.next,ℓ) σ = .ok (.go (.next,ℓ')) σ'∧LB b ℓ' sv l m hd:=by
 obtain q1:=L.c
 obtain q2:=L.e
 obtain q3:=L.l
 exact ⟨_,(z5l rfl rfl rfl (z0s rfl (z0g rfl rfl (z03 (z01 rfl (z0c rfl q1)) (z03 (z01 rfl z10) (z03 (z01 rfl (z0c rfl q3)) (z04 (z01 rfl (z0c rfl q2)))))) e) (z07 z23)) rfl:z2f 106 9 d _ _ _ = _),L.put rfl⟩
theorem zls {w:Nat×Bool} (L:LB b ℓ sv l m hd) (hend:look ℓ (S "end") = some (.int B)) (hr:σ[b + 4]? = some (.list R)) (hR:R.length = n) (hw:w.1 < n) (hn:n < 90000) :
  ∃ ℓ',patT d (z8k w) (.next,ℓ) σ = .ok (.go (.next,ℓ')) (σ.set (b + 4) (.list (R.set w.1 (z4d (if w.2 then B else hd + 1)))))∧LB b ℓ' sv l m hd∧look ℓ' (S "end") = some (.int B):=by
 obtain q1:=L.r
 obtain q2:=L.h
 obtain hn:=lt6 hn
 obtain ⟨pl,br⟩:=w
 refine ⟨z1e (z1e ℓ (S "place") (.int pl)) (S "word") (.str (z5k br)),?ga,?gb,?gc⟩
 case ga =>
  induction br with
  | true =>
   refine (?_:z2f 106 12 d (.tup [.int pl,.str (S "break")]) _ _ = .ok (.go (.next,z1e (z1e ℓ (S "place") (.int pl)) (S "word") (.str (S "break")))) (σ.set (b + 4) (.list (R.set pl (.tup [.str (S "jump"),.int B])))))
   exact zn3 rfl rfl rfl (z2a rfl (z11 (z15 (z04 (z6s (z29 (z01 rfl z10) rfl) (z7j rfl (z01 rfl (z0c rfl (z0c rfl hend))))))) rfl) (z01 rfl (z0c rfl (z0c rfl q1))) (z01 rfl (z0c rfl z10)) (zsg hr (by lia) rfl) (z07 z23)) rfl
  | false =>
   refine (?_:z2f 106 12 d (.tup [.int pl,.str (S "next")]) _ _ = .ok (.go (.next,z1e (z1e ℓ (S "place") (.int pl)) (S "word") (.str (S "next")))) (σ.set (b + 4) (.list (R.set pl (.tup [.str (S "jump"),.int ((hd:Int) + 1)])))))
   exact zn3 rfl rfl rfl (z2a rfl (z11 (z15 (z04 (z6s (z29 (z01 rfl z10) rfl) (z60 rfl (z1p (z01 rfl (z0c rfl (z0c rfl q2))) z0b rfl))))) rfl) (z01 rfl (z0c rfl (z0c rfl q1))) (z01 rfl (z0c rfl z10)) (zsg hr (by lia) rfl) (z07 z23)) rfl
 case gb=>exact (L.put rfl).put rfl
 case gc=>exact z0c rfl (z0c rfl hend)
theorem zcv (hl:∀ σ' R',LY b l σ' R' K W e→σ'[l]? = some (.list vs)) (hn:n < 90000):∀ (Ws:z81) i fu ℓ σ R,vs.drop i = Ws.map z8k→(∀ w∈Ws,w.1 < n)→LB b ℓ sv l m hd→look ℓ (S "end") = some (.int B)→R.length = n→LY b l σ R K W e→Ws.length < fu →
  ∃ ℓ' σ',z1b (.ref l) (patT d) fu i (.next,ℓ) σ = .ok (.next,ℓ') σ'∧LB b ℓ' sv l m hd∧look ℓ' (S "end") = some (.int B)∧LY b l σ' (zfs R Ws B (hd + 1)) K W e∧Ex (fun i=>i = b + 4) σ σ'
 | _,_,0,_,_,_,_,_,_,_,_,_,hf=>absurd hf (Nat.not_lt_zero _)
 | [],i,fu + 1,ℓ,σ,R,hd',hw,L,E,hR,h,hf=>⟨ℓ,σ,z7y (hl σ R h) (List.drop_eq_nil_iff.mp hd'),L,E,h,.refl⟩
 | w :: Ws,i,fu + 1,ℓ,σ,R,hd',hw,L,E,hR,h,hf=>by
  obtain ⟨hv,hd2⟩:=z7z hd'
  refine z1m (zls (d:=d) L E (h.w 4 _ rfl) hR (hw w (List.mem_cons_self ..)) hn) fun ℓ1 e1 L1 E1=>?_
  obtain ⟨ℓ2,σ2,e2,L2,E2,h2,x2⟩:=zcv hl hn Ws (i + 1) fu ℓ1 _ _ hd2 (fun w hw'=>hw w (List.mem_cons_of_mem _ hw')) L1 E1 ((List.length_set ..).trans hR) h.setR (Nat.lt_of_succ_lt_succ hf)
  exact ⟨ℓ2,σ2,(za4 (hl σ R h) hv e1).trans e2,L2,E2,h2,Ex.trans (Ex.set rfl) x2⟩
end
end
section
open PySem PySem.W
noncomputable def zbn (b:Nat) (sv:AV) (wl l:Nat) (m:Int) (hd:Nat):Loc:=[(S "code",.ref (b + 3)),(S "stm",sv),(S "ways",.ref wl),(S "ends",.ref (b + 8)),(S "rows",.ref (b + 4)),(S "mark",.int m),(S "head",.int hd),(S "left",.ref l)]
section
variable {b wl k n p q i l hd B bl:Nat} {σ σa σ' σ1 σ2 σ4 τ:AS} {R R4 R' K K4 K' xs vs:List AV} {W W4 W':z81} {e e4 e':z5n} {d:Nat} {x br:Bool} {m o:Int} {ℓ ℓ4:Loc} {c v sv:AV} {j pk:Nat} {nm':Str}
theorem zbo:LB b (zbn b sv wl l m hd) sv l m hd:=⟨rfl,rfl,rfl,rfl,rfl,rfl,rfl⟩
noncomputable def zir (R:List AV) (w:String) (m:Int):List AV:=R++[.tup [.str (S w)]]++[.tup [.str (S "gave"),.int m]]
noncomputable def z68 (R4:List AV) (W4:z81) (q n:Nat):List AV:=zfs (R4++[z4d n]) W4 (q + 1) n
noncomputable def zcw (R:List AV) (k:Nat) (x:Bool):List AV:=R++[.tup [.str (S "const"),.int k]]++[.tup [.str (S "loop"),.int 0,.int 0]]++[.tup [.str (S "step"),.int 0,.str (nm x),.int 0]]
noncomputable def zad (b:Nat) (σ:AS) (R K:List AV) (c:AV) (k:Nat) (x:Bool):AS :=
 (((σ.set (b + 5) (.list (K++[c]))).set (b + 4) (.list (R++[.tup [.str (S "const"),.int k]]))).set (b + 4) (.list (R++[.tup [.str (S "const"),.int k]]++[.tup [.str (S "loop"),.int 0,.int 0]]))).set (b + 4) (.list (zcw R k x))
noncomputable def zcx (R4:List AV) (W4:z81) (p q:Nat) (m:Int) (x:Bool):List AV:=zir (((z68 R4 W4 q (p + 2)).set (p + 1) (.tup [.str (S "for"),.int (q + 1:Nat),.int 0])).set (p + 2) (.tup [.str (S "step"),.int (q + 1:Nat),.str (nm x),.int 0])) "endfor" m
theorem za7:(zad b σ R K c k x).length = σ.length:=((List.length_set ..).trans (List.length_set ..)).trans ((List.length_set ..).trans (List.length_set ..))
theorem LY.len (h:LY b wl σ R K W e):b + 9≤σ.length:=(List.getElem?_eq_some_iff.mp (h.w 8 _ rfl)).1
theorem zqf (h:LY b wl σ R K W e):LY b (zad b σ R K c k x).length (zad b σ R K c k x++[AO.list []]) (zcw R k x) (K++[c]) [] e:=by
 obtain h3:=((((h.setK (K':=K++[c])).setR (R':=R++[.tup [.str (S "const"),.int k]])).setR (R':=R++[.tup [.str (S "const"),.int k]]++[.tup [.str (S "loop"),.int 0,.int 0]])).setR (R':=zcw R k x)).ex0 (Ex.app (τ:=[AO.list []]))
 exact h3.ways (W':=[]) z0y (za7.symm ▸ h.len)
theorem zis:Ex (ML b wl) σ (zad b σ R K c k x++[AO.list []]):=((((Ex.set ML.i5).trans (Ex.set ML.i4)).trans (Ex.set ML.i4)).trans (Ex.set ML.i4)).trans Ex.app
theorem LY.back (h:LY b wl σ R K W e) (x:Ex (ML b l) σ σ') (hl:wl ≠ l) (h':LY b l σ' R' K' W' e'):LY b wl σ' R' K' W e' :=
 h'.ways (x.list (fun q=>by
  have:=h.lw
  unfold ML at q
  lia) h.wy) h.lw
theorem zit (h:LY b wl σ R K W e) (eo:z05 TT d 1119 [.tup [.int o,.ref pk]] σ = .ok c σa) (xa:Ex M0 σ σa) (hp:R.length = p) (hk:K.length = k) (p8:p < 80000) (k8:k < 80000)
  (hl:z1b (.ref bl) (zup d) z1i 0 (.next,zbn b (z4v m x o pk bl) wl (zad b σa R K c k x).length m (p + 1)) (zad b σa R K c k x++[AO.list []]) = .ok (.next,ℓ4) σ4) (L4:LB b ℓ4 (z4v m x o pk bl) (zad b σa R K c k x).length m (p + 1))
  (h4:LY b (zad b σa R K c k x).length σ4 R4 K4 W4 e4) (x4:Ex (ML b (zad b σa R K c k x).length) (zad b σa R K c k x++[AO.list []]) σ4) (hq:R4.length = q) (q8:q < 80000) (pq:p + 3≤q) (hw:∀ w∈W4,w.1 < q + 1) (w8:W4.length < 3900) (e8:e4.length < 80000) :
  ∃ σ',z05 TT (d + 1) 1133 [.ref (b + 3),z4v m x o pk bl,.ref wl,.ref (b + 8)] σ = .ok .none σ'∧LY b wl σ' (zcx R4 W4 p q m x) K4 W (z1e e4 m (z67 (q + 1) (p + 2)))∧Ex (ML b wl) σ4 σ':=by
 obtain ha:=h.ex0 xa
 obtain hwl:wl < σa.length:=(List.getElem?_eq_some_iff.mp ha.wy).1
 obtain nwl:wl ≠ (zad b σa R K c k x).length:=Nat.ne_of_lt (za7.symm ▸ hwl)
 obtain ho:LY b wl (zad b σa R K c k x++[AO.list []]) (zcw R k x) (K++[c]) W e:=((((ha.setK).setR (R':=R++[.tup [.str (S "const"),.int k]])).setR (R':=R++[.tup [.str (S "const"),.int k]]++[.tup [.str (S "loop"),.int 0,.int 0]])).setR).ex0 Ex.app
 obtain h5:=h4.setR (R':=R4++[z4d (p + 2)])
 obtain q9:q + 1 < 90000:=Nat.lt_of_lt_of_le (Nat.add_lt_add_right q8 _) (of_decide_eq_true rfl)
 refine z6p (zcv (d:=d) (K:=K4) (W:=W4) (e:=e4) (n:=q + 1) (B:=q + 1) (fun uu uu h=>h.wy) q9 W4 0 z1i (z1e ℓ4 (S "end") (.int (q + 1:Nat))) _ _ rfl hw (L4.put rfl) z10 (ln hq) h5 (Nat.lt_trans w8 (of_decide_eq_true rfl))) fun ℓ6 σ6 e6 L6 E6 h6 x6=>?_
 obtain b6:=ho.back (x4.trans ((Ex.set ML.i4).trans (x6.mono fun uu h=>.inl h))) nwl h6
 obtain b9:=(((b6.setR (R':=(z68 R4 W4 q (p + 2)).set (p + 1) (.tup [.str (S "for"),.int (q + 1:Nat),.int 0]))).setR (R':=((z68 R4 W4 q (p + 2)).set (p + 1) (.tup [.str (S "for"),.int (q + 1:Nat),.int 0])).set (p + 2) (.tup [.str (S "step"),.int (q + 1:Nat),.str (nm x),.int 0]))).setR
  (R':=((z68 R4 W4 q (p + 2)).set (p + 1) (.tup [.str (S "for"),.int (q + 1:Nat),.int 0])).set (p + 2) (.tup [.str (S "step"),.int (q + 1:Nat),.str (nm x),.int 0])++[.tup [.str (S "endfor")]])).setR (R':=zcx R4 W4 p q m x)
 obtain x46:Ex (ML b wl) σ4 σ6:=(Ex.set ML.i4).trans (x6.mono fun uu h=>.inl h)
 refine ⟨_,?_,b9.setE (e':=z1e e4 m (z67 (q + 1) (p + 2))),x46.trans (((((Ex.set ML.i4).trans (Ex.set ML.i4)).trans (Ex.set ML.i4)).trans (Ex.set ML.i4)).trans (Ex.set ML.i8))⟩
 obtain g2:=h.w 2 _ rfl
 obtain g3:=h.w 3 _ rfl
 obtain g4:=h.w 4 _ rfl
 obtain g5:=h.w 5 _ rfl
 obtain a2:=ha.w 2 _ rfl
 obtain a3:=ha.w 3 _ rfl
 obtain a4:=ha.w 4 _ rfl
 obtain a5:=ha.w 5 _ rfl
 obtain k4:=h4.w 4 _ rfl
 obtain b4:=b6.w 4 _ rfl
 obtain b8:=b6.w 8 _ rfl
 obtain q1:=L4.c
 obtain q2:=L4.s
 obtain q3:=L4.r
 obtain q4:=L4.h
 obtain q5:=L4.l
 obtain r2:=L6.s
 obtain r3:=L6.r
 obtain r4:=L6.h
 obtain r6:=L6.e
 obtain r7:=L6.m
 have e6:z1b (.ref (zad b σa R K c k x).length) (z2f 106 12 d) z1i 0 (.next,z1e ℓ4 (S "end") (.int (q + 1:Nat))) (σ4.set (b + 4) (.list (R4++[.tup [.str (S "jump"),.int ((p + 2:Nat):Int)]]))) = .ok (.next,ℓ6) σ6:=e6
 have hl:z1b (.ref bl) (z2f 106 9 d) z1i 0 _ _ = _:=hl
 obtain p1:p + 1 < q + 1:=by lia
 obtain p2:p + 2 < q + 1:=Nat.lt_add_right 1 pq
 exact z19 rfl rfl (z0f rfl (z1x rfl g3 g2 rfl rfl) (z0i (z29 (z18 (z00 rfl) rfl) rfl) (k_f rfl (z07 (z0i (z29 (z18 (z00 rfl) rfl) rfl) (k_f rfl (z07 (z0f rfl (z18 (z00 rfl) rfl) (z0i (z29 (z18 (z00 rfl) rfl) rfl) (k_t rfl (z0s rfl (z0j rfl (z1x rfl g3 g2 rfl rfl) (z16 g5) (z04 (z0g rfl rfl (z04 (z18 (z00 rfl) rfl)) eo)) (z2s a5 hk (by lia))) (z0s rfl (z0j rfl (z01 rfl (z0c rfl z10)) (z16 (hb3 rfl a4)) (z04 (z11 (z15 (z04 (z1p (z0r rfl rfl (z04 (z1x rfl (hb3 rfl a3) (hb3 rfl a2) rfl rfl)) (z83 (z0d a5) (ln hk) (Nat.lt_of_lt_of_le (Nat.add_lt_add_right k8 _) (of_decide_eq_true rfl)))) z0b ztp))) rfl)) (z2s (hb3 rfl a4) hp (by lia))) (z07 (z0f rfl (z0r rfl rfl (z04 (z01 rfl (z0c rfl z10))) (z83 (z0d (hb3 rfl a4)) (ln hp) (Nat.lt_of_lt_of_le (Nat.add_lt_add_right p8 _) (of_decide_eq_true rfl)))) (z0s rfl (z0j rfl (z01 rfl (z0c rfl (z0c rfl z10))) (z16 (z0d (hb3 rfl a4))) (z04 (z11 (z15 (z03 z0b z2t)) rfl)) (z2s (z0d (hb3 rfl a4)) (ln hp) (Nat.lt_of_lt_of_le (Nat.add_lt_add_right p8 _) (of_decide_eq_true rfl)))) (k_y (z29 (z18 (z00 rfl) rfl) rfl) (z0s rfl (z0j rfl (z01 rfl (z0c rfl (z0c rfl z10))) (z16 (z0d (z0d (hb3 rfl a4)))) (z04 (z11 (z15 (z03 z0b (z03 (z18 (z00 rfl) rfl) z2t))) rfl)) (z2s (z0d (z0d (hb3 rfl a4))) (ln (ln hp)) (by lia))) (z07 (z0f rfl (z0p z0w (of_decide_eq_true rfl) z1l z1k) (z8j (z0m rfl (z00 rfl) (zg4 z0b rfl) rfl) hl rfl (z1u rfl rfl) (z0s rfl (z0j rfl (z01 rfl q3) (z16 k4) (z04 (z11 (z15 (z04 (z1p (z01 rfl q4) z0b rfl))) rfl)) (z2s k4 hq (by lia))) (z0f rfl (z0r rfl rfl (z04 (z01 rfl q3)) (z83 (z0d k4) (ln hq) (Nat.lt_of_lt_of_le (Nat.add_lt_add_right q8 _) (of_decide_eq_true rfl)))) (z8j (z01 rfl (z0c rfl q5)) e6 rfl (z1u rfl rfl) (k_y (z29 (z18 (z01 rfl r2) rfl) rfl) (z2a rfl (z11 (z15 (z03 (z01 rfl E6) z2t)) rfl) (z01 rfl r3) (z01 rfl r4) (zlp b4 (Eq.trans z2i (ln hq)) (Nat.lt_of_lt_of_le (Nat.add_lt_add_right q8 _) (of_decide_eq_true rfl)) p1) (z2a rfl (z11 (z15 (z03 (z01 rfl E6) (z03 (z18 (z01 rfl r2) rfl) z2t))) rfl) (z01 rfl r3) (z1p (z01 rfl r4) z0b rfl) (zw0 (z0d b4) (Eq.trans List.length_set (Eq.trans z2i (ln hq))) (Nat.lt_of_lt_of_le (Nat.add_lt_add_right q8 _) (of_decide_eq_true rfl)) p2) (z0s rfl (z0j rfl (z01 rfl r3) (z16 (z0d (z0d b4))) (z04 (z11 z3k rfl)) (z2s (z0d (z0d b4)) (Eq.trans List.length_set (Eq.trans List.length_set (Eq.trans z2i (ln hq)))) (Nat.lt_of_lt_of_le (Nat.add_lt_add_right q8 _) (of_decide_eq_true rfl)))) (z07 (z0s rfl (z0j rfl (z01 rfl r3) (z16 (z0d (z0d (z0d b4)))) (z04 (z11 (z15 (z04 (z01 rfl r7))) rfl)) (z2s (z0d (z0d (z0d b4))) (ln (Eq.trans List.length_set (Eq.trans List.length_set (Eq.trans z2i (ln hq))))) (Nat.lt_of_lt_of_le (Nat.add_lt_add_right q9 _) (of_decide_eq_true rfl)))) (z2a rfl (z11 (z03 (z01 rfl E6) (z04 (z1p (z01 rfl r4) z0b rfl))) rfl) (z01 rfl r6) (z01 rfl r7) (zto (hb3 rfl (hb3 rfl (hb3 rfl (hb3 rfl b8)))) (by lia)) (z07 rfl))))))))))))))))))))))))))))))) rfl
variable {la:Nat}
noncomputable def zft (R:List AV) (m:Int) (la:Nat):List AV:=R++[.tup [.str (S "loop"),.int 0,.int 0]]++[.tup [.str (S "ask"),.int m,.ref la]]++[.tup [.str (S "unless"),.int 0,.int 0]]
noncomputable def whC (b:Nat) (σ:AS) (R:List AV) (m:Int) (la:Nat):AS :=
 ((σ.set (b + 4) (.list (R++[.tup [.str (S "loop"),.int 0,.int 0]]))).set (b + 4) (.list (R++[.tup [.str (S "loop"),.int 0,.int 0]]++[.tup [.str (S "ask"),.int m,.ref la]]))).set (b + 4) (.list (zft R m la))
noncomputable def z84 (R4:List AV) (W4:z81) (p q:Nat) (m:Int):List AV:=zir (((z68 R4 W4 q (p + 1)).set p (.tup [.str (S "loop"),.int (q + 1:Nat),.int (p + 1:Nat)])).set (p + 2) (.tup [.str (S "unless"),.int (q + 1:Nat),.int 0])) "endloop" m
theorem zcy:(whC b σ R m la).length = σ.length:=(List.length_set ..).trans ((List.length_set ..).trans (List.length_set ..))
theorem ziu (h:LY b wl σ R K W e):LY b wl (whC b σ R m la++[AO.list []]) (zft R m la) K W e:=(((h.setR (R':=R++[.tup [.str (S "loop"),.int 0,.int 0]])).setR (R':=R++[.tup [.str (S "loop"),.int 0,.int 0]]++[.tup [.str (S "ask"),.int m,.ref la]])).setR (R':=zft R m la)).ex0 Ex.app
theorem ztr (h:LY b wl σ R K W e):LY b (whC b σ R m la).length (whC b σ R m la++[AO.list []]) (zft R m la) K [] e:=(ziu h).ways (W':=[]) z0y (zcy.symm ▸ h.len)
theorem zts:Ex (ML b wl) σ (whC b σ R m la++[AO.list []]):=(((Ex.set ML.i4).trans (Ex.set ML.i4)).trans (Ex.set ML.i4)).trans Ex.app
theorem zcz (h:LY b wl σ R K W e) (hp:R.length = p) (p8:p < 80000)
  (hl:z1b (.ref bl) (zup d) z1i 0 (.next,zbn b (z2r m la bl) wl (whC b σ R m la).length m p) (whC b σ R m la++[AO.list []]) = .ok (.next,ℓ4) σ4) (L4:LB b ℓ4 (z2r m la bl) (whC b σ R m la).length m p)
  (h4:LY b (whC b σ R m la).length σ4 R4 K4 W4 e4) (x4:Ex (ML b (whC b σ R m la).length) (whC b σ R m la++[AO.list []]) σ4) (hq:R4.length = q) (q8:q < 80000) (pq:p + 3≤q) (hw:∀ w∈W4,w.1 < q + 1) (w8:W4.length < 3900) (e8:e4.length < 80000) :
  ∃ σ',z05 TT (d + 1) 1133 [.ref (b + 3),z2r m la bl,.ref wl,.ref (b + 8)] σ = .ok .none σ'∧LY b wl σ' (z84 R4 W4 p q m) K4 W (z1e e4 m (z67 (q + 1) (p + 1)))∧Ex (ML b wl) σ4 σ':=by
 obtain hwl:wl < σ.length:=(List.getElem?_eq_some_iff.mp h.wy).1
 obtain nwl:wl ≠ (whC b σ R m la).length:=Nat.ne_of_lt (zcy.symm ▸ hwl)
 obtain h5:=h4.setR (R':=R4++[z4d (p + 1)])
 obtain q9:q + 1 < 90000:=Nat.lt_of_lt_of_le (Nat.add_lt_add_right q8 _) (of_decide_eq_true rfl)
 refine z6p (zcv (d:=d) (K:=K4) (W:=W4) (e:=e4) (n:=q + 1) (B:=q + 1) (fun uu uu h=>h.wy) q9 W4 0 z1i (z1e ℓ4 (S "end") (.int (q + 1:Nat))) _ _ rfl hw (L4.put rfl) z10 (ln hq) h5 (Nat.lt_trans w8 (of_decide_eq_true rfl))) fun ℓ6 σ6 e6 L6 E6 h6 x6=>?_
 obtain b6:=(ziu h).back (x4.trans ((Ex.set ML.i4).trans (x6.mono fun uu h=>.inl h))) nwl h6
 obtain b9:=(((b6.setR (R':=(z68 R4 W4 q (p + 1)).set p (.tup [.str (S "loop"),.int (q + 1:Nat),.int (p + 1:Nat)]))).setR (R':=((z68 R4 W4 q (p + 1)).set p (.tup [.str (S "loop"),.int (q + 1:Nat),.int (p + 1:Nat)])).set (p + 2) (.tup [.str (S "unless"),.int (q + 1:Nat),.int 0]))).setR
  (R':=((z68 R4 W4 q (p + 1)).set p (.tup [.str (S "loop"),.int (q + 1:Nat),.int (p + 1:Nat)])).set (p + 2) (.tup [.str (S "unless"),.int (q + 1:Nat),.int 0])++[.tup [.str (S "endloop")]])).setR (R':=z84 R4 W4 p q m)
 obtain x46:Ex (ML b wl) σ4 σ6:=(Ex.set ML.i4).trans (x6.mono fun uu h=>.inl h)
 refine ⟨_,?_,b9.setE (e':=z1e e4 m (z67 (q + 1) (p + 1))),x46.trans (((((Ex.set ML.i4).trans (Ex.set ML.i4)).trans (Ex.set ML.i4)).trans (Ex.set ML.i4)).trans (Ex.set ML.i8))⟩
 obtain g2:=h.w 2 _ rfl
 obtain g3:=h.w 3 _ rfl
 obtain g4:=h.w 4 _ rfl
 obtain k4:=h4.w 4 _ rfl
 obtain b4:=b6.w 4 _ rfl
 obtain b8:=b6.w 8 _ rfl
 obtain q1:=L4.c
 obtain q2:=L4.s
 obtain q3:=L4.r
 obtain q4:=L4.h
 obtain q5:=L4.l
 obtain r2:=L6.s
 obtain r3:=L6.r
 obtain r4:=L6.h
 obtain r6:=L6.e
 obtain r7:=L6.m
 have e6:z1b (.ref (whC b σ R m la).length) (z2f 106 12 d) z1i 0 (.next,z1e ℓ4 (S "end") (.int (q + 1:Nat))) (σ4.set (b + 4) (.list (R4++[.tup [.str (S "jump"),.int ((p + 1:Nat):Int)]]))) = .ok (.next,ℓ6) σ6:=e6
 have hl:z1b (.ref bl) (z2f 106 9 d) z1i 0 _ _ = _:=hl
 obtain p1:p < q + 1:=by lia
 obtain p2:p + 2 < q + 1:=Nat.lt_add_right 1 pq
 exact z19 rfl rfl (z0f rfl (z1x rfl g3 g2 rfl rfl) (k_z (z29 (z18 (z00 rfl) rfl) rfl) (k_z (z29 (z18 (z00 rfl) rfl) rfl) (z0f rfl (z18 (z00 rfl) rfl) (k_z (z29 (z18 (z00 rfl) rfl) rfl) (z0f rfl (z0r rfl rfl (z04 (z01 rfl (z0c rfl z10))) (z83 g4 hp (by lia))) (z0s rfl (z0j rfl (z01 rfl (z0c rfl (z0c rfl z10))) (z16 g4) (z04 (z11 (z15 (z03 z0b z2t)) rfl)) (z2s g4 hp (by lia))) (k_o (z29 (z18 (z00 rfl) rfl) rfl) (z0s rfl (z0j rfl (z01 rfl (z0c rfl (z0c rfl z10))) (z16 (z0d g4)) (z04 (z11 (z15 (z03 (z01 rfl (z0c rfl z10)) (z04 (z18 (z00 rfl) rfl)))) rfl)) (z2s (z0d g4) (ln hp) (by lia))) (z0s rfl (z0j rfl (z01 rfl (z0c rfl (z0c rfl z10))) (z16 (z0d (z0d g4))) (z04 (z11 (z15 (z03 z0b z2t)) rfl)) (z2s (z0d (z0d g4)) (ln (ln hp)) (by lia))) (z07 (z0f rfl (z0p z0w (of_decide_eq_true rfl) z1l z1k) (z8j (z0m rfl (z00 rfl) (zg4 z0b rfl) rfl) hl rfl (z1u rfl rfl) (z0s rfl (z0j rfl (z01 rfl q3) (z16 k4) (z04 (z11 (z15 (z04 (z1p (z01 rfl q4) z0b rfl))) rfl)) (z2s k4 hq (by lia))) (z0f rfl (z0r rfl rfl (z04 (z01 rfl q3)) (z83 (z0d k4) (ln hq) (Nat.lt_of_lt_of_le (Nat.add_lt_add_right q8 _) (of_decide_eq_true rfl)))) (z8j (z01 rfl (z0c rfl q5)) e6 rfl (z1u rfl rfl) (k_o (z29 (z18 (z01 rfl r2) rfl) rfl) (z2a rfl (z11 (z15 (z03 (z01 rfl E6) (z04 (z1p (z01 rfl r4) z0b rfl)))) rfl) (z01 rfl r3) (z01 rfl r4) (zlp b4 (Eq.trans z2i (ln hq)) (Nat.lt_of_lt_of_le (Nat.add_lt_add_right q8 _) (of_decide_eq_true rfl)) p1) (z2a rfl (z11 (z15 (z03 (z01 rfl E6) z2t)) rfl) (z01 rfl r3) (z1p (z01 rfl r4) z0b rfl) (zw1 (z0d b4) (Eq.trans List.length_set (Eq.trans z2i (ln hq))) (Nat.lt_of_lt_of_le (Nat.add_lt_add_right q8 _) (of_decide_eq_true rfl)) p2) (z0s rfl (z0j rfl (z01 rfl r3) (z16 (z0d (z0d b4))) (z04 (z11 z3k rfl)) (z2s (z0d (z0d b4)) (Eq.trans List.length_set (Eq.trans List.length_set (Eq.trans z2i (ln hq)))) (Nat.lt_of_lt_of_le (Nat.add_lt_add_right q8 _) (of_decide_eq_true rfl)))) (z07 (z0s rfl (z0j rfl (z01 rfl r3) (z16 (z0d (z0d (z0d b4)))) (z04 (z11 (z15 (z04 (z01 rfl r7))) rfl)) (z2s (z0d (z0d (z0d b4))) (ln (Eq.trans List.length_set (Eq.trans List.length_set (Eq.trans z2i (ln hq))))) (Nat.lt_of_lt_of_le (Nat.add_lt_add_right q9 _) (of_decide_eq_true rfl)))) (z2a rfl (z11 (z03 (z01 rfl E6) (z04 (z1p (z01 rfl r4) z0b rfl))) rfl) (z01 rfl r6) (z01 rfl r7) (zto (hb3 rfl (hb3 rfl (hb3 rfl (hb3 rfl b8)))) (by lia)) (z07 rfl)))))))))))))))))))))))) rfl
end
end
section
open PySem PySem.W
section
variable {b wl k n p q i l hd B bl N:Nat} {σ σa σ' σ1 σ2 σ4 τ:AS} {R R4 R' K K4 K' xs vs X Y:List AV} {W W4 W':z81} {e e4 e':z5n} {d:Nat} {x br:Bool} {m o:Int} {ℓ ℓ4:Loc} {c v sv u u':AV} {j:Nat} {w:String} {pk:List Int} {M:Nat→Prop}
theorem z33 (h:R.length = n):(R++[v])[n]? = some v:=by rw [List.getElem?_append_right (Nat.le_of_eq h),h,Nat.sub_self];rfl
theorem z1t (h:R.length = n) (hi:i < n):(R++[v])[i]? = R[i]?:=List.getElem?_append_left (h.symm ▸ hi)
structure ztt (X T:List AV) (w:String) (m:Int) (n:Nat):Prop where
 a:T[n]? = some (.tup [.str (S w)])
 b:T[n + 1]? = some (.tup [.str (S "gave"),.int m])
 lo:∀ i,i < n→T[i]? = X[i]?
 len:T.length = n + 2
theorem zqg (h:X.length = n):ztt X (zir X w m) w m n :=
 ⟨(z1t (ln h) (Nat.lt_succ_self _)).trans (z33 h),z33 (ln h),fun i hi=>(z1t (ln h) (Nat.lt_succ_of_lt hi)).trans (z1t h hi),ln (ln h)⟩
structure ztu (R4 Y:List AV) (W4:z81) (q N:Nat):Prop where
 j:Y[q]? = some (z4d N)
 out:∀ i,i < q→(∀ b,(i,b) ∉ W4)→Y[i]? = R4[i]?
 on:∀ i b,(i,b)∈W4→Y[i]? = some (z4d (if b then q + 1 else N))
 len:Y.length = q + 1
theorem zqh (h:R4.length = q) (hw:∀ i b,(i,b)∈W4→i < q) (hf:∀ i b b',(i,b)∈W4→(i,b')∈W4→b = b'):ztu R4 (z68 R4 W4 q N) W4 q N :=
 ⟨(z5r fun b hb=>Nat.lt_irrefl _ (hw _ b hb)).trans (z33 h),fun i hi hn=>(z5r hn).trans (z1t h hi),fun i b hb=>zef (fun b' hb'=>hf i b b' hb hb') ((ln h).symm ▸ Nat.lt_succ_of_lt (hw i b hb)) hb,z2i.trans (ln h)⟩
structure zn6 (R4 T:List AV) (W4:z81) (w:String) (m:Int) (a a' q N:Nat) (u u':AV):Prop where
 u:T[a]? = some u
 u':T[a']? = some u'
 j:T[q]? = some (z4d N)
 e:T[q + 1]? = some (.tup [.str (S w)])
 g:T[q + 2]? = some (.tup [.str (S "gave"),.int m])
 out:∀ i,i < q→i ≠ a→i ≠ a'→(∀ b,(i,b) ∉ W4)→T[i]? = R4[i]?
 on:∀ i b,i ≠ a→i ≠ a'→(i,b)∈W4→T[i]? = some (z4d (if b then q + 1 else N))
 len:T.length = q + 3
theorem ziv {a a':Nat} (h:R4.length = q) (hw:∀ i b,(i,b)∈W4→i < q) (hf:∀ i b b',(i,b)∈W4→(i,b')∈W4→b = b') (ha:a < q) (ha':a' < q) (hn:a ≠ a'):zn6 R4 (zir (((z68 R4 W4 q N).set a u).set a' u') w m) W4 w m a a' q N u u':=by
 have B:=zqh (N:=N) h hw hf
 obtain L1:((z68 R4 W4 q N).set a u).length = q + 1:=(List.length_set ..).trans B.len
 obtain T:=zqg (w:=w) (m:=m) ((List.length_set (i:=a') (a:=u')).trans L1)
 have lo:∀ i,i < q + 1→i ≠ a→i ≠ a'→(zir (((z68 R4 W4 q N).set a u).set a' u') w m)[i]? = (z68 R4 W4 q N)[i]?:=fun i hi h1 h2=>(T.lo i hi).trans ((List.getElem?_set_ne h2.symm).trans (List.getElem?_set_ne h1.symm))
 exact ⟨(T.lo _ (Nat.lt_succ_of_lt ha)).trans ((List.getElem?_set_ne hn.symm).trans (List.getElem?_set_self (B.len.symm ▸ Nat.lt_succ_of_lt ha))),(T.lo _ (Nat.lt_succ_of_lt ha')).trans (List.getElem?_set_self (L1.symm ▸ Nat.lt_succ_of_lt ha')),
  (lo q (Nat.lt_succ_self _) (Nat.ne_of_gt ha) (Nat.ne_of_gt ha')).trans B.j,T.a,T.b,fun i hi h1 h2 h3=>(lo i (Nat.lt_succ_of_lt hi) h1 h2).trans (B.out i hi h3),fun i b h1 h2 h3=>(lo i (Nat.lt_succ_of_lt (hw i b h3)) h1 h2).trans (B.on i b h3),T.len⟩
section
variable {M':Nat→Prop} {k:Str} {at_:AV} {t:z31}
theorem z1z {y:AO} (e:σ[i]? = some y):i < σ.length:=(List.getElem?_eq_some_iff.mp e).1
theorem IsVec.lift (g:∀ i,i < σ.length→¬ M' i→¬ M i) (h:IsVec M' σ v k xs at_):IsVec M σ v k xs at_:=by
 refine z3p h fun j n l fs e1 h=>?_
 exact ⟨j,n,l,fs,e1,{ h with m1:=g _ (z1z h.i) h.m1,m2:=g _ (z1z h.f) h.m2,m3:=g _ (z1z h.ls) h.m3 }⟩
theorem IsNull.lift (g:∀ i,i < σ.length→¬ M' i→¬ M i) (h:IsNull M' σ v):IsNull M σ v:=by
 refine z6p h fun j n e1 e2 e3 m1 m2=>?_
 exact ⟨j,n,e1,e2,e3,g _ (z1z e2) m1,g _ (z1z e3) m2⟩
theorem Val.lift (g:∀ i,i < σ.length→¬ M' i→¬ M i) (h:Val M' σ v t):Val M σ v t:=h.elim (fun zm=>oEA zm fun a h=>.inl ⟨a,h.lift g⟩) fun h=>.inr ⟨h.1.lift g,h.2⟩
theorem OverV.lift (g:∀ i,i < σ.length→¬ M' i→¬ M i) (h:OverV M' σ v o pk):OverV M σ v o pk:=by
 revert σ o v pk M M';refine no_implicit_lambda% (z36 (z06 inferInstance (z06 inferInstance inferInstance)) ?_);generalize (e3 _ _).1 = σ;generalize (e3 _ _).2.1 = o;generalize (e3 _ _).2.2 = v;refine no_implicit_lambda% (z36 (z06 inferInstance (z06 inferInstance inferInstance)) ?_);generalize (e3 _ _).1 = pk;generalize (e3 _ _).2.1 = M;generalize (e3 _ _).2.2 = M';unhygienic intros
 unfold OverV at h ⊢
 by_cases h3:o < 3
 ·rw [if_pos h3] at h ⊢;exact h.lift g
 rw [if_neg h3] at h ⊢
 by_cases e3:o = 3
 ·rw [if_pos e3] at h ⊢
  exact h.imp fun vs h=>⟨h.1.lift g,h.2.1,fun k v t a b=>(h.2.2 k v t a b).lift g⟩
 rw [if_neg e3] at h ⊢
 by_cases e4:o = 4
 ·rw [if_pos e4] at h ⊢
  obtain ⟨a,h1,m,lv,cv,e,e1,e2⟩:=h
  exact ⟨a,h1.lift g,g _ (z1z e) m,lv,cv,e,e1.lift g,e2.lift g⟩
 rw [if_neg e4] at h ⊢
 by_cases e5:o = 5
 ·rw [if_pos e5] at h ⊢;exact h.lift g
 rw [if_neg e5] at h ⊢
 refine z75 h fun j n fs e1 e2 e3 e4 m1 m2 e5=>?_
 exact ⟨j,n,fs,e1,e2,e3,e4,g _ (z1z e2) m1,g _ (z1z e3) m2,e5⟩
end
noncomputable def PCat (n1:Nat) (σ:AS) (c:AV) (o:Int) (pk:List Int):Prop:=∃ N1 N2,n1≤N1∧OverV (fun i=>i < N1∨N2≤i) σ c o pk
theorem PCat.ex (h:PCat n σ c o pk) (x:Ex M σ σ') (hm:∀ i,M i→i < n):PCat n σ' c o pk:=by
 refine z27 h fun N1 N2 a h=>?_
 exact ⟨N1,N2,a,h.ex (x.mono fun i hi=>.inl (Nat.lt_of_lt_of_le (hm i hi) a))⟩
theorem PCat.wid (h:PCat n σ c o pk) (h1:p≤n):PCat p σ c o pk:=by
 refine z27 h fun N1 N2 a h=>?_
 exact ⟨N1,N2,Nat.le_trans h1 a,h⟩
noncomputable def zjk (b n1:Nat) (σ:AS) (R K:List AV) (e:z5n):Lw:=⟨fun i:Nat=>R[i]?,fun i:Nat=>K[i]?,fun l a=>IsL (fun i=>b≤i) σ l (a.map AV.int),PCat n1 σ,fun m q=>look e m = some (z67 q.1 q.2)⟩
structure zuq (b wl:Nat) (σ:AS) (R K:List AV) (p:Nat) (W':z81) (e':z5n) (n:Nat) (Ld:Lw→Prop) (σ':AS) (R' K':List AV):Prop where
 ly:LY b wl σ' R' K' W' e'
 ex:Ex (ML b wl) σ σ'
 rl:R'.length = p + n
 pre:∀ i:Nat,i < p→R'[i]? = R[i]?
 kl:K'.length≤K.length + n
 kpre:∀ (i:Nat) (c:AV),K[i]? = some c→K'[i]? = some c
 laid:Ld (zjk b σ.length σ' R' K' e')
theorem ML.ge (h:LY b wl σ R K W e):∀ i,ML b wl i→b≤i:=fun i hi=>by
 have:=h.lw
 unfold ML at hi
 lia
theorem ML.lt (h:LY b wl σ R K W e):∀ i,ML b wl i→i < σ.length:=fun i hi=>by
 have:=h.len
 have:wl < σ.length:=(List.getElem?_eq_some_iff.mp h.wy).1
 unfold ML at hi
 lia
mutual
theorem zeg:∀ {s:Stm} {p:Nat},(z82 p s).length≤z2h s
 | .note _=>Nat.zero_le _
 | .leave _ _ _=>of_decide_eq_true rfl
 | .loopF _ _ _ _ _=>Nat.zero_le _
 | .loopW _ _ _=>Nat.zero_le _
theorem z85:∀ {l:List Stm} {p:Nat},(z5o p l).length≤sizeB l
 | [],_=>Nat.le_refl _
 | s :: r,p=>by
  show (z82 p s++z5o (p + z2h s) r).length≤z2h s + sizeB r
  rw [List.length_append]
  exact Nat.add_le_add zeg z85
end
mutual
theorem zeh:∀ {s:Stm} {p:Nat} {e:z5n},(z6n p s e).length≤e.length + z2h s
 | .note _,_,_=>Nat.le_add_right _ _
 | .leave _ _ _,_,_=>Nat.le_add_right _ _
 | .loopF m _ _ _ b,p,e=>by
  show (z1e (z6o (p + 3) b e) m (z67 (p + 3 + sizeB b + 1) (p + 2))).length≤e.length + (sizeB b + 6)
  have h1:=z4s (x:=m) (w:=z67 (p + 3 + sizeB b + 1) (p + 2)) (fs:=z6o (p + 3) b e)
  have h2:=z4m (l:=b) (p:=p + 3) (e:=e)
  lia
 | .loopW m _ b,p,e=>by
  show (z1e (z6o (p + 3) b e) m (z67 (p + 3 + sizeB b + 1) (p + 1))).length≤e.length + (sizeB b + 6)
  have h1:=z4s (x:=m) (w:=z67 (p + 3 + sizeB b + 1) (p + 1)) (fs:=z6o (p + 3) b e)
  have h2:=z4m (l:=b) (p:=p + 3) (e:=e)
  lia
theorem z4m:∀ {l:List Stm} {p:Nat} {e:z5n},(z6o p l e).length≤e.length + sizeB l
 | [],_,_=>Nat.le_refl _
 | s :: r,p,e=>by
  show (z6o (p + z2h s) r (z6n p s e)).length≤e.length + (z2h s + sizeB r)
  have h1:=z4m (l:=r) (p:=p + z2h s) (e:=z6n p s e)
  have h2:=zeh (s:=s) (p:=p) (e:=e)
  lia
end
end
end
section
open PySem PySem.W
section
variable {b wl k n p q i l hd bl:Nat} {σ σa σ' σ1 σ2 σ4 τ:AS} {R R4 R' K K4 K' xs vs X Y:List AV} {W W4 W':z81} {e e4 e':z5n} {d:Nat} {x br:Bool} {m o:Int} {ℓ ℓ4:Loc} {c v sv u u':AV} {pk ans:List Int} {a:Stm} {r:List Stm} {lo hi:Int}
structure LSz (R K:List AV) (W:z81) (e:z5n) (p₀ n₀:Nat):Prop where
 p:R.length = p₀
 n:p₀ + n₀≤3000
 k:K.length≤p₀ + 1
 w:W.length≤p₀
 e:e.length≤p₀
variable (b) in
noncomputable def zrc (a:Stm):Prop:=∀ v wl σ R K W e p D lo hi,zim a + 6≤D→wfS a→mkS lo hi a→TreeS (fun i=>b≤i) σ a v→LY b wl σ R K W e→LSz R K W e p (z2h a) →
 ∃ σ' R' K',z05 TT D 1133 [.ref (b + 3),v,.ref wl,.ref (b + 8)] σ = .ok .none σ'∧zuq b wl σ R K p (W++z82 p a) (z6n p a e) (z2h a) (fun w=>LaidS w a p (p + z2h a) 0 0) σ' R' K'
variable (b) in
noncomputable def zrd (r:List Stm):Prop:=∀ vs bl i fu ℓ sv wl m hd σ R K W e p D lo hi,depB r + 6≤D→wfB r→mkB lo hi r→IsL (fun i=>b≤i) σ bl vs→TreeB (fun i=>b≤i) σ r (vs.drop i)→r.length < fu→LB b ℓ sv wl m hd→LY b wl σ R K W e→LSz R K W e p (sizeB r) →
 ∃ ℓ' σ' R' K',z1b (.ref bl) (zup D) fu i (.next,ℓ) σ = .ok (.next,ℓ') σ'∧LB b ℓ' sv wl m hd∧zuq b wl σ R K p (W++z5o p r) (z6o p r e) (sizeB r) (fun w=>LaidB w r p (p + sizeB r) 0 0) σ' R' K'
theorem zlt:zrc b (.note x):=fun v wl σ R K W e p D lo hi hD wf mk ht h sz=>by
 obtain ⟨d,rfl⟩:∃ d,D = d + 1:=⟨D - 1,by lia⟩
 have ht:v = _:=ht
 obtain rfl:=ht
 refine z1m (zqe (d:=d) (x:=x) h sz.p (Nat.lt_of_le_of_lt (Nat.le_of_add_right_le sz.n) (of_decide_eq_true rfl))) fun σ' e1 h1 x1=>?_
 exact ⟨σ',_,K,e1,(List.append_nil W).symm ▸ h1,x1,ln (ln sz.p),fun i hi=>(z1t (ln sz.p) (Nat.lt_succ_of_lt hi)).trans (z1t sz.p hi),Nat.le_add_right _ _,fun uu uu h=>h,⟨(z1t (ln sz.p) (Nat.lt_succ_self _)).trans (z33 sz.p),z33 (ln sz.p),rfl⟩⟩
theorem ziw:zrc b (.leave m br ans):=fun v wl σ R K W e p D lo hi hD wf mk zm h sz=>z0e zm fun l ht hl=>by
 obtain ⟨d,rfl⟩:∃ d,D = d + 1:=⟨D - 1,by lia⟩
 subst ht
 obtain p8:p < 80000:=Nat.lt_of_le_of_lt (Nat.le_of_add_right_le sz.n) (of_decide_eq_true rfl)
 refine z1m (zlq (d:=d) (m:=m) (br:=br) (l:=l) h sz.p p8 (Nat.lt_of_le_of_lt sz.w p8)) fun σ' e1 h1 x1=>?_
 obtain L2:=ln (v:=.tup [.str (S "unless"),.int (p + 3:Nat),.int 0]) (ln (v:=.tup [.str (S "ask"),.int m,.ref l]) sz.p)
 exact ⟨σ',_,K,e1,h1,x1,ln L2,fun i hi=>(z1t L2 (by lia)).trans ((z1t (ln sz.p) (Nat.lt_succ_of_lt hi)).trans (z1t sz.p hi)),Nat.le_add_right _ _,fun uu uu h=>h,
  ⟨l,(z1t L2 (by lia)).trans ((z1t (ln sz.p) (Nat.lt_succ_self _)).trans (z33 sz.p)),hl.ex (x1.mono (ML.ge h)),(z1t L2 (Nat.lt_succ_self _)).trans (z33 (ln sz.p)),(z33 L2).trans (by cases br <;> rfl),rfl⟩⟩
theorem zqi:zrd b []:=fun vs bl i fu ℓ sv wl m hd σ R K W e p D lo hi hD wf mk hb ht hf L h sz=>by
 have ht:vs.drop i = []:=ht
 induction fu with
 | zero=>exact nomatch hf
 | succ fu=>exact ⟨ℓ,σ,R,K,z7y hb.1 (List.drop_eq_nil_iff.mp ht),L,(List.append_nil W).symm ▸ h,.refl,sz.p,fun uu uu=>rfl,Nat.le_refl _,fun uu uu h=>h,rfl⟩
theorem zlu (h1:zrc b a) (h2:zrd b r):zrd b (a :: r):=fun vs bl i fu ℓ sv wl m hd σ R K W e p D lo hi hD wf ⟨mid,k1,k2⟩ hb ⟨v,ws,hdr,ta,tb⟩ hf L h sz=>by
 induction fu with
 | zero=>cases hf
 | succ fu =>
  refine oAA (z7z hdr) fun hv hdr'=>?_
  have n0:p + (z2h a + sizeB r)≤3000:=sz.n
  refine z4x (h1 v wl σ R K W e p D lo mid (Nat.le_trans (Nat.add_le_add_right (Nat.le_max_left _ _) 6) hD) wf.1 k1 ta h { sz with n:=by lia }) fun σ1 R1 K1 e1 o1=>?_
  refine z0e (zlr L e1) fun ℓ1 t1 L1=>?_
  obtain x1:=o1.ex.mono (ML.ge h)
  have sz1:LSz R1 K1 (W++z82 p a) (z6n p a e) (p + z2h a) (sizeB r) :=
   ⟨o1.rl,by lia,Nat.le_trans o1.kl (by have:=sz.k;lia),by rw [List.length_append];exact Nat.add_le_add sz.w zeg,Nat.le_trans zeh (Nat.add_le_add_right sz.e _)⟩
  refine z6q (h2 vs bl (i + 1) fu ℓ1 sv wl m hd σ1 R1 K1 _ _ _ D mid hi (Nat.le_trans (Nat.add_le_add_right (Nat.le_max_right _ _) 6) hD) wf.2 k2 (hb.ex x1) (hdr'.symm ▸ tb.ex x1) (Nat.lt_of_succ_lt_succ hf) L1 o1.ly sz1) fun ℓ2 σ2 R2 K2 t2 L2 o2=>?_
  obtain x2:=o2.ex.mono (ML.ge h)
  obtain es:p + z2h a + sizeB r = p + sizeB (a :: r):=Nat.add_assoc ..
  refine ⟨ℓ2,σ2,R2,K2,(za4 hb.1 hv t1).trans t2,L2,List.append_assoc W _ _ ▸ o2.ly,o1.ex.trans o2.ex,es ▸ o2.rl,fun i hi=>(o2.pre i (Nat.lt_of_lt_of_le hi (Nat.le_add_right _ _))).trans (o1.pre i hi),Nat.le_trans o2.kl (Nat.le_trans (Nat.add_le_add_right o1.kl _) (Nat.le_of_eq (Nat.add_assoc ..))),fun i c h=>o2.kpre i c (o1.kpre i c h),
   ⟨_,LaidS.cg k1 (w:=zjk b σ.length σ1 R1 K1 (z6n p a e)) ⟨o2.kpre,fun uu uu h=>h.ex x2,fun uu uu uu h'=>h'.ex o2.ex (ML.lt h),fun m' uu uu a2 h=>(z5q (.inl a2) k2).trans h⟩ (fun i uu hi=>o2.pre i hi) o1.laid,
    LaidB.cg k2 (w:=zjk b σ1.length σ2 R2 K2 (z6o p (a :: r) e)) ⟨fun uu uu h=>h,fun uu uu h=>h,fun uu uu uu h=>h.wid o1.ex.1,fun uu uu uu uu h=>h⟩ (fun uu uu uu=>rfl) (es ▸ o2.laid)⟩⟩
theorem zbp {σ3:AS} {T:List AV} {w:String} {A A' N:Nat} {U U':AV} (h:LY b wl σ R K W e) (xl:σ.length≤σ3.length) (o4:zuq b l σ3 X Y (p + 3) (z5o (p + 3) r) e4 (sizeB r) (fun w=>LaidB w r (p + 3) (p + 3 + sizeB r) 0 0) σ4 R4 K4) (mk:mkB m hi r)
  (x7:Ex (ML b wl) σ4 σ') (T0:zn6 R4 T (z5o (p + 3) r) w m A A' (p + 3 + sizeB r) N U U') (hA:A < p + 3) (hA':A' < p + 3) (v:AV):LaidB (zjk b σ.length σ' T K4 (z1e e4 m v)) r (p + 3) (p + 3 + sizeB r) (p + 3 + sizeB r + 1) N :=
 LaidB.re mk (w:=zjk b σ3.length σ4 R4 K4 e4) ⟨fun uu uu h=>h,fun uu uu h'=>h'.ex (x7.mono (ML.ge h)),fun uu uu uu h'=>(h'.wid xl).ex x7 (ML.lt h),fun m' uu a1 uu h=>by
   refine (?_:look (z1e e4 m v) m' = _)
   refine ((z3o).trans (if_neg (Int.ne_of_lt a1))).trans ?_;exact h⟩ o4.laid
  ⟨fun i a1 a2 a3=>T0.out i a2 (Nat.ne_of_gt (Nat.lt_of_lt_of_le hA a1)) (Nat.ne_of_gt (Nat.lt_of_lt_of_le hA' a1)) a3,fun i b' hb=>T0.on i b' (Nat.ne_of_gt (Nat.lt_of_lt_of_le hA (z32 hb).1)) (Nat.ne_of_gt (Nat.lt_of_lt_of_le hA' (z32 hb).1)) hb⟩
theorem zix (hb:zrd b r):zrc b (.loopF m x o pk r):=fun v wl σ R K W e p D lo hi hD wf mk ⟨pl,bl,vs,ht⟩ h sz=>by
 obtain ⟨rfl,t1,t2,t3⟩:=ht
 obtain ⟨d,rfl⟩:∃ d,D = d + 6:=⟨D - 6,by lia⟩
 have hD:depB r + 6≤d + 5:=by have:depB r + 1 + 6≤d + 6:=hD;exact Nat.le_of_lt_succ hD
 obtain n0:p + (sizeB r + 6)≤3000:=sz.n
 obtain sp:=sz.p
 obtain sk:=sz.k
 obtain o1:=wf.1
 refine z1c (zb7 (d:=d) (M:=fun i=>i < σ.length) o1.1 o1.2.1 t1.1 o1.2.2.2 (Nat.lt_of_le_of_lt o1.2.2.1 (of_decide_eq_true rfl)) (fun i hi=>Nat.not_lt.mpr hi)) fun c σa eo xa ov=>?_
 obtain ov:OverV (fun i=>i < σ.length∨σa.length≤i) σa c o pk:=ov.lift fun i a b=>fun q=>q.elim b (Nat.not_le.mpr a)
 obtain ha:=h.ex0 xa
 obtain x3:Ex (ML b wl) σ (zad b σa R K c K.length x++[AO.list []]):=xa.of0.trans zis
 obtain x3g:=x3.mono (ML.ge h)
 obtain l3:σ.length≤(zad b σa R K c K.length x++[AO.list []]).length:=x3.1
 have ll:(zad b σa R K c K.length x).length = σa.length:=za7
 obtain sz3:LSz (zcw R K.length x) (K++[c]) [] e (p + 3) (sizeB r):=⟨ln (ln (ln sp)),by lia,by rw [List.length_append];show K.length + 1≤_;lia,Nat.zero_le _,Nat.le_trans sz.e (Nat.le_add_right _ _)⟩
 refine z6q (hb vs bl 0 z1i (zbn b (z4v m x o pl bl) wl (zad b σa R K c K.length x).length m (p + 1)) (z4v m x o pl bl) (zad b σa R K c K.length x).length m (p + 1) _ _ _ _ _ (p + 3) (d + 5) m hi hD wf.2.2 mk.2 (t2.ex x3g) (t3.ex x3g) (Nat.lt_trans wf.2.1 (of_decide_eq_true rfl)) zbo (zqf ha) sz3) fun ℓ4 σ4 R4 K4 t4 L4 o4=>?_
 obtain wr:∀ w∈z5o (p + 3) r,w.1 < p + 3 + sizeB r + 1:=fun w hw=>Nat.lt_succ_of_lt (z32 hw).2
 refine z1m (zit (d:=d + 5) h eo xa sp rfl (by lia) (by lia) t4 L4 o4.ly o4.ex o4.rl (by lia) (Nat.le_add_right _ _) wr (Nat.lt_of_le_of_lt z85 (by lia)) (Nat.lt_of_le_of_lt z4m (by have:=sz.e;lia))) fun σ7 e7 h7 x7=>?_
 obtain T0:=ziv (N:=p + 2) (u:=.tup [.str (S "for"),.int (p + 3 + sizeB r + 1:Nat),.int 0]) (u':=.tup [.str (S "step"),.int (p + 3 + sizeB r + 1:Nat),.str (nm x),.int 0]) (w:="endfor") (m:=m) (a:=p + 1) (a':=p + 2) o4.rl (fun i b hb=>(z32 hb).2) (fun i b b'=>zcu) (by lia) (by lia) (Nat.ne_of_lt (Nat.lt_succ_self _))
 obtain x4:Ex (ML b wl) σ σ4:=x3.fresh (o4.ex.mono fun i hi=>by
  have:=xa.1
  unfold ML at hi ⊢
  lia)
 have lo3:∀ i,i < p + 3→i ≠ p + 1→i ≠ p + 2→(zcx R4 (z5o (p + 3) r) p (p + 3 + sizeB r) m x)[i]? = (zcw R K.length x)[i]?:=fun i hi n1 n2=>(T0.out i (Nat.lt_of_lt_of_le hi (Nat.le_add_right _ _)) n1 n2 fun b' q=>Nat.not_le.mpr hi (z32 q).1).trans (o4.pre i hi)
 have low:∀ i,i < p + 1→(zcw R K.length x)[i]? = (R++[.tup [.str (S "const"),.int K.length]])[i]?:=fun i hi=>(z1t (ln (ln sp)) (Nat.lt_succ_of_lt hi)).trans (z1t (ln sp) hi)
 refine ⟨σ7,_,K4,e7,(List.append_nil W).symm ▸ h7,x4.trans x7,T0.len.trans (by show p + 3 + sizeB r + 3 = p + (sizeB r + 6);lia),fun i hi=>(lo3 i (Nat.lt_add_right 3 hi) (ktu_ne 1 hi) (ktu_ne 2 hi)).trans ((low i (Nat.lt_succ_of_lt hi)).trans (z1t sp hi)),Nat.le_trans o4.kl (by rw [List.length_append];show K.length + 1 + sizeB r≤_ + (sizeB r + 6);lia),fun i c h=>o4.kpre i c (by rw [List.getElem?_append_left ((List.getElem?_eq_some_iff.mp h).1)];exact h),
  ⟨K.length,c,p + 3 + sizeB r,(lo3 p (by lia) (Nat.ne_add_one p) (by lia)).trans ((low p (Nat.lt_succ_self _)).trans (z33 sp)),o4.kpre _ _ (z33 rfl),?_,T0.u,T0.u',zbp h l3 o4 mk.2 x7 T0 (by lia) (Nat.lt_succ_self _) _,T0.j,T0.e,T0.g,by show p + (sizeB r + 6) = _;lia,?_⟩⟩
 ·refine ⟨σ.length,σa.length,Nat.le_refl _,((ov.ex (zis.mono fun i hi=>.inl (ML.lt h i hi))).ex (o4.ex.mono fun i hi=>?_)).ex (x7.mono fun i hi=>.inl (ML.lt h i hi))⟩
  have h0:=h.len
  unfold ML at hi
  lia
 ·show look (z1e _ m _) m = _
  rw [z3o,if_pos rfl]
theorem ziy (hb:zrd b r):zrc b (.loopW m ans r):=fun v wl σ R K W e p D lo hi hD wf mk ⟨pl,bl,vs,ht⟩ h sz=>by
 obtain ⟨rfl,t1,t2,t3⟩:=ht
 obtain ⟨d,rfl⟩:∃ d,D = d + 1:=⟨D - 1,by lia⟩
 have hD:depB r + 6≤d:=by have:depB r + 1 + 6≤d + 1:=hD;exact Nat.le_of_lt_succ hD
 obtain n0:p + (sizeB r + 6)≤3000:=sz.n
 have sp:=sz.p
 obtain sk:=sz.k
 have x3:Ex (ML b wl) σ (whC b σ R m pl++[AO.list []]):=zts
 obtain x3g:=x3.mono (ML.ge h)
 have ll:(whC b σ R m pl).length = σ.length:=zcy
 obtain sz3:LSz (zft R m pl) K [] e (p + 3) (sizeB r):=⟨ln (ln (ln sp)),by lia,by lia,Nat.zero_le _,Nat.le_trans sz.e (Nat.le_add_right _ _)⟩
 refine z6q (hb vs bl 0 z1i (zbn b (z2r m pl bl) wl (whC b σ R m pl).length m p) (z2r m pl bl) (whC b σ R m pl).length m p _ _ _ _ _ (p + 3) d m hi hD wf.2.2 mk.2 (t2.ex x3g) (t3.ex x3g) (Nat.lt_trans wf.2.1 (of_decide_eq_true rfl)) zbo (ztr h) sz3) fun ℓ4 σ4 R4 K4 t4 L4 o4=>?_
 obtain wr:∀ w∈z5o (p + 3) r,w.1 < p + 3 + sizeB r + 1:=fun w hw=>Nat.lt_succ_of_lt (z32 hw).2
 refine z1m (zcz (d:=d) h sp (by lia) t4 L4 o4.ly o4.ex o4.rl (by lia) (Nat.le_add_right _ _) wr (Nat.lt_of_le_of_lt z85 (by lia)) (Nat.lt_of_le_of_lt z4m (by have:=sz.e;lia))) fun σ7 e7 h7 x7=>?_
 obtain T0:=ziv (N:=p + 1) (u:=.tup [.str (S "loop"),.int (p + 3 + sizeB r + 1:Nat),.int (p + 1:Nat)]) (u':=.tup [.str (S "unless"),.int (p + 3 + sizeB r + 1:Nat),.int 0]) (w:="endloop") (m:=m) (a:=p) (a':=p + 2) o4.rl (fun i b hb=>(z32 hb).2) (fun i b b'=>zcu) (by lia) (by lia) (by lia)
 obtain x4:Ex (ML b wl) σ σ4:=x3.fresh (o4.ex.mono fun i hi=>by
  unfold ML at hi ⊢
  lia)
 have lo3:∀ i,i < p + 3→i ≠ p→i ≠ p + 2→(z84 R4 (z5o (p + 3) r) p (p + 3 + sizeB r) m)[i]? = (zft R m pl)[i]?:=fun i hi n1 n2=>(T0.out i (Nat.lt_of_lt_of_le hi (Nat.le_add_right _ _)) n1 n2 fun b' q=>Nat.not_le.mpr hi (z32 q).1).trans (o4.pre i hi)
 exact ⟨σ7,_,K4,e7,(List.append_nil W).symm ▸ h7,x4.trans x7,T0.len.trans (by show p + 3 + sizeB r + 3 = p + (sizeB r + 6);lia),fun i hi=>(lo3 i (Nat.lt_add_right 3 hi) (Nat.ne_of_lt hi) (ktu_ne 2 hi)).trans ((z1t (ln (ln sp)) (by lia)).trans ((z1t (ln sp) (Nat.lt_succ_of_lt hi)).trans (z1t sp hi))),Nat.le_trans o4.kl (Nat.add_le_add_left (Nat.le_add_right _ _) _),o4.kpre,
  ⟨pl,p + 3 + sizeB r,T0.u,(lo3 (p + 1) (by lia) (Ne.symm (Nat.ne_add_one p)) (Z.off_ne p 1 2 rfl)).trans ((z1t (ln (ln sp)) (Nat.lt_succ_self _)).trans (z33 (ln sp))),((t1.ex x3g).ex (o4.ex.mono fun i hi=>by have:=h.len;have:=h.lw;unfold ML at hi;lia)).ex (x7.mono (ML.ge h)),T0.u',zbp h x3.1 o4 mk.2 x7 T0 (by lia) (Nat.lt_succ_self _) _,T0.j,T0.e,T0.g,by show p + (sizeB r + 6) = _;lia,by
   show look (z1e _ m _) m = _
   rw [z3o,if_pos rfl]⟩⟩
mutual
theorem ztv:∀ a,zrc b a
 | .note x=>zlt
 | .leave m b ans=>ziw
 | .loopF m x o p r=>zix (zqj r)
 | .loopW m ans r=>ziy (zqj r)
theorem zqj:∀ r,zrd b r
 | []=>zqi
 | a :: r=>zlu (ztv a) (zqj r)
end
end
end
section
open PySem PySem.W
noncomputable def stoO (c:Nat) (k:Int):AO:=.sd [(S "cells",.ref c),(S "mark",.int k)]
structure GI (st c:Nat) (σ:AS) (k:Int):Prop where
 st:σ[st]? = some (.sd [(S "cells",.ref c),(S "mark",.int k)])
 ce:∃ xs:List Int,σ[c]? = some (.list (xs.map .int))∧xs.length < 100
noncomputable def Mg (st c:Nat):Nat→Prop:=fun i=>i = st∨i = c
structure zw3 (st c:Nat) (σ:AS) (k b g:Int) (σ':AS):Prop where
 g0:0≤g
 g1:g < b
 gi:GI st c σ' k
 ex:Ex (Mg st c) σ σ'
section
variable {st c n:Nat} {σ σ' σ1:AS} {k b a:Int} {d:Nat} {I:z1q} {F:AV→AS→Res AV} {v:AV}
theorem GI.ex0 (h:GI st c σ k) (x:Ex M0 σ σ'):GI st c σ' k:=⟨x.sd (fun h=>h) h.st,h.ce.imp fun uu h=>⟨x.list (fun h=>h) h.1,h.2⟩⟩
theorem GI.ne (h:GI st c σ k):st ≠ c:=fun q=>by
 refine z0e h.ce fun xs e l=>?_
 have:=h.st
 rw [q,e] at this;exact nomatch this
theorem GI.len (h:GI st c σ k):st < σ.length∧c < σ.length:=by
 refine z0e h.ce fun xs e l=>?_
 exact ⟨z1z h.st,z1z e⟩
theorem GI.setC (h:GI st c σ k) {xs:List Int} (l:xs.length < 100):GI st c (σ.set c (.list (xs.map .int))) k:=by
 refine z0e h.ce fun ys e l'=>?_
 exact ⟨by refine (z1n (Ne.symm h.ne)).trans ?_;exact h.st,xs,z0d e,l⟩
theorem GI.setM (h:GI st c σ k) {k':Int}:GI st c (σ.set st (.sd [(S "cells",.ref c),(S "mark",.int k')])) k':=by
 refine z0e h.ce fun ys e l'=>?_
 exact ⟨z0d h.st,ys,by refine (z1n h.ne).trans ?_;exact e,l'⟩
theorem Mg.hi (h:GI st c σ k) {i:Nat} (hi:σ.length≤i):¬ Mg st c i:=by
 have:=h.len;unfold Mg;lia
theorem ziz (h:0 < b):zjm .Mod (.int a) (.int b) = some (.int (Int.fmod a b)):=if_pos h
theorem ztw (h:0 < b∧b < 1000):zjm .FloorDiv (.int a) (.int b) = some (.int (Int.fdiv a b)):=if_pos h
theorem zqk {n:Nat} (h:n < 3001):(z4h (.int (n:Int))).bind zv0 = some (.rng n):=by
 have e:∀ f:Int→Option AV,f n = some (.rng n)→(z4h (.int (n:Int))).bind f = some (.rng n):=fun f h=>h
 refine e _ ?_
 exact if_pos ⟨Int.natCast_nonneg _,by lia⟩
theorem zlv {x:AV}:z6h I (.type "range") [x] σ = Res.of σ ((z4h x).bind zv0):=by
 unfold z6h znf
 exact (if_neg (by decide)).trans (if_pos rfl)
theorem z86 {n:Nat} (h:n < 3001):z6h I (.type "range") [.int n] σ = .ok (.rng n) σ:=zlv.trans (of_of (zqk h))
theorem set0 {v w:AV} {xs:List AV}:(v :: xs).set (Int.toNat 0) w = w :: xs:=rfl
theorem z4n (h:GI st c σ k) (b0:0 < b) (b1:b < 1000):∃ g σ',z05 TT (d + 1) 1076 [.ref st,.int b] σ = .ok (.int g) σ'∧zw3 st c σ k b g σ':=by
 refine z0e h.ce fun xs e l=>?_
 obtain c1:=h.st
 obtain bb:0 < b∧b < 1000:=⟨b0,b1⟩
 induction xs with
 | nil =>
  have e:σ[c]? = some (.list []):=e
  exact ⟨0,σ,by exact z19 rfl rfl (z0f rfl (z2l (z00 rfl) c1 rfl) (k_y (z24 (z0r rfl rfl (z3r rfl) (z3q e (of_decide_eq_true rfl))) rfl) (z0k z0b))) rfl,Int.le_refl _,b0,h,.refl⟩
 | cons y ys =>
  have e:σ[c]? = some (.list (.int y :: ys.map .int)):=e
  obtain l':ys.length < 99:=Nat.lt_of_succ_lt_succ l
  obtain lm:(AV.int y :: ys.map AV.int).length = ys.length + 1:=congrArg (· + 1) (List.length_map ..)
  obtain z1:((((AV.int y :: ys.map AV.int).length:Nat):Int) == 0) = false:=by rw [lm];exact beq_eq_false_iff_ne.mpr (Ne.symm ((fun {x y}=>PyProof.Rows.bi_ine.mp) rfl))
  obtain z2:(AV.int y :: ys.map AV.int).length < 1000000:=by rw [lm];lia
  obtain z3:0≤(0:Int)∧(0:Int) < (AV.int y :: ys.map AV.int).length∧(AV.int y :: ys.map AV.int).length < 1000000:=⟨Int.le_refl _,by rw [lm];exact Int.ofNat_succ_pos ys.length,z2⟩
  have z4:(AV.int (Int.fdiv y b) :: ys.map AV.int).length < 1000000:=z2
  obtain z5:(AV.int (Int.fdiv y b) :: ys.map AV.int).length < 100000:=by show (ys.map AV.int).length + 1 < _;rw [List.length_map];lia
  obtain g0:0≤Int.fmod y b:=Int.fmod_nonneg_of_pos y b0
  obtain g1:Int.fmod y b < b:=Int.fmod_lt_of_pos y b0
  obtain h1:GI st c (σ.set c (.list (.int (Int.fdiv y b) :: ys.map .int))) k:=h.setC (xs:=Int.fdiv y b :: ys) (by omega)
  obtain n1:=Ne.symm h.ne
  cases q:(Int.fdiv y b == 0) with
  | true =>
   exact ⟨Int.fmod y b,(σ.set c (.list (.int (Int.fdiv y b) :: ys.map .int))).set c (.list (ys.map .int)),by exact z19 rfl rfl (z0f rfl (z2l (z00 rfl) c1 rfl) (k_z (z24 (z0r rfl rfl (z3r rfl) (z3q e z4)) rfl) (z0f rfl (z1p (z18 (z00 rfl) (z3w e z4 rfl)) (z00 rfl) (ziz b0)) (z2a rfl (z1p (z18 (z00 rfl) (z3w e z4 rfl)) (z00 rfl) (ztw bb)) (z00 rfl) z0b (zsg e z3 set0) (z0i (z24 (z18 (z00 rfl) (z3w (z0d e) z4 rfl)) rfl) (k_t q (z0s rfl (z0j rfl (z00 rfl) (z41 (z0d e)) z2t (zsh (z0d e) z5)) (z07 (z0k (z00 rfl)))))))))) rfl,g0,g1,h1.setC (Nat.lt_succ_of_lt l'),(Ex.set (.inr rfl)).trans (Ex.set (.inr rfl))⟩
  | false =>
   exact ⟨Int.fmod y b,σ.set c (.list (.int (Int.fdiv y b) :: ys.map .int)),by exact z19 rfl rfl (z0f rfl (z2l (z00 rfl) c1 rfl) (k_z (z24 (z0r rfl rfl (z3r rfl) (z3q e z4)) rfl) (z0f rfl (z1p (z18 (z00 rfl) (z3w e z4 rfl)) (z00 rfl) (ziz b0)) (z2a rfl (z1p (z18 (z00 rfl) (z3w e z4 rfl)) (z00 rfl) (ztw bb)) (z00 rfl) z0b (zsg e z3 set0) (z0i (z24 (z18 (z00 rfl) (z3w (z0d e) z4 rfl)) rfl) (k_f q (z07 (z0k (z00 rfl))))))))) rfl,g0,g1,h1,Ex.set (.inr rfl)⟩
structure zn7 (st c:Nat) (σ:AS) (k:Int) (n:Nat) (R:Int→Prop) (ys:List Int) (σ':AS):Prop where
 l:ys.length = n
 r:∀ y∈ys,R y
 gi:GI st c σ' k
 ex:Ex (Mg st c) σ σ'
theorem zbq (R:Int→Prop) (hn:n < 3000) (h:GI st c σ k) (step:∀ (j:Nat) σ1,GI st c σ1 k→∃ y σ2,F (.int j) σ1 = .ok (.int y) σ2∧R y∧GI st c σ2 k∧Ex (Mg st c) σ1 σ2) :
  ∃ (ys:List Int) (σ':AS),z3y (.rng n) F σ = .ok (.ref σ'.length) (σ'++[.list (ys.map .int)])∧zn7 st c σ k n R ys σ':=by
 obtain ⟨acc,σ',e,ys,rfl,o⟩:=z7o (body:=zjr F) (m:=n) (fun j acc σ1=>∃ ys:List Int,acc = ys.map .int∧zn7 st c σ k j R ys σ1)
  (fun j acc σ1 hj zm=>z0e zm fun ys e1 o=>by
   refine z47 (step j σ1 o.gi) fun y σ2 e ry g2 x2=>?_
   refine ⟨acc++[.int y],σ2,z0a e (if_pos (by rw [e1,List.length_map,o.l];lia)),ys++[y],by rw [e1,List.map_append];rfl,by rw [List.length_append,o.l];rfl,fun z hz=>?_,g2,o.ex.trans x2⟩
   refine Or.elim (List.mem_append.mp hz) (fun q=>?_) (fun q=>?_)
   ·exact o.r z q
   ·exact (List.mem_singleton.mp q) ▸ ry)
  z1i 0 [] σ (by unfold z1i;lia) (Nat.zero_le _) ⟨[],rfl,rfl,(fun y h=>nomatch h),h,.refl⟩
 exact ⟨ys,σ',z0a e rfl,o⟩
theorem ztx:∃ F:AV→AS→Res AV,(∀ (n:Nat) σ1 r σ2,z05 TT (d + 1) 1076 [.ref st,.int 3] σ = .ok (.int n) σ1→n < 3001→z3y (.rng n) F σ1 = .ok r σ2→z05 TT (d + 2) 1086 [.ref st] σ = .ok r σ2) ∧
  ∀ (j:Nat) σ1 g σ2,z05 TT (d + 1) 1076 [.ref st,.int 14] σ1 = .ok (.int g) σ2→F (.int j) σ1 = .ok (.int g) σ2 :=
 ⟨_,fun n σ1 r σ2 h1 h2 hc=>by exact z19 rfl rfl (z0k (z2u rfl rfl (z0r rfl rfl (z04 (z0g rfl rfl (z1r rfl z2t) h1)) (z86 h2)) hc)) rfl,fun j σ1 g σ2 h1=>by exact z0g rfl rfl (z1r rfl z2t) h1⟩
structure AnsO (st c:Nat) (σ:AS) (k:Int) (l:Nat) (ans:List Int) (σ':AS):Prop where
 l:IsL (fun i=>i < σ.length) σ' l (ans.map .int)
 ok:za0 ans
 gi:GI st c σ' k
 ex:Ex (Mg st c) σ σ'
theorem zbr (h:GI st c σ k):∃ l ans σ',z05 TT (d + 2) 1086 [.ref st] σ = .ok (.ref l) σ'∧AnsO st c σ k l ans σ':=by
 refine z27 (z4n (d:=d) (b:=3) h (by decide) (by decide)) fun g σ1 e1 o1=>?_
 obtain g0:=o1.g0
 obtain g1:=o1.g1
 obtain ⟨n,rfl⟩:∃ n:Nat,g = n:=⟨g.toNat,Int.eq_natCast_toNat.mpr g0⟩
 refine z0e (ztx (st:=st) (d:=d) (σ:=σ)) fun F w1 w2=>?_
 obtain ⟨ys,σ2,e2,o2⟩:=zbq (F:=F) (n:=n) (fun y=>0≤y∧y < 14) (by lia) o1.gi (fun j σ3 g3=>by
  refine z27 (z4n (d:=d) (b:=14) g3 (by decide) (by decide)) fun y σ4 e4 o4=>?_
  exact ⟨y,σ4,w2 j _ _ _ e4,⟨o4.g0,o4.g1⟩,o4.gi,o4.ex⟩)
 exact ⟨_,ys,_,w1 n σ1 _ _ e1 (by lia) e2,⟨z0y,Nat.not_lt.mpr (Nat.le_trans o1.ex.1 o2.ex.1)⟩,⟨by rw [o2.l];lia,o2.r⟩,o2.gi.ex0 Ex.app,(o1.ex.trans o2.ex).trans Ex.app⟩
theorem zql {most:Int} (hm:0 < most + 1):∃ F:AV→AS→Res AV,(∀ g1 σ1 g2 σ2 (n:Nat) r σ3,z05 TT (d + 1) 1076 [.ref st,.int 8] σ = .ok (.int g1) σ1→z05 TT (d + 1) 1076 [.ref st,.int (most + 1)] σ1 = .ok (.int g2) σ2→Int.fmod (g2 + most) (most + 1) = n→n < 3001→z3y (.rng n) F σ2 = .ok (.ref r) σ3→z05 TT (d + 2) 1081 [.ref st,.int most] σ = .ok (.tup [.int (Int.fmod g1 7),.ref r]) σ3) ∧
  ∀ (j:Nat) σ1 g σ2,z05 TT (d + 1) 1076 [.ref st,.int 3] σ1 = .ok (.int g) σ2→F (.int j) σ1 = .ok (.int g) σ2 :=
 ⟨_,fun g1 σ1 g2 σ2 n r σ3 h1 h2 h3 h4 hc=>by
  have h7:(0:Int) < 7:=by decide
  obtain bm:zjm .Mod (.int (g2 + most)) (.int (most + 1)) = some (.int n):=h3 ▸ ziz hm
  exact z19 rfl rfl (z0f rfl (z1p (z0g rfl rfl (z1r rfl z2t) h1) z0b (ziz h7)) (z0f rfl (z1p (z1p (z0g rfl rfl (z1r rfl (z04 (z1p (z00 rfl) z0b rfl))) h2) (z00 rfl) rfl) (z1p (z00 rfl) z0b rfl) bm) (z0k (z11 (z1r rfl (z04 (z2u rfl rfl (z0r rfl rfl (z3r rfl) (z86 h4)) hc))) rfl)))) rfl,fun j σ1 g σ2 h1=>by exact h1⟩
structure zw4 (st c:Nat) (σ:AS) (k:Int) (o:Int) (p:Nat) (pk:List Int) (σ':AS):Prop where
 l:IsL (fun i=>i < σ.length) σ' p (pk.map .int)
 ok:z95 o pk
 gi:GI st c σ' k
 ex:Ex (Mg st c) σ σ'
theorem zty {most:Int} (h:GI st c σ k) (hm:most = 2∨most = 3):∃ o p pk σ',z05 TT (d + 2) 1081 [.ref st,.int most] σ = .ok (.tup [.int o,.ref p]) σ'∧zw4 st c σ k o p pk σ':=by
 obtain hm1:0 < most + 1:=by lia
 refine z27 (z4n (d:=d) (b:=8) h (by decide) (by decide)) fun g1 σ1 e1 o1=>?_
 refine z27 (z4n (d:=d) (b:=most + 1) o1.gi hm1 (by lia)) fun g2 σ2 e2 o2=>?_
 obtain n0:0≤Int.fmod (g2 + most) (most + 1):=Int.fmod_nonneg_of_pos _ hm1
 obtain n1:Int.fmod (g2 + most) (most + 1) < most + 1:=Int.fmod_lt_of_pos _ hm1
 obtain ⟨n,hn⟩:∃ n:Nat,Int.fmod (g2 + most) (most + 1) = n:=⟨(Int.fmod (g2 + most) (most + 1)).toNat,Int.eq_natCast_toNat.mpr n0⟩
 obtain n3:n≤3:=by omega
 refine z0e (zql (st:=st) (d:=d) (σ:=σ) hm1) fun F w1 w2=>?_
 obtain ⟨ys,σ3,e3,o3⟩:=zbq (F:=F) (n:=n) z94 (Nat.lt_of_le_of_lt n3 (of_decide_eq_true rfl)) o2.gi (fun j σ3 g3=>by
  refine z27 (z4n (d:=d) (b:=3) g3 (by decide) (by decide)) fun y σ4 e4 o4=>?_
  have:=o4.g0
  have:=o4.g1
  exact ⟨y,σ4,w2 j _ _ _ e4,by unfold z94;lia,o4.gi,o4.ex⟩)
 exact ⟨_,_,ys,_,w1 _ _ _ _ n _ _ e1 e2 hn (by omega) e3,⟨z0y,Nat.not_lt.mpr (Nat.le_trans o1.ex.1 (Nat.le_trans o2.ex.1 o3.ex.1))⟩,⟨Int.fmod_nonneg_of_pos g1 (by decide),Int.fmod_lt_of_pos g1 (by decide),o3.l ▸ n3,o3.r⟩,o3.gi.ex0 Ex.app,((o1.ex.trans o2.ex).trans o3.ex).trans Ex.app⟩
end
end
section
open PySem PySem.W
noncomputable def zj0 (d:Nat):AV→z0o×Loc→AS→Res (Ctl (z0o×Loc)):=z2f 101 1 d
structure LG (ℓ:Loc) (st bl:Nat) (deep:Int):Prop where
 s:look ℓ (S "store") = some (.ref st)
 d:look ℓ (S "deep") = some (.int deep)
 b:look ℓ (S "body") = some (.ref bl)
noncomputable def lgOk (x:Str):Bool:=!(decide (x = S "store") || (decide (x = S "deep") || decide (x = S "body")))
noncomputable def bnd (deep:Int) (j:Nat):Int:=if deep = 1∧j < 2 then 4 else 2
noncomputable def zqm:Option Stmt→List Stmt
 | some (.For _ _ (_ :: r) _ _)=>r
 | _=>[]
noncomputable def za8:List Stmt:=zqm (nth (fiS (stm 101)).body 1)
section
variable {st c bl:Nat} {σ σ' σ1 σ2:AS} {k deep g:Int} {d j:Nat} {ℓ ℓ':Loc} {v:AV} {vs:List AV} {x:Str} {fl:z0o×Loc} {rc:Res (Ctl (z0o×Loc))} {R:Res (z0o×Loc)}
variable {po as va ko kd kw dfs kk nm0 g0 c0 m0} {bd r o:List Stmt} {e t:Expr} {p p':Pos} {s0:Stmt}
theorem LG.put (h:LG ℓ st bl deep) (hx:lgOk x = true):LG (z1e ℓ x v) st bl deep:=by
 unfold lgOk at hx
 simp only [Bool.not_eq_true',Bool.or_eq_false_iff] at hx
 exact ⟨z0c hx.1 h.s,z0c hx.2.1 h.d,z0c hx.2.2 h.b⟩
theorem zd0 (h0:fnV (stm 101) = some (⟨po,as,va,ko,kd,kw,dfs⟩,bd,⟨kk,nm0,g0,c0,m0⟩)) (h1:nth bd 1 = some (.For t e (s0 :: r) o p)) (h:z0v [r] (IE d nm0 true) ℓ σ = R):z0v [za8] (IE d (fiS (stm 101)).sc true) ℓ σ = R:=by
 unfold za8 fiS;rw [h0];dsimp only [zbx];exact h1 ▸ h
theorem zw5 {g:Int} (h0:0≤g) (h2:g < 2):zjn σ (.str (Str.ofString "xy")) (.int g) = some (.str (nm (g == 1))):=by
 obtain hc:g = 0∨g = 1:=by lia
 rcases hc with rfl | rfl
 ·refine (?_:some (AV.str ⟨#[120]⟩) = some (.str (S "x")))
  rw [show (⟨#[120]⟩:Str) = S "x" by decide +kernel]
 ·refine (?_:some (AV.str ⟨#[121]⟩) = some (.str (S "y")))
  rw [show (⟨#[121]⟩:Str) = S "y" by decide +kernel]
theorem zw6 {g:Int} (h0:0≤g) (h2:g < 2):atI [.str (Str.ofString "break"),.str (Str.ofString "next")] g = some (.str (z5k (g == 0))):=by
 obtain hc:g = 0∨g = 1:=by lia
 rcases hc with rfl | rfl <;> rfl
theorem zd1 (L:LG ℓ st bl deep) (hd:deep = 1∨deep = 2) (hp:z05 TT d 1076 [.ref st,.int (bnd deep j)] σ = .ok (.int g) σ1)
  (h:z0v [za8] (IE d (fiS (stm 101)).sc true) (z1e (z1e ℓ (S "k") (.int j)) (S "sort") (.int g)) σ1 = .ok (.next,ℓ') σ2):zj0 d (.int j) (.next,ℓ) σ = .ok (.go (.next,ℓ')) σ2:=by
 obtain q1:=L.s
 obtain q2:=L.d
 unfold bnd at hp
 have hr:z2v (.next,ℓ') σ2 = .ok (.go (.next,ℓ')) σ2:=rfl
 rcases hd with rfl | rfl
 ·by_cases hj:j < 2
  ·rw [if_pos ⟨rfl,hj⟩] at hp
   obtain hj:decide ((j:Int) < 2) = true:=decide_eq_true (Int.ofNat_lt.mpr hj)
   obtain ha:z4j .And (decide ((j:Int) < 2)) = false:=by rw [hj];rfl
   apply z5l rfl rfl rfl ?_ hr
   refine z0f rfl ?_ h
   exact z0g rfl rfl (z03 (z01 rfl (z0c rfl q1)) (z04 (z6s (z0t (z5t (z24 (z01 rfl (z0c rfl q2)) rfl) rfl (z1a (z24 (z01 rfl z10) rfl) (z49 ha z6d)))) (z7j rfl z0b)))) hp
  ·rw [if_neg (fun q=>hj q.2)] at hp
   obtain hj:decide ((j:Int) < 2) = false:=decide_eq_false fun q=>hj (Int.ofNat_lt.mp q)
   obtain ha:z4j .And (decide ((j:Int) < 2)) = true:=by rw [hj];rfl
   apply z5l rfl rfl rfl ?_ hr
   refine z0f rfl ?_ h
   exact z0g rfl rfl (z03 (z01 rfl (z0c rfl q1)) (z04 (z6s (z0t (z5t (z24 (z01 rfl (z0c rfl q2)) rfl) rfl (z1a (z24 (z01 rfl z10) rfl) (z48 ha)))) (z60 hj z0b)))) hp
 ·rw [if_neg (fun q=>absurd q.1 (by decide))] at hp
  apply z5l rfl rfl rfl ?_ hr
  refine z0f rfl ?_ h
  exact z0g rfl rfl (z03 (z01 rfl (z0c rfl q1)) (z04 (z6s (z0t (zac (z24 (z01 rfl (z0c rfl q2)) rfl) rfl)) (z60 rfl z0b)))) hp
structure zlw (st c bl:Nat) (deep:Int) (d j:Nat) (ℓ:Loc) (σ σ1:AS) (k':Int) (vs:List AV) (v:AV) (σ':AS):Prop where
 e:∃ ℓ',zj0 d (.int j) (.next,ℓ) σ = .ok (.go (.next,ℓ')) σ'∧LG ℓ' st bl deep
 b:σ'[bl]? = some (.list (vs++[v]))
 gi:GI st c σ' k'
 ex:Ex (fun i=>Mg st c i∨i = bl) σ1 σ'
theorem GI.setB (h:GI st c σ k) (hb:¬ Mg st c bl) {o:AO}:GI st c (σ.set bl o) k:=by
 refine z0e h.ce fun xs e l=>?_
 unfold Mg at hb
 exact ⟨by refine (z1n (by lia)).trans ?_;exact h.st,xs,by refine (z1n (by lia)).trans ?_;exact e,l⟩
theorem zqn (L:LG ℓ st bl deep) (hd:deep = 1∨deep = 2) (h1:GI st c σ1 k) (e1:z05 TT (d + 2) 1076 [.ref st,.int (bnd deep j)] σ = .ok (.int 0) σ1) (hb1:σ1[bl]? = some (.list vs)) (hbn:¬ Mg st c bl) (hvs:vs.length < 1000) :
  ∃ x σ',zlw st c bl deep (d + 2) j ℓ σ σ1 k vs (.tup [.str (S "note"),.str (nm x)]) σ':=by
 refine z27 (z4n (d:=d + 1) (b:=2) h1 (by decide) (by decide)) fun g σ2 e2 o2=>?_
 obtain hb2:=o2.ex.list hbn hb1
 obtain g0:=o2.g0
 obtain g1:=o2.g1
 obtain q1:=L.s
 obtain q3:=L.b
 obtain hv:vs.length < 100000:=Nat.lt_trans hvs (of_decide_eq_true rfl)
 refine ⟨g == 1,_,⟨?_,zd1 L hd e1 (zd0 rfl rfl ?e),?l⟩,z0d hb2,o2.gi.setB hbn,(o2.ex.mono fun uu=>.inl).trans (Ex.set (.inr rfl))⟩
 case e=>refine z0i (z24 (z01 rfl z10) rfl) (k_t rfl (z0s rfl (z0j rfl (z01 rfl (z0c rfl (z0c rfl q3))) (z16 hb1) (z04 (z11 (z03 z0h (z04 (z0m rfl z0h (z0g rfl rfl (z03 (z01 rfl (z0c rfl (z0c rfl q1))) z2t) e2) (zw5 g0 g1)))) rfl)) (z3e hb2 hv)) (z07 (z07 ?_))));exact z23
 case l=>exact (L.put rfl).put rfl
theorem zlx (L:LG ℓ st bl deep) (hd:deep = 1∨deep = 2) (h1:GI st c σ1 k) (e1:z05 TT (d + 2) 1076 [.ref st,.int (bnd deep j)] σ = .ok (.int 1) σ1) (hb1:σ1[bl]? = some (.list vs)) (hbn:¬ Mg st c bl) (hvs:vs.length < 1000) :
  ∃ br l ans σ',zlw st c bl deep (d + 2) j ℓ σ σ1 (k + 1) vs (.tup [.str (S "leave"),.int (k + 1),.str (z5k br),.ref l]) σ'∧IsL (fun i=>i < σ1.length) σ' l (ans.map .int)∧za0 ans:=by
 obtain hm:=h1.setM (k':=k + 1)
 obtain hm2:=hm.ex0 (Ex.app (τ:=[.list [.str (S "break"),.str (S "next")]]))
 refine z27 (z4n (d:=d + 1) (b:=2) hm2 (by decide) (by decide)) fun g σ2 e2 o2=>?_
 refine z4x (zbr (d:=d) o2.gi) fun l ans σ3 e3 o3=>?_
 obtain x1:Ex (Mg st c) σ1 (σ1.set st (.sd [(S "cells",.ref c),(S "mark",.int (k + 1))])++[.list [.str (S "break"),.str (S "next")]]):=(Ex.set (.inl rfl)).trans Ex.app
 obtain x13:=(x1.trans o2.ex).trans o3.ex
 obtain hb2:=(x1.trans o2.ex).list hbn hb1
 obtain hb3:=x13.list hbn hb1
 obtain g0:=o2.g0
 obtain g1:=o2.g1
 obtain q1:=L.s
 obtain q3:=L.b
 obtain hst:=h1.st
 obtain l1:=h1.len
 obtain n1:¬ Mg st c (σ1.set st (.sd [(S "cells",.ref c),(S "mark",.int (k + 1))])).length:=by rw [List.length_set];exact Mg.hi h1 (Nat.le_refl _)
 obtain hbk:=o2.ex.list n1 z0y
 obtain hv:vs.length < 100000:=Nat.lt_trans hvs (of_decide_eq_true rfl)
 obtain hlb:l ≠ bl:=fun q=>o3.l.2 (by
  have:=z1z hb1
  have:=(x1.trans o2.ex).1
  lia)
 refine ⟨g == 0,l,ans,_,⟨⟨?_,zd1 L hd e1 (zd0 rfl rfl ?e),?l⟩,z0d hb3,o3.gi.setB hbn,(x13.mono fun uu=>.inl).trans (Ex.set (.inr rfl))⟩,⟨by refine (z1n hlb.symm).trans ?_;exact o3.l.1,fun q=>o3.l.2 (Nat.lt_of_lt_of_le q (x1.trans o2.ex).1)⟩,o3.ok⟩
 case e=>refine z0i (z24 (z01 rfl z10) rfl) (k_f rfl (z0i (z24 (z01 rfl z10) rfl) (k_t rfl (z2a rfl (z1p (z2l (z01 rfl (z0c rfl (z0c rfl q1))) hst rfl) z0b rfl) (z01 rfl (z0c rfl (z0c rfl q1))) z0h (z7k hst (of_decide_eq_true rfl) rfl) (z0f rfl (z2l (z01 rfl (z0c rfl (z0c rfl q1))) (z0d hst) rfl) (z0f rfl (z0m rfl (z0p (z15 z3k) (of_decide_eq_true rfl) z1l z1k) (z0g rfl rfl (z03 (z01 rfl (z0c rfl (z0c rfl (z0c rfl q1)))) z2t) e2) (z3w hbk (of_decide_eq_true rfl) (zw6 g0 g1))) (z0s rfl (z0j rfl (z01 rfl (z0c rfl (z0c rfl (z0c rfl (z0c rfl q3))))) (z16 hb2) (z04 (z11 (z03 z0h (z03 (z01 rfl (z0c rfl z10)) (z03 (z01 rfl z10) (z04 (z0g rfl rfl (z04 (z01 rfl (z0c rfl (z0c rfl (z0c rfl (z0c rfl q1)))))) e3))))) rfl)) (z3e hb3 hv)) (z07 (z07 (z07 ?_))))))))));exact z23
 case l=>exact (((L.put rfl).put rfl).put rfl).put rfl
theorem zqo (L:LG ℓ st bl 1) (g2:2≤g) (e1:z05 TT (d + 2) 1076 [.ref st,.int (bnd 1 j)] σ = .ok (.int g) σ1) (e2:z05 TT (d + 2) 1093 [.ref st,.int 1] σ1 = .ok v σ2) (hb1:σ1[bl]? = some (.list vs)) (hb2:σ2[bl]? = some (.list vs)) (hbn:¬ Mg st c bl) (hvs:vs.length < 1000) (h2:GI st c σ2 k) (x:Ex (Mg st c) σ1 σ2) :
  zlw st c bl 1 (d + 2) j ℓ σ σ1 k vs v (σ2.set bl (.list (vs++[v]))):=by
 obtain q1:=L.s
 obtain q2:=L.d
 obtain q3:=L.b
 obtain c0:(g == 0) = false:=beq_eq_false_iff_ne.mpr (by lia)
 obtain c1:(g == 1) = false:=beq_eq_false_iff_ne.mpr (by lia)
 obtain hv:vs.length < 100000:=Nat.lt_trans hvs (of_decide_eq_true rfl)
 refine ⟨⟨?_,zd1 L (.inl rfl) e1 (zd0 rfl rfl ?e),?l⟩,z0d hb2,h2.setB hbn,(x.mono fun uu=>.inl).trans (Ex.set (.inr rfl))⟩
 case e=>refine z0i (z24 (z01 rfl z10) rfl) (k_f c0 (z0i (z24 (z01 rfl z10) rfl) (k_f c1 (z0s rfl (z0j rfl (z01 rfl (z0c rfl (z0c rfl q3))) (z16 hb1) (z04 (z0g rfl rfl (z03 (z01 rfl (z0c rfl (z0c rfl q1))) (z04 (z01 rfl (z0c rfl (z0c rfl q2))))) e2)) (z3e hb2 hv)) (z07 (z07 (z07 ?_)))))));exact z23
 case l=>exact (L.put rfl).put rfl
end
end
section
open PySem PySem.W
section
variable {s:Stm} {v:AV} {mid hi lo:Int}
variable {M:Nat→Prop} {σ:AS}
theorem TreeB.snoc (h1:TreeS M σ s v):∀ {l:List Stm} {vs:List AV},TreeB M σ l vs→TreeB M σ (l++[s]) (vs++[v])
 | [],_,h=>by subst h;exact ⟨v,[],rfl,h1,rfl⟩
 | _ :: _,_,⟨w,ws,e,e2,e3⟩=>⟨w,ws++[v],by rw [e];rfl,e2,TreeB.snoc h1 e3⟩
theorem zei (h1:wfS s):∀ {l:List Stm},wfB l→wfB (l++[s])
 | []=>fun uu=>⟨h1,trivial⟩
 | _ :: _=>fun h=>⟨h.1,zei h1 h.2⟩
theorem ztz (h:mkS mid hi s) (hl:lo≤mid):mkS lo hi s:=by
 cases s with
 | note x=>exact Int.le_trans hl h
 | leave m b a=>exact Int.le_trans hl h
 | loopF m x o p b=>exact ⟨Int.lt_of_le_of_lt hl h.1,h.2⟩
 | loopW m a b=>exact ⟨Int.lt_of_le_of_lt hl h.1,h.2⟩
theorem zej (h1:mkS mid hi s):∀ {l:List Stm} {lo:Int},mkB lo mid l→mkB lo hi (l++[s])
 | []=>fun h=>⟨hi,ztz h1 h,Int.le_refl _⟩
 | _ :: _=>fun zp1=>z0e zp1 fun m' a1 a2=>⟨m',a1,zej h1 a2⟩
theorem zbs {δ:Nat} (h1:zim s≤δ):∀ {l:List Stm},depB l≤δ→depB (l++[s])≤δ
 | []=>fun uu=>Nat.max_le.mpr ⟨h1,Nat.zero_le _⟩
 | _ :: _=>fun h=>Nat.max_le.mpr ⟨(Nat.max_le.mp h).1,zbs h1 (Nat.max_le.mp h).2⟩
theorem z97:∀ {l:List Stm},z0u (l++[s]) = z0u l + z3h s
 | []=>Nat.zero_add _ |>.symm ▸ (Nat.zero_add _)
 | a :: r=>by
  refine (?_:z0u (r++[s]) + z3h a = z0u r + z3h a + z3h s)
  rw [z97];exact Nat.add_right_comm (z0u r) (z3h s) (z3h a)
end
noncomputable def zly:Stm→Bool
 | .note _=>true
 | .leave _ _ _=>true
 | _=>false
structure StmO (st c:Nat) (σ:AS) (k:Int) (δ κ:Nat) (v:AV) (s:Stm) (σ':AS) (k':Int):Prop where
 gi:GI st c σ' k'
 ex:Ex (Mg st c) σ σ'
 tr:TreeS (fun i=>i < σ.length) σ' s v
 wf:wfS s
 mks:mkS k k' s
 dep:zim s≤δ
 cost:z3h s≤κ
 lf:zly s = false
structure zw7 (st c:Nat) (σ:AS) (k:Int) (δ κ bl:Nat) (vs:List AV) (l:List Stm) (σ':AS) (k':Int):Prop where
 gi:GI st c σ' k'
 ex:Ex (Mg st c) σ σ'
 bl:IsL (fun i=>i < σ.length) σ' bl vs
 tr:TreeB (fun i=>i < σ.length) σ' l vs
 wf:wfB l
 mks:mkB k k' l
 dep:depB l≤δ
 cost:z0u l≤κ
 len:l.length < 3900
section
variable {st c:Nat}
noncomputable def zlz (st c D:Nat) (deep:Int) (δ κ:Nat):Prop:=∀ σ k,GI st c σ k→∃ bl vs l σ' k',z05 TT D 1100 [.ref st,.int deep] σ = .ok (.ref bl) σ'∧zw7 st c σ k δ κ bl vs l σ' k'
noncomputable def zj1 (st c D:Nat) (deep:Int) (δ κ:Nat):Prop:=∀ σ k,GI st c σ k→∃ v s σ' k',z05 TT D 1093 [.ref st,.int deep] σ = .ok v σ'∧StmO st c σ k δ κ v s σ' k'
variable {D δ κ:Nat} {deep:Int} {σ σ1:AS} {k:Int} {M:Nat→Prop} {l:Nat} {xs:List AV} {g:Int}
theorem IsL.sub {n n':Nat} (x:n'≤n) (h:IsL (fun i=>i < n) σ l xs):IsL (fun i=>i < n') σ l xs:=⟨h.1,fun q=>h.2 (Nat.lt_of_lt_of_le q x)⟩
theorem Mg.lt (h:GI st c σ k):∀ i,Mg st c i→i < σ.length:=fun i hi=>by
 have:=h.len
 unfold Mg at hi;lia
theorem zu0 {most deep':Int} {σ2 σ3 σ4:AS} {o:Int} {p bl:Nat} (hd:(deep = 0∧most = 3∧deep' = 1)∨(deep = 1∧most = 2∧deep' = 2)) (g0:0≤g) (g1:g < 2) (h:σ[st]? = some (.sd [(S "cells",.ref c),(S "mark",.int k)]))
  (e1:z05 TT (D + 3) 1076 [.ref st,.int 2] (σ.set st (.sd [(S "cells",.ref c),(S "mark",.int (k + 1))])) = .ok (.int 0) σ1) (e2:z05 TT (D + 3) 1081 [.ref st,.int most] σ1 = .ok (.tup [.int o,.ref p]) σ2) (e3:z05 TT (D + 3) 1076 [.ref st,.int 2] σ2 = .ok (.int g) σ3) (e4:z05 TT (D + 3) 1100 [.ref st,.int deep'] σ3 = .ok (.ref bl) σ4) :
  z05 TT (D + 4) 1093 [.ref st,.int deep] σ = .ok (z4v (k + 1) (g == 1) o p bl) σ4:=by
 rcases hd with ⟨rfl,rfl,rfl⟩ | ⟨rfl,rfl,rfl⟩
 ·exact z19 rfl rfl (z2a rfl (z1p (z2l (z00 rfl) h rfl) z0b rfl) (z00 rfl) z0h (z7k h (of_decide_eq_true rfl) rfl) (z0f rfl (z2l (z00 rfl) (z0d h) rfl) (z0i (z08 (z0g rfl rfl (z1r rfl z2t) e1) z0b rfl) (k_t rfl (z0f rfl (z0g rfl rfl (z1r rfl (z04 (z6s (z24 (z00 rfl) rfl) (z7j rfl z0b)))) e2) (z0f rfl (z0m rfl z0h (z0g rfl rfl (z1r rfl z2t) e3) (zw5 g0 g1)) (z0k (z11 (z03 z0h (z03 (z00 rfl) (z03 (z00 rfl) (z03 (z00 rfl) (z04 (z0g rfl rfl (z1r rfl (z04 (z1p (z00 rfl) z0b rfl))) e4)))))) rfl)))))))) rfl
 ·exact z19 rfl rfl (z2a rfl (z1p (z2l (z00 rfl) h rfl) z0b rfl) (z00 rfl) z0h (z7k h (of_decide_eq_true rfl) rfl) (z0f rfl (z2l (z00 rfl) (z0d h) rfl) (z0i (z08 (z0g rfl rfl (z1r rfl z2t) e1) z0b rfl) (k_t rfl (z0f rfl (z0g rfl rfl (z1r rfl (z04 (z6s (z24 (z00 rfl) rfl) (z60 rfl z0b)))) e2) (z0f rfl (z0m rfl z0h (z0g rfl rfl (z1r rfl z2t) e3) (zw5 g0 g1)) (z0k (z11 (z03 z0h (z03 (z00 rfl) (z03 (z00 rfl) (z03 (z00 rfl) (z04 (z0g rfl rfl (z1r rfl (z04 (z1p (z00 rfl) z0b rfl))) e4)))))) rfl)))))))) rfl
theorem zm0 {deep':Int} {σ2 σ4:AS} {la bl:Nat} (hd:(deep = 0∧deep' = 1)∨(deep = 1∧deep' = 2)) (h:σ[st]? = some (.sd [(S "cells",.ref c),(S "mark",.int k)]))
  (e1:z05 TT (D + 3) 1076 [.ref st,.int 2] (σ.set st (.sd [(S "cells",.ref c),(S "mark",.int (k + 1))])) = .ok (.int 1) σ1) (e2:z05 TT (D + 3) 1086 [.ref st] σ1 = .ok (.ref la) σ2) (e4:z05 TT (D + 3) 1100 [.ref st,.int deep'] σ2 = .ok (.ref bl) σ4) :
  z05 TT (D + 4) 1093 [.ref st,.int deep] σ = .ok (z2r (k + 1) la bl) σ4:=by
 rcases hd with ⟨rfl,rfl⟩ | ⟨rfl,rfl⟩
 ·exact z19 rfl rfl (z2a rfl (z1p (z2l (z00 rfl) h rfl) z0b rfl) (z00 rfl) z0h (z7k h (of_decide_eq_true rfl) rfl) (z0f rfl (z2l (z00 rfl) (z0d h) rfl) (z0i (z08 (z0g rfl rfl (z1r rfl z2t) e1) z0b rfl) (k_f rfl (z07 (z0f rfl (z0g rfl rfl (z3r rfl) e2) (z0k (z11 (z03 z0h (z03 (z00 rfl) (z03 (z00 rfl) (z04 (z0g rfl rfl (z1r rfl (z04 (z1p (z00 rfl) z0b rfl))) e4))))) rfl)))))))) rfl
 ·exact z19 rfl rfl (z2a rfl (z1p (z2l (z00 rfl) h rfl) z0b rfl) (z00 rfl) z0h (z7k h (of_decide_eq_true rfl) rfl) (z0f rfl (z2l (z00 rfl) (z0d h) rfl) (z0i (z08 (z0g rfl rfl (z1r rfl z2t) e1) z0b rfl) (k_f rfl (z07 (z0f rfl (z0g rfl rfl (z3r rfl) e2) (z0k (z11 (z03 z0h (z03 (z00 rfl) (z03 (z00 rfl) (z04 (z0g rfl rfl (z1r rfl (z04 (z1p (z00 rfl) z0b rfl))) e4))))) rfl)))))))) rfl
end
end
section
open PySem PySem.W
section
variable {st c bl:Nat} {D δ κ d j m:Nat} {deep deep':Int} {σ σ' σ1 σ2:AS} {k k' k2:Int} {g:Int} {ℓ ℓ':Loc} {v:AV} {s:Stm} {vs:List AV} {l:List Stm}
theorem zn8 {most:Int} (hd:(deep = 0∧most = 3∧deep' = 1)∨(deep = 1∧most = 2∧deep' = 2)) (HB:zlz st c (D + 3) deep' δ κ):zj1 st c (D + 4) deep (δ + 1) (6 + 4 * (κ + 3)):=fun σ k h=>by
 refine z27 (z4n (d:=D + 2) (b:=2) (h.setM (k':=k + 1)) (by decide) (by decide)) fun g σ1 e1 o1=>?_
 have x01:Ex (Mg st c) σ σ1:=Ex.trans (Ex.set (.inl rfl)) o1.ex
 have lt:=Mg.lt h
 have g0:=o1.g0
 have g1:=o1.g1
 have hc:g = 0∨g = 1:=by lia
 rcases hc with rfl | rfl
 ·refine z3p (zty (d:=D + 1) (most:=most) o1.gi (hd.elim (fun h=>.inr h.2.1) fun h=>.inl h.2.1)) fun o p pk σ2 e2 o2=>?_
  refine z27 (z4n (d:=D + 2) (b:=2) o2.gi (by decide) (by decide)) fun g' σ3 e3 o3=>?_
  refine z59 (HB σ3 (k + 1) o3.gi) fun bl vs l σ4 k4 e4 o4=>?_
  obtain x24:=(o3.ex.trans o4.ex).mono lt
  obtain x03:=(x01.trans o2.ex).trans o3.ex
  refine ⟨_,.loopF (k + 1) (g' == 1) o pk l,σ4,k4,zu0 hd o3.g0 o3.g1 h.st e1 e2 e3 e4,o4.gi,x03.trans o4.ex,⟨p,bl,vs,rfl,(o2.l.sub x01.1).ex x24,o4.bl.sub x03.1,o4.tr.map fun uu uu=>IsL.sub x03.1⟩,⟨o2.ok,o4.len,o4.wf⟩,⟨Int.lt_succ k,o4.mks⟩,Nat.succ_le_succ o4.dep,?_,rfl⟩
  have:=o4.cost
  refine (?_:2 + (1 + 1 + z0u l + 1 + 1 + z0u l + 1 + 1 + z0u l + 1) + 2≤_)
  lia
 ·refine z4x (zbr (d:=D + 1) o1.gi) fun la ans σ2 e2 o2=>?_
  refine z59 (HB σ2 (k + 1) o2.gi) fun bl vs l σ4 k4 e4 o4=>?_
  have x02:=x01.trans o2.ex
  refine ⟨_,.loopW (k + 1) ans l,σ4,k4,zm0 (hd.imp (fun h=>⟨h.1,h.2.2⟩) fun h=>⟨h.1,h.2.2⟩) h.st e1 e2 e4,o4.gi,x02.trans o4.ex,⟨la,bl,vs,rfl,(o2.l.sub x01.1).ex (o4.ex.mono lt),o4.bl.sub x02.1,o4.tr.map fun uu uu=>IsL.sub x02.1⟩,⟨o2.ok,o4.len,o4.wf⟩,⟨Int.lt_succ k,o4.mks⟩,Nat.succ_le_succ o4.dep,?_,rfl⟩
  have:=o4.cost
  refine (?_:2 + (2 + 1 + z0u l + 2 + 1 + z0u l + 2 + 1 + z0u l + 2) + 1≤_)
  lia
section
theorem zqp (hd:deep = 1∨deep = 2) (e1:z05 TT (D + 2) 1076 [.ref st,.int (4 - deep)] (σ++[.list []]) = .ok (.int g) σ1) (hm:1 + g = (m:Int)) (m3:m < 3001)
  (hl:z1b (.rng m) (zj0 (D + 2)) z1i 0 (.next,[(S "store",.ref st),(S "deep",.int deep),(S "body",.ref σ.length)]) σ1 = .ok (.next,ℓ') σ2) (hb:look ℓ' (S "body") = some (.ref σ.length)):z05 TT (D + 3) 1100 [.ref st,.int deep] σ = .ok (.ref σ.length) σ2:=by
 obtain bm:zjm .Add (.int 1) (.int g) = some (.int m):=congrArg (fun i=>some (AV.int i)) hm
 have hl:z1b (.rng m) (z2f 101 1 (D + 2)) z1i 0 (.next,[(S "store",.ref st),(S "deep",.int deep),(S "body",.ref σ.length)]) σ1 = .ok (.next,ℓ') σ2:=hl
 rcases hd with rfl | rfl
 ·exact z19 rfl rfl (z0f rfl (z0p z0w (of_decide_eq_true rfl) z1l z1k) (z8j (z0r rfl rfl (z04 (z1p z0b (z0g rfl rfl (z1r rfl (z04 (z1p z0b (z00 rfl) rfl))) e1) bm)) (z86 m3)) hl rfl (z1u rfl rfl) (z0k (z01 rfl hb)))) rfl
 ·exact z19 rfl rfl (z0f rfl (z0p z0w (of_decide_eq_true rfl) z1l z1k) (z8j (z0r rfl rfl (z04 (z1p z0b (z0g rfl rfl (z1r rfl (z04 (z1p z0b (z00 rfl) rfl))) e1) bm)) (z86 m3)) hl rfl (z1u rfl rfl) (z0k (z01 rfl hb)))) rfl
end
structure zu1 (st c bl:Nat) (deep:Int) (σ1:AS) (k:Int) (δ κ j:Nat) (fl:z0o×Loc) (σ':AS) (vs:List AV) (l:List Stm) (k':Int):Prop where
 n:fl.1 = .next
 L:LG fl.2 st bl deep
 b:σ'[bl]? = some (.list vs)
 tr:TreeB (fun i=>i < bl + 1) σ' l vs
 wf:wfB l
 mks:mkB k k' l
 dep:depB l≤δ
 cost:z0u l≤j * κ
 vl:vs.length = j
 ll:l.length = j
 gi:GI st c σ' k'
 ex:Ex (fun i=>Mg st c i∨i = bl) σ1 σ'
noncomputable def BInv (st c bl:Nat) (deep:Int) (σ1:AS) (k:Int) (δ κ j:Nat) (fl:z0o×Loc) (σ':AS):Prop:=∃ vs l k',zu1 st c bl deep σ1 k δ κ j fl σ' vs l k'
theorem zd2 {σ0:AS} {fl:z0o×Loc} (I:zu1 st c bl deep σ0 k δ κ j fl σ vs l k2) (hb:∀ i,Mg st c i→i < bl) (x:Ex (Mg st c) σ σ1) (T:zlw st c bl deep d j fl.2 σ σ1 k' vs v σ') (tr:TreeS (fun i=>i < bl + 1) σ' s v) (wf:wfS s) (mks:mkS k2 k' s) (dp:zim s≤δ) (co:z3h s≤κ) :
  ∃ fl' σ',zj0 d (.int j) fl σ = .ok (.go fl') σ'∧BInv st c bl deep σ0 k δ κ (j + 1) fl' σ':=by
 refine z0e T.e fun ℓ' e L=>?_
 obtain ⟨f,ℓ⟩:=fl
 obtain hn:f = .next:=I.n
 subst hn
 obtain x2:Ex (fun i=>Mg st c i∨i = bl) σ σ':=(x.mono fun uu=>.inl).trans T.ex
 obtain sub:∀ i,(Mg st c i∨i = bl)→i < bl + 1:=fun i hi=>hi.elim (fun q=>Nat.lt_succ_of_lt (hb i q)) fun q=>q ▸ Nat.lt_succ_self _
 exact ⟨(.next,ℓ'),σ',e,vs++[v],l++[s],k',rfl,L,T.b,TreeB.snoc tr (I.tr.ex (x2.mono sub)),zei wf I.wf,zej mks I.mks,zbs dp I.dep,by rw [z97,Nat.succ_mul];exact Nat.add_le_add I.cost co,by rw [List.length_append,I.vl];rfl,by rw [List.length_append,I.ll];rfl,T.gi,I.ex.trans x2⟩
theorem zn9 (hd:deep = 1∨deep = 2) (hκ:3≤κ) (HL:deep = 1→zj1 st c (D + 2) 1 δ κ):zlz st c (D + 3) deep δ (3 * κ):=fun σ k h=>by
 have hb:=h.ex0 (Ex.app (τ:=[AO.list []]))
 refine z27 (z4n (d:=D + 1) (b:=4 - deep) hb (by lia) (by lia)) fun g σ1 e1 o1=>?_
 have g0:=o1.g0
 have g1:=o1.g1
 have lt:=Mg.lt h
 obtain ⟨m,hm⟩:∃ m:Nat,1 + g = m:=⟨(1 + g).toNat,by lia⟩
 have m3:m≤3:=by lia
 have hbn:¬ Mg st c σ.length:=fun q=>Nat.lt_irrefl _ (lt _ q)
 obtain l1:σ.length + 1≤σ1.length:=by have:=o1.ex.1;rw [List.length_append] at this;exact this
 obtain ⟨⟨f,ℓ'⟩,σ',e,vs,l,k',I⟩:=z7o (body:=zj0 (D + 2)) (m:=m) (BInv st c σ.length deep σ1 k δ κ) (fun j fl σ2 hj zm=>oEEEA zm fun vs l k2 I=>by
   have hbn0:0 < bnd deep j∧bnd deep j < 1000:=by unfold bnd;split <;> decide
   refine z27 (z4n (d:=D + 1) (b:=bnd deep j) I.gi hbn0.1 hbn0.2) fun gs σ3 e3 o3=>?_
   have s0:=o3.g0
   have hb3:=o3.ex.list hbn I.b
   have hv:vs.length < 1000:=by rw [I.vl];lia
   have l3:σ.length + 1≤σ3.length:=Nat.le_trans l1 (Nat.le_trans I.ex.1 o3.ex.1)
   by_cases q0:gs = 0
   ·subst q0
    refine z58 (zqn (d:=D) (j:=j) I.L hd o3.gi e3 hb3 hbn hv) fun x σ4 T=>?_
    exact zd2 (s:=.note x) I lt o3.ex T rfl trivial (Int.le_refl _) (Nat.zero_le _) (Nat.le_trans (show 2≤3 by decide) hκ)
   ·by_cases q1:gs = 1
    ·subst q1
     refine z6q (zlx (d:=D) (j:=j) I.L hd o3.gi e3 hb3 hbn hv) fun br la ans σ4 T a4 ok4=>?_
     exact zd2 (s:=.leave (k2 + 1) br ans) I lt o3.ex T ⟨la,rfl,a4.sub l3⟩ ok4 (by show k2≤k2 + 1;exact Int.le_add_of_nonneg_right s0) (Nat.zero_le _) hκ
    ·have hdj:deep = 1:=by
      rcases hd with h | h
      ·exact h
      ·subst h
       have:=o3.g1
       unfold bnd at this
       rw [if_neg (fun q=>absurd q.1 (by decide))] at this
       lia
     subst hdj
     refine z3p (HL rfl σ3 k2 o3.gi) fun v s σ4 k4 e4 o4=>?_
     obtain hb4:=o4.ex.list hbn hb3
     obtain T:=zqo (d:=D) (j:=j) I.L (by lia) e3 e4 hb3 hb4 hbn hv o4.gi o4.ex
     exact zd2 I lt o3.ex T ((o4.tr.map fun uu uu=>IsL.sub l3).ex (Ex.set (Nat.lt_succ_self _))) o4.wf o4.mks o4.dep o4.cost)
  z1i 0 (.next,[(S "store",.ref st),(S "deep",.int deep),(S "body",.ref σ.length)]) σ1 (by unfold z1i;lia) (Nat.zero_le _)
  ⟨[],[],k,rfl,⟨rfl,rfl,rfl⟩,o1.ex.list hbn z0y,rfl,trivial,Int.le_refl _,Nat.zero_le _,Nat.zero_le _,rfl,rfl,o1.gi,.refl⟩
 obtain hn:f = .next:=I.n
 subst hn
 have x1:Ex (Mg st c) σ σ1:=Ex.trans Ex.app o1.ex
 exact ⟨σ.length,vs,l,σ',k',zqp hd e1 hm (by lia) e I.L.b,I.gi,x1.fresh (I.ex.mono fun i hi=>hi.imp id fun (q:i = _)=>q ▸ Nat.le_refl _),⟨I.b,Nat.lt_irrefl _⟩,I.tr.map fun uu uu=>IsL.sub (Nat.le_succ _),I.wf,I.mks,I.dep,Nat.le_trans I.cost (Nat.mul_le_mul_right _ m3),by rw [I.ll];lia⟩
theorem zu2:zj1 st c (D + 6) 0 2 700:=fun σ k h=>by
 obtain b2:zlz st c (D + 3) 2 0 9:=zn9 (D:=D) (deep:=2) (δ:=0) (κ:=3) (.inr rfl) (Nat.le_refl _) (fun h=>by exact nomatch h)
 obtain l1:zj1 st c (D + 4) 1 1 54:=zn8 (D:=D) (most:=2) (.inr ⟨rfl,rfl,rfl⟩) b2
 obtain b1:zlz st c (D + 5) 1 1 162:=zn9 (D:=D + 2) (deep:=1) (δ:=1) (κ:=54) (.inl rfl) (by decide) (fun uu=>l1)
 obtain l0:zj1 st c (D + 6) 0 2 666:=zn8 (D:=D + 2) (most:=3) (.inl ⟨rfl,rfl,rfl⟩) b1
 refine z3p (l0 σ k h) fun v s σ' k' e o=>?_
 exact ⟨v,s,σ',k',e,{ o with cost:=Nat.le_trans o.cost (by decide) }⟩
end
end
section
open PySem PySem.W
noncomputable def RdEq (n:Nat) (σ:AS) (a b:AV):Prop:=∃ d,rd n σ a = some d∧rd n σ b = some d∧PyData.eqv d d = true
noncomputable def RdEqL (n:Nat) (σ:AS) (as bs:List AV):Prop:=∃ ds,z2m (as.map (rd n σ)) = some ds∧z2m (bs.map (rd n σ)) = some ds∧PyData.eqvAll ds ds = true
section
variable {n i j:Nat} {σ:AS} {a b:AV} {as bs xs ys:List AV} {M M':Nat→Prop} {t:z31} {os:List z1s} {e:Eff} {es:List Eff}
theorem RdEqL.nil:RdEqL n σ [] []:=⟨[],rfl,rfl,rfl⟩
theorem RdEqL.cons (h:RdEq n σ a b) (h2:RdEqL n σ as bs):RdEqL n σ (a :: as) (b :: bs):=by
 refine z1m h fun d h1 h2' h3=>?_
 refine z1m h2 fun ds k1 k2 k3=>?_
 refine ⟨d :: ds,?_,?_,?_⟩
 ·refine (?_:z2m (rd n σ a :: as.map (rd n σ)) = _)
  rw [h1];show (z2m (as.map (rd n σ))).map _ = _;rw [k1];rfl
 ·refine (?_:z2m (rd n σ b :: bs.map (rd n σ)) = _)
  rw [h2'];show (z2m (bs.map (rd n σ))).map _ = _;rw [k2];rfl
 ·refine (?_:(PyData.eqv d d && PyData.eqvAll ds ds) = true)
  rw [h3,k3];rfl
theorem RdEqL.of:∀ {xs ys:List AV},xs.length = ys.length→(∀ (k:Nat) (a b:AV),xs[k]? = some a→ys[k]? = some b→RdEq n σ a b)→RdEqL n σ xs ys
 | [],[],_,_=>.nil
 | a :: xs,b :: ys,hl,h=>.cons (h 0 a b rfl rfl) (RdEqL.of (Nat.succ.inj hl) fun k a b h1 h2=>h (k + 1) a b h1 h2)
theorem RdEq.tup (h:RdEqL n σ as bs):RdEq (n + 1) σ (.tup as) (.tup bs):=by
 refine z1m h fun ds k1 k2 k3=>?_
 refine ⟨.tuple ds,?_,?_,k3⟩
 ·show (z2m (as.map (rd n σ))).map _ = _;rw [k1];rfl
 ·show (z2m (bs.map (rd n σ))).map _ = _;rw [k2];rfl
theorem RdEq.list (h1:σ[i]? = some (.list xs)) (h2:σ[j]? = some (.list ys)) (h:RdEqL n σ xs ys):RdEq (n + 1) σ (.ref i) (.ref j):=by
 refine z1m h fun ds k1 k2 k3=>?_
 refine ⟨.list ds,?_,?_,k3⟩
 ·exact (congrArg (fun o=>Option.bind o _) (z61 h1)).trans (congrArg (Option.map _) k1)
 ·exact (congrArg (fun o=>Option.bind o _) (z61 h2)).trans (congrArg (Option.map _) k2)
theorem RdEq.int {z:Int}:RdEq n σ (.int z) (.int z):=⟨.int z,by cases n <;> rfl,by cases n <;> rfl,by exact beq_self_eq_true _⟩
theorem RdEq.bool {z:Bool}:RdEq n σ (.bool z) (.bool z):=⟨.bool z,by cases n <;> rfl,by cases n <;> rfl,by exact beq_self_eq_true _⟩
theorem zna {s:Str} (h:PyData.strOk s = true):rd n σ (.str s) = some (.str s):=by cases n <;> exact if_pos h
theorem RdEq.str {s:Str} (h:PyData.strOk s = true):RdEq n σ (.str s) (.str s):=⟨.str s,zna h,zna h,by exact beq_self_eq_true _⟩
theorem RdEq.leaf (h:leaf a = true):RdEq n σ a a:=by
 cases a with
 | none=>exact ⟨.none,by cases n <;> rfl,by cases n <;> rfl,rfl⟩
 | int i=>exact .int
 | str s=>exact .str h
 | _=>cases h
theorem RdEqL.leaf:∀ {xs:List AV},xs.all Mine.leaf = true→RdEqL n σ xs xs
 | []=>fun uu=>.nil
 | a :: xs=>fun h=>by
  rw [List.all_cons] at h
  have h:=Bool.and_eq_true_iff.mp h
  exact .cons (.leaf h.1) (RdEqL.leaf h.2)
theorem RdEq.eq (h:RdEq 8 σ a b):eqA σ a b = some true:=by
 obtain ⟨d,h1,h2,h3⟩:=h
 unfold eqA;rw [h1,h2];dsimp only;rw [h3]
theorem zj2 (h1:TRep M σ a t) (h2:TRep M' σ b t) (g:TOk t):RdEq (n + 2) σ a b:=by
 refine z1m h1 fun l zr01 e1 uu=>?_;obtain rfl:=zr01
 refine z1m h2 fun l' zr11 e2 uu=>?_;obtain rfl:=zr11
 exact .tup (.cons (.str g.1) (.cons (.list e1 e2 (.leaf g.2.1)) .nil))
theorem z6v:∀ {os:List z1s},RdEqL (n + 1) σ (os.map z3j) (os.map z3j)
 | []=>.nil
 | o :: os=>.cons (.tup (.cons .int (.cons .int (.cons .int .nil)))) z6v
theorem zu3 (h1:EffRep M σ a e) (h2:EffRep M' σ b e) (g:zfo e):RdEq (n + 4) σ a b:=by
 induction e with
 | note x t f o s =>
  refine z47 h1 fun tv l zr02 t1 o1 uu=>?_;obtain rfl:=zr02
  refine z47 h2 fun tv' l' zr12 t2 o2 uu=>?_;obtain rfl:=zr12
  exact .tup (.cons (.str z02) (.cons (.str (by cases x <;> exact z02)) (.cons (zj2 t1 t2 g) (.cons .int (.cons (.list o1 o2 z6v) (.cons .int .nil))))))
 | gave m f o s =>
  refine z1m h1 fun l zr21 o1 uu=>?_;obtain rfl:=zr21
  refine z1m h2 fun l' zr31 o2 uu=>?_;obtain rfl:=zr31
  exact .tup (.cons (.str z02) (.cons .int (.cons (.str z02) (.cons .bool (.cons .int (.cons (.list o1 o2 z6v) (.cons .int .nil)))))))
theorem zu4 (h1:σ[i]? = some (.list xs)) (h2:σ[j]? = some (.list ys)) (a1:EffAll M σ xs es) (a2:EffAll M' σ ys es) (g:∀ e∈es,zfo e):eqA σ (.ref i) (.ref j) = some true :=
 RdEq.eq (.list h1 h2 (.of (a1.1.trans a2.1.symm) fun k a b ha hb=>by
  obtain hk:k < es.length:=a1.1 ▸ (List.getElem?_eq_some_iff.mp ha).1
  exact zu3 (n:=3) (a1.2 k a _ ha (List.getElem?_eq_getElem hk)) (a2.2 k b _ hb (List.getElem?_eq_getElem hk)) (g _ (List.getElem_mem hk))))
theorem zm1 (h1:σ[i]? = some (.list (os.map z3j))) (h2:σ[j]? = some (.list (os.map z3j))):eqA σ (.ref i) (.ref j) = some true:=RdEq.eq (.list h1 h2 z6v)
theorem zj3 (h1:TRep M σ a t) (h2:TRep M' σ b t) (g:TOk t):eqA σ a b = some true:=RdEq.eq (zj2 (n:=6) h1 h2 g)
theorem zj4 (h1:σ[i]? = some (.list xs)) (h2:σ[j]? = some (.list xs)) (g:xs.all leaf = true):eqA σ (.ref i) (.ref j) = some true:=RdEq.eq (.list h1 h2 (.leaf g))
end
end
section
open PySem PySem.W
noncomputable def z3v (i:Nat):List Stmt:=(fiS (stm 112)).body.drop i
section
variable {d i n st c cd cn rw kc it itn en gl rn E fr n0 n1 sc:Nat} {σ σ' σ1 σ2 σ2a σ3 σ3a σ6 σ8 σ9 σ10 σ11 σ13 σ15 σ17:AS} {ℓ ℓ':Loc} {R:Res (z0o×Loc)} {v w y a b:AV} {s0 s1 s2 s3 s4 s5 s6 s7 s8 s9 s10 s11 s12 s13 s14:Stmt} {r bd:List Stmt} {po as va ko kd kw dfs kk nm0 g0 c0 m0}
 {K Rw:List AV} {cfs cfs' ifs kvs:List (Str×AV)} {ws:Str} {I:z1q} {xs:List Int} {z:Int}
theorem zu5 (h0:fnV (stm 112) = some (⟨po,as,va,ko,kd,kw,dfs⟩,bd,⟨kk,nm0,g0,c0,m0⟩)) (h1:bd = s0 :: r) (h:z0v [r] (IE d nm0 true) ℓ σ = R):z0v [z3v 1] (IE d (fiS (stm 112)).sc true) ℓ σ = R:=by
 unfold z3v fiS;rw [h0];dsimp only [zbx];exact h1 ▸ h
theorem zj5 (h0:fnV (stm 112) = some (⟨po,as,va,ko,kd,kw,dfs⟩,bd,⟨kk,nm0,g0,c0,m0⟩)) (h1:bd = s0 :: s1 :: s2 :: s3 :: s4 :: s5 :: s6 :: s7 :: s8 :: s9 :: s10 :: s11 :: s12 :: s13 :: s14 :: r) (h:z0v [r] (IE d nm0 true) ℓ σ = R):z0v [z3v 15] (IE d (fiS (stm 112)).sc true) ℓ σ = R:=by
 unfold z3v fiS;rw [h0];dsimp only [zbx];rw [h1];exact h
noncomputable def l1 (sc st:Nat):Loc:=[(S "script",.raw (.ref sc)),(S "store",.ref st)]
noncomputable def l8 (sc st:Nat) (v:AV) (cd E it en:Nat):Loc:=[(S "script",.raw (.ref sc)),(S "store",.ref st),(S "loop",v),(S "code",.ref cd),(S "ends",.ref E),(S "interp",.ref it),(S "env",.ref en)]
noncomputable def l9 (sc st:Nat) (v:AV) (cd E it en:Nat):Loc:=[(S "script",.raw (.ref sc)),(S "store",.ref st),(S "loop",v),(S "code",.ref cd),(S "ends",.ref E),(S "interp",.ref it),(S "env",.ref en),(S "name",.str (S "y"))]
noncomputable def l14 (sc st:Nat) (v:AV) (cd E it en rn ef:Nat) (w:Str) (r:Nat) (y:AV) (z:String):Loc:=[(S "script",.raw (.ref sc)),(S "store",.ref st),(S "loop",v),(S "code",.ref cd),(S "ends",.ref E),(S "interp",.ref it),(S "env",.ref en),(S "name",.str (S z)),(S "run_state",.ref rn),(S "effects",.ref ef),(S "words",.str w),(S "state",.ref (r + 6)),(S "way",y)]
noncomputable def zek (r E:Nat) (v:AV):List AO:=[.list [.str (S "x")],.list [.str (S "y")],.sd [(S "x",.tup [.str (S "character"),.ref r]),(S "y",.tup [.str (S "character"),.ref (r + 1)])],.list [],.list [],.sd [],.sd (stF r E 0 0),.list [v]]
section
theorem zw8 {X σ7:AS} {E:Nat} (e1:z05 TT d 1093 [.ref st,.int 0] σ1 = .ok v σ2) (e2:z05 TT d 380 [] σ2 = .ok (.ref n0) σ2a) (e3:z05 TT d 827 [.ref n0] σ2a = .ok (.ref cd) σ3)
  (c1:σ3[cd]? = some (.inst 827 cn)) (c2:σ3[cn]? = some (.ns cfs)) (c3:look cfs (S "consts") = some (.ref kc)) (c4:σ3[kc]? = some (.list K)) (e4:z05 TT d 380 [] σ3 = .ok (.ref n1) σ3a) (c5:σ3a[kc]? = some (.list K)) (c6:K.length < 100000)
  (hX:σ3a.set kc (.list (K++[.ref n1])) = X) (hE:X.length = E) (e5:z05 TT d 1133 [.ref cd,v,.ref (E + 1),.ref E] (X++[.sd [],.list []]) = .ok .none σ6)
  (d1:σ6[cd]? = some (.inst 827 cn)) (d2:σ6[cn]? = some (.ns cfs')) (d3:look cfs' (S "rows") = some (.ref rw)) (d4:σ6[rw]? = some (.list Rw)) (d5:Rw.length < 100000) (h7:σ6.set rw (.list (Rw++[.tup [.str (S "end")]])) = σ7)
  (e7:z05 TT d 1058 [] σ7 = .ok (.ref it) σ8) (i1:σ8[it]? = some (.inst 1058 itn)) (i2:σ8[itn]? = some (.ns ifs)) (i3:look ifs (S "globals") = some (.ref gl)) (e8:z05 TT d 874 [.ref it,.ref gl] σ8 = .ok (.ref en) σ9)
  (e9:z1b (.str (S "xy")) (z2f 112 9 d) z1i 0 (.next,l8 sc st v cd E it en) σ9 = .ok (.next,l9 sc st v cd E it en) σ10)
  (e10:z05 TT d 736 [.ref cd,.ref en] σ10 = .ok (.ref rn) σ11) {ef:Nat} (he:σ11.length = ef) (e12:z05 TT d 1140 [.ref it,.ref rn,.ref ef] (σ11++[.list []]) = .ok (.str ws) σ13)
  {q:Nat} (hq:σ13.length = q) (e14:z05 TT d 1166 [.ref (q + 6),.ref (q + 7)] (σ13++zek q E v) = .ok y σ15)
  (h:z0v [z3v 15] (IE d (fiS (stm 112)).sc true) (l14 sc st v cd E it en rn ef ws q y "y") σ15 = R):z0v [z3v 1] (IE d (fiS (stm 112)).sc true) (l1 sc st) σ1 = R:=by
 subst hX;subst hE;subst h7;subst he;subst hq
 apply zu5 rfl rfl
 exact z0f rfl (z0g rfl rfl (z1r rfl z2t) e1) (z0f rfl (z0g rfl rfl (z04 (z0g rfl rfl z0w e2)) e3) (z0s rfl (z0j rfl (z1x rfl c1 c2 c3 rfl) (z16 c4) (z04 (z0g rfl rfl z0w e4)) (z3e c5 c6)) (z0f rfl (z5f rfl z5g rfl z1l z1k) (z0s rfl (z0g rfl rfl (z1r rfl (z1r rfl (z03 (z0p z0w (of_decide_eq_true rfl) (z22 rfl) (z1f rfl)) (z3r rfl)))) e5) (z0s rfl (z0j rfl (z1x rfl d1 d2 d3 rfl) (z16 d4) (z04 (z11 z3k rfl)) (z3e d4 d5)) (z0f rfl (z0g rfl rfl z0w e7) (z0f rfl (z0j rfl (z00 rfl) (zhy i1 i2 rfl) (z04 (z1x rfl i1 i2 i3 rfl)) (zss e8)) (z8j z0h e9 rfl (z1u rfl rfl) (z0f rfl (z0g rfl rfl (z1r rfl (z3r rfl)) e10) (z0f rfl (z0p z0w (of_decide_eq_true rfl) z1l z1k) (z0f rfl (z0g rfl rfl (z1r rfl (z1r rfl (z3r rfl))) e12) (z0f rfl (z5f rfl (z2w rfl (z5f rfl (z2w rfl (z11 (z15 (z04 (z0p z3k (of_decide_eq_true rfl) z1l z1k))) rfl) (z2w rfl (z11 (z15 (z04 (z0p z3k (of_decide_eq_true rfl) (z22 rfl) (z1f rfl)))) rfl) z5g)) rfl (z22 rfl) (z1f rfl)) (z2w rfl z0b (z2w rfl (z0p z0w (of_decide_eq_true rfl) (z22 rfl) (z1f rfl)) (z2w rfl z0b (z2w rfl (z0p z0w (of_decide_eq_true rfl) (z22 rfl) (z1f rfl)) (z2w rfl (z5f rfl z5g rfl (z22 rfl) (z1f rfl)) (z2w rfl (z00 rfl) z5g))))))) rfl (z22 rfl) (z1f rfl)) (z0f rfl (z0g rfl rfl (z1r rfl (z04 (z0p (z3r rfl) (of_decide_eq_true rfl) (z22 rfl) (z1f rfl)))) e14) h)))))))))))))
theorem zu6:∃ F:AV→AS→Res AV,(∀ (xs:List Int) c σ0 ℓ' σ',zun sc = some xs→xs.length≤63→z3y (.ref σ.length) F (σ++[.list ((xs.map .int).take 40)]) = .ok (.ref c) σ0→z0v [z3v 1] (IE d (fiS (stm 112)).sc true) (l1 sc σ0.length) (σ0++[.sd [(S "cells",.ref c),(S "mark",.int 0)]]) = .ok (.ret v,ℓ') σ'→z05 TT (d + 1) 1171 [.raw (.ref sc)] σ = .ok v σ') ∧
  ∀ z σ1,F (.int z) σ1 = .ok (.int (Int.fmod z (10 ^ 50))) σ1 :=
 ⟨_,fun xs c σ0 ℓ' σ' hz hl hc h=>by
  have ct:zr6 (IE d (fiS (stm 112)).sc true) σ (.raw (.ref sc)) 40 = .ok (.ref σ.length) (σ++[.list ((xs.map .int).take 40)]):=by
   unfold zr6
   rw [show zv6 (IE d (fiS (stm 112)).sc true) σ (.raw (.ref sc)) = some (xs.map .int) by show (zun sc).map _ = _;rw [hz];rfl]
   refine (?_:zv5 σ (xs.map .int) 40 = _)
   unfold zv5 zjo
   rw [if_pos ⟨by decide,by rw [List.length_map];lia⟩,if_pos (by rw [List.length_take];have:((40:Int).toNat) = 40:=rfl;lia)];rfl
  apply z19 rfl rfl
  ·refine z0f rfl ?_ h
   exact z5f rfl (z2w rfl (z2u rfl rfl (zvj rfl rfl (z00 rfl) ct) hc) (z2w rfl z0b z5g)) rfl z1l z1k
  ·rfl,fun z σ1=>by
  obtain p50:(0:Int) < 10 ^ 50:=by decide
  exact z1p (z00 rfl) (z1p z0b z0b rfl) (ziz p50)⟩
end
end
end
section
open PySem PySem.W
theorem zel {β:Type} {body:AV→β→AS→Res (Ctl β)} {b b1 b2:β} {σ σ1 σ2:AS} (e1:body (.str (S "x")) b σ = .ok (.go b1) σ1) (e2:body (.str (S "y")) b1 σ1 = .ok (.go b2) σ2):z1b (.str (S "xy")) body z1i 0 b σ = .ok b2 σ2:=by
 have d0:z44 σ 0 (.str (S "xy")) = some (some (.str (S "x"))):=by
  refine (?_:some (some (AV.str ⟨#[120]⟩)) = _)
  rw [show (⟨#[120]⟩:Str) = S "x" by decide +kernel]
 have d1:z44 σ1 1 (.str (S "xy")) = some (some (.str (S "y"))):=by
  refine (?_:some (some (AV.str ⟨#[121]⟩)) = _)
  rw [show (⟨#[121]⟩:Str) = S "y" by decide +kernel]
 have d2:z44 σ2 2 (.str (S "xy")) = some none:=rfl
 refine (?_:z1b (.str (S "xy")) body (3997 + 3) 0 b σ = _)
 exact (zfg d0 e1).trans ((zfg d1 e2).trans (zdo d2))
section
variable {d i n st c cd E it itn en ea eb rn fr gl ge gf sc r ef sk lp sl:Nat} {σ σ' σ1 σ2 σ9 σa σb σ15 σ16 σ17:AS} {ℓ ℓ':Loc} {v w y a b vx vy tx ty hx hy:AV} {kvs efs ifs rfs gfs:List (Str×AV)} {ws:Str} {I:z1q} {z:Int} {t1 t2:Nat} {xs:List AV}
theorem za9 (h:eqA σ a b = some true):z8b σ .NotEq a b = some false:=by
 refine (?_:(eqA σ a b).map _ = _)
 rw [h];rfl
theorem zu7:z8b σ .NotEq (.int z) (.int z) = some false:=za9 (RdEq.eq .int)
theorem zw9 (h:eqA σ a b = some true):z8b σ .Eq a b = some true:=h
theorem zem {v w:AV} (h:σ[i]? = some (.sd [(S "x",v),(S "y",w)])) (ha:At σ 0 n) (hn:App σ [.list [.str (S "x"),.str (S "y")]] σ'):z6h I (.builtin "sorted") [.ref i] σ = .ok (.ref n) σ':=by
 refine (?_:zuz σ (.ref i) = _)
 refine (?_:(if xyO σ[i]? = true then _ else _) = _)
 rw [h,if_pos (show xyO _ = true from rfl),ha,← hn];rfl
theorem znb {kvs:List (Str×AV)} (h:σ[i]? = some (.sd kvs)) (hl:kvs.length < 1000000):z6h I (.builtin "len") [.ref i] σ = .ok (.int kvs.length) σ:=by
 exact of_of (by show (zrf σ[i]?).bind _ = _;exact h ▸ if_pos hl)
section
theorem zwa (h1:σ9[en]? = some (.inst 327 ea)) (h2:σ9[ea]? = some (.ns efs)) (h3:look efs (S "frame") = some (.ref fr)) (e1:z05 TT d 421 [.str (S "x")] σ9 = .ok (.ref t1) σa) (a1:σa[en]? = some (.inst 327 ea)) (a2:σa[ea]? = some (.ns efs)) (a4:σa[fr]? = some (.sd []))
  (e2:z05 TT d 421 [.str (S "y")] (σa.set fr (.sd [(S "x",.ref t1)])) = .ok (.ref t2) σb) (b1:σb[en]? = some (.inst 327 ea)) (b2:σb[ea]? = some (.ns efs)) (b4:σb[fr]? = some (.sd [(S "x",.ref t1)])) :
  z1b (.str (S "xy")) (z2f 112 9 d) z1i 0 (.next,l8 sc st v cd E it en) σ9 = .ok (.next,l9 sc st v cd E it en) (σb.set fr (.sd [(S "x",.ref t1),(S "y",.ref t2)])):=by
 refine zel (b1:=(.next,l8 sc st v cd E it en++[(S "name",.str (S "x"))])) (σ1:=σa.set fr (.sd [(S "x",.ref t1)])) ?_ ?_
 ·unfold l8
  exact z5l rfl rfl rfl (z2a rfl (z0g rfl rfl (z3r rfl) e1) (z1x rfl a1 a2 h3 rfl) (z00 rfl) (z7k a4 (of_decide_eq_true rfl) rfl) (z07 z23)) rfl
 ·unfold l8 l9
  exact z5l rfl rfl rfl (z2a rfl (z0g rfl rfl (z3r rfl) e2) (z1x rfl b1 b2 h3 rfl) (z00 rfl) (z7k b4 (of_decide_eq_true rfl) rfl) (z07 z23)) rfl
theorem zu8 (h1:σ[en]? = some (.inst 327 ea)) (h2:σ[ea]? = some (.ns efs)) (h3:look efs (S "frame") = some (.ref fr)) (h4:σ[fr]? = some (.sd [(S "x",vx),(S "y",vy)])) (e1:z05 TT d 1126 [vx] σ = .ok tx σa)
  (s6:σa[r + 6]? = some (.sd kvs)) (s7:look kvs (S "held") = some (.ref (r + 2))) (s2:σa[r + 2]? = some (.sd [(S "x",hx),(S "y",hy)])) (q1:eqA σa tx hx = some true)
  (a1:σa[en]? = some (.inst 327 ea)) (a2:σa[ea]? = some (.ns efs)) (a4:σa[fr]? = some (.sd [(S "x",vx),(S "y",vy)])) (e2:z05 TT d 1126 [vy] σa = .ok ty σb)
  (t6:σb[r + 6]? = some (.sd kvs)) (t2:σb[r + 2]? = some (.sd [(S "x",hx),(S "y",hy)])) (q2:eqA σb ty hy = some true) :
  z1b (.str (S "xy")) (z2f 112 17 d) z1i 0 (.next,l14 sc st v cd E it en rn ef ws r y "y") σ = .ok (.next,l14 sc st v cd E it en rn ef ws r y "y") σb:=by
 refine zel (b1:=(.next,l14 sc st v cd E it en rn ef ws r y "x")) (σ1:=σa) ?_ ?_
 ·unfold l14
  exact z5l rfl rfl rfl (z0i (z08 (z0g rfl rfl (z04 (z0m rfl (z1x rfl h1 h2 h3 rfl) (z00 rfl) (zdn h4 rfl))) e1) (z0m rfl (z2l (z00 rfl) s6 s7) (z00 rfl) (zdn s2 rfl)) (za9 q1)) (k_f rfl (z07 (z07 z23)))) rfl
 ·unfold l14
  exact z5l rfl rfl rfl (z0i (z08 (z0g rfl rfl (z04 (z0m rfl (z1x rfl a1 a2 h3 rfl) (z00 rfl) (zdn a4 rfl))) e2) (z0m rfl (z2l (z00 rfl) t6 s7) (z00 rfl) (zdn t2 rfl)) (za9 q2)) (k_f rfl (z07 (z07 z23)))) rfl
end
end
end
section
open PySem PySem.W
section
variable {d i n st c cd E it itn en ea eb rn rna fr gl ge gf sc r ef sk lp sl:Nat} {σ σ' σ1 σ2 σ9 σa σb σ15 σ16 σ17:AS} {ℓ ℓ':Loc} {v w y a b vx vy tx ty hx hy:AV} {kvs efs ifs ifs' rfs gfs:List (Str×AV)} {ws:Str} {I:z1q} {z:Int} {t1 t2:Nat} {xs:List AV}
theorem zwb (qe:eqA σ15 (.ref ef) (.ref (r + 4)) = some true) (s6:σ15[r + 6]? = some (.sd (stF r E z i)))
  (h1:σ15[en]? = some (.inst 327 ea)) (h2:σ15[ea]? = some (.ns efs)) (h3:look efs (S "frame") = some (.ref fr)) (h4:σ15[fr]? = some (.sd [(S "x",vx),(S "y",vy)]))
  (i1:σ15[it]? = some (.inst 1058 itn)) (i2:σ15[itn]? = some (.ns ifs)) (i3:look ifs (S "globals") = some (.ref gl)) (g1:σ15[gl]? = some (.inst 327 ge)) (g2:σ15[ge]? = some (.ns gfs)) (g3:look gfs (S "frame") = some (.ref gf)) (g4:σ15[gf]? = some (.sd []))
  (qs:eqA (σ15++[.list [.str (S "x"),.str (S "y")],.list [.str (S "x"),.str (S "y")]]) (.ref σ15.length) (.ref (σ15.length + 1)) = some true)
  (e17:z1b (.str (S "xy")) (z2f 112 17 d) z1i 0 (.next,l14 sc st v cd E it en rn ef ws r y "y") (σ15++[.list [.str (S "x"),.str (S "y")],.list [.str (S "x"),.str (S "y")]]) = .ok (.next,l14 sc st v cd E it en rn ef ws r y "y") σ17)
  (r1:σ17[rn]? = some (.inst 736 rna)) (r2:σ17[rna]? = some (.ns rfs)) (r3:look rfs (S "loops") = some (.ref lp)) (qo:eqA σ17 (.ref lp) (.ref (r + 3)) = some true) (j1:σ17[it]? = some (.inst 1058 itn)) (j2:σ17[itn]? = some (.ns ifs')) (j3:look ifs' (S "steps") = some (.int z)) (t6:σ17[r + 6]? = some (.sd (stF r E z i)))
  (r4:look rfs (S "stack") = some (.ref sk)) (hy:(y = .none∧ws = S ""∧eqA (σ17++[.list []]) (.ref sk) (.ref σ17.length) = some true)∨(y = .str ws∧PyData.strOk ws = true)) :
  ∃ ℓ' σ',z0v [z3v 15] (IE d (fiS (stm 112)).sc true) (l14 sc st v cd E it en rn ef ws r y "y") σ15 = .ok (.ret (.bool true),ℓ') σ':=by
 rcases hy with ⟨rfl,rfl,qk⟩ | ⟨rfl,ok⟩
 ·refine ⟨l14 sc st v cd E it en rn ef (S "") r .none "y",σ17++[.list []],?e⟩
  case e =>
   apply zj5 rfl rfl
   exact k_z (z0t (z5t (z4u (z00 rfl) rfl) rfl (z5t (z08 (z00 rfl) (z6s (z4u (z00 rfl) rfl) (z7j rfl z0h)) (z56 z02 z02)) rfl (z92 (z08 (z00 rfl) (z2l (z00 rfl) s6 rfl) (za9 qe)) rfl)))) (k_z (z0t (z5t (z08 (z0r rfl rfl (z04 (z1x rfl h1 h2 h3 rfl)) (zem h4 z1l z1k)) (z0p (z15 z3k) (of_decide_eq_true rfl) (z22 rfl) (z1f rfl)) (za9 qs)) rfl (z92 (z24 (z0r rfl rfl (z04 (z6c (z1x rfl (z0n i1) (z0n i2) i3 rfl) (z2k (z0n g1) (z0n g2) g3 rfl))) (znb (z0n g4) (of_decide_eq_true rfl))) rfl) rfl))) (z8j z0h e17 rfl (z1u rfl rfl) (k_z (z0t (z5t (z08 (z1x rfl r1 r2 r3 rfl) (z2l (z00 rfl) t6 rfl) (za9 qo)) rfl (z92 (z08 (z1x rfl j1 j2 j3 rfl) (z2l (z00 rfl) t6 rfl) zu7) rfl))) (z0k (zoz (zcd (zce (z00 rfl) z0l rfl) (zse rfl (zmq (zce (z1x rfl r1 r2 r4 rfl) (z0p z0w (of_decide_eq_true rfl) z1l z1k) (zw9 qk))))))))))
 ·obtain c1:z4j .Or (!(ws == ws)) = false:=by rw [beq_self_eq_true];rfl
  refine ⟨?_,?_,?e2⟩
  case e2 =>
   apply zj5 rfl rfl
   refine k_z (z0t (z5t (z4u (z00 rfl) rfl) rfl (z1a (z08 (z00 rfl) (z6s (z4u (z00 rfl) rfl) (z60 rfl (z00 rfl))) (z56 ok ok)) (z49 c1 (z92 (z08 (z00 rfl) (z2l (z00 rfl) s6 rfl) (za9 qe)) rfl))))) (k_z (z0t (z5t (z08 (z0r rfl rfl (z04 (z1x rfl h1 h2 h3 rfl)) (zem h4 z1l z1k)) (z0p (z15 z3k) (of_decide_eq_true rfl) (z22 rfl) (z1f rfl)) (za9 qs)) rfl (z92 (z24 (z0r rfl rfl (z04 (z6c (z1x rfl (z0n i1) (z0n i2) i3 rfl) (z2k (z0n g1) (z0n g2) g3 rfl))) (znb (z0n g4) (of_decide_eq_true rfl))) rfl) rfl))) (z8j z0h e17 rfl (z1u rfl rfl) (k_z (z0t (z5t (z08 (z1x rfl r1 r2 r3 rfl) (z2l (z00 rfl) t6 rfl) (za9 qo)) rfl (z92 (z08 (z1x rfl j1 j2 j3 rfl) (z2l (z00 rfl) t6 rfl) zu7) rfl))) ?_)));exact rfl
end
end
section
open PySem PySem.W
section
variable {d r i n b:Nat} {σ σ' σ1:AS} {P:Pm} {Q:Str→AS→Prop} {I:z1q} {s:Stm} {e:z5n} {R K:List AV} {v:AV} {m:Int} {x:Bool} {ts:List z31} {g:PSt→Out} {ans:List Int} {l:List Stm} {en:Int→Nat×Nat} {a:PSt} {τ:AS} {o:AO}
theorem zm2:z6h I (.type "range") [.int 3000] σ = .ok (.rng 3000) σ:=z86 (n:=3000) (of_decide_eq_true rfl)
section
theorem zj6 {w:Str} {it rn ef:Nat} {ℓ':Loc} (hl:z1b (.rng 3000) (z2f 107 1 d) z1i 0 (.next,[(S "interp",.ref it),(S "run",.ref rn),(S "effects",.ref ef),(S "asked",.ref σ.length)]) (σ++[.sd []]) = .ok (.ret (.str w),ℓ') σ'):z05 TT (d + 1) 1140 [.ref it,.ref rn,.ref ef] σ = .ok (.str w) σ':=by exact z19 rfl rfl (z0f rfl (z5f rfl z5g rfl z1l z1k) (ze7 (z0r rfl rfl (z04 z0b) zm2) hl rfl (z1u rfl rfl))) rfl
end
theorem zu9 (L:σ.length = P.b + 30) (hr:r≤3000) (h:WP d r [(S "interp",.ref (P.b + 1)),(S "run",.ref (P.b + 26)),(S "effects",.ref (P.b + 29)),(S "asked",.ref (P.b + 30))] (σ++[.sd []]) Q):∃ w σ',z05 TT (d + 1) 1140 [.ref (P.b + 1),.ref (P.b + 26),.ref (P.b + 29)] σ = .ok (.str w) σ'∧Q w σ':=by
 refine z4x (h 0 z1i (by rw [Nat.zero_add];exact hr) (Nat.lt_of_le_of_lt hr (of_decide_eq_true rfl))) fun w ℓ' σ' e q=>?_
 rw [← L] at e
 exact ⟨w,σ',zj6 e,q⟩
noncomputable def z8l:Out→Prop
 | (.fall,_)=>True
 | (.ref _,_)=>True
 | _=>False
theorem zen:∀ {ts:List z31} {a:PSt},z8l (z9z g x ts a)
 | [],_=>trivial
 | t :: ts,a=>by
  show z8l (lap (z9z g x ts) (g (a.hold x t)))
  generalize g (a.hold x t) = z
  obtain ⟨w,s⟩:=z
  cases w <;> first | trivial | exact zen
theorem z98:∀ {k:Nat} {a:PSt},z8l (z4b g m ans k a)
 | 0,_=>trivial
 | k + 1,a=>by
  show z8l (askR (fun b s=>if b then lap (z4b g m ans k) (g s) else (.fall,s)) (a.ask m) (z1y (a.nth m ans)))
  generalize z1y (a.nth m ans) = z
  cases z with
  | inr e=>trivial
  | inl c =>
   cases c with
   | false=>trivial
   | true =>
    show z8l (lap (z4b g m ans k) (g (a.ask m)))
    generalize g (a.ask m) = z
    obtain ⟨w,s⟩:=z
    cases w <;> first | trivial | exact z98
theorem z87 {f:PSt→PSt} {z:Out} (h:z8l z):z8l (andThen (fun s=>(.fall,f s)) z):=by
 obtain ⟨w,s⟩:=z
 cases w <;> first | trivial | exact h
theorem zj7 (h:zly s = false):z8l (evB en [s] a):=by
 have h1:z8l (evS en s a):=by
  cases s with
  | note x=>exact nomatch h
  | leave m b a=>exact nomatch h
  | loopF m x o p b =>
   refine (?_:z8l (if o = 6 then _ else _))
   split
   ·trivial
   ·exact z87 zen
  | loopW m a b=>exact z87 z98
 exact z87 (f:=id) h1
mutual
theorem z88:∀ {s:Stm},z2h s≤z3h s
 | .note _=>Nat.le_refl _
 | .leave _ _ _=>Nat.le_refl _
 | .loopF _ _ _ _ b=>by
  have:=z69 (l:=b)
  show sizeB b + 6≤2 + (1 + 1 + z0u b + 1 + 1 + z0u b + 1 + 1 + z0u b + 1) + 2
  lia
 | .loopW _ _ b=>by
  have:=z69 (l:=b)
  show sizeB b + 6≤2 + (2 + 1 + z0u b + 2 + 1 + z0u b + 2 + 1 + z0u b + 2) + 1
  lia
theorem z69:∀ {l:List Stm},sizeB l≤z0u l
 | []=>Nat.le_refl _
 | s :: r=>Nat.le_trans (Nat.add_le_add z88 z69) (Nat.le_of_eq (Nat.add_comm _ _))
end
structure zm3 (σ:AS) (b:Nat) (s:Stm) (v:AV) (R K:List AV) (e:z5n):Prop where
 rw:σ[b + 4]? = some (.list R)
 kc:σ[b + 5]? = some (.list K)
 cd:σ[b + 3]? = some (.inst 827 (b + 2))
 cn:σ[b + 2]? = some (.ns (zbl b))
 E:σ[b + 8]? = some (zjj e)
 rl:R.length = z2h s + 1
 re:R[z2h s]? = some (.tup [.str (S "end")])
 kl:K.length≤z2h s + 1
 wf:wfS s
 cost:z3h s≤700
 dep:zim s≤2
 lf:zly s = false
 tr:TreeS (fun i=>b≤i) σ s v
 laid:LaidS (zjk b 0 σ R K e) s 0 (z2h s) 0 0
 mks:∃ lo hi,mkS lo hi s
 en:e ≠ []
theorem zd3:(σ++τ).set (σ.length + i) o = σ++τ.set i o:=by rw [List.set_append_right _ _ (Nat.le_add_right ..),Nat.add_sub_cancel_left]
noncomputable def zm4 (b:Nat):List AO:=[.ns z2d,.inst 212 b,.ns (zbl b),.inst 827 (b + 2),.list [],.list []]
noncomputable def z5s (b:Nat):List AO:=[.ns z2d,.inst 212 b,.ns (zbl b),.inst 827 (b + 2),.list [],.list [.ref (b + 7)],.ns z2d,.inst 212 (b + 6)]
end
end
section
open PySem PySem.W
noncomputable def SubO:List (Option AO)→List AO→Prop
 | [],_=>True
 | none :: r,_ :: t=>SubO r t
 | some o :: r,o' :: t=>o' = o∧SubO r t
 | _,[]=>False
section
variable {d r i n b:Nat} {σ σ' σ1 τ:AS} {P:Pm} {s:Stm} {e:z5n} {R K:List AV} {v:AV} {k:Str} {xs:List AV} {ws:List (Option AO)} {os:List AO} {sort p:Int}
theorem SubO.get:∀ {ws:List (Option AO)} {os:List AO} {k:Nat} {o:AO},SubO ws os→ws[k]? = some (some o)→os[k]? = some o:=by
 intro ws
 induction ws with
 | nil=>exact fun uu e=>nn e
 | cons w r ih =>
  intro os k o h e
  cases os with
  | nil=>cases w <;> exact False.elim h
  | cons p' t =>
   cases k with
   | zero=>obtain rfl:=Option.some.inj e;exact congrArg some h.1
   | succ k=>cases w with
    | none=>exact ih (os:=t) h e
    | some p=>exact ih (os:=t) h.2 e
theorem SubO.win (h:SubO ws os):WinO (σ++os) σ.length ws:=fun k o e=>z12.trans (h.get e)
theorem tg (h0:PyData.strOk k = true) (h1:(k == S "promise" || (k == S "missing" || (k == S "dots" || k == S "NULL"))) = false) (h2:xs.all leaf = true) (h3:xs.length < 1000):TGood (k,xs):=by
 simp only [Bool.or_eq_false_iff] at h1
 exact ⟨⟨h0,h2,h3,h1.1,h1.2.1,h1.2.2.1⟩,fun q=>by
  have q:k = S "NULL":=q
  have:=h1.2.2.2
  rw [q,beq_self_eq_true] at this;exact nomatch this⟩
theorem z6w {a b c:AV} (h1:leaf a = true) (h2:leaf b = true) (h3:leaf c = true):[tri a b c p].all leaf = true:=by
 unfold tri
 split
 ·show (leaf a && true) = true;rw [h1];rfl
 ·split
  ·show (leaf b && true) = true;rw [h2];rfl
  ·show (leaf c && true) = true;rw [h3];rfl
theorem zj8:TGood (z7q sort p):=by
 unfold z7q
 split
 ·exact tg z02 rfl (z6w rfl rfl rfl) (of_decide_eq_true rfl)
 ·split
  ·exact tg z02 rfl (z6w rfl rfl rfl) (of_decide_eq_true rfl)
  ·split
   ·exact tg z02 rfl (z6w z02 z02 rfl) (of_decide_eq_true rfl)
   ·split
    ·split
     ·exact tg z02 rfl (by show (leaf _ && true) = true;rw [show leaf (.str (S "d")) = true from z02];rfl) (of_decide_eq_true rfl)
     ·split
      ·exact TGood.null
      ·exact tg z02 rfl rfl (of_decide_eq_true rfl)
    ·exact tg z02 rfl (z6w z02 z02 rfl) (of_decide_eq_true rfl)
theorem zfu {pk:List Int} (_:z95 sort pk):∀ t∈z0z sort pk,TGood t:=fun t ht=>by
 unfold z0z at ht
 split at ht
 ·refine z0e (List.mem_map.mp ht) fun p uu zr02=>?_;obtain rfl:=zr02
  exact zj8
 ·exact nomatch ht
theorem tg_x (z:String):TGood (S "character",[.str (S z)]):=tg z02 rfl (by show (leaf _ && true) = true;rw [show leaf (.str (S z)) = true from z02];rfl) (of_decide_eq_true rfl)
theorem zwc {σ6 σ2:AS} {k' kk:Int} {v:AV} {R' K':List AV} (hlf:zly s = false) (hwf:wfS s) (hc:z3h s≤700) (hd:zim s≤2) (hm:mkS kk k' s) (ht:TreeS (fun i=>σ2.length≤i) (σ2++z5s σ2.length++[AO.sd [],AO.list []]) s v)
  (o:zuq σ2.length (σ2.length + 9) (σ2++z5s σ2.length++[AO.sd [],AO.list []]) [] [.ref (σ2.length + 7)] 0 ([]++z82 0 s) (z6n 0 s []) (z2h s) (fun w=>LaidS w s 0 (0 + z2h s) 0 0) σ6 R' K') :
  zm3 (σ6.set (σ2.length + 4) (.list (R'++[.tup [.str (S "end")]]))) σ2.length s v (R'++[.tup [.str (S "end")]]) K' (z6n 0 s []):=by
 have ly:=o.ly.setR (R':=R'++[.tup [.str (S "end")]])
 obtain x0:Ex (fun i=>σ2.length≤i) σ6 (σ6.set (σ2.length + 4) (.list (R'++[.tup [.str (S "end")]]))):=Ex.set (Nat.le_add_right _ _)
 have rl:R'.length = z2h s:=o.rl.trans (Nat.zero_add _)
 obtain L5:(σ2++z5s σ2.length++[AO.sd [],AO.list []]).length = σ2.length + 10:=by rw [List.length_append,List.length_append];rfl
 obtain xm:Ex (fun i=>σ2.length≤i) (σ2++z5s σ2.length++[AO.sd [],AO.list []]) σ6:=o.ex.mono fun i hi=>by unfold ML at hi;exact ML.ge ly i hi
 have en:z6n 0 s [] ≠ []:=by
  cases s with
  | note x=>exact nomatch hlf
  | leave m b a=>exact nomatch hlf
  | loopF m x o p b=>exact zdt
  | loopW m a b=>exact zdt
 obtain hl:=o.laid
 rw [Nat.zero_add] at hl
 exact ⟨ly.w 4 _ rfl,ly.w 5 _ rfl,ly.w 3 _ rfl,ly.w 2 _ rfl,ly.w 8 _ rfl,ln rl,z33 rl,Nat.le_trans o.kl (Nat.le_of_eq (Nat.add_comm _ _)),hwf,hc,hd,hlf,(ht.ex xm).ex x0,
  LaidS.cg hm (w:=zjk σ2.length (σ2++z5s σ2.length++[AO.sd [],AO.list []]).length σ6 R' K' (z6n 0 s [])) ⟨fun uu uu h=>h,fun uu uu h=>h.ex x0,fun uu uu uu h=>(h.ex (Ex.set (M:=fun i=>i = σ2.length + 4) rfl) fun i hi=>by rw [hi,L5];exact Nat.add_lt_add_left (of_decide_eq_true rfl) _).wid (Nat.zero_le _),fun uu uu uu uu h=>h⟩ (fun i uu hi=>z1t rl hi) hl,⟨_,_,hm⟩,en⟩
noncomputable def z99 (b:Nat):List AO:=zb9 b 3++[.ns (z8h 2 (.ref (b + 7)) (b + 17) (b + 18)),.inst 327 (b + 15),.sd [],.sd []]
noncomputable def z9a (b:Nat):List AO:=zb9 b 3++[.ns (z8h 2 (.ref (b + 7)) (b + 17) (b + 18)),.inst 327 (b + 15),.sd [(S "x",.ref (b + 21)),(S "y",.ref (b + 24))],.sd [],
 .list [.str (S "x")],.ns (z3s (.str (S "character")) (.ref (b + 19)) .none),.inst 262 (b + 20),.list [.str (S "y")],.ns (z3s (.str (S "character")) (.ref (b + 22)) .none),.inst 262 (b + 23)]
noncomputable def z9b (b rw kc:Nat):List AO:=z9a b++[.ns (zba rw kc (.ref (b + 16)) 0 (b + 27) (b + 28)),.inst 736 (b + 25),.list [],.list []]
theorem zua {st sc cd E:Nat}:z1b (.str (S "xy")) (z2f 112 9 (d + 3)) z1i 0 (.next,l8 sc st v cd E (σ.length + 1) (σ.length + 16)) (σ++z99 σ.length) = .ok (.next,l9 sc st v cd E (σ.length + 1) (σ.length + 16)) (σ++z9a σ.length):=by
 obtain e1:=zdp (d:=d) (x:=.str (S "x")) (σ:=σ++z99 σ.length) (z22 rfl) (z22 rfl) (z22 rfl) (z1f rfl)
 have hx:(σ++(z99 σ.length++[AO.list [.str (S "x")],.ns (z3s (.str (S "character")) (.ref (σ.length + 19)) .none),.inst 262 (σ.length + 20)])).set (σ.length + 17) (.sd [(S "x",.ref (σ.length + 21))]) =
  σ++((z99 σ.length++[AO.list [.str (S "x")],.ns (z3s (.str (S "character")) (.ref (σ.length + 19)) .none),.inst 262 (σ.length + 20)]).set 17 (.sd [(S "x",.ref (σ.length + 21))])):=zd3
 obtain e2:=zdp (d:=d) (x:=.str (S "y")) (σ:=σ++((z99 σ.length++[AO.list [.str (S "x")],.ns (z3s (.str (S "character")) (.ref (σ.length + 19)) .none),.inst 262 (σ.length + 20)]).set 17 (.sd [(S "x",.ref (σ.length + 21))]))) (z22 rfl) (z22 rfl) (z22 rfl) (z1f rfl)
 rw [← hx] at e2
 have hy:(σ++((z99 σ.length++[AO.list [.str (S "x")],.ns (z3s (.str (S "character")) (.ref (σ.length + 19)) .none),.inst 262 (σ.length + 20)]).set 17 (.sd [(S "x",.ref (σ.length + 21))])++[AO.list [.str (S "y")],.ns (z3s (.str (S "character")) (.ref (σ.length + 22)) .none),.inst 262 (σ.length + 23)])).set (σ.length + 17) (.sd [(S "x",.ref (σ.length + 21)),(S "y",.ref (σ.length + 24))]) = σ++z9a σ.length:=zd3
 rw [← hy]
 exact zwa (ea:=σ.length + 15) (fr:=σ.length + 17) z12 z12 rfl e1 z12 z12 z12 e2 z12 z12 z12
end
end
section
open PySem PySem.W
noncomputable def zfv (e:z5n) (m:Int):Nat×Nat:=match look e m with
 | some (.tup [.int a,.int b])=>(a.toNat,b.toNat)
 | _=>(0,0)
section
variable {d i n b n1:Nat} {σ σ' σ13 W:AS} {P:Pm} {s:Stm} {e:z5n} {R K:List AV} {v:AV} {z:Out} {w:Str} {x:Nat×Nat} {m:Int} {mc:Mach} {os:List z1s} {l:List Stm} {p q B N:Nat}
theorem zj9 (h:look e m = some (z67 x.1 x.2)):zfv e m = x:=by unfold zfv;rw [h];rfl
theorem zeo (h:look e m = some (z67 x.1 x.2)):zlj (zfv e) e m:=by unfold zlj;rw [zj9 h];exact h
mutual
theorem zja:∀ {s:Stm} {p q B N:Nat},LaidS (zjk b n1 σ R K e) s p q B N→zqc (zfv e) e s
 | .note _=>fun uu=>trivial
 | .leave _ _ _=>fun uu=>trivial
 | .loopF _ _ _ _ _=>fun zm=>oEEEA zm fun uu uu uu h=>⟨zeo h.en,zaa h.b⟩
 | .loopW _ _ _=>fun zm=>z58 zm fun uu uu h=>⟨zeo h.en,zaa h.b⟩
theorem zaa:∀ {l:List Stm} {p q B N:Nat},LaidB (zjk b n1 σ R K e) l p q B N→zfr (zfv e) e l
 | []=>fun uu=>trivial
 | _ :: _=>fun zm=>z0e zm fun uu h1 h2=>⟨zja h1,zaa h2⟩
end
noncomputable def s0:PSt:=⟨(S "character",[.str (S "x")]),(S "character",[.str (S "y")]),0,[],0,[],[]⟩
noncomputable def m0 (b:Nat):Mach:=⟨0,true,0,[],[],.ref (b + 21),.ref (b + 24),[],[]⟩
noncomputable def z42 (b rw kc:Nat):List AO:=z9b b rw kc++[.list [],.sd []]
structure zm5 (P:Pm) (W σ13:AS) (z:Out) (w:Str) (m:Mach) (os:List z1s):Prop where
 co:Core P σ13 m z.2 os 0
 ex:Ex (Mm P) W σ13
 way:(z.1.av = .none∧w = S ""∧m.stack = [])∨(z.1.av = .str w∧PyData.strOk w = true)
theorem Mm.lo (h:i < P.b):¬ Mm P i:=by unfold Mm;lia
theorem vec0 {t:String} {k:Nat} (h1:(z42 σ.length n n1)[k + 2]? = some (.inst 262 (σ.length + (k + 1)))) (h2:(z42 σ.length n n1)[k + 1]? = some (.ns (z3s (.str (S "character")) (.ref (σ.length + k)) .none))) (h3:(z42 σ.length n n1)[k]? = some (.list [.str (S t)])) (hk:k = 19∨k = 22) :
  Val (Mm ⟨σ.length,n,n1,R,K⟩) (σ++z42 σ.length n n1) (.ref (σ.length + (k + 2))) (S "character",[.str (S t)]):=by
 refine .inl ⟨.none,IsVec.new (z12.trans h1) (z12.trans h2) (z12.trans h3) ?_ ?_ ?_⟩ <;>
 ·unfold Mm
  lia
theorem mach (F:zm3 σ b s v R K e) (hb:b + 10≤σ.length):∃ w σ13 m os,z05 TT 8 1140 [.ref (σ.length + 1),.ref (σ.length + 26),.ref (σ.length + 29)] (σ++(z9b σ.length (b + 4) (b + 5)++[AO.list []])) = .ok (.str w) σ13 ∧
  zm5 ⟨σ.length,b + 4,b + 5,R,K⟩ (σ++z42 σ.length (b + 4) (b + 5)) σ13 (evB (zfv e) [s] s0) w m os:=by
 obtain ⟨P,hP⟩:∃ P:Pm,P = ⟨σ.length,b + 4,b + 5,R,K⟩:=⟨_,rfl⟩
 have mr:MR P (σ++z42 σ.length (b + 4) (b + 5)) (m0 σ.length):=by
  rw [hP]
  exact ⟨SubO.win ⟨rfl,rfl,rfl,rfl,rfl,rfl,rfl,rfl,rfl,rfl,rfl,rfl,trivial⟩,z0n F.rw,z0n F.kc,by show b + 4 < σ.length;lia,by show b + 5 < σ.length;lia⟩
 have hc:=F.cost
 have sc:z2h s≤z3h s:=z88
 have O:Ok P:=by
  rw [hP]
  exact ⟨by rw [F.rl];lia,by show K.length < _;have:=F.kl;lia⟩
 have mc:MC P (σ++z42 σ.length (b + 4) (b + 5)) (m0 σ.length) s0 0 [] [] (1 + z0u [s]) :=
  {mr:=mr,steps:=rfl,loops:=rfl,opens:=rfl,asked:=rfl,eff:=⟨rfl,fun k v e h=>nomatch h⟩,ge:=fun e h=>(nomatch h),vx:=by rw [hP];exact vec0 (k:=19) rfl rfl rfl (.inl rfl),vy:=by rw [hP];exact vec0 (k:=22) rfl rfl rfl (.inr rfl),gx:=tg_x "x",gy:=tg_x "y",
   sz:=by show 0 + 4 * (1 + (0 + z3h s))≤12000;lia,place:=rfl,stack:=rfl,fors:=rfl }
 refine z58 F.mks fun lo hi mk=>?_
 have C:zl9 P (fun l a=>IsL (fun i=>b≤i) σ l (a.map .int)) (PCat 0 σ) (σ++z42 σ.length (b + 4) (b + 5)):=by
  rw [hP]
  exact ⟨hP ▸ O,fun l a h=>⟨z0n h.1,Mm.lo (by exact z1z h.1)⟩,fun c o p zm=>z27 zm fun N1 N2 uu h=>(h.lift fun i hi uu=>Mm.lo hi).ex Ex.app,by rw [List.length_append];exact Nat.le_refl _⟩
 have ld:LaidS (P.lw (fun l a=>IsL (fun i=>b≤i) σ l (a.map .int)) (PCat 0 σ) (zfv e)) s 0 (z2h s) 0 0:=by
  rw [hP]
  exact LaidS.cg mk (w:=zjk b 0 σ R K e) ⟨fun uu uu h=>h,fun uu uu h=>h,fun uu uu uu h=>h,fun uu uu uu uu h=>zj9 h⟩ (fun uu uu uu=>rfl) F.laid
 obtain L0:LM P [(S "interp",.ref (P.b + 1)),(S "run",.ref (P.b + 26)),(S "effects",.ref (P.b + 29)),(S "asked",.ref (P.b + 30))]:=⟨rfl,rfl,rfl,rfl⟩
 have wp:=zlc (d:=1) (en:=zfv e) C (fun o p=>zfu) [s] 0 (z2h s) (z2h s) 0 1 [] [] _ _ s0 (fun w σ'=>∃ m os,zm5 P (σ++z42 σ.length (b + 4) (b + 5)) σ' (evB (zfv e) [s] s0) w m os) ⟨F.wf,trivial⟩ ⟨_,LaidS.re mk ⟨fun uu uu h=>h,fun uu uu h=>h,fun uu uu uu h=>h,fun uu uu uu uu h=>h⟩ ld ⟨fun uu uu uu uu=>rfl,fun i b' h=>by
   have lf:=F.lf
   cases s with
   | leave m b a=>exact nomatch lf
   | _=>exact nomatch h⟩,rfl⟩ (Nat.le_refl _) (Nat.le_refl _) ⟨L0,⟨_,mc⟩,.refl⟩ ?_
 ·obtain h29:(σ++(z9b σ.length (b + 4) (b + 5)++[AO.list []])).length = P.b + 30:=by rw [List.length_append,hP];rfl
  obtain ew:(σ++(z9b σ.length (b + 4) (b + 5)++[AO.list []]))++[AO.sd []] = σ++z42 σ.length (b + 4) (b + 5):=List.append_assoc ..
  rw [← ew] at wp
  refine znk (zu9 h29 (by show 1 + (0 + z3h s)≤3000;lia) wp) fun w σ13 e13 m os o=>?_
  rw [ew] at o
  rw [hP] at e13 o
  exact ⟨w,σ13,m,os,e13,o⟩
 ·obtain le:=zj7 (en:=zfv e) (a:=s0) F.lf
  obtain re:P.rows[z2h s]? = some (.tup [.str (S "end")]):=by exact hP ▸ F.re
  revert le
  generalize evB (zfv e) [s] s0 = z
  intro le
  obtain ⟨wy,s'⟩:=z
  induction wy with
  | fall =>
   intro ℓ' σ' L ⟨m,h⟩ x
   exact WP.stop (r:=0) (zt6 L h.mr (h.place.symm ▸ re) O.rl) ⟨m,[],{ h.toCore with sz:=Nat.le_trans (Nat.add_le_add_left (Nat.zero_le _) s'.size) h.sz },x,.inl ⟨rfl,rfl,h.stack⟩⟩
  | brk=>exact le.elim
  | nxt=>exact le.elim
  | ref er=>exact fun σ' zm x=>z58 zm fun m os h=>⟨m,os,h,x,.inr ⟨rfl,by cases er <;> exact z02⟩⟩
end
end
section
open PySem PySem.W
section
variable {d i n b n1 st sc:Nat} {σ σ' σ13 σ15 W:AS} {P:Pm} {s:Stm} {e:z5n} {R K:List AV} {v:AV} {z:Out} {w:Str} {mc:Mach} {os:List z1s}
theorem RO.rws {r E:Nat} {f:Nat} (h:RO r E e σ os f n z):∃ hx hy ds,RW r E e σ z.2 hx hy ds:=by
 obtain ⟨w,s⟩:=z
 cases w
 ·exact RS.rw h
 ·exact RS.rw h
 ·exact RS.rw h
 ·refine z58 h fun os f h=>?_;exact h.rw
theorem zqq {q:Nat} (F:zm3 σ b s v R K e) (M:zm5 ⟨σ.length,b + 4,b + 5,R,K⟩ (σ++z42 σ.length (b + 4) (b + 5)) σ13 z w mc os) (X0:Ex M0 σ13 σ15) (rr:∃ hx hy ds,RW q (b + 8) e σ15 z.2 hx hy ds) :
  ∃ ℓ' σ',z0v [z3v 15] (IE 8 (fiS (stm 112)).sc true) (l14 sc st v (b + 3) (b + 8) (σ.length + 1) (σ.length + 16) (σ.length + 26) (σ.length + 29) w q z.1.av "y") σ15 = .ok (.ret (.bool true),ℓ') σ':=by
 obtain ⟨P,hP⟩:∃ P:Pm,P = ⟨σ.length,b + 4,b + 5,R,K⟩:=⟨_,rfl⟩
 obtain hb:σ.length = P.b:=by rw [hP]
 obtain g:∀ k o,(z42 σ.length (b + 4) (b + 5))[k]? = some o→zg5 o→¬ Mm P (P.b + k)→σ15[P.b + k]? = some o:=fun k o h1 h2 h3=>X0.exact (fun h=>h) (M.ex.exact (hP ▸ h3) (by exact hb ▸ z12.trans h1) h2) h2
 rw [← hP] at M
 rw [hb] at g ⊢
 obtain ⟨wy,s'⟩:=z
 refine oEEEA rr fun hx hy ds rr=>?_
 obtain co:=M.co
 obtain mr:=co.mr.ex0 X0
 obtain Y1:Ex M0 σ15 (σ15++[.list [.str (S "x"),.str (S "y")],.list [.str (S "x"),.str (S "y")]]):=Ex.app
 obtain Y2:Ex M0 (σ15++[.list [.str (S "x"),.str (S "y")],.list [.str (S "x"),.str (S "y")]]) ((σ15++[.list [.str (S "x"),.str (S "y")],.list [.str (S "x"),.str (S "y")]])++[.list s'.hx.2]):=Ex.app
 obtain Y3:Ex M0 ((σ15++[.list [.str (S "x"),.str (S "y")],.list [.str (S "x"),.str (S "y")]])++[.list s'.hx.2]) (((σ15++[.list [.str (S "x"),.str (S "y")],.list [.str (S "x"),.str (S "y")]])++[.list s'.hx.2])++[.list s'.hy.2]):=Ex.app
 obtain mA:=mr.ex0 Y1
 obtain mB:=mA.ex0 Y2
 obtain mC:=mB.ex0 Y3
 obtain rA:=rr.ex0 Y1
 obtain rB:=rA.ex0 Y2
 obtain rC:=rB.ex0 Y3
 obtain e1:=zck (d:=7) ((co.vx.ex X0.of0).ex Y1.of0) co.gx.ok co.gx.nul
 obtain e2:=zck (d:=7) (((co.vy.ex X0.of0).ex Y1.of0).ex Y2.of0) co.gy.ok co.gy.nul
 refine zwb (zu4 (mr.w 29 _ rfl) (rr.w 4 _ rfl) (co.eff.ex X0.of0) rr.du co.ge) (rr.w 6 _ rfl) (mr.w 16 _ rfl) (mr.w 15 _ rfl) rfl (mr.w 17 _ rfl) (mr.w 1 _ rfl) (mr.w 0 _ rfl) rfl
  (g 7 _ rfl trivial (by unfold Mm;lia)) (g 6 _ rfl rfl (by unfold Mm;lia)) rfl (g 8 _ rfl trivial (by unfold Mm;lia))
  (zj4 z0y z12 (by show (leaf (.str (S "x")) && (leaf (.str (S "y")) && true)) = true;rw [show leaf (.str (S "x")) = true from z02,show leaf (.str (S "y")) = true from z02];rfl))
  (zu8 (mA.w 16 _ rfl) (mA.w 15 _ rfl) rfl (mA.w 17 _ rfl) e1 (rB.w 6 _ rfl) rfl (rB.w 2 _ rfl) (zj3 (M:=M0) (zdr fun h=>h) rB.tx co.gx.ok) (mB.w 16 _ rfl) (mB.w 15 _ rfl) (mB.w 17 _ rfl) e2 (rC.w 6 _ rfl) (rC.w 2 _ rfl) (zj3 (M:=M0) (zdr fun h=>h) rC.ty co.gy.ok))
  (mC.w 26 _ rfl) (mC.w 25 _ rfl) rfl (zm1 (os:=os) (co.loops ▸ mC.w 28 _ rfl) (co.opens ▸ rC.w 3 _ rfl)) (mC.w 1 _ rfl) (mC.w 0 _ rfl) (congrArg (fun n:Nat=>some (AV.int n)) co.steps) (rC.w 6 _ rfl) rfl ?_
 rcases M.way with ⟨h1,h2,h3⟩ | h
 ·exact .inl ⟨h1,h2,zj4 (z0n (h3 ▸ mC.w 27 _ rfl)) z0y rfl⟩
 ·exact .inr h
end
end
section
open PySem PySem.W
section
variable {b sc st c q E n1:Nat} {σ σ1 σ2 σ13:AS} {R K:List AV} {e:z5n} {v:AV} {s:Stm} {w:Str} {z:Out} {mc:Mach} {os:List z1s} {P:Pm}
theorem zjb:∀ {ys:List AV},(∀ y∈ys,∃ i:Int,y = .int i)→∃ zs:List Int,ys = zs.map .int
 | [],_=>⟨[],rfl⟩
 | y :: r,h=>by
  refine oEA (h y (.head _)) fun i zq0n1=>?_;obtain rfl:=zq0n1
  refine oEA (zjb fun z hz=>h z (.tail _ hz)) fun zs zq1n1=>?_;subst zq1n1
  exact ⟨i :: zs,rfl⟩
theorem zqr (F:zm3 σ b s v R K e) (hb:b + 10≤σ.length) (M:zm5 ⟨σ.length,b + 4,b + 5,R,K⟩ (σ++z42 σ.length (b + 4) (b + 5)) σ13 z w mc os) :
  ∃ σ15,z05 TT 8 1166 [.ref (σ13.length + 6),.ref (σ13.length + 7)] (σ13++zek σ13.length (b + 8) v) = .ok (evB (zfv e) [s] s0).1.av σ15∧RO σ13.length (b + 8) e σ15 [] 0 0 (evB (zfv e) [s] s0)∧Ex M0 σ13 σ15:=by
 have l13:σ.length≤σ13.length:=Nat.le_trans (by rw [List.length_append];exact Nat.le_add_right _ _) M.ex.1
 have mb:∀ i,Mm ⟨σ.length,b + 4,b + 5,R,K⟩ i→b≤i:=fun i hi=>by
  unfold Mm at hi
  dsimp only at hi
  lia
 obtain hE:σ13[b + 8]? = some (zjj e):=M.ex.exact (Mm.lo (by show b + 8 < σ.length;exact Nat.lt_of_succ_lt hb)) (z0n F.E) zbm
 obtain hE:σ13[b + 8]? = some (.idd e):=by rw [hE];unfold zjj;rw [if_neg F.en]
 obtain tr:TreeS (Mr σ13.length) (σ13++zek σ13.length (b + 8) v) s v:=(((F.tr.ex Ex.app).ex (M.ex.mono mb)).map fun l xs h=>⟨h.1,Mr.lo (by have:=h.2;lia)⟩).ex Ex.app
 obtain hc:=F.cost
 obtain hd:=F.dep
 have rs:RS σ13.length (b + 8) e (σ13++zek σ13.length (b + 8) v) s0 [] 0 (0 + z0u [s]) :=
  ⟨⟨_,_,[],SubO.win ⟨rfl,rfl,rfl,rfl,rfl,trivial⟩,⟨_,rfl,z0y,Mr.lo (by lia)⟩,⟨_,rfl,z12,Mr.lo (Nat.lt_add_one (List.length σ13 + 1))⟩,⟨rfl,fun k v e h=>nomatch h⟩,z0n hE,by lia⟩,by show 0 + 4 * (0 + (0 + z3h s))≤12000;lia,rfl,rfl⟩
 obtain ⟨σ15,e15,o15,x15⟩:=ziq (D:=7) (zuo [s]) (by show 2 * max (zim s) 0 + 2≤7;lia) ⟨F.wf,trivial⟩ ⟨zja F.laid,trivial⟩ (of_decide_eq_true rfl) (bl:=σ13.length + 7) (vs:=[v]) ⟨z12,by unfold Mr;lia⟩ ⟨v,[],rfl,tr,rfl⟩ rs
 exact ⟨σ15,e15,o15,(Ex.app (M:=M0)).fresh (x15.mono fun i hi=>.inr (by unfold Mr at hi;lia))⟩
theorem zqs:z05 TT 8 380 [] σ2 = .ok (.ref (σ2.length + 1)) (σ2++[.ns z2d,.inst 212 σ2.length])∧z05 TT 8 827 [.ref (σ2.length + 1)] (σ2++[.ns z2d,.inst 212 σ2.length]) = .ok (.ref (σ2.length + 3)) (σ2++zm4 σ2.length) ∧
  z05 TT 8 380 [] (σ2++zm4 σ2.length) = .ok (.ref (σ2.length + 7)) (σ2++(zm4 σ2.length++[.ns z2d,.inst 212 (σ2.length + 6)])) :=
 ⟨z7l (d:=5) (n:=σ2.length) rfl rfl rfl,by
  obtain h:=zsu (d:=6) (σ:=σ2++[.ns z2d,.inst 212 σ2.length]) (e:=.ref (σ2.length + 1))
  obtain L:(σ2++[AO.ns z2d,.inst 212 σ2.length]).length = σ2.length + 2:=List.length_append ..
  rw [L,List.append_assoc] at h
  exact h,z7l (d:=5) (n:=σ2.length + 6) (z22 rfl) (z22 rfl) (z1f rfl)⟩
theorem zub {σ:AS} (h1:σ[b + 3]? = some (.inst 827 (b + 2))) (h2:σ[b + 2]? = some (.ns (zbl b))):z05 TT 8 736 [.ref (b + 3),.ref (σ.length + 16)] (σ++z9a σ.length) = .ok (.ref (σ.length + 26)) (σ++z9b σ.length (b + 4) (b + 5)):=by
 obtain h:=zvn (d:=6) (σ:=σ++z9a σ.length) (c:=b + 3) (cn:=b + 2) (rw:=b + 4) (kc:=b + 5) (env:=.ref (σ.length + 16)) (z0n h1) (z0n h2) rfl rfl
 obtain L:(σ++z9a σ.length).length = σ.length + 25:=List.length_append ..
 rw [L,List.append_assoc] at h
 exact h
theorem zuc (G:GI st c σ1 0):∃ ℓ' σ',z0v [z3v 1] (IE 8 (fiS (stm 112)).sc true) (l1 sc st) σ1 = .ok (.ret (.bool true),ℓ') σ':=by
 refine z3p (zu2 (D:=2) σ1 0 G) fun v s σ2 k' e1 o=>?_
 refine zmh (zqs (σ2:=σ2)) fun e2 e3 e4=>?_
 have hX:(σ2++(zm4 σ2.length++[AO.ns z2d,.inst 212 (σ2.length + 6)])).set (σ2.length + 5) (.list ([]++[.ref (σ2.length + 7)])) = σ2++z5s σ2.length:=zd3
 obtain hE:(σ2++z5s σ2.length).length = σ2.length + 8:=List.length_append ..
 have tr:TreeS (fun i=>σ2.length≤i) (σ2++z5s σ2.length++[AO.sd [],AO.list []]) s v:=((o.tr.map fun l xs h=>⟨h.1,Nat.not_le.mpr (z1z h.1)⟩).ex (Ex.app (M:=fun i=>σ2.length≤i))).ex Ex.app
 have ly:LY σ2.length (σ2.length + 9) (σ2++z5s σ2.length++[AO.sd [],AO.list []]) [] [.ref (σ2.length + 7)] [] []:=by
  rw [List.append_assoc]
  exact ⟨SubO.win ⟨rfl,rfl,rfl,rfl,rfl,trivial⟩,z12,Nat.le_refl _⟩
 obtain sz:=z88 (s:=s)
 have hc:=o.cost
 refine z4x (ztv s v (σ2.length + 9) _ [] _ [] [] 0 8 0 k' (Nat.add_le_add_right o.dep 6) o.wf o.mks tr ly ⟨rfl,by lia,Nat.le_refl _,Nat.le_refl _,Nat.le_refl _⟩) fun σ6 R' K' e5 lo=>?_
 have F:=zwc o.lf o.wf hc o.dep o.mks tr lo
 obtain rl:R'.length < 100000:=by have:=lo.rl;lia
 have hb:σ2.length + 10≤(σ6.set (σ2.length + 4) (.list (R'++[.tup [.str (S "end")]]))).length:=by
  rw [List.length_set]
  refine Nat.le_trans ?_ lo.ex.1
  rw [List.length_append,hE]
  exact Nat.le_refl _
 generalize h7:σ6.set (σ2.length + 4) (.list (R'++[.tup [.str (S "end")]])) = σ7 at F hb
 refine z3p (mach F hb) fun w σ13 m os e13 M=>?_
 refine z1m (zqr F hb M) fun σ15 e15 ro x15=>?_
 refine z58 (zqq (st:=st) (sc:=sc) F M x15 ro.rws) fun ℓ' σ' e16=>?_
 obtain L11:(σ7++z9b σ7.length (σ2.length + 4) (σ2.length + 5)).length = σ7.length + 29:=List.length_append ..
 rw [← List.append_assoc] at e13
 exact ⟨ℓ',σ',zw8 e1 e2 e3 z12 z12 rfl z12 e4 z12 (of_decide_eq_true rfl) hX hE e5 (lo.ly.w 3 _ rfl) (lo.ly.w 2 _ rfl) rfl (lo.ly.w 4 _ rfl) rl h7
  (zcm (d:=2)) z12 z0y rfl (zfk (d:=5)) (zua (d:=5)) (zub F.cd F.cn) L11 e13 rfl e15 e16⟩
theorem zm6 {sc:Nat} {xs:List Int} {σ:AS} (hsc:zun sc = some xs) (hl:xs.length≤63):∃ σ',z05 TT 9 1171 [.raw (.ref sc)] σ = .ok (.bool true) σ':=by
 refine z0e (zu6 (d:=8) (sc:=sc) (σ:=σ) (v:=.bool true)) fun F w1 w2=>?_
 have tl:((xs.map AV.int).take 40).length≤40:=by rw [List.length_take];exact Nat.min_le_left _ _
 obtain ⟨ys,σ0,e0,x0,l0,r0⟩:=z30 (M:=M0) (elt:=F) (σ:=σ++[.list ((xs.map .int).take 40)]) (l:=σ.length) (fun k y σ=>∃ i:Int,y = .int i) z0y (by lia) (fun h=>h) (fun k y σ1 σ2 r x=>r) (fun k x σ1 hx x1=>by
  refine z0e (List.mem_map.mp (List.mem_of_mem_take (List.mem_of_getElem? hx))) fun z uu zq10n2=>?_;subst zq10n2
  exact ⟨_,σ1,w2 z σ1,.refl,_,rfl⟩)
 obtain ⟨zs,rfl⟩:=zjb fun y hy=>by
  refine oEA (List.getElem?_of_mem hy) fun k hk=>?_
  exact r0 k y hk
 rw [List.length_map] at l0
 refine z58 (zuc (sc:=sc) (c:=σ0.length) (st:=(σ0++[AO.list (zs.map .int)]).length) (σ1:=(σ0++[AO.list (zs.map .int)])++[.sd [(S "cells",.ref σ0.length),(S "mark",.int 0)]]) ⟨z0y,zs,z0n z0y,by lia⟩) fun ℓ' σ' e=>?_
 exact ⟨σ',w1 xs _ _ _ _ hsc hl e0 e⟩
end
theorem zjc (z:Addr→Option (List Int)):Law z:=Classical.byContradiction fun q=>Classical.epsilon_spec (p:=fun z=>¬ Law z) ⟨z,q⟩ fun uu uu h l=>zm6 h l
end
section
open PySem PySem.W PySem.Calls PyProof.Rows
noncomputable def zep:Data→Option FuncData
 | .func f=>some f
 | _=>none
noncomputable def zeq:Data→Option (Array Value)
 | .fields f=>some f
 | _=>none
noncomputable def zud:Data→Option (Array Value×Nat)
 | .seq f n=>some (f,n)
 | _=>none
noncomputable def zue:Data→Option ClassData
 | .cls c=>some c
 | _=>none
noncomputable def zjd:FuncBody→Option (List Stmt)
 | .stmts b=>some b
 | _=>none
noncomputable def zqt:Value→Option Addr
 | .ref a=>some a
 | _=>none
noncomputable def zuf:Value→Option (Str×Tok)
 | .str a t=>some (a,t)
 | _=>none
noncomputable def zje:Value→Bool
 | .none=>true
 | _=>false
noncomputable def zqu:Value→Option (Int×Tok)
 | .int i t=>some (i,t)
 | _=>none
noncomputable def six:List (Option Value)→Option (Option Value×Option Value×Option Value×Option Value×Option Value×Option Value)
 | a :: b :: c :: d :: e :: f :: r=>if r.isEmpty then some (a,b,c,d,e,f) else none
 | _=>none
noncomputable def zjf (h:Heap) (a:Addr):Option FnV:=(h.get? a).bind fun o=>(zep o.data).bind fun fd=>(zjd fd.body).map fun b=>(fd.params,b,fd.scope)
noncomputable def zwd:AV→Value→Bool
 | .none,v=>zje v
 | .int i,v=>(zqu v).any fun p=>i == p.1
 | _,_=>false
noncomputable def zur:List AV→List Value→Bool
 | [],vs=>vs.isEmpty
 | a :: r,vs=>match vs with
  | []=>false
  | v :: vs=>zwd a v && zur r vs
noncomputable def zqv (h:Heap) (ds:List AV) (v:Value):Bool:=(zje v && ds.isEmpty) || (zqt v).any fun t=>(h.get? t).any fun o=>(zud o.data).any fun p=>zur ds p.1.toList
noncomputable def zug (h:Heap) (q:Str) (v:Value):Bool:=(zqt v).any fun c=>(h.get? c).any fun o=>(zeq o.data).any fun vs=>vs[1]?.any fun w=>(zuf w).any fun p=>p.1 == q
noncomputable def zm7 (s:Option Stmt):List AV:=match fnV s with
 | some v=>v.1.defaults.map zhh
 | none=>[]
noncomputable def fnB (h:Heap) (a:Addr) (ds:List AV):Bool:=(h.get? a).any fun o=>(zep o.data).any fun fd=>fd.closure.isEmpty && (fd.globals == mainGlobals && (fd.builtins == builtinsNs && (zug h fd.qualname fd.code && zqv h ds fd.defaults)))
noncomputable def z9c (h:Heap):List Addr→Frag
 | []=>[]
 | a :: as=>match h.get? a with
  | some o=>(a,o) :: z9c h as
  | none=>z9c h as
set_option tactic.hygienic true in
theorem z89 (h:Heap):∀ as,(z9c h as).In h
 | []=>fun a o e=>by cases e
 | b :: as=>fun a o e=>by
  unfold z9c at e
  split at e
  ·rename_i ob hb
   simp only [List.lookup] at e
   split at e
   ·rename_i q;cases e;rw [beq_iff_eq.mp q];exact hb
   ·exact z89 h as a o e
  ·exact z89 h as a o e
noncomputable def clsB (K:Frag) (C init:Addr):Bool :=
 makesIn K C && (findIn K (.ref C) "__init__" == some (some (.ref init)) && (typeIn K (.ref init) == some (.type "function") && (findIn K (.ref C) "__getattribute__" == some (some (.builtin "object.__getattribute__")) &&
 (findIn K (.ref C) "__getattr__" == some none && (findIn K (.ref C) "__setattr__" == some (some (.builtin "object.__setattr__")) && (plainOver K C && (((clsIn K C).any (·.hasDict)) && ((z6x.all fun x=>findIn K (.ref C) x == some none) &&
 (findIn K (.ref C) "__class__" == some (some (.builtin "object.__class__")) && (mroIn K C (.type "object") == some true))))))))))
noncomputable def zuh (K:Frag) (C:Addr) (m:Str) (f:Addr):Bool:=!z2y m && (findIn K (.ref C) m == some (some (.ref f)) && (typeIn K (.ref f) == some (.type "function") && keepIn K (.ref f)))
noncomputable def znc:List Addr:=z4y.map (·.1)++zkn++[zg2,81,62,61]++z3d.map (·.1)
noncomputable def excB (K:Frag) (C:Addr):Bool:=(K.lookup C).any fun o=>o.cls == .type "type" && ((zue o.data).any fun cd=>cd.mro == .ref C :: .ref 62 :: z2e && (cd.hasDict && !cd.hasDel)) && (six o.slots.toList).any fun p=>p.2.2.2.2.1 == some (.builtin "Exception.__new__")
noncomputable def refB (K:Frag) (C:Addr):Bool :=
 findIn K (.ref C) "__getattribute__" == some (some (.builtin "BaseException.__getattribute__")) && (findIn K (.ref C) "__getattr__" == some none && (findIn K (.ref C) "message" == some none && (((clsIn K C).any (·.hasDict)) && (mroIn K C (.type "BaseException") == some true &&
 (excB K C && (tailIn K z2e (.ref 62 :: z2e) && (findIn K (.ref C) "__init__" == some (some (.ref zum)) && (typeIn K (.ref zum) == some (.type "function") && (findIn K (.ref C) "__setattr__" == some (some (.builtin "object.__setattr__")) &&
 (keepIn K (.ref C) && (exmOne K (.ref C) (.ref C) == some true && (specialIn K (.builtin "object.__class__") "__get__" == some (some (.builtin "getset_descriptor.__get__")) && takesIn K (.builtin "object.__class__") == some true))))))))))))
noncomputable def kB (K:Frag):Bool :=
 (z4y.all fun p=>clsB K p.1 p.2.1) && ((zcc.all fun p=>zuh K p.1 (Str.ofString p.2.1) p.2.2) && ((z3d.all fun p=>keepIn K (.ref p.1)) && ((z4y.all fun p=>keepIn K (.ref p.1)) &&
 ((z4y.all fun p=>z4y.all fun q=>kitOne K (.ref q.1) (.ref p.1) == some (decide (q.1 = p.1))) && refB K zg2))))
noncomputable def zwe (h:Heap):Bool :=
 (z3d.all fun p=>fnB h p.1 (zm7 p.2.1)) && (kB (z9c h znc) && (h.isNs mainGlobals && ((z7i.all fun p=>h.nsMap mainGlobals p.1 == some p.2) && ((zb3.all fun p=>h.nsMap mainGlobals p.1 == none) && (h.get? sysModules).isSome))))
noncomputable def hk2:Hook where
 α:=List (Option FnV)×Bool
 obs:=fun s=>(z3d.map fun p=>zjf s.heap p.1,zwe s.heap)
 val:=fun uu=>(z3d.map fun p=>fnV p.2.1,true)
 says:=fun uu h=>∃ h₁:Heap,(∀ b o,h₁.get? b = some o→h.get? b = some o)∧(z3d.map fun p=>zjf h₁ p.1,zwe h₁) = (z3d.map fun p=>fnV p.2.1,true)
 of:=fun uu s e=>⟨(s.heap:Heap),fun uu uu e=>e,e⟩
 keeps:=fun _ _ _ ⟨h₁,k,e⟩ k'=>⟨h₁,fun uu uu q=>k' _ _ (k _ _ q),e⟩
end
section
open PySem PySem.W PySem.Calls PyProof.Rows
noncomputable def stOk (v:FnV):Bool :=
 decide (v.2.2.kind = .function) && (!v.2.2.isCoroutine && (!v.2.2.isGenerator && (v.1.posonlyargs.isEmpty && (v.1.vararg.isNone && (v.1.kwonlyargs.isEmpty && (v.1.kwarg.isNone && (decide ((v.1.args.map (·.arg)).Nodup) && (zng v.2.2.names &&
 ((v.1.args.map (·.arg)).all (fun p=>decide (v.2.2.names.lookup p = some .local∨v.2.2.names.lookup p = some .cell)) && (v.2.2.names.all (fun n=>decide (n.2 ≠ .free)) && decide (v.1.defaults.length≤v.1.args.length)))))))))))
theorem zm8:(z3d.all fun p=>(fnV p.2.1).any stOk) = true:=by decide +kernel
theorem zab {a:Addr} {v:FnV}:∀ {tab:List (Addr×Option Stmt×String)},zg3 a tab = some v→∃ p∈tab,p.1 = a∧fnV p.2.1 = some v
 | p :: r,h=>by
  have h:(if p.1 = a then fnV p.2.1 else zg3 a r) = some v:=h
  by_cases q:p.1 = a
  ·rw [if_pos q] at h;exact ⟨p,.head _,q,h⟩
  ·rw [if_neg q] at h
   exact (zab h).imp fun uu x=>⟨.tail _ x.1,x.2⟩
theorem zjg {α β:Type} {f g:α→β}:∀ {l:List α},l.map f = l.map g→∀ p∈l,f p = g p
 | a :: r,h,p,hp=>by
  have h:=List.cons.inj h
  refine Or.elim (List.mem_cons.mp hp) (fun zo3=>?_) (fun hp=>?_)
  ·obtain rfl:=zo3;exact h.1
  ·exact zjg h.2 p hp
theorem z3i {α:Type} {o:Option α} {f:α→Bool} (h:o.any f = true):∃ a,o = some a∧f a = true:=by
 induction o with
 | none=>exact nf h
 | some a=>exact ⟨a,rfl,h⟩
theorem zbt {α β:Type} {o:Option α} {f:α→Option β} {b:β} (h:o.bind f = some b):∃ a,o = some a∧f a = some b:=by
 induction o with
 | none=>exact nn h
 | some a=>exact ⟨a,rfl,h⟩
theorem z0q {a b:Bool} (h:(a && b) = true):a = true∧b = true:=Bool.and_eq_true_iff.mp h
section
variable {d:Data} {v:Value} {b:FuncBody}
theorem zjh {f:FuncData} (h:zep d = some f):d = .func f:=by cases d <;> first | exact congrArg Data.func (Option.some.inj h) | exact nomatch (show none = some f from h)
theorem zm9 {f:ClassData} (h:zue d = some f):d = .cls f:=by cases d <;> first | exact congrArg Data.cls (Option.some.inj h) | exact nomatch (show none = some f from h)
theorem zd4 {f:Array Value} (h:zeq d = some f):d = .fields f:=by cases d <;> first | exact congrArg Data.fields (Option.some.inj h) | exact nomatch (show none = some f from h)
theorem zma {f:Array Value×Nat} (h:zud d = some f):d = .seq f.1 f.2:=by cases d <;> first | exact congrArg (fun p:Array Value×Nat=>Data.seq p.1 p.2) (Option.some.inj h) | exact nomatch (show none = some f from h)
theorem zfw {l:List Stmt} (h:zjd b = some l):b = .stmts l:=by cases b <;> first | exact congrArg FuncBody.stmts (Option.some.inj h) | exact nomatch (show none = some l from h)
theorem zer {a:Addr} (h:zqt v = some a):v = .ref a:=by cases v <;> first | exact congrArg Value.ref (Option.some.inj h) | exact nomatch (show none = some a from h)
theorem zmb {a:Str×Tok} (h:zuf v = some a):v = .str a.1 a.2:=by cases v <;> first | exact congrArg (fun p:Str×Tok=>Value.str p.1 p.2) (Option.some.inj h) | exact nomatch (show none = some a from h)
theorem zmc {a:Int×Tok} (h:zqu v = some a):v = .int a.1 a.2:=by cases v <;> first | exact congrArg (fun p:Int×Tok=>Value.int p.1 p.2) (Option.some.inj h) | exact nomatch (show none = some a from h)
theorem zbu (h:zje v = true):v = .none:=by cases v <;> first | rfl | exact nomatch (show false = true from h)
theorem zui:∀ {l:List (Option Value)} {p},six l = some p→l = [p.1,p.2.1,p.2.2.1,p.2.2.2.1,p.2.2.2.2.1,p.2.2.2.2.2]
 | [],_,h | [_],_,h | [_,_],_,h | [_,_,_],_,h | [_,_,_,_],_,h | [_,_,_,_,_],_,h=>nomatch (show none = some _ from h)
 | [_,_,_,_,_,_],_,h=>Option.some.inj h ▸ rfl
 | _ :: _ :: _ :: _ :: _ :: _ :: _ :: _,_,h=>nomatch (show none = some _ from h)
end
section
variable {h₁ h:Heap} {R:List Addr}
theorem zfx {a:Addr} {v:FnV} (e:zjf h₁ a = some v):∃ o fd b,h₁.get? a = some o∧o.data = .func fd∧fd.body = .stmts b∧(fd.params,b,fd.scope) = v:=by
 refine z0e (zbt e) fun o g e=>?_
 refine z0e (zbt e) fun fd d e=>?_
 refine z0e (Option.map_eq_some_iff.mp e) fun b hb e=>?_
 exact ⟨o,fd,b,g,zjh d,zfw hb,e⟩
theorem zji {a:AV} {v:Value} (e:zwd a v = true):VRel R h a v:=by
 cases a with
 | none=>exact zbu e ▸ .none
 | int i =>
  refine z0e (z3i (show (zqu v).any (fun p=>i == p.1) = true from e)) fun p q e=>?_
  rw [zmc q,eq_of_beq e]
  exact .int _ _
 | _=>exact nomatch (show false = true from e)
theorem zbv:∀ {ds:List AV} {vs:List Value},zur ds vs = true→∀ R h,VRels R h ds vs
 | [],[],_,_,_=>.nil
 | [],_ :: _,e,_,_=>nomatch (show false = true from e)
 | _ :: _,[],e,_,_=>nomatch (show false = true from e)
 | a :: r,v :: vs,e,R,h =>
  have e:=z0q (show (zwd a v && zur r vs) = true from e)
  .cons (zji e.1) (zbv e.2 R h)
theorem zfy {q:Str} {c:Value} (e:zug h₁ q c = true):h₁.CodeRec c q:=by
 refine z0e (z3i e) fun a ea e=>?_
 refine z0e (z3i e) fun o g e=>?_
 refine z0e (z3i e) fun vs d e=>?_
 refine z0e (z3i e) fun w hw e=>?_
 refine z0e (z3i e) fun p hp e=>?_
 exact ⟨a,o,vs,p.2,zer ea,g,zd4 d,by rw [hw,zmb hp,eq_of_beq e]⟩
theorem zfz {ds:List AV} {v:Value} (e:zqv h₁ ds v = true):∃ vs:List Value,(v = .none∧vs = []∨∃ t ot n,v = .ref t∧h₁.get? t = some ot∧ot.data = .seq vs.toArray n)∧∀ R h,VRels R h ds vs:=by
 rcases Bool.or_eq_true_iff.mp e with e | e
 ·have e:=z0q e
  exact ⟨[],.inl ⟨zbu e.1,rfl⟩,fun uu uu=>List.isEmpty_iff.mp e.2 ▸ .nil⟩
 ·refine z0e (z3i e) fun t ht e=>?_
  refine z0e (z3i e) fun o g e=>?_
  refine z0e (z3i e) fun p hp e=>?_
  exact ⟨p.1.toList,.inr ⟨t,o,p.2,zer ht,g,zma hp⟩,zbv e⟩
theorem zmd {a:Addr} {ds:List AV} {o:Obj} {fd:FuncData} (e:fnB h₁ a ds = true) (hg:h₁.get? a = some o) (hd:o.data = .func fd):fd.closure = []∧fd.globals = mainGlobals∧fd.builtins = builtinsNs∧h₁.CodeRec fd.code fd.qualname∧zqv h₁ ds fd.defaults = true:=by
 unfold fnB at e
 rw [hg] at e
 have e:(zep o.data).any _ = true:=e
 rw [hd] at e
 obtain e1:=z0q e
 obtain e2:=z0q e1.2
 obtain e3:=z0q e2.2
 obtain e4:=z0q e3.2
 exact ⟨List.isEmpty_iff.mp e1.1,eq_of_beq e2.1,eq_of_beq e3.1,zfy e4.1,e4.2⟩
structure StOk (v:FnV):Prop where
 kind:v.2.2.kind = .function
 co:v.2.2.isCoroutine = false
 gen:v.2.2.isGenerator = false
 pos:v.1.posonlyargs = []
 va:v.1.vararg = none
 ko:v.1.kwonlyargs = []
 kw:v.1.kwarg = none
 nd:(v.1.args.map (·.arg)).Nodup
 sc:zng v.2.2.names = true
 kinds:∀ p∈v.1.args.map (·.arg),v.2.2.names.lookup p = some .local∨v.2.2.names.lookup p = some .cell
 free:∀ n∈v.2.2.names,n.2 ≠ .free
 dl:v.1.defaults.length≤v.1.args.length
theorem zes {a:Bool} (h:(!a) = true):a = false:=Bool.not_eq_true' a ▸ h
theorem zqw {v:FnV} (h:stOk v = true):StOk v :=
 have e1:=z0q h
 have e2:=z0q e1.2
 have e3:=z0q e2.2
 have e4:=z0q e3.2
 have e5:=z0q e4.2
 have e6:=z0q e5.2
 have e7:=z0q e6.2
 have e8:=z0q e7.2
 have e9:=z0q e8.2
 have e10:=z0q e9.2
 have e11:=z0q e10.2
 ⟨of_decide_eq_true e1.1,zes e2.1,zes e3.1,List.isEmpty_iff.mp e4.1,Option.isNone_iff_eq_none.mp e5.1,List.isEmpty_iff.mp e6.1,Option.isNone_iff_eq_none.mp e7.1,of_decide_eq_true e8.1,e9.1,
  fun p hp=>of_decide_eq_true (List.all_eq_true.mp e10.1 p hp),fun n hn=>of_decide_eq_true (List.all_eq_true.mp e11.1 n hn),of_decide_eq_true e11.2⟩
variable {zf:Addr→Option (List Int)}
theorem zqx {gd:Gd} (k:∀ b o,h₁.get? b = some o→gd.h₀.get? b = some o) (e:z3d.map (fun p=>zjf h₁ p.1) = z3d.map (fun p=>fnV p.2.1)) (eb:(z3d.all fun p=>fnB h₁ p.1 (zm7 p.2.1)) = true) {a:Addr} {f:zg1} (hf:(TTz zf).fn a = some f):zr9 gd a f:=by
 refine z0e (Option.map_eq_some_iff.mp (show (zg3 a z3d).map zbx = some f from hf)) fun v hv zr02=>?_;obtain rfl:=zr02
 refine z1m (zab hv) fun p hp zr12 hpv=>?_;obtain rfl:=zr12
 refine z1j (zfx ((zjg e p hp).trans hpv)) fun o fd b hg hd e2 zr26=>?_;obtain rfl:=zr26
 refine zrp (zmd (List.all_eq_true.mp eb p hp) hg hd) fun b1 b2 b3 b4 b5=>?_
 refine z0e (zfz b5) fun vs c1 c2=>?_
 have ds:zm7 p.2.1 = fd.params.defaults.map zhh:=by unfold zm7;rw [hpv]
 rw [ds] at c2
 refine z0e (z3i (List.all_eq_true.mp zm8 p hp)) fun w hw st=>?_
 rw [hpv] at hw
 obtain rfl:=Option.some.inj hw
 obtain s:=zqw st
 have hl:vs.length≤(fd.params.args.map (·.arg)).length:=by
  rw [← (c2 [] gd.h₀).length,List.length_map,List.length_map]
  exact s.dl
 exact ⟨⟨o,fd,k _ _ hg,hd,e2,rfl,s.kind,s.co,s.gen,b1,b2,b3,b4.keeps k,⟨s.pos,rfl,s.va,s.ko,s.kw,s.nd⟩,vs,c1.imp id fun zm=>z5v zm fun t ot n q1 q2 q3=>⟨t,ot,n,q1,k _ _ q2,q3⟩,hl,c2⟩,s.sc,s.kinds,s.free⟩
end
end
section
open PySem PySem.W PySem.Calls PyProof.Rows
theorem z8a {a i:Addr}:∀ {tab:List (Addr×Addr×String)},zfe a tab = some i→∃ p∈tab,p.1 = a∧p.2.1 = i
 | p :: r,h=>by
  have h:(if p.1 = a then some p.2.1 else zfe a r) = some i:=h
  by_cases q:p.1 = a
  ·rw [if_pos q] at h;exact ⟨p,.head _,q,Option.some.inj h⟩
  ·rw [if_neg q] at h
   exact (z8a h).imp fun uu x=>⟨.tail _ x.1,x.2⟩
theorem z9d {a f:Addr} {m:Str}:∀ {tab:List (Addr×String×Addr)},zdl a m tab = some f→∃ p∈tab,p.1 = a∧m = Str.ofString p.2.1∧p.2.2 = f
 | p :: r,h=>by
  have h:(if p.1 = a∧m = Str.ofString p.2.1 then some p.2.2 else zdl a m r) = some f:=h
  by_cases q:p.1 = a∧m = Str.ofString p.2.1
  ·rw [if_pos q] at h;exact ⟨p,.head _,q.1,q.2,Option.some.inj h⟩
  ·rw [if_neg q] at h
   exact (z9d h).imp fun uu x=>⟨.tail _ x.1,x.2⟩
theorem zet {κ α:Type} [DecidableEq κ] {x:κ} {v:α}:∀ {l:List (κ×α)},look l x = some v→(x,v)∈l
 | p :: r,h=>by
  have h:(if p.1 = x then some p.2 else look r x) = some v:=h
  by_cases q:p.1 = x
  ·rw [if_pos q] at h
   exact (show (x,v) = p from Prod.ext q.symm (Option.some.inj h).symm) ▸ .head _
  ·rw [if_neg q] at h
   exact .tail _ (zet h)
theorem zme {x:Str} (h:z2y x = true):x∈z6x:=by unfold z2y at h;simpa using h
section
variable {K:Frag}
theorem zqy {zf:Addr→Option (List Int)} {gd:Gd} (hT:gd.T = (TTz zf)) {C init:Addr} (e:clsB gd.K C init = true) (em:(zcc.all fun p=>zuh gd.K p.1 (Str.ofString p.2.1) p.2.2) = true):zrr gd C init :=
 have e1:=z0q e
 have e2:=z0q e1.2
 have e3:=z0q e2.2
 have e4:=z0q e3.2
 have e5:=z0q e4.2
 have e6:=z0q e5.2
 have e7:=z0q e6.2
 have e8:=z0q e7.2
 have e9:=z0q e8.2
 have e10:=z0q e9.2
 ⟨e1.1,eq_of_beq e2.1,eq_of_beq e3.1,eq_of_beq e4.1,eq_of_beq e5.1,eq_of_beq e6.1,e7.1,z3i e8.1,fun x hx=>eq_of_beq (List.all_eq_true.mp e9.1 x (zme hx)),fun m f hm=>by
  refine z8n (z9d ((congrArg (fun T:Tab=>T.meth C m) hT).symm.trans hm)) fun p hp zr02 zr03 zr04=>?_;obtain rfl:=zr02;obtain rfl:=zr03;obtain rfl:=zr04
  obtain q1:=z0q (List.all_eq_true.mp em p hp)
  obtain q2:=z0q q1.2
  obtain q3:=z0q q2.2
  exact ⟨zes q1.1,eq_of_beq q2.1,eq_of_beq q3.1,q3.2⟩,eq_of_beq e10.1,eq_of_beq e10.2⟩
theorem zqz {C:Addr} (e:excB K C = true):∃ nm q N bs sn sub ab col dd k0 k1 k2 k3 k5,K.lookup C = some (excClassObj nm q C N bs (.ref 62 :: z2e) true sn sub ab col dd k0 k1 k2 k3 k5 "Exception.__new__"):=by
 revert K C;refine no_implicit_lambda% (z2b inferInstance ?_);generalize (e1 _ _) = K;refine no_implicit_lambda% (z2b inferInstance ?_);generalize (e1 _ _) = C;unhygienic intros
 obtain ⟨⟨c,dd,data,⟨sl⟩⟩,hl,e⟩:=z3i e
 obtain e1:=z0q e
 obtain e2:=z0q e1.1
 obtain ⟨⟨nm,bs,mro,ns,qn,hdct,sn,sub,ab,col,hdel⟩,hc,m⟩:=z3i e2.2
 obtain ⟨⟨k0,k1,k2,k3,k4,k5⟩,hs,k⟩:=z3i e1.2
 obtain m1:=z0q m
 obtain m2:=z0q m1.2
 obtain x1:c = .type "type":=eq_of_beq e2.1
 obtain x2:data = _:=zm9 hc
 obtain x3:sl = _:=zui hs
 obtain x4:k4 = _:=eq_of_beq k
 obtain x5:mro = _:=eq_of_beq m1.1
 obtain x6:hdct = true:=m2.1
 obtain x7:hdel = false:=zes m2.2
 rw [hl,x1,x2,x3,x4,x5,x6,x7]
 exact ⟨nm,qn,ns,bs,sn,sub,ab,col,dd,k0,k1,k2,k3,k5,rfl⟩
structure RefS (K:Frag):Prop where
 rk:zf9 K zg2
 mo:z6b K zg2 zum
 kc:keepIn K (.ref zg2) = true
 ex:exmOne K (.ref zg2) (.ref zg2) = some true
 cg:specialIn K (.builtin "object.__class__") "__get__" = some (some (.builtin "getset_descriptor.__get__"))∧takesIn K (.builtin "object.__class__") = some true
theorem zr0 (e:refB K zg2 = true):RefS K :=
 have e1:=z0q e
 have e2:=z0q e1.2
 have e3:=z0q e2.2
 have e4:=z0q e3.2
 have e5:=z0q e4.2
 have e6:=z0q e5.2
 have e7:=z0q e6.2
 have e8:=z0q e7.2
 have e9:=z0q e8.2
 have e10:=z0q e9.2
 have e11:=z0q e10.2
 have e12:=z0q e11.2
 have e13:=z0q e12.2
 have m:findIn K (.ref zg2) "message" = some none:=eq_of_beq e3.1
 ⟨⟨eq_of_beq e1.1,eq_of_beq e2.1,m,z3i e4.1,eq_of_beq e5.1⟩,⟨by
  obtain ⟨nm,q,N,bs,sn,sub,ab,col,dd,k0,k1,k2,k3,k5,h⟩:=zqz e6.1
  exact ⟨nm,q,N,bs,62,sn,sub,ab,col,dd,k0,k1,k2,k3,k5,h,e7.1⟩,eq_of_beq e8.1,eq_of_beq e9.1,eq_of_beq e10.1,m⟩,e11.1,eq_of_beq e12.1,eq_of_beq e13.1,eq_of_beq e13.2⟩
end
section
variable {zf:Addr→Option (List Int)} {h₁ h:Heap} {prog:Program} {w:World} {mg mb:Str→Option Value}
noncomputable abbrev zwf (zf:Addr→Option (List Int)) (prog:Program) (w:World) (h₁ h:Heap):Gd:=⟨prog,w,(TTz zf),z9c h₁ znc,h⟩
structure Says (gd:Gd) (mg:Str→Option Value):Prop where
 top:zex gd
 fns:∀ a f,gd.T.fn a = some f→zr9 gd a f
 rs:RefS gd.K
 io:zb1 gd zum
 law:mg (Str.ofString "law") = some (.ref 1171)
theorem zd5 {C i:Addr} (h:(TTz zf).cls C = some i):∃ p∈z4y,p.1 = C∧p.2.1 = i:=z8a h
theorem znd {x:Str} {v:Value} (h:(x,v)∈zb3):x ≠ "__name__"∧bootBuiltins x = some v:=by
 obtain key:zb3.all (fun p=>decide (p.1 ≠ ("__name__" : Str)∧bootBuiltins p.1 = some p.2)) = true:=by decide +kernel
 exact of_decide_eq_true (List.all_eq_true.mp key _ h)
theorem zr1:(Str.ofString "law",Value.ref 1171)∈z7i:=of_decide_eq_true (by decide +kernel)
theorem zr2 (k:∀ b o,h₁.get? b = some o→h.get? b = some o) (e:(z3d.map fun p=>zjf h₁ p.1,zwe h₁) = (z3d.map fun p=>fnV p.2.1,true)) (lim:h.NoLimit) (hg:h.Ns mainGlobals mg) (hb:h.Ns builtinsNs mb) (hbt:∀ x:Str,x ≠ "__name__"→mb x = bootBuiltins x)
  (fz:∀ a xs,zf a = some xs→∃ ws n,h.get? a = some (listOf ws n)∧∀ R h,VRels R h (xs.map .int) ws.toList):Says (zwf zf prog w h₁ h) mg :=
 have e1:=congrArg Prod.fst e
 have b1:=z0q (congrArg Prod.snd e)
 have b2:=z0q b1.2
 have b3:=z0q b2.2
 have b4:=z0q b3.2
 have b5:=z0q b4.2
 have k1:=z0q b2.1
 have k2:=z0q k1.2
 have k3:=z0q k2.2
 have k4:=z0q k3.2
 have k5:=z0q k4.2
 have rok:=zr0 k5.2
 have fns:∀ a f,(TTz zf).fn a = some f→zr9 (zwf zf prog w h₁ h) a f:=fun a f hf=>zqx (gd:=zwf zf prog w h₁ h) k e1 b1.1 hf
 have hmg:∀ x,mg x = h₁.nsMap mainGlobals x:=fun x=>hg.agree ((Heap.Ns.of_isNs b3.1).keeps k) x
 have gl:∀ x v,(x,v)∈z7i→mg x = some v:=fun x v hm=>(hmg x).trans (eq_of_beq (List.all_eq_true.mp b4.1 _ hm))
 ⟨⟨fun a o hl=>k _ _ (z89 h₁ _ a o hl),lim,(Option.isSome_iff_exists.mp b5.2).imp fun uu q=>k _ _ q,⟨mg,mb,hg,hb,fun x v hx=>(List.mem_append.mp (zet (show look (z7i++zb3) x = some v from hx))).imp (gl x v) fun q =>
   ⟨(hmg x).trans (eq_of_beq (List.all_eq_true.mp b5.1 _ q)),(hbt x (znd q).1).trans (znd q).2⟩⟩,fun C i hc=>by
    refine z1m (zd5 hc) fun p hp zr02 zr03=>?_;obtain rfl:=zr02;obtain rfl:=zr03
    exact zqy rfl (List.all_eq_true.mp k1.1 p hp) k2.1,fun a ha=>by
    refine Or.elim (Bool.or_eq_true_iff.mp (show ((zg3 a z3d).isSome || (zfe a z4y).isSome) = true from ha)) (fun q=>?_) (fun q=>?_)
    ·obtain ⟨v,hv⟩:=Option.isSome_iff_exists.mp q
     refine z1m (zab hv) fun p hp zr22 uu=>?_;obtain rfl:=zr22
     exact List.all_eq_true.mp k3.1 p hp
    ·obtain ⟨v,hv⟩:=Option.isSome_iff_exists.mp q
     refine z1m (z8a hv) fun p hp zr22 uu=>?_;obtain rfl:=zr22
     exact List.all_eq_true.mp k4.1 p hp,fun C C' i i' hc hc'=>by
    refine z1m (zd5 hc) fun p hp zr52 uu=>?_;obtain rfl:=zr52
    refine z1m (zd5 hc') fun q hq zr62 uu=>?_;obtain rfl:=zr62
    exact eq_of_beq (List.all_eq_true.mp (List.all_eq_true.mp k5.1 p hp) q hq),rok.ex,fz,rok.cg⟩,fns,rok,
  ⟨_,_,_,_,_,fns 79 _ rfl,rfl,rfl,rfl,by decide +kernel,by decide +kernel⟩,gl _ _ zr1⟩
end
end
section
open PySem PySem.W PySem.Calls PyProof.Rows
section
variable {R:WRecords} {d:WData} {ds:List WData} {args:List WData} {P:Params} {h:Heap} {v:Value} {vs:List Value} {xs:List Int} {i:Int}
theorem zr3 (h:WShape.has R d .int = true):∃ i,d = .int i:=by
 cases d with
 | int i=>exact ⟨i,rfl⟩
 | _=>exact nomatch (show false = true from h)
theorem zeu:∀ {ds:List WData},WShape.hasItems R ds .int = true→∃ xs:List Int,ds = xs.map .int
 | []=>fun uu=>⟨[],rfl⟩
 | d :: r=>fun h=>by
  have h:(WShape.has R d .int && WShape.hasItems R r .int) = true:=h
  obtain ⟨i,rfl⟩:=zr3 (Bool.and_eq_true_iff.mp h).1
  obtain ⟨xs,rfl⟩:=zeu (Bool.and_eq_true_iff.mp h).2
  exact ⟨i :: xs,rfl⟩
theorem zmf (h:WShape.has R d (.list .int) = true):∃ xs:List Int,d = .list (xs.map .int):=by
 cases d with
 | list ds =>
  have h:(WShape.hasItems R ds .int || false) = true:=h
  rw [Bool.or_false] at h
  obtain ⟨xs,rfl⟩:=zeu h
  exact ⟨xs,rfl⟩
 | _=>exact nomatch (show false = true from h)
theorem zmg (h:WShape.hasAll R args [.list .int] = true):∃ xs:List Int,args = [.list (xs.map .int)]:=by
 induction args with
 | nil=>exact nomatch (show false = true from h)
 | cons d r =>
  have h:(WShape.has R d (.list .int) && WShape.hasAll R r []) = true:=h
  refine oEA (zmf (Bool.and_eq_true_iff.mp h).1) fun xs zr01=>?_;obtain rfl:=zr01
  have h2:=(Bool.and_eq_true_iff.mp h).2
  induction r with
  | nil=>exact ⟨xs,rfl⟩
  | cons d r=>exact nomatch (show false = true from h2)
noncomputable def zwg (P:Params) (h:Heap) (v:Value):WData→Prop
 | .int i=>∃ t,v = .int i t
 | .list ds=>∃ a vs,v = .ref a∧h.get? a = some { cls:=.type "list",data:=.seq (List.toArray vs) }∧WellAll P h vs ds
 | _=>True
theorem zne (w:Well P h v d):zwg P h v d:=by
 cases w with
 | int i t=>exact ⟨t,rfl⟩
 | list g w=>exact ⟨_,_,rfl,g,w⟩
 | _=>trivial
theorem zev (w:WellAll P h vs []):vs = []:=by cases w;rfl
theorem zbw (w:WellAll P h vs (d :: ds)):∃ v vs',vs = v :: vs'∧Well P h v d∧WellAll P h vs' ds:=by
 cases w with | cons a b=>exact ⟨_,_,rfl,a,b⟩
theorem zew:∀ {xs:List Int} {vs:List Value},WellAll P h vs (xs.map .int)→∀ R h',VRels R h' (xs.map .int) vs
 | []=>fun w R h'=>zev w ▸ .nil
 | x :: r=>fun w R h'=>by
  obtain ⟨v,vs,rfl,a,b⟩:=zbw w
  refine oEA (zne a) fun t zr11=>?_;obtain rfl:=zr11
  exact .cons (.int _ _) (zew b R h')
theorem zr4 (h:(WTm.not (.lt (.lit (.int (63:Nat))) (.len (.arg 0)))).holds R { args:=[.list (xs.map .int)] } = true):xs.length≤63:=by
 obtain h:=condW_of (X:=!decide ((63:Int) < ((xs.map WData.int).length:Int))) h rfl
 rw [List.length_map] at h
 exact Nat.not_lt.mp fun q=>by
  rw [decide_eq_true (show (63:Int) < (xs.length:Int) from Int.ofNat_lt.mpr q)] at h;exact nf h
end
theorem walk (LT:∀ z,Law z)
  {q:Program} {loose:List Str} {XP:(Str→Option Value)→Heap→Prop} {d:DefRec} {kwd:List (Str×Expr)} (hd:d.name = Str.ofString "law"):WalkO q loose XP hk2.says PySem.Challenge.rw_sm0117_01.row.toRowW d kwd fun f vs=>PySem.call f vs:=by
 intro w s₀ s₁ mg mb G Y a o pm cd doc dV kV h1 h2 h3 h4 h5 h6 args vals as hpre hlay hrd hwell hlow
 refine z0e Y fun h₁ k e=>?_
 obtain ⟨xs,rfl⟩:=zmg (pre_splitW hpre).1
 obtain hl:xs.length≤63:=zr4 (holds_andW (pre_splitW hpre).2).1
 refine z1c (zbw hwell) fun uu uu zr22 w1 w2=>?_;obtain rfl:=zr22
 obtain rfl:=zev w2
 refine z1c (zne w1) fun sc vs zr32 hg hw=>?_;obtain rfl:=zr32
 let F:Addr→Option (List Int):=fun b=>if b = sc then some xs else none
 obtain hz:F sc = some xs:=if_pos rfl
 have S:=@zr2 F h₁ s₁.heap PySem.Challenge.pw_sm0117_01 w mg mb k e G.T.nolimit G.T.g G.T.b G.T.builtins (fun b ys hb=>by
  have hb:(if b = sc then some xs else none) = some ys:=hb
  split at hb
  ·rename_i q
   obtain rfl:=Option.some.inj hb
   cases q
   exact ⟨_,_,hg,zew hw⟩
  ·exact nn hb)
 obtain ⟨σ',e9⟩:=LT F xs sc hz hl
 have ha:a = 1171:=by
  rw [hd,S.law] at h5
  cases h5;rfl
 obtain rfl:=ha
 refine wpAny_call (z9p S.top S.fns S.rs.rk S.rs.mo S.rs.kc S.io 9 [] callerA rfl rfl (by decide) (by decide) 1171 [.raw (.ref sc)] [.ref sc] [] [] s₁ _ _ ⟨fun uu uu e=>e,fun uu h=>(nomatch h),.nil,rfl,fun i o a h=>(nomatch h),fun uu h=>nomatch h⟩ (.cons (.raw _) .nil) ?_)
 refine (?_:PR _ _ _ _ _ _ _ (z05 (TTz F) 9 1171 [.raw (.ref sc)] []))
 rw [e9]
 intro b R' h' tk x i r
 cases r
 exact ⟨.inl ⟨.bool true,.bool true,[],rfl,raisesW_false (fun uu h=>nomatch h),.bool true,postW_of rfl rfl (same_self _),fun uu=>⟨.nil,fun uu h=>nomatch h⟩⟩,.of_keep i.stays,rfl,.of_eq h6⟩
end
section
open PySem PySem.W PyProof.Rows
namespace hd
abbrev T:=True
theorem t:T:=⟨⟩
-- The rows ahead of «theorem hd»: plain theorems that say True. The head lays a twin of each object that it reads,under Mine.hd.tw and a sum of the name,unless the name is taken: the twins of these are not wanted (they are 550 MB of the compiled file),so their names are taken here. No proof uses these theorems.
theorem tw17454762481156229385:T:=t
theorem tw2867327485932766208:T:=t
theorem tw4971549296188076032:T:=t
theorem tw8735263284916673568:T:=t
theorem tw4523669819894539328:T:=t
theorem tw6276725880618359904:T:=t
theorem tw17470177872615007328:T:=t
theorem tw13155780701260043360:T:=t
theorem tw16412773359747925120:T:=t
theorem tw4706079058837389440:T:=t
theorem tw10195207025132199040:T:=t
theorem tw6830512106363814048:T:=t
theorem tw17950676927832955104:T:=t
theorem tw2739504486584576224:T:=t
theorem tw17956543221229664512:T:=t
theorem tw16759147789766475008:T:=t
theorem tw11109741339103130912:T:=t
theorem tw11595982170579460384:T:=t
theorem tw10259988299927297344:T:=t
theorem tw8381844023166312768:T:=t
theorem tw17387473266821786944:T:=t
theorem tw10763509664835889504:T:=t
theorem tw8912348807662434688:T:=t
theorem tw7023726343779634624:T:=t
theorem tw6646985988748340704:T:=t
theorem tw8134915037123179040:T:=t
theorem tw3911173418732280352:T:=t
theorem tw15344866539931968096:T:=t
theorem tw1359830224848277088:T:=t
theorem tw4494801613693538912:T:=t
theorem tw4946210868454251104:T:=t
theorem tw7541792107247259296:T:=t
theorem tw16154546982801380032:T:=t
theorem tw12070654863422294720:T:=t
theorem tw9614397579173300960:T:=t
theorem tw4730091804998409952:T:=t
theorem tw16694946328126371552:T:=t
theorem tw7080932558258925280:T:=t
theorem tw15643275761693703936:T:=t
theorem tw5715356086224469760:T:=t
theorem tw10224846074564989696:T:=t
theorem tw17183224562656869120:T:=t
theorem tw15278966056882409248:T:=t
theorem tw4958948430592982816:T:=t
theorem tw5983496337302601536:T:=t
theorem tw16635604280276938560:T:=t
theorem tw1632911306035174240:T:=t
theorem tw15152743547302097792:T:=t
theorem tw3350930974749635488:T:=t
theorem tw10026777125879992224:T:=t
theorem tw14598272352848978880:T:=t
theorem tw17252143746492648416:T:=t
theorem tw6636792957720756321:T:=t
theorem tw10752148897807903841:T:=t
theorem tw7610815399733428385:T:=t
theorem tw10403243965636340961:T:=t
theorem tw13129650132239662433:T:=t
theorem tw12629531694177875297:T:=t
theorem tw4086058157674990017:T:=t
theorem tw9429285754427346401:T:=t
theorem tw7512474625130614241:T:=t
theorem tw15220180469806662145:T:=t
theorem tw16037735763661986305:T:=t
theorem tw17336936450418997793:T:=t
theorem tw4367455430839740993:T:=t
theorem tw18343703819029505601:T:=t
theorem tw8773699223549846113:T:=t
theorem tw13585648185636399713:T:=t
theorem tw10678649693572172417:T:=t
theorem tw13330244855972007585:T:=t
theorem tw2371736936440567457:T:=t
theorem tw2799716289819351777:T:=t
theorem tw16547865195752855329:T:=t
theorem tw13937860266046166849:T:=t
theorem tw6046454685291232161:T:=t
theorem tw8887996145723391905:T:=t
theorem tw12602439190401603521:T:=t
theorem tw7914949630228597729:T:=t
theorem tw2505046432360240130:T:=t
theorem tw11210553801493137410:T:=t
theorem tw8609351116199087170:T:=t
theorem tw10905682514733158466:T:=t
theorem tw14745743045033390146:T:=t
theorem tw15630680890609703042:T:=t
theorem tw5592821105494180994:T:=t
theorem tw5480042469492414594:T:=t
theorem tw6308581086252854402:T:=t
theorem tw4210835263042620578:T:=t
theorem tw9731375825926819010:T:=t
theorem tw4272726840584523970:T:=t
theorem tw13171141561276507362:T:=t
theorem tw9430268157657104642:T:=t
theorem tw12936449754285732098:T:=t
theorem tw4702841417184801058:T:=t
theorem tw12337632362937886050:T:=t
theorem tw3478764184967624034:T:=t
theorem tw758273949599710562:T:=t
theorem tw17588044629489971554:T:=t
theorem tw11052946933831473538:T:=t
theorem tw1438991610255065474:T:=t
theorem tw11713075325732132258:T:=t
theorem tw11912922877643110818:T:=t
theorem tw12271959270614036898:T:=t
theorem tw4355604671862981090:T:=t
theorem tw7492944070806833698:T:=t
theorem tw5781342201191254626:T:=t
theorem tw7031273417212677730:T:=t
theorem tw4521580383011477154:T:=t
theorem tw15064902949301533346:T:=t
theorem tw5190246844813560578:T:=t
theorem tw1448358952932078338:T:=t
theorem tw13064122474441708322:T:=t
theorem tw7525542149764818722:T:=t
theorem tw3173010612589774626:T:=t
theorem tw14446474709323646786:T:=t
theorem tw17088974140843591490:T:=t
theorem tw9960721518486171458:T:=t
theorem tw16443024508289211202:T:=t
theorem tw4581847759332874082:T:=t
theorem tw16052320808349706082:T:=t
theorem tw5360435025570183010:T:=t
theorem tw10365702040365258594:T:=t
theorem tw17895171251205151618:T:=t
theorem tw8450674356893351874:T:=t
theorem tw18245042118932799458:T:=t
theorem tw17994825080979385314:T:=t
theorem tw8179070454071193570:T:=t
theorem tw2263123870574935043:T:=t
theorem tw8531993380330477603:T:=t
theorem tw12364972598781006883:T:=t
theorem tw8228950375871286339:T:=t
theorem tw1882180444382439491:T:=t
theorem tw6052482589124101219:T:=t
theorem tw17325209927041812611:T:=t
theorem tw9048539425550374019:T:=t
theorem tw5318216170032084099:T:=t
theorem tw2304311442786299043:T:=t
theorem tw13001811119718631651:T:=t
theorem tw12704988097186499811:T:=t
theorem tw16904818350239718627:T:=t
theorem tw3660579746685279459:T:=t
theorem tw17130151131035750659:T:=t
theorem tw15924899543223041283:T:=t
theorem tw10847404155465417027:T:=t
theorem tw1033889070964956483:T:=t
theorem tw3229955645248102723:T:=t
theorem tw11754176132448286083:T:=t
theorem tw867598499069673859:T:=t
theorem tw6411954120941647267:T:=t
theorem tw4282359134580295075:T:=t
theorem tw7489763959799892387:T:=t
theorem tw1760603350576429475:T:=t
theorem tw13368278939475635651:T:=t
theorem tw4878824753759274627:T:=t
theorem tw3504079246686126755:T:=t
theorem tw17002781174329755331:T:=t
theorem tw17839454053401726723:T:=t
theorem tw9908193460736022307:T:=t
theorem tw5138769234217329475:T:=t
theorem tw2480057099694739299:T:=t
theorem tw17811195616094107523:T:=t
theorem tw11631947586910100387:T:=t
theorem tw11629707937479629763:T:=t
theorem tw519851828213033955:T:=t
theorem tw16477043939570097188:T:=t
theorem tw6060742912462422084:T:=t
theorem tw6320253292602491972:T:=t
theorem tw14896477498954680388:T:=t
theorem tw8269573656231971908:T:=t
theorem tw6213412439835118660:T:=t
theorem tw6407587892757256292:T:=t
theorem tw17696971302532935780:T:=t
theorem tw9228397985900620932:T:=t
theorem tw6785817131721698500:T:=t
theorem tw5278057926702712004:T:=t
theorem tw10841399608879689956:T:=t
theorem tw1299046323782801668:T:=t
theorem tw10507497572311344420:T:=t
theorem tw14892549342360969540:T:=t
theorem tw13855946660403688772:T:=t
theorem tw8068729725432388964:T:=t
theorem tw3132252637357597028:T:=t
theorem tw3722166409189360004:T:=t
theorem tw18358800413957953924:T:=t
theorem tw7676003278276379012:T:=t
theorem tw3219085151875037572:T:=t
theorem tw1445366717492459972:T:=t
theorem tw11465210709893060100:T:=t
theorem tw12861998865439983172:T:=t
theorem tw8493152586797012548:T:=t
theorem tw7175568609137494628:T:=t
theorem tw10949625832625181284:T:=t
theorem tw469108185253701220:T:=t
theorem tw7379015992945566340:T:=t
theorem tw17001982702790524580:T:=t
theorem tw9013056391748086436:T:=t
theorem tw5732804406350252772:T:=t
theorem tw9990345226319884068:T:=t
theorem tw17583924267553061668:T:=t
theorem tw8684328023851190084:T:=t
theorem tw18241275227582772068:T:=t
theorem tw8458067239894703972:T:=t
theorem tw3789350110615891812:T:=t
theorem tw6800881396052196260:T:=t
theorem tw10728610062214689732:T:=t
theorem tw14991384322417631237:T:=t
theorem tw13931416462566266981:T:=t
theorem tw8356816923877370021:T:=t
theorem tw8881176148764397765:T:=t
theorem tw7355570028127101125:T:=t
theorem tw12414669353804360901:T:=t
theorem tw4074112789689628901:T:=t
theorem tw11375277706881905925:T:=t
theorem tw4292457097857839397:T:=t
theorem tw1930396617588912421:T:=t
theorem tw6305734824756694309:T:=t
theorem tw9702936160620672325:T:=t
theorem tw3405361230339686725:T:=t
theorem tw10258999931320997221:T:=t
theorem tw11893437276241958245:T:=t
theorem tw15910714762333108613:T:=t
theorem tw12399718760709695909:T:=t
theorem tw5976792059365374437:T:=t
theorem tw1847840615245081061:T:=t
theorem tw7721951785955056133:T:=t
theorem tw11623594800819314181:T:=t
theorem tw8293946417935249925:T:=t
theorem tw5167245352685981253:T:=t
theorem tw18160293313031310949:T:=t
theorem tw12642813592246648485:T:=t
theorem tw9842699097658496709:T:=t
theorem tw15381450162410889989:T:=t
theorem tw14711139521213225765:T:=t
theorem tw11251137523995926341:T:=t
theorem tw15637593595834871717:T:=t
theorem tw5505005885091257285:T:=t
theorem tw17491280204586788870:T:=t
theorem tw13475242022060392486:T:=t
theorem tw6555240042291301478:T:=t
theorem tw13181700845877081190:T:=t
theorem tw16692772259055178886:T:=t
theorem tw6181573660694698118:T:=t
theorem tw5363428345988834438:T:=t
theorem tw10583446816852156582:T:=t
theorem tw13466754112058979494:T:=t
theorem tw5899666649113621702:T:=t
theorem tw2871226400543044806:T:=t
theorem tw7628703163842673926:T:=t
theorem tw8268277133935991078:T:=t
theorem tw16211521421427940678:T:=t
theorem tw5516785719162176838:T:=t
theorem tw7523672394736509286:T:=t
theorem tw3673020696563887462:T:=t
theorem tw13092906067662860646:T:=t
theorem tw11778180911958503814:T:=t
theorem tw991583007596301734:T:=t
theorem tw102014493982917126:T:=t
theorem tw13066319289922817542:T:=t
theorem tw8311865607074365958:T:=t
theorem tw3795277891434052102:T:=t
theorem tw10424393626065333798:T:=t
theorem tw2295870552580634182:T:=t
theorem tw6988595667528144454:T:=t
theorem tw5927567313105069670:T:=t
theorem tw17258206423299326598:T:=t
theorem tw11180023125335031430:T:=t
theorem tw17562767543260142214:T:=t
theorem tw2195365466389143174:T:=t
theorem tw13903934854276604550:T:=t
theorem tw1865391376527767206:T:=t
theorem tw4993660671451451078:T:=t
theorem tw1506431575118746342:T:=t
theorem tw2315468765258864358:T:=t
theorem tw3044193314922437478:T:=t
theorem tw7153062008950511462:T:=t
theorem tw9386895884608548742:T:=t
theorem tw3039998526598829958:T:=t
theorem tw18152756486534528934:T:=t
theorem tw10117440562283002822:T:=t
theorem tw2450686747263038406:T:=t
theorem tw5978321128707920903:T:=t
theorem tw5574845727924001799:T:=t
theorem tw1256466517863071783:T:=t
theorem tw17101829828953933863:T:=t
theorem tw15043168886218598503:T:=t
theorem tw10844753989422098599:T:=t
theorem tw17893044597097874663:T:=t
theorem tw15683763237869141255:T:=t
theorem tw17919194246423945575:T:=t
theorem tw17062030032774818151:T:=t
theorem tw11845739042510646663:T:=t
theorem tw17554735529859964295:T:=t
theorem tw8977307856219701671:T:=t
theorem tw9783614193127449063:T:=t
theorem tw12659318050587179527:T:=t
theorem tw17876089906941426215:T:=t
theorem tw2394040479862359591:T:=t
theorem tw18235018827726667335:T:=t
theorem tw9557236495431379559:T:=t
theorem tw13280443560766958183:T:=t
theorem tw12901994302517312135:T:=t
theorem tw4449123307109862055:T:=t
theorem tw7068711184596962023:T:=t
theorem tw11660266114150955751:T:=t
theorem tw16246848685605474055:T:=t
theorem tw5054737718236178183:T:=t
theorem tw8960069828448710407:T:=t
theorem tw17672654358674132775:T:=t
theorem tw7525099122813813575:T:=t
theorem tw7028611270464810887:T:=t
theorem tw5405509625223553959:T:=t
theorem tw16138627921320673191:T:=t
theorem tw8545014587354053640:T:=t
theorem tw190519026028168232:T:=t
theorem tw15001097145646765096:T:=t
theorem tw4282304852377368616:T:=t
theorem tw909665522718925960:T:=t
theorem tw11126320352707459272:T:=t
theorem tw8671608845466749128:T:=t
theorem tw13642289790063256904:T:=t
theorem tw17570734847185409352:T:=t
theorem tw16920754564084929960:T:=t
theorem tw6824622198901579176:T:=t
theorem tw10246146449241189800:T:=t
theorem tw13562760996464443880:T:=t
theorem tw9312999139381119592:T:=t
theorem tw5464967688985200232:T:=t
theorem tw6038821095411175016:T:=t
theorem tw18268791191939849864:T:=t
theorem tw2708950531961675432:T:=t
theorem tw4297731678662094536:T:=t
theorem tw18252017834820373320:T:=t
theorem tw960944832710211464:T:=t
theorem tw17975533764899295144:T:=t
theorem tw6627881031435992008:T:=t
theorem tw7792395482447073224:T:=t
theorem tw16376525773666504680:T:=t
theorem tw4310969922304039945:T:=t
theorem tw3259873300814134281:T:=t
theorem tw9850052858527491113:T:=t
theorem tw189712035060473897:T:=t
theorem tw7174315439194531881:T:=t
theorem tw2040990291671593033:T:=t
theorem tw17066044127408595049:T:=t
theorem tw8959176491354863721:T:=t
theorem tw12565835363266740329:T:=t
theorem tw4527685146903026889:T:=t
theorem tw4225703048834024713:T:=t
theorem tw8652628183442184457:T:=t
theorem tw10788059911547816233:T:=t
theorem tw12066061910607089961:T:=t
theorem tw16826083622388986153:T:=t
theorem tw14906377314874228009:T:=t
theorem tw3890083515106143593:T:=t
theorem tw9244321171653502345:T:=t
theorem tw8479784124755550697:T:=t
theorem tw8184699220007379433:T:=t
theorem tw15054049728407801353:T:=t
theorem tw1362751533348561449:T:=t
theorem tw137786328141462057:T:=t
theorem tw12211380539166087753:T:=t
theorem tw13180222073156861513:T:=t
theorem tw14579804019780415049:T:=t
theorem tw5009564483982726761:T:=t
theorem tw567884609423149705:T:=t
theorem tw17925215291927510665:T:=t
theorem tw663384727985864361:T:=t
theorem tw9627899436633539337:T:=t
theorem tw243823211424636713:T:=t
theorem tw2580477087445282633:T:=t
theorem tw13219798651447076713:T:=t
theorem tw12669576375859063689:T:=t
theorem tw14189342980343032745:T:=t
theorem tw359313982320049065:T:=t
theorem tw5148922909946612681:T:=t
theorem tw3835593806179374025:T:=t
theorem tw11407884054146074569:T:=t
theorem tw18370931923303237609:T:=t
theorem tw487960524631912522:T:=t
theorem tw18264374347568628810:T:=t
theorem tw15042006015671813226:T:=t
theorem tw6906073325868019850:T:=t
theorem tw13217225542625558698:T:=t
theorem tw16009884308244765898:T:=t
theorem tw2960447077969926378:T:=t
theorem tw6898005170327248138:T:=t
theorem tw14143348200573808938:T:=t
theorem tw10778257442750969130:T:=t
theorem tw9406673726873002282:T:=t
theorem tw7626941382939369770:T:=t
theorem tw6804821044290156842:T:=t
theorem tw16794629799341752650:T:=t
theorem tw7654286748164834634:T:=t
theorem tw5416991563250132298:T:=t
theorem tw4383666589626881386:T:=t
theorem tw9983995961361265002:T:=t
theorem tw17447410573909459338:T:=t
theorem tw9864973744126774698:T:=t
theorem tw13616292390063288746:T:=t
theorem tw33583606019346890:T:=t
theorem tw15337868472472888810:T:=t
theorem tw242841246431481386:T:=t
theorem tw14492701947808656938:T:=t
theorem tw17143205804819765802:T:=t
theorem tw6528754448969337418:T:=t
theorem tw15591429051563716170:T:=t
theorem tw10603584201595350602:T:=t
theorem tw4360684699965382250:T:=t
theorem tw9132557439983319658:T:=t
theorem tw10170382586518783626:T:=t
theorem tw656455966557771466:T:=t
theorem tw13378978342276000458:T:=t
theorem tw12487502673411948298:T:=t
theorem tw500953250457666378:T:=t
theorem tw1809687716253123402:T:=t
theorem tw17737187407176874954:T:=t
theorem tw12112201142124510154:T:=t
theorem tw9271970288684553227:T:=t
theorem tw6769732088879122475:T:=t
theorem tw16823583209533085739:T:=t
theorem tw5513025101015932971:T:=t
theorem tw1335065189686863947:T:=t
theorem tw8244733829118024811:T:=t
theorem tw12239354291974867115:T:=t
theorem tw13277076834127875243:T:=t
theorem tw3443669649825651883:T:=t
theorem tw9449672872311958731:T:=t
theorem tw12832683148521936107:T:=t
theorem tw14776966858535155947:T:=t
theorem tw18176940659606848779:T:=t
theorem tw17628472586750557451:T:=t
theorem tw11917015161858427179:T:=t
theorem tw13855881374063213867:T:=t
theorem tw6449127861642672459:T:=t
theorem tw9170477692918782315:T:=t
theorem tw15463257786427224491:T:=t
theorem tw1511243299971373483:T:=t
theorem tw17054507655720011243:T:=t
theorem tw1893913032611223051:T:=t
theorem tw313027258313007627:T:=t
theorem tw16742648372681657963:T:=t
theorem tw7534799579077118603:T:=t
theorem tw37099724090138251:T:=t
theorem tw9741134391959003819:T:=t
theorem tw15089522573102190283:T:=t
theorem tw14333710738500927179:T:=t
theorem tw10743916045514856203:T:=t
theorem tw9748044761591592747:T:=t
theorem tw8727321023445011275:T:=t
theorem tw2999033326186475339:T:=t
theorem tw6196171512934965099:T:=t
theorem tw8716120427605611371:T:=t
theorem tw16896567674234606475:T:=t
theorem tw7640094616464845771:T:=t
theorem tw15033227074091944939:T:=t
theorem tw6264232113106981867:T:=t
theorem tw4136554803537287180:T:=t
theorem tw4315991029959535628:T:=t
theorem tw8151903124980380684:T:=t
theorem tw1836080755315867724:T:=t
theorem tw6394381022753523788:T:=t
theorem tw13217827037086042188:T:=t
theorem tw12647368939536790636:T:=t
theorem tw6186238094035137676:T:=t
theorem tw1043307727769730188:T:=t
theorem tw14060154772996877548:T:=t
theorem tw17679848547673146604:T:=t
theorem tw5667655126489319660:T:=t
theorem tw7867956165831070988:T:=t
theorem tw8977460988437922124:T:=t
theorem tw16299908979028503884:T:=t
theorem tw12092154237167983948:T:=t
theorem tw2930668341846507884:T:=t
theorem tw15856727013471470956:T:=t
theorem tw17711083657039698284:T:=t
theorem tw14454528878903484812:T:=t
theorem tw16464424236575238572:T:=t
theorem tw6957150274394394060:T:=t
theorem tw12575139184659369484:T:=t
theorem tw5873113503399164460:T:=t
theorem tw15687388767607454252:T:=t
theorem tw6482722132109649516:T:=t
theorem tw5322579261384874668:T:=t
theorem tw8004679753235328684:T:=t
theorem tw18185175575083235020:T:=t
theorem tw15923250282426842828:T:=t
theorem tw7270182246851987180:T:=t
theorem tw12588582704262371052:T:=t
theorem tw9459050058782445324:T:=t
theorem tw14683707025165767436:T:=t
theorem tw10292235466723388172:T:=t
theorem tw6819123309680001836:T:=t
theorem tw15368132723985388332:T:=t
theorem tw12023040214023829324:T:=t
theorem tw16171809288044610508:T:=t
theorem tw10781468475247234061:T:=t
theorem tw6374767894290048045:T:=t
theorem tw15837987909243819085:T:=t
theorem tw257007361410690125:T:=t
theorem tw5010264101278932077:T:=t
theorem tw12254263087357419629:T:=t
theorem tw13011413612017729677:T:=t
theorem tw4833718069199227053:T:=t
theorem tw16332348944364537037:T:=t
theorem tw6877226645827823821:T:=t
theorem tw15074197538484233485:T:=t
theorem tw14060237666301923597:T:=t
theorem tw11942693397608355085:T:=t
theorem tw14743440263598761229:T:=t
theorem tw1820180628909398317:T:=t
theorem tw17688364814195531053:T:=t
theorem tw13321331477185743149:T:=t
theorem tw11415386828835887437:T:=t
theorem tw9325612240067072397:T:=t
theorem tw6079173187612997037:T:=t
theorem tw8457440626546761165:T:=t
theorem tw16828841361933241965:T:=t
theorem tw6184208073178115725:T:=t
theorem tw13172843250190940813:T:=t
theorem tw5036846961687405229:T:=t
theorem tw15931116738044738221:T:=t
theorem tw12976082216212581069:T:=t
theorem tw4734902545126651661:T:=t
theorem tw4068527845204499245:T:=t
theorem tw17606422857730326317:T:=t
theorem tw10404513684093684653:T:=t
theorem tw1088296927520436173:T:=t
theorem tw9577689765879766989:T:=t
theorem tw16156708551869547534:T:=t
theorem tw10614716105012338702:T:=t
theorem tw12175748835895409678:T:=t
theorem tw11801993109049149486:T:=t
theorem tw9398405308114057262:T:=t
theorem tw9012836324853574702:T:=t
theorem tw14980023328507725902:T:=t
theorem tw11968265576560266318:T:=t
theorem tw7880807054014371918:T:=t
theorem tw14078009766183191694:T:=t
theorem tw14444963742821833902:T:=t
theorem tw13624431586668435662:T:=t
theorem tw15384028259256376558:T:=t
theorem tw17076082267592564974:T:=t
theorem tw14294001040229213422:T:=t
theorem tw14914937398881237230:T:=t
theorem tw4654797750381630734:T:=t
theorem tw17989097746536338734:T:=t
theorem tw9617658007855726926:T:=t
theorem tw17649441919526076750:T:=t
theorem tw678209747344391502:T:=t
theorem tw10203026625882799534:T:=t
theorem tw5850991567925798318:T:=t
theorem tw5490696432328200686:T:=t
theorem tw12900700647772717614:T:=t
theorem tw15974068848511629870:T:=t
theorem tw9330823016148744750:T:=t
theorem tw12952509933414984302:T:=t
theorem tw12940713784782232206:T:=t
theorem tw3608708970678896270:T:=t
theorem tw6372862494175223470:T:=t
theorem tw2839761810297210574:T:=t
theorem tw5464280966869935822:T:=t
theorem tw1870067075039425230:T:=t
theorem tw1781861727890032366:T:=t
theorem tw9555612238305686254:T:=t
theorem tw15378359858306647822:T:=t
theorem tw4159134105002834734:T:=t
theorem tw16722109127936396110:T:=t
theorem tw3787991596828424046:T:=t
theorem tw14698123526113890222:T:=t
theorem tw6780557218761844654:T:=t
theorem tw14553816603554493358:T:=t
theorem tw9345929723534960622:T:=t
theorem tw12268275109542032366:T:=t
theorem tw6818987989461384207:T:=t
theorem tw13363553139645760527:T:=t
theorem tw11507959949525687343:T:=t
theorem tw15424705756172794927:T:=t
theorem tw1452849714261714991:T:=t
theorem tw5289708365253275695:T:=t
theorem tw1736311965527578767:T:=t
theorem tw10376703724636587151:T:=t
theorem tw15616948245753086127:T:=t
theorem tw17172931820748874959:T:=t
theorem tw12676414471582705871:T:=t
theorem tw3969467460574380271:T:=t
theorem tw2442259710966052079:T:=t
theorem tw12521463284412890351:T:=t
theorem tw13606922415975196911:T:=t
theorem tw17330132731328240911:T:=t
theorem tw8587404781116728655:T:=t
theorem tw858883931015391567:T:=t
theorem tw2845207389951388047:T:=t
theorem tw3493717111155160527:T:=t
theorem tw16158619036321959407:T:=t
theorem tw15228807520496212463:T:=t
theorem tw3759623122121258479:T:=t
theorem tw9476321141362543215:T:=t
theorem tw11024222330075796079:T:=t
theorem tw12631932088317031055:T:=t
theorem tw10012880186880212623:T:=t
theorem tw11709330566771433103:T:=t
theorem tw5987830557187376847:T:=t
theorem tw17471934795394947791:T:=t
theorem tw6990203504111849199:T:=t
theorem tw17273587926920868623:T:=t
theorem tw18095200977026478895:T:=t
theorem tw6679266806504041263:T:=t
theorem tw2101469004524951375:T:=t
theorem tw1184127607605381967:T:=t
theorem tw2448992281723591503:T:=t
theorem tw12331051067403766639:T:=t
theorem tw9657781627882305391:T:=t
theorem tw13315533130655954831:T:=t
theorem tw8879563391730754479:T:=t
theorem tw16649331688326792143:T:=t
theorem tw8811097733284410319:T:=t
theorem tw16698745307106531279:T:=t
theorem tw1197925565968671727:T:=t
theorem tw15207398651663016943:T:=t
theorem tw7839823952615728111:T:=t
theorem tw18421049791903953903:T:=t
theorem tw10111801491309104144:T:=t
theorem tw402640490398009360:T:=t
theorem tw6412770499399676944:T:=t
theorem tw8801323125487838256:T:=t
theorem tw16011055738799735888:T:=t
theorem tw10947331860392259696:T:=t
theorem tw1386097877827089520:T:=t
theorem tw10216474801634566288:T:=t
theorem tw16639802674150441104:T:=t
theorem tw15689870831250920624:T:=t
theorem tw5206456813468324048:T:=t
theorem tw13944508082162953488:T:=t
theorem tw7182994202766372144:T:=t
theorem tw17992175057805443440:T:=t
theorem tw10643592516055977328:T:=t
theorem tw10491609206876299696:T:=t
theorem tw11115866451450875312:T:=t
theorem tw7891253978561527248:T:=t
theorem tw940617070666608080:T:=t
theorem tw5135410709514514960:T:=t
theorem tw16853341256802265648:T:=t
theorem tw13285133528070534704:T:=t
theorem tw12995909851351757392:T:=t
theorem tw7382370116671421104:T:=t
theorem tw1712922718373300912:T:=t
theorem tw4856431653887292112:T:=t
theorem tw11224897151958998736:T:=t
theorem tw17318795884933167856:T:=t
theorem tw8351282476255451920:T:=t
theorem tw11551083187376567056:T:=t
theorem tw651126834518081296:T:=t
theorem tw12614811148066621264:T:=t
theorem tw17902569758825723728:T:=t
theorem tw6755925336976613232:T:=t
theorem tw7752569895197466512:T:=t
theorem tw10944956837784636368:T:=t
theorem tw3434918251397683217:T:=t
theorem tw155142512498542641:T:=t
theorem tw13790719812936386609:T:=t
theorem tw12035623454917710897:T:=t
theorem tw876933089483189297:T:=t
theorem tw13322179722446271537:T:=t
theorem tw15527848837575444561:T:=t
theorem tw7094405668315501649:T:=t
theorem tw17213754286329925777:T:=t
theorem tw4768578896829404305:T:=t
theorem tw12447509897640257713:T:=t
theorem tw2000490053193787569:T:=t
theorem tw15677629932584476913:T:=t
theorem tw280609765759037681:T:=t
theorem tw14705683404202351889:T:=t
theorem tw100483095206116625:T:=t
theorem tw15946356160694317329:T:=t
theorem tw6882427118574961969:T:=t
theorem tw1939978651307754801:T:=t
theorem tw17903497710992402801:T:=t
theorem tw6615107907471364465:T:=t
theorem tw16634568088961857937:T:=t
theorem tw15852365999677673905:T:=t
theorem tw16056359734778111409:T:=t
theorem tw2598446214317162929:T:=t
theorem tw7082855905992002993:T:=t
theorem tw3139860346522395057:T:=t
theorem tw14246236162039180721:T:=t
theorem tw11034497122203965937:T:=t
theorem tw13478424178397462001:T:=t
theorem tw1557243174674812401:T:=t
theorem tw8015326511298524721:T:=t
theorem tw13220430256171166289:T:=t
theorem tw286191083293455953:T:=t
theorem tw3828038474966422129:T:=t
theorem tw12113243949977362033:T:=t
theorem tw908340440784498289:T:=t
theorem tw5961118342813265553:T:=t
theorem tw1603739661141634737:T:=t
theorem tw10933677585905718993:T:=t
theorem tw4990156530697904881:T:=t
theorem tw3452591251010201329:T:=t
theorem tw6278647508926252785:T:=t
theorem tw956962677268122417:T:=t
theorem tw13643459721796251441:T:=t
theorem tw8191903926673212241:T:=t
theorem tw6545403380812914513:T:=t
theorem tw7317836474542784337:T:=t
theorem tw6578402527460240241:T:=t
theorem tw16053994301053490033:T:=t
theorem tw9341642984632610673:T:=t
theorem tw13255428261173160881:T:=t
theorem tw16029623286316568529:T:=t
theorem tw7399621439246259153:T:=t
theorem tw8683856772340465682:T:=t
theorem tw125302361856450738:T:=t
theorem tw16661405048812198066:T:=t
theorem tw368366308016060594:T:=t
theorem tw2391449824757734642:T:=t
theorem tw11749099774412794130:T:=t
theorem tw4432475053497693458:T:=t
theorem tw8025032847418708242:T:=t
theorem tw9641152695372364146:T:=t
theorem tw15166520500009309586:T:=t
theorem tw9499510787657705874:T:=t
theorem tw14772383043592177042:T:=t
theorem tw15813434630575017362:T:=t
theorem tw7754304195085646258:T:=t
theorem tw12778418089203562962:T:=t
theorem tw5366084841770067474:T:=t
theorem tw3533295568840377906:T:=t
theorem tw2167537188350426706:T:=t
theorem tw2042874687063273074:T:=t
theorem tw17377529257436501650:T:=t
theorem tw3241458686731973266:T:=t
theorem tw250903467453971090:T:=t
theorem tw16257038226119295666:T:=t
theorem tw5482205457738058418:T:=t
theorem tw15963624873386084050:T:=t
theorem tw8654268224221117138:T:=t
theorem tw1580110805410547442:T:=t
theorem tw10465514089279642386:T:=t
theorem tw8053944837975664402:T:=t
theorem tw10525666975642140466:T:=t
theorem tw14560493823538711346:T:=t
theorem tw9298403506768410418:T:=t
theorem tw12629568148972539762:T:=t
theorem tw6293948785866598258:T:=t
theorem tw16587392273704687506:T:=t
theorem tw7296583596125217682:T:=t
theorem tw6015120008653705138:T:=t
theorem tw8112040973832200146:T:=t
theorem tw1097998534492414930:T:=t
theorem tw439843181053141970:T:=t
theorem tw15083628210047938546:T:=t
theorem tw9513423893830186035:T:=t
theorem tw10601615944963115059:T:=t
theorem tw561391293025646643:T:=t
theorem tw4724112764586752083:T:=t
theorem tw17429513623812275283:T:=t
theorem tw8538877666451538035:T:=t
theorem tw3694398316872202419:T:=t
theorem tw9184186324627900627:T:=t
theorem tw5567388512258382067:T:=t
theorem tw5657824000916062451:T:=t
theorem tw12590977762386282803:T:=t
theorem tw7289634563603522867:T:=t
theorem tw16945582573551092051:T:=t
theorem tw14168552714766633299:T:=t
theorem tw16502264421070913907:T:=t
theorem tw17495340751864218003:T:=t
theorem tw1382963296337349011:T:=t
theorem tw16432713993328977331:T:=t
theorem tw7793673504863384051:T:=t
theorem tw17772917993097084435:T:=t
theorem tw5363564295841288755:T:=t
theorem tw11151547217846952531:T:=t
theorem tw4115565904173853331:T:=t
theorem tw3008623586974134963:T:=t
theorem tw9813410681712176819:T:=t
theorem tw7815354588672045779:T:=t
theorem tw920214292312260371:T:=t
theorem tw16640546478005224243:T:=t
theorem tw15948780112781908787:T:=t
theorem tw11852641145169952659:T:=t
theorem tw10845626234925267891:T:=t
theorem tw4015398097383911347:T:=t
theorem tw15889433306838628275:T:=t
theorem tw13409441903868389331:T:=t
theorem tw8789358453043137523:T:=t
theorem tw7185752278333246451:T:=t
theorem tw4851647983119433812:T:=t
theorem tw9215163618515126356:T:=t
theorem tw3913528116038191188:T:=t
theorem tw2616952524820836436:T:=t
theorem tw4867443594122359892:T:=t
theorem tw16744898341101239380:T:=t
theorem tw12487542160262675636:T:=t
theorem tw13463106324228987060:T:=t
theorem tw4367231431732253908:T:=t
theorem tw12678320250165599508:T:=t
theorem tw15529170255622000948:T:=t
theorem tw6164396464334811476:T:=t
theorem tw16795040122137113940:T:=t
theorem tw6547078798241139092:T:=t
theorem tw10905181550472923540:T:=t
theorem tw7339039647409124788:T:=t
theorem tw9976723597467198900:T:=t
theorem tw15422856539912107476:T:=t
theorem tw6998783941825042932:T:=t
theorem tw7366208706002141716:T:=t
theorem tw4725425184044842548:T:=t
theorem tw4014540891139286612:T:=t
theorem tw11256106856564762260:T:=t
theorem tw18293732401869909652:T:=t
theorem tw17143746779515762356:T:=t
theorem tw9131607905817354932:T:=t
theorem tw10738003575532504788:T:=t
theorem tw10834780440838970164:T:=t
theorem tw7289601568589263668:T:=t
theorem tw4571360026077952820:T:=t
theorem tw697623264460660564:T:=t
theorem tw1997569388931296116:T:=t
theorem tw9258712216579463092:T:=t
theorem tw17542962492245011380:T:=t
theorem tw5629675986466331604:T:=t
theorem tw6598312636042714100:T:=t
theorem tw718029691902183412:T:=t
theorem tw15625209780758371316:T:=t
theorem tw3649758429140192277:T:=t
theorem tw13566260322249332789:T:=t
theorem tw17234923516513369237:T:=t
theorem tw15084132493965779093:T:=t
theorem tw11162318198679636149:T:=t
theorem tw9496365245306024149:T:=t
theorem tw12870888531099404533:T:=t
theorem tw2063697594609225973:T:=t
theorem tw9753359207989701909:T:=t
theorem tw16227762859984022837:T:=t
theorem tw13225837485096350037:T:=t
theorem tw14440960662653809013:T:=t
theorem tw11663481321943121269:T:=t
theorem tw14106227501169856981:T:=t
theorem tw14103535550066685397:T:=t
theorem tw10264135568141901301:T:=t
theorem tw2608437505485318709:T:=t
theorem tw17673860158736603733:T:=t
theorem tw13474097485772985973:T:=t
theorem tw3571134770919094901:T:=t
theorem tw8917430057791517301:T:=t
theorem tw16357263729072622229:T:=t
theorem tw9215827820722605749:T:=t
theorem tw7494724483528729301:T:=t
theorem tw2042292140826266357:T:=t
theorem tw17795420018806894357:T:=t
theorem tw15508949281206285077:T:=t
theorem tw12459740579856956213:T:=t
theorem tw5486487638281291605:T:=t
theorem tw13164601040044201813:T:=t
theorem tw16302227732802510677:T:=t
theorem tw5293500477943481205:T:=t
theorem tw13483081372092288885:T:=t
theorem tw1666387254794493845:T:=t
theorem tw9427301549700849589:T:=t
theorem tw1425423193147277237:T:=t
theorem tw6820862383352777685:T:=t
theorem tw10919297434634762262:T:=t
theorem tw7240586211207864342:T:=t
theorem tw18439511094173506614:T:=t
theorem tw8965841893048198262:T:=t
theorem tw1811199898794616982:T:=t
theorem tw7100430431845274806:T:=t
theorem tw6291416237084387574:T:=t
theorem tw8343274005884668182:T:=t
theorem tw7941745277869089046:T:=t
theorem tw3513125359445811510:T:=t
theorem tw4126306136578151734:T:=t
theorem tw1413172679324656950:T:=t
theorem tw17930870258028551510:T:=t
theorem tw16713699803418581334:T:=t
theorem tw9155422001095189878:T:=t
theorem tw3452082135128663414:T:=t
theorem tw1331487369976884630:T:=t
theorem tw11814627755841444246:T:=t
theorem tw17640862679970642326:T:=t
theorem tw11213053971927718326:T:=t
theorem tw17577478241444706838:T:=t
theorem tw16155205043701107222:T:=t
theorem tw17420951861521290806:T:=t
theorem tw12480425521718506038:T:=t
theorem tw12131494931117144662:T:=t
theorem tw7369741819223213686:T:=t
theorem tw3816877163431070358:T:=t
theorem tw617508947420966582:T:=t
theorem tw6819212343860736726:T:=t
theorem tw1011335219593555734:T:=t
theorem tw8428860471423672150:T:=t
theorem tw7872162285098387286:T:=t
theorem tw4138081844389336918:T:=t
theorem tw3312855554403267510:T:=t
theorem tw4609310046291750870:T:=t
theorem tw8721321648031231958:T:=t
theorem tw6184460063843016694:T:=t
theorem tw15615537253650120727:T:=t
theorem tw14623610509376584727:T:=t
theorem tw11905163887095721015:T:=t
theorem tw10098268173465320503:T:=t
theorem tw18406568778348887127:T:=t
theorem tw14029546391885035639:T:=t
theorem tw2216850387143573719:T:=t
theorem tw6506366617586733335:T:=t
theorem tw16957190012819468567:T:=t
theorem tw18368451091360184599:T:=t
theorem tw6709418730364537143:T:=t
theorem tw1717729237380139383:T:=t
theorem tw2448417245163862455:T:=t
theorem tw10955317050725887447:T:=t
theorem tw16970440968685349367:T:=t
theorem tw3442329435671937591:T:=t
theorem tw13783031573616600631:T:=t
theorem tw16064382804478563927:T:=t
theorem tw63046841140860503:T:=t
theorem tw8044012406986999415:T:=t
theorem tw15416985209724490359:T:=t
theorem tw7292484366425897655:T:=t
theorem tw12393119488966705847:T:=t
theorem tw9631708518359487223:T:=t
theorem tw10691667921657928471:T:=t
theorem tw13574768056931433239:T:=t
theorem tw3381375190539634487:T:=t
theorem tw13468300074154594103:T:=t
theorem tw11402939732021071671:T:=t
theorem tw9073681462420916055:T:=t
theorem tw10879034167726328663:T:=t
theorem tw6418103052136555383:T:=t
theorem tw11434409384045074295:T:=t
theorem tw2863928172549722007:T:=t
theorem tw6879831473291441079:T:=t
theorem tw2134215046882385847:T:=t
theorem tw11389486352061984695:T:=t
theorem tw11136197038861592535:T:=t
theorem tw2788664435532181463:T:=t
theorem tw7712819752767893495:T:=t
theorem tw6140570298594658328:T:=t
theorem tw2951005344575393816:T:=t
theorem tw7354087734392854552:T:=t
theorem tw10654345511274693656:T:=t
theorem tw9345676750909349944:T:=t
theorem tw1643121930917553208:T:=t
theorem tw8803977449572941912:T:=t
theorem tw5562173858411828344:T:=t
theorem tw7252557286763528408:T:=t
theorem tw262745018181394680:T:=t
theorem tw16441392401534740728:T:=t
theorem tw18093812233618175256:T:=t
theorem tw14768889098011018680:T:=t
theorem tw15759970867653108152:T:=t
theorem tw5420774739373220312:T:=t
theorem tw5511420028821071320:T:=t
theorem tw13866372431405929976:T:=t
theorem tw12769127236821124696:T:=t
theorem tw15048261121198461528:T:=t
theorem tw3333446698644548216:T:=t
theorem tw1584506945513601688:T:=t
theorem tw11984409736253958808:T:=t
theorem tw8516288146210602744:T:=t
theorem tw8770205317985620760:T:=t
theorem tw18163647496604598072:T:=t
theorem tw701333769924781912:T:=t
theorem tw3920623390966001496:T:=t
theorem tw12418435599462062936:T:=t
theorem tw10778013660560245624:T:=t
theorem tw10860895700388868024:T:=t
theorem tw15987713032478767096:T:=t
theorem tw13342606739435360313:T:=t
theorem tw17088047866570459193:T:=t
theorem tw4065347644161347641:T:=t
theorem tw4788038989552484473:T:=t
theorem tw18194447625416937593:T:=t
theorem tw732345407407602841:T:=t
theorem tw728884934406724761:T:=t
theorem tw6903541053762270361:T:=t
theorem tw15213948185873263833:T:=t
theorem tw2603259988358896889:T:=t
theorem tw4181196891559700729:T:=t
theorem tw2845679848157327705:T:=t
theorem tw18291419657060728153:T:=t
theorem tw3536873572635521401:T:=t
theorem tw14006173549557618073:T:=t
theorem tw15411387601460861337:T:=t
theorem tw1222794163293265305:T:=t
theorem tw11364443708160879001:T:=t
theorem tw11399449904127653305:T:=t
theorem tw11054480109507316185:T:=t
theorem tw7898215921889874393:T:=t
theorem tw4916360252006170105:T:=t
theorem tw11119798521548139033:T:=t
theorem tw8317466277049474617:T:=t
theorem tw12350410155528471161:T:=t
theorem tw881544763273948857:T:=t
theorem tw16684818696116721337:T:=t
theorem tw2658526732547218105:T:=t
theorem tw16772102934027710169:T:=t
theorem tw7573478926670427865:T:=t
theorem tw3940546777539579641:T:=t
theorem tw17574625026820762457:T:=t
theorem tw17330945745186091897:T:=t
theorem tw4424954536736003961:T:=t
theorem tw12561155100871721849:T:=t
theorem tw15102309248680683417:T:=t
theorem tw10200926772931222457:T:=t
theorem tw10737458330869947321:T:=t
theorem tw4780371949962762201:T:=t
theorem tw8081886968326746073:T:=t
theorem tw6982297934935202809:T:=t
theorem tw17047115858639842297:T:=t
theorem tw13047593935725612058:T:=t
theorem tw13132618709999183898:T:=t
theorem tw16415028865518655546:T:=t
theorem tw7854228177987924090:T:=t
theorem tw5902613922787404954:T:=t
theorem tw15673258824015622330:T:=t
theorem tw3496965988886986938:T:=t
theorem tw11953376511379268794:T:=t
theorem tw14673209030070457562:T:=t
theorem tw10604169790165778682:T:=t
theorem tw12050417470231563642:T:=t
theorem tw2114630138375439770:T:=t
theorem tw17992873397187703194:T:=t
theorem tw8213287575567293882:T:=t
theorem tw1147470481896660410:T:=t
theorem tw17278324374586462682:T:=t
theorem tw6868836192036940282:T:=t
theorem tw9421340871869096474:T:=t
theorem tw17784710179527947834:T:=t
theorem tw7698358502638924378:T:=t
theorem tw1600037746751723098:T:=t
theorem tw7526368328331116154:T:=t
theorem tw10934634478434655930:T:=t
theorem tw6115762422951442106:T:=t
theorem tw14960593345356199642:T:=t
theorem tw16157073509204512506:T:=t
theorem tw7598622570094877466:T:=t
theorem tw2578790182627478330:T:=t
theorem tw11232374478483605306:T:=t
theorem tw12394076208661396346:T:=t
theorem tw13038990169509382042:T:=t
theorem tw16414904818172857274:T:=t
theorem tw10283529075043463162:T:=t
theorem tw12872897951434832890:T:=t
theorem tw2001351230973187099:T:=t
theorem tw1936894748134917147:T:=t
theorem tw13534587687697041467:T:=t
theorem tw7927469264209771579:T:=t
theorem tw13372043803930879067:T:=t
theorem tw12685813987229840507:T:=t
theorem tw14137390275340422267:T:=t
theorem tw5362516397382645915:T:=t
theorem tw16409295683739894939:T:=t
theorem tw14353793391729792155:T:=t
theorem tw11672842613191775419:T:=t
theorem tw11079593142295127227:T:=t
theorem tw128412058910260475:T:=t
theorem tw15675198926951892251:T:=t
theorem tw14478148883734587675:T:=t
theorem tw1976262728313527643:T:=t
theorem tw4819202231147424091:T:=t
theorem tw6767318904944593275:T:=t
theorem tw12981202633678885243:T:=t
theorem tw2051048951616859547:T:=t
theorem tw10024716035694756283:T:=t
theorem tw5220083430330967483:T:=t
theorem tw6848782300941138395:T:=t
theorem tw17491317419825422843:T:=t
theorem tw2808349399557158395:T:=t
theorem tw5388632664720090651:T:=t
theorem tw16007149819294483003:T:=t
theorem tw14120982254508448379:T:=t
theorem tw1689377841213677179:T:=t
theorem tw3085183777334472315:T:=t
theorem tw518976864732996251:T:=t
theorem tw9087110039335098043:T:=t
theorem tw14969688514271112891:T:=t
theorem tw9719896912496429819:T:=t
theorem tw8945485805214734075:T:=t
theorem tw1792636949448641307:T:=t
theorem tw6965799899956892507:T:=t
theorem tw3215350286424857435:T:=t
theorem tw461538923250603899:T:=t
theorem tw5189956158058943387:T:=t
theorem tw11898664097942606779:T:=t
theorem tw15642763164714097627:T:=t
theorem tw16487816990975572028:T:=t
theorem tw15766875824913328220:T:=t
theorem tw17655025648336401564:T:=t
theorem tw1118553966540926140:T:=t
theorem tw17038178572684014812:T:=t
theorem tw15634565183472343292:T:=t
theorem tw13458954166980676860:T:=t
theorem tw11319097763535126812:T:=t
theorem tw4735155535324382492:T:=t
theorem tw2336748640663733628:T:=t
theorem tw2468469042602058204:T:=t
theorem tw4817003022231809500:T:=t
theorem tw15615420239508185596:T:=t
theorem tw12591134339009171964:T:=t
theorem tw7085514621470718492:T:=t
theorem tw7578210074245671484:T:=t
theorem tw1699103778626983548:T:=t
theorem tw7850187754069100156:T:=t
theorem tw3451239065008710300:T:=t
theorem tw2327210489368252092:T:=t
theorem tw13262116225945230012:T:=t
theorem tw2252305205657439004:T:=t
theorem tw10787125048147943196:T:=t
theorem tw6019021122589006684:T:=t
theorem tw5118731587858937692:T:=t
theorem tw13160604113216922460:T:=t
theorem tw1194904439430580092:T:=t
theorem tw17335414052712997756:T:=t
theorem tw1331086792558400476:T:=t
theorem tw14852329139284432860:T:=t
theorem tw17986969038992634876:T:=t
theorem tw922143313871775805:T:=t
theorem tw15199589371867527261:T:=t
theorem tw15697423400787487869:T:=t
theorem tw4363365295628954845:T:=t
theorem tw6199765714743212253:T:=t
theorem tw15992342658441690333:T:=t
theorem tw3876449026389394717:T:=t
theorem tw5433107678231618845:T:=t
theorem tw2457190517430149469:T:=t
theorem tw2855845756224970109:T:=t
theorem tw16868993833207775613:T:=t
theorem tw6924109203229866365:T:=t
theorem tw424627922949020093:T:=t
theorem tw17347436560843906493:T:=t
theorem tw11636924220087485885:T:=t
theorem tw9390866547671247325:T:=t
theorem tw10792051664901133789:T:=t
theorem tw14462709497994964445:T:=t
theorem tw503842035214351869:T:=t
theorem tw5608270528595127837:T:=t
theorem tw18330183385023645277:T:=t
theorem tw7763873220885509757:T:=t
theorem tw3646829019195819677:T:=t
theorem tw3704167492566942397:T:=t
theorem tw13531707123254989501:T:=t
theorem tw15578025631644234493:T:=t
theorem tw845060206244984605:T:=t
theorem tw13051953538815563581:T:=t
theorem tw2489000522355961661:T:=t
theorem tw8226494294326810461:T:=t
theorem tw17217394356764393341:T:=t
theorem tw3688195252669026205:T:=t
theorem tw15833661619300960221:T:=t
theorem tw12509009523430927325:T:=t
theorem tw224026152562611165:T:=t
theorem tw9277588360372424766:T:=t
theorem tw3182187488490625086:T:=t
theorem tw16194383521188589630:T:=t
theorem tw7746578258024575070:T:=t
theorem tw3386092968808520798:T:=t
theorem tw13840357560478945406:T:=t
theorem tw9673543361469618366:T:=t
theorem tw6838551448383532254:T:=t
theorem tw4778742480866408670:T:=t
theorem tw511748877826530558:T:=t
theorem tw10835030195340973342:T:=t
theorem tw13638418597567726942:T:=t
theorem tw4172343393113369950:T:=t
theorem tw17681399029576232318:T:=t
theorem tw3419581819265744254:T:=t
theorem tw13431754692932380062:T:=t
theorem tw8664936974563722654:T:=t
theorem tw8312999807965096350:T:=t
theorem tw1810128313956251070:T:=t
theorem tw17901334829092211166:T:=t
theorem tw17739348878880393726:T:=t
theorem tw13293453174229064190:T:=t
theorem tw9533747618267967006:T:=t
theorem tw18233516762306594366:T:=t
theorem tw3480954088277226078:T:=t
theorem tw9763420282994701918:T:=t
theorem tw16301592386811335294:T:=t
theorem tw17312999752573914782:T:=t
theorem tw12744807935193187038:T:=t
theorem tw18131696352309475102:T:=t
theorem tw17668637344460488510:T:=t
theorem tw14734422494747241438:T:=t
theorem tw6423634429210846174:T:=t
theorem tw574300837803046910:T:=t
theorem tw12070051907170230399:T:=t
theorem tw6761669909254768831:T:=t
theorem tw4478166936697009375:T:=t
theorem tw6902198413751149823:T:=t
theorem tw1954109241102656831:T:=t
theorem tw5505332120971382143:T:=t
theorem tw825126770350376351:T:=t
theorem tw2284436838669742495:T:=t
theorem tw15277330632498426303:T:=t
theorem tw14328484209623677503:T:=t
theorem tw13671756088133313087:T:=t
theorem tw12611767792052310623:T:=t
theorem tw2781682124601125471:T:=t
theorem tw16853252838358632063:T:=t
theorem tw10543509907540572799:T:=t
theorem tw5245234834050458271:T:=t
theorem tw14400467628812073631:T:=t
theorem tw8589211134812392127:T:=t
theorem tw3309697970292668127:T:=t
theorem tw7006195865600381663:T:=t
theorem tw4218252797249083135:T:=t
theorem tw2595994805191909183:T:=t
theorem tw9077708301081682751:T:=t
theorem tw1247026723315081023:T:=t
theorem tw1051681510052472703:T:=t
theorem tw6109525258741381055:T:=t
theorem tw1728934660973012959:T:=t
theorem tw10558106933452604415:T:=t
end hd
set_option Elab.async true in
set_option maxHeartbeats 8000000 in
theorem hd:PySem.Challenge.rw_sm0117_01.Holds:=by
 w_on;o_law;o_head Mine.hk2
 (case hw=>w_witness2)
 exact walk zjc rfl
end
end Mine
-- The statement: the soundness of a plain reader of the syntax (Mine,first part),its runs of each function,the plain law (zjc),and the head.
theorem PySem.Challenge.cw_sm0117_01_holds : PySem.Challenge.rw_sm0117_01.Holds :=
 Mine.hd
