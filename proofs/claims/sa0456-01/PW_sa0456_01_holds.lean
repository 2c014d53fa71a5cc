import PyProof.Rows.All
import Wide.All
import OpenK.AllK
import Wide.FinOn
import PySem.Challenge.RW_sa0456_01
set_option linter.all false
set_option Elab.async false
set_option genSizeOf false
set_option genInjectivity true
set_option tactic.hygienic false
section
set_option genSizeOf false
namespace Mine
theorem no_tf (h:false = true) {P:Prop}:P:=nomatch h
theorem none_some {α:Type} {a:α} (h:none = some a) {P:Prop}:P:=nomatch h
theorem cps {P:Prop} (h:∀ G:Prop,(P -> G) -> G):P:=h P id
theorem and2 {a b:Bool} (h:(a && b) = true):a = true /\ b = true:=Bool.and_eq_true_iff.mp h
inductive V where
  | none | bool (b:Bool) | int (i:Int) | str (s:String)
  | tup (l:List V) | lst (l:List V) | obj (i:Nat) | g (x:String)
inductive AO where
  | list (l:List V)
  | dict (l:List (V × V))
  | inst (c:String) (l:List (String × V))
structure Store where
  n:Nat
  get:Nat -> AO
abbrev Env:=String -> Option V
inductive Res (α:Type) where
  | ok (a:α) (s:Store)
  | raise (m:String) (k:Int) (c:Bool) (s:Store)
  | fail
noncomputable def M (α:Type):=Store -> Res α
noncomputable def M.ret {α:Type} (a:α):M α:=fun s=>.ok a s
noncomputable def M.bind {α β:Type} (x:M α) (f:α -> M β):M β:=fun s=>match x s with
  | .ok a s'=>f a s'
  | .raise m k c s'=>.raise m k c s'
  | .fail=>.fail
noncomputable def M.fail {α:Type}:M α:=fun _=>.fail
noncomputable instance:Monad M where
  pure:=M.ret
  bind:=M.bind
noncomputable def Store.set (s:Store) (i:Nat) (o:AO):Store:=⟨s.n,fun j=>if j = i then o else s.get j⟩
noncomputable def Store.push (s:Store) (o:AO):Store:=⟨s.n + 1,fun j=>if j = s.n then o else s.get j⟩
noncomputable def mget (i:Nat):M AO:=fun s=>if i < s.n then .ok (s.get i) s else .fail
noncomputable def mset (i:Nat) (o:AO):M Unit:=fun s=>.ok () (s.set i o)
noncomputable def mnew (o:AO):M V:=fun s=>.ok (.obj s.n) (s.push o)
noncomputable def ofOpt {α:Type}:Option α -> M α
  | some a=>M.ret a
  | none=>M.fail
noncomputable def V.eqI (i:Int):V -> Bool
  | .bool c=>i == (if c then 1 else 0)
  | .int j=>i == j
  | _=>false
noncomputable def V.isN:V -> Bool
  | .none=>true
  | _=>false
noncomputable def V.eqS (x:String):V -> Bool
  | .str y=>x == y
  | _=>false
noncomputable def V.eqT (f:List V -> Bool):V -> Bool
  | .tup r=>f r
  | _=>false
noncomputable def V.eqL (f:List V -> Bool):V -> Bool
  | .lst r=>f r
  | _=>false
noncomputable def V.eqC (f:V -> Bool) (g:List V -> Bool):List V -> Bool
  | []=>false
  | y :: ys=>f y && g ys
mutual
noncomputable def V.eqb:V -> V -> Bool
  | .none=>V.isN
  | .bool a=>V.eqI (if a then 1 else 0)
  | .int i=>V.eqI i
  | .str x=>V.eqS x
  | .tup l=>V.eqT (V.eqbs l)
  | .lst l=>V.eqL (V.eqbs l)
  | .obj _=>fun _=>false
  | .g _=>fun _=>false
noncomputable def V.eqbs:List V -> List V -> Bool
  | []=>List.isEmpty
  | x :: xs=>V.eqC (V.eqb x) (V.eqbs xs)
end
mutual
noncomputable def V.isData:V -> Bool
  | .obj _ | .g _=>false
  | .tup l | .lst l=>V.areData l
  | _=>true
noncomputable def V.areData:List V -> Bool
  | []=>true
  | x :: xs=>V.isData x && V.areData xs
end
noncomputable def V.tiny:V -> Bool
  | .none | .bool _ | .int _ | .str _=>true
  | .tup []=>true
  | .lst []=>true
  | _=>false
noncomputable def V.flat:V -> Bool
  | .tup l=>l.all V.tiny
  | .lst l=>l.all V.tiny
  | v=>V.tiny v
noncomputable def veq (a b:V):M Bool:=if a.isData && b.isData && (a.flat || b.flat) then M.ret (V.eqb a b) else M.fail
noncomputable def vin (x:V) (l:List V):M Bool:=if V.areData l && x.isData && (x.flat || l.all V.flat) then M.ret (l.any fun y=>V.eqb y x) else M.fail
noncomputable def isNone:V -> M Bool
  | .none=>M.ret true
  | .g _=>M.fail
  | _=>M.ret false
noncomputable def truth:V -> M Bool
  | .bool b=>M.ret b
  | _=>M.fail
inductive Op where | add | sub | mul | mod | fdiv | pow
inductive Cm where | eq | ne | lt | gt | ge | is | isNot | isin | notin
inductive Ex where
  | k (v:V)
  | neg (i:Nat)
  | var (x:String)
  | g (x:String)
  | attr (e:Ex) (a:String)
  | bin (o:Op) (l r:Ex)
  | notE (e:Ex)
  | cmp (c:Cm) (l r:Ex)
  | andE (l:List Ex)
  | orE (l:List Ex)
  | ite (c a b:Ex)
  | idx (e i:Ex)
  | rev (e:Ex)
  | upto (e i:Ex)
  | from_ (e i:Ex)
  | tupE (l:List Ex)
  | lstE (mt:Bool) (l:List Ex)
  | dictE (l:List (Ex × Ex))
  | comp (elt:Ex) (x:String) (rng:Bool) (it:Ex) (cond:Option Ex)
  | call (f:Ex) (l:List Ex)
  | meth (o:Ex) (m:String) (l:List Ex)
  | dead
inductive St where
  | asg (x:String) (e:Ex)
  | unpk (xs:List String) (e:Ex)
  | asg2 (xs:List String) (es:List Ex)
  | setA (o:Ex) (a:String) (e:Ex)
  | setI (o i:Ex) (e:Ex)
  | ex (e:Ex)
  | ret (e:Ex)
  | retN
  | ifS (c:Ex) (a b:List St)
  | whl (c:Ex) (b:List St)
  | forS (x:String) (rng:Bool) (it:Ex) (b:List St)
  | cont
  | raiseT (m:Ex) (k:Option Ex)
  | rethrow (o:Ex) (m:String) (l:List Ex) (k:String)
  | tryRet (x:String) (e:Ex) (v:String)
  | asgF (z:String) (elt:Ex) (x:String) (it:Ex) (cond:Ex) (y:String) (it2:Ex)
  | dead
structure Fn where
  params:List String
  dflts:List V:=[]
  body:List St
inductive Flow where
  | next | cont | ret (v:V)
noncomputable def V.tk:V -> Bool
  | .str _ | .int _=>true
  | .tup []=>true
  | _=>false
noncomputable def V.isKey:V -> Bool
  | .str _ | .int _=>true
  | .tup l=>l.all V.tk
  | _=>false
noncomputable def keyS:V -> Bool
  | .str _=>true
  | _=>false
noncomputable def dlook (k:V):List (V × V) -> Option V
  | []=>none
  | (a,v) :: r=>if V.eqb a k then some v else dlook k r
noncomputable def dput (k v:V):List (V × V) -> List (V × V)
  | []=>[(k,v)]
  | (a,u) :: r=>if V.eqb a k then (a,v) :: r else (a,u) :: dput k v r
noncomputable def sameKind:V -> V -> Bool
  | .str _,.str _ | .int _,.int _ | .tup _,.tup _=>true
  | _,_=>false
noncomputable def V.plainKey:V -> Bool
  | .str _ | .int _=>true
  | _=>false
noncomputable def keyFits (k:V) (l:List (V × V)):Bool:=k.isKey && l.all (fun p=>p.1.isKey && sameKind p.1 k)
noncomputable def Env.set (ρ:Env) (x:String) (v:V):Env:=fun y=>if y = x then some v else ρ y
noncomputable def Env.unset (ρ:Env) (x:String):Env:=fun y=>if y = x then none else ρ y
noncomputable def Env.sets (ρ:Env):List String -> List V -> Env
  | x :: xs,v :: vs=>Env.sets (ρ.set x v) xs vs
  | _,_=>ρ
noncomputable def bitsOk (i:Int):Bool:=i.natAbs < 2 ^ 100000000
section
variable {α:Type}
noncomputable def asInt (v:V) (f:Int -> M α):M α:=match v with | .int i=>f i | _=>M.fail
noncomputable def asStr (v:V) (f:String -> M α):M α:=match v with | .str i=>f i | _=>M.fail
noncomputable def asLst (v:V) (f:List V -> M α):M α:=match v with | .lst i=>f i | _=>M.fail
noncomputable def asSeq (v:V) (f:List V -> M α):M α:=match v with | .tup i=>f i | .lst i=>f i | _=>M.fail
noncomputable def asObj (v:V) (f:Nat -> M α):M α:=match v with | .obj i=>f i | _=>M.fail
noncomputable def asNone (v:V) (x:M α):M α:=match v with | .none=>x | _=>M.fail
noncomputable def listAt (j:Nat) (f:List V -> M α):M α:=M.bind (mget j) fun o=>match o with | .list l=>f l | _=>M.fail
noncomputable def instAt (j:Nat) (f:String -> List (String × V) -> M α):M α:=M.bind (mget j) fun o=>match o with | .inst c l=>f c l | _=>M.fail
noncomputable def colAt (j:Nat) (f:List V -> M α) (g:List (V × V) -> M α):M α:=M.bind (mget j) fun o=>match o with | .list l=>f l | .dict l=>g l | _=>M.fail
end
noncomputable def glue (a b:List V):M V:=if a.length < 100000 && b.length < 100000 then M.ret (.lst (a ++ b)) else M.fail
noncomputable def doAdd (a b:V):M V:=match a with
  | .int i=>asInt b fun j=>M.ret (.int (i + j))
  | .str x=>asStr b fun y=>if x.length < 10000 && y.length < 10000 then M.ret (.str (x ++ y)) else M.fail
  | .lst l=>(match b with
    | .lst r=>glue l r
    | .obj j=>listAt j (glue l)
    | _=>M.fail)
  | _=>M.fail
noncomputable def doBin:Op -> V -> V -> M V
  | .add,a,b=>doAdd a b
  | .sub,a,b=>asInt a fun i=>asInt b fun j=>M.ret (.int (i - j))
  | .mul,a,b=>asInt a fun i=>asInt b fun j=>if i.natAbs < 18446744073709551616 || j.natAbs < 18446744073709551616 then M.ret (.int (i * j)) else M.fail
  | .mod,a,b=>asInt a fun i=>asInt b fun j=>if 0 < j then M.ret (.int (i % j)) else M.fail
  | .fdiv,a,b=>asInt a fun i=>asInt b fun j=>if 0 < j && j < 1099511627776 then M.ret (.int (i / j)) else M.fail
  | .pow,a,b=>asInt a fun i=>asInt b fun j=>if i == 10 && j == 18 then M.ret (.int (10 ^ 18)) else M.fail
noncomputable def still:V -> M V
  | .obj j=>listAt j fun l=>M.ret (.lst l)
  | v=>M.ret v
noncomputable def isB (x:M Bool):M V:=M.bind x fun b=>M.ret (.bool b)
noncomputable def notB (x:M Bool):M V:=M.bind x fun b=>M.ret (.bool (!b))
noncomputable def hasKey (x:V) (l:List (V × V)):M V:=if keyFits x l && x.plainKey then M.ret (.bool (dlook x l).isSome) else M.fail
noncomputable def doIn (x:V):V -> M V
  | .lst l=>isB (vin x l)
  | .tup l=>isB (vin x l)
  | .obj j=>colAt j (fun l=>isB (vin x l)) (hasKey x)
  | _=>M.fail
noncomputable def doNin (x:V):V -> M V
  | .lst l=>notB (vin x l)
  | .tup l=>notB (vin x l)
  | .obj j=>listAt j fun l=>notB (vin x l)
  | _=>M.fail
noncomputable def doCmp:Cm -> V -> V -> M V
  | .eq,a,b=>isB (veq a b)
  | .ne,a,b=>M.bind (still a) fun a=>notB (veq a b)
  | .lt,a,b=>asInt a fun i=>asInt b fun j=>M.ret (.bool (i < j))
  | .gt,a,b=>asInt a fun i=>asInt b fun j=>M.ret (.bool (i > j))
  | .ge,a,b=>asInt a fun i=>asInt b fun j=>M.ret (.bool (i ≥ j))
  | .is,a,b=>asNone b (isB (isNone a))
  | .isNot,a,b=>asNone b (notB (isNone a))
  | .isin,a,b=>doIn a b
  | .notin,a,b=>doNin a b
noncomputable def place (i:Int) (n:Nat):Option Nat:=PySem.seqIndex? i n
noncomputable def atPlace (l:List V) (i:Int):M V:=if -1000000 < i && i < 1000000 then ofOpt ((place i l.length).bind fun k=>l[k]?) else M.fail
noncomputable def alook (a:String):List (String × V) -> Option V
  | []=>none
  | (b,v) :: r=>if b = a then some v else alook a r
noncomputable def aput (a:String) (v:V):List (String × V) -> List (String × V)
  | []=>[(a,v)]
  | (b,u) :: r=>if b = a then (b,v) :: r else (b,u) :: aput a v r
noncomputable def strAt (x:String) (i:Int):M V:=if i = 0 then ofOpt (x.toList.head?.map fun c=>.str (String.ofList [c])) else M.fail
noncomputable def keyAt (k:V) (l:List (V × V)):M V:=if keyFits k l && k.plainKey then ofOpt (dlook k l) else M.fail
noncomputable def doIdx (a k:V):M V:=match a with
  | .tup l=>asInt k (atPlace l)
  | .lst l=>asInt k (atPlace l)
  | .str x=>asInt k (strAt x)
  | .obj j=>colAt j (fun l=>asInt k (atPlace l)) (keyAt k)
  | _=>M.fail
noncomputable def putAt (j:Nat) (l:List V) (v:V) (i:Int):M Unit:=if 0 <= i /\ i < l.length /\ l.length < 100000 then mset j (.list (l.set i.toNat v)) else M.fail
noncomputable def putKey (j:Nat) (l:List (V × V)) (v k:V):M Unit:=if keyFits k l && k.plainKey && l.length < 1000 then mset j (.dict (dput k v l)) else M.fail
noncomputable def doSetI (o i v:V):M Unit:=asObj o fun j=>colAt j (fun l=>asInt i (putAt j l v)) fun l=>putKey j l v i
noncomputable def itemsOf:V -> M (List V)
  | .tup l=>M.ret l
  | .lst l=>M.ret l
  | _=>M.fail
noncomputable def seqOf:V -> M (List V)
  | .tup l=>M.ret l
  | .lst l=>M.ret l
  | .obj j=>listAt j M.ret
  | _=>M.fail
noncomputable def rangeOf (v:V):M (List V):=asInt v fun i=>if 0 <= i && i < 1000 then M.ret ((List.range i.toNat).map fun k=>.int (Int.ofNat k)) else M.fail
noncomputable def revL (l:List V):M V:=if l.length < 100000 then M.ret (.lst l.reverse) else M.fail
noncomputable def doRev:V -> M V
  | .tup l=>(match l with | []=>M.ret (.tup []) | _=>M.fail)
  | .lst l=>revL l
  | .obj j=>listAt j revL
  | _=>M.fail
noncomputable def doUpto (a b:V):M V:=asLst a fun l=>asInt b fun i=>if 0 <= i && i <= l.length && l.length < 100000 then M.ret (.lst (l.take i.toNat)) else M.fail
noncomputable def doFrom (a b:V):M V:=asLst a fun l=>asInt b fun i=>if 0 <= i && i <= l.length && l.length < 100000 then M.ret (.lst (l.drop i.toNat)) else M.fail
noncomputable def doAttr (o:V) (a:String):M V:=asObj o fun j=>instAt j fun _ l=>ofOpt (alook a l)
noncomputable def attrsOf:String -> List String
  | "World" => ["modules","adts","variants","sigs","traits","impls","consts","bodies","read"]
  | "Checker" => ["world","module","self_type","bounds","reader","infer","locals","scopes","loops","many_loops","owed","result"]
  | "Infer" => ["ended","known","is_number"]
  | "Loop" => ["label","number","result","has_value","is_test","is_left"]
  | _=>[]
noncomputable def doSetA (o:V) (a:String) (v:V):M Unit:=asObj o fun j=>instAt j fun c l=>if (attrsOf c).contains a then mset j (.inst c (aput a v l)) else M.fail
abbrev Oracle:=String -> List V -> M V
noncomputable def classes:List String:=["World","Checker","Infer","Loop"]
noncomputable def builtins:List String:=["int","len","max","tuple","isinstance"]
noncomputable def bInt:List V -> M V
  | [.int i]=>M.ret (.int i)
  | [.bool b]=>M.ret (.int (if b then 1 else 0))
  | _=>M.fail
noncomputable def one (f:V -> M V):List V -> M V
  | [v]=>f v
  | _=>M.fail
noncomputable def two (f:V -> V -> M V):List V -> M V
  | [a,b]=>f a b
  | _=>M.fail
noncomputable def tupL (l:List V):M V:=if l.length < 100000 then M.ret (.tup l) else M.fail
noncomputable def bTup:V -> M V
  | .lst l=>tupL l
  | .obj j=>listAt j tupL
  | _=>M.fail
noncomputable def isTupB:V -> M V
  | .tup _=>M.ret (.bool true)
  | .none | .bool _ | .int _ | .str _=>M.ret (.bool false)
  | _=>M.fail
noncomputable def bIsi (v k:V):M V:=match k with
  | .g x=>if x = "tuple" then isTupB v else M.fail
  | _=>M.fail
noncomputable def doBuiltin (x:String) (args:List V):M V :=
  if x = "int" then bInt args
  else if x = "len" then one (fun v=>M.bind (seqOf v) fun l=>if l.length < 100000 then M.ret (.int (Int.ofNat l.length)) else M.fail) args
  else if x = "max" then two (fun a b=>asInt a fun i=>asInt b fun j=>M.ret (.int (if i < j then j else i))) args
  else if x = "tuple" then one bTup args
  else if x = "isinstance" then two bIsi args
  else M.fail
noncomputable def fnNames:List String:=["parts_of","rebuilt","type_text","is_never","read_int","read_bool","read_if","read_loop","left_loop","read_while","read_break","read_continue","read_return","read_block","Infer.__init__","Infer.fresh","Infer.shallow","Infer.resolved","Infer.occurs","Infer.bind","Infer.are_alike","Infer.unify","Loop.__init__","Checker.__init__","Checker.expr","Checker.fault","Checker.fresh","Checker.resolved","Checker.unify","Checker.open","Checker.close","Checker.enter","Checker.loop_of","Checker.coerce","World.__init__","_law_pool","_law_take","_law_one","_law_goal","_law_ring","_law_plans","_law_value","_law_plan","_law_tree","_law_home","_law_kind","_law_join","_law_gather","_law_handed","_law_is_never","_law_due","_law_read","_law_rings","_law_told","law"]
noncomputable def retNone (o:V):V -> M V
  | .none=>M.ret o
  | _=>M.fail
noncomputable def asG {α:Type} (v:V) (f:String -> M α):M α:=match v with | .g x=>f x | _=>M.fail
noncomputable def doCall (C:Oracle) (f:V) (args:List V):M V:=asG f fun x =>
    if classes.contains x then M.bind (mnew (.inst x [])) fun o=>M.bind (C (x ++ ".__init__") (o :: args)) (retNone o)
    else if builtins.contains x then doBuiltin x args
    else if fnNames.contains x then C x args
    else M.fail
noncomputable def canCall (v:V):M Unit:=asG v fun x=>if classes.contains x || builtins.contains x || fnNames.contains x then M.ret () else M.fail
noncomputable def mAppend (j:Nat) (l:List V) (v:V):M V:=if l.length < 100000 then M.bind (mset j (.list (l ++ [v]))) fun _=>M.ret .none else M.fail
noncomputable def mPop (j:Nat) (l:List V):M V:=match l.getLast? with
  | some v=>if l.length < 100000 then M.bind (mset j (.list l.dropLast)) fun _=>M.ret v else M.fail
  | none=>M.fail
noncomputable def mExtend (j:Nat) (l:List V) (v:V):M V:=M.bind (itemsOf v) fun r=>if l.length < 100000 && r.length < 100000 then M.bind (mset j (.list (l ++ r))) fun _=>M.ret .none else M.fail
noncomputable def listMeth (j:Nat) (l:List V) (m:String) (args:List V):M V :=
  if m = "append" then one (mAppend j l) args
  else if m = "pop" then (match args with | []=>mPop j l | _=>M.fail)
  else if m = "extend" then one (mExtend j l) args
  else M.fail
noncomputable def mGet (l:List (V × V)) (k d:V):M V:=if keyFits k l then M.ret ((dlook k l).getD d) else M.fail
noncomputable def dictAt {α:Type} (j:Nat) (f:List (V × V) -> M α):M α:=M.bind (mget j) fun o=>match o with | .dict l=>f l | _=>M.fail
noncomputable def mUpdate (j:Nat) (l:List (V × V)) (v:V):M V:=asObj v fun i=>dictAt i fun r=>if i ≠ j /\ l.length < 100 /\ r.length < 100 /\ r.all (fun p=>keyS p.1) = true /\ l.all (fun p=>keyS p.1) = true /\ 0 < l.length then M.bind (mset j (.dict (r.foldl (fun acc p=>dput p.1 p.2 acc) l))) fun _=>M.ret .none else M.fail
noncomputable def dictMeth (j:Nat) (l:List (V × V)) (m:String) (args:List V):M V :=
  if m = "get" then two (mGet l) args
  else if m = "update" then one (mUpdate j l) args
  else M.fail
inductive Bd where
  | fn (f:String) (pre:List V) | lst (j:Nat) | dct (j:Nat) | str
noncomputable def heldFn (m:String):V -> M Bd
  | .g f=>if m = "read" && fnNames.contains f then M.ret (.fn f []) else M.fail
  | _=>M.fail
noncomputable def instM (j:Nat) (m c:String) (l:List (String × V)):M Bd:=match alook m l with
  | some v=>heldFn m v
  | none=>if fnNames.contains (c ++ "." ++ m) then M.ret (.fn (c ++ "." ++ m) [.obj j]) else M.fail
noncomputable def methAt (j:Nat) (m:String):AO -> M Bd
  | .inst c l=>instM j m c l
  | .list _=>if ["append","pop","extend"].contains m then M.ret (.lst j) else M.fail
  | .dict _=>if ["get","update"].contains m then M.ret (.dct j) else M.fail
noncomputable def doGetM (o:V) (m:String):M Bd:=match o with
  | .obj j=>M.bind (mget j) (methAt j m)
  | .str _=>if m = "join" then M.ret .str else M.fail
  | _=>M.fail
noncomputable def joinNil:V -> M V
  | .lst l=>(match l with | []=>M.ret (.str "") | _=>M.fail)
  | _=>M.fail
noncomputable def doApp (C:Oracle) (b:Bd) (m:String) (args:List V):M V:=match b with
  | .fn f pre=>C f (pre ++ args)
  | .lst j=>listAt j fun l=>listMeth j l m args
  | .dct j=>dictAt j fun l=>dictMeth j l m args
  | .str=>one joinNil args
noncomputable def opt2 (o:Option V) (xs:List V):List V:=match o with | some y=>y :: xs | none=>xs
noncomputable def mapItems (f:V -> M (Option V)):List V -> M (List V)
  | []=>M.ret []
  | v :: r=>M.bind (f v) fun x=>M.bind (mapItems f r) fun xs=>M.ret (opt2 x xs)
noncomputable def flatItems (f:V -> M (List V)):List V -> M (List V)
  | []=>M.ret []
  | v :: r=>M.bind (f v) fun x=>M.bind (flatItems f r) fun xs=>M.ret (x ++ xs)
noncomputable def turned (f:Env -> M (Flow × Env)) (p:Flow × Env):M (Flow × Env):=match p.1 with
  | .ret u=>M.ret (.ret u,p.2)
  | _=>f p.2
noncomputable def forItems (f:V -> Env -> M (Flow × Env)):List V -> Env -> M (Flow × Env)
  | [],ρ=>M.ret (.next,ρ)
  | v :: r,ρ=>M.bind (f v ρ) (turned (forItems f r))
noncomputable def atOpt {α β:Type} (o:Option α) (x:M β) (f:α -> M β):M β:=match o with | some a=>f a | none=>x
noncomputable def forObj (f:V -> Env -> M (Flow × Env)) (j:Nat):Nat -> Nat -> Env -> M (Flow × Env)
  | 0,_,_=>M.fail
  | k + 1,i,ρ=>listAt j fun l=>atOpt l[i]? (M.ret (.next,ρ)) fun v=>M.bind (f v ρ) (turned (forObj f j k (i + 1)))
noncomputable def whileT (c:Env -> M Bool) (b:Env -> M (Flow × Env)):Nat -> Env -> M (Flow × Env)
  | 0,_=>M.fail
  | k + 1,ρ=>M.bind (c ρ) fun t=>if t = true then M.bind (b ρ) (turned (whileT c b k)) else M.ret (.next,ρ)
noncomputable def noRaise {α:Type} (x:M α):M α:=fun s=>match x s with
  | .raise .. => .fail
  | r=>r
noncomputable def globNames:List String:=["BOOL","Checker","Infer","Loop","MOST_DEEP","MOST_PARTS","NEVER","UNIT","World","_law_due","_law_gather","_law_goal","_law_handed","_law_home","_law_is_never","_law_join","_law_kind","_law_one","_law_plan","_law_plans","_law_pool","_law_read","_law_ring","_law_rings","_law_take","_law_told","_law_tree","_law_value","int","is_never","isinstance","left_loop","len","max","parts_of","read_block","read_bool","read_break","read_continue","read_if","read_int","read_loop","read_return","read_while","rebuilt","tuple","type_text"]
noncomputable def gval:String -> V
  | "UNIT" => .tup [.str "tuple",.tup []]
  | "NEVER" => .tup [.str "never"]
  | "BOOL" => .tup [.str "bool"]
  | "MOST_PARTS" => .int 4000
  | "MOST_DEEP" => .int 100
  | x=>.g x
noncomputable def foldPut (ps:List (V × V)):List (V × V):=ps.foldl (fun acc p=>dput p.1 p.2 acc) []
noncomputable def newDict (ps:List (V × V)):M V:=if ps.all (fun p=>keyFits p.1 ps) && ps.length < 15 then mnew (.dict (foldPut ps)) else M.fail
noncomputable def compG (itM:M (List V)) (f:List V -> M (List V)):M V:=M.bind itM fun l=>M.bind (noRaise (f l)) fun vs=>if vs.length < 100000 then M.ret (.lst vs) else M.fail
mutual
noncomputable def ev (C:Oracle) (ρ:Env):Ex -> M V
  | .k v=>M.ret v
  | .neg i=>M.ret (.int (-(i:Int)))
  | .var x=>ofOpt (ρ x)
  | .g x=>M.ret (gval x)
  | .attr e a=>M.bind (ev C ρ e) fun o=>doAttr o a
  | .bin o l r=>M.bind (ev C ρ l) fun a=>M.bind (ev C ρ r) fun b=>doBin o a b
  | .notE e=>M.bind (M.bind (ev C ρ e) truth) fun b=>M.ret (.bool (!b))
  | .cmp c l r=>M.bind (ev C ρ l) fun a=>M.bind (ev C ρ r) fun b=>doCmp c a b
  | .andE l=>evAnd C ρ l
  | .orE l=>evOr C ρ l
  | .ite c a b=>M.bind (M.bind (ev C ρ c) truth) fun t=>if t = true then ev C ρ a else ev C ρ b
  | .idx e i=>M.bind (ev C ρ e) fun a=>M.bind (ev C ρ i) fun b=>doIdx a b
  | .rev e=>M.bind (ev C ρ e) doRev
  | .upto e i=>M.bind (ev C ρ e) fun a=>M.bind (ev C ρ i) fun b=>doUpto a b
  | .from_ e i=>M.bind (ev C ρ e) fun a=>M.bind (ev C ρ i) fun b=>doFrom a b
  | .tupE l=>M.bind (evs C ρ l) fun vs=>M.ret (.tup vs)
  | .lstE mt l=>M.bind (evs C ρ l) fun vs=>if mt = true then mnew (.list vs) else M.ret (.lst vs)
  | .dictE l=>M.bind (evp C ρ l) newDict
  | .comp elt x rng it cond=>compG (M.bind (ev C ρ it) fun a=>if rng = true then rangeOf a else itemsOf a) (mapItems fun v=>M.bind (match cond with | none=>M.ret true | some c=>M.bind (ev C (ρ.set x v) c) truth) fun t=>if t = true then M.bind (ev C (ρ.set x v) elt) fun y=>M.ret (some y) else M.ret none)
  | .call f l=>M.bind (ev C ρ f) fun a=>M.bind (canCall a) fun _=>M.bind (evs C ρ l) fun vs=>doCall C a vs
  | .meth o m l=>M.bind (ev C ρ o) fun a=>M.bind (doGetM a m) fun b=>M.bind (evs C ρ l) fun vs=>doApp C b m vs
  | .dead=>M.fail
noncomputable def evs (C:Oracle) (ρ:Env):List Ex -> M (List V)
  | []=>M.ret []
  | e :: r=>M.bind (ev C ρ e) fun v=>M.bind (evs C ρ r) fun vs=>M.ret (v :: vs)
noncomputable def evp (C:Oracle) (ρ:Env):List (Ex × Ex) -> M (List (V × V))
  | (k,v) :: r=>M.bind (ev C ρ k) fun a=>M.bind (ev C ρ v) fun b=>M.bind (evp C ρ r) fun ps=>M.ret ((a,b) :: ps)
  | []=>M.ret []
noncomputable def evAnd (C:Oracle) (ρ:Env):List Ex -> M V
  | []=>M.fail
  | e :: r=>match r with
    | []=>ev C ρ e
    | _ :: _=>M.bind (ev C ρ e) fun v=>M.bind (truth v) fun b=>if b = true then evAnd C ρ r else M.ret v
noncomputable def evOr (C:Oracle) (ρ:Env):List Ex -> M V
  | []=>M.fail
  | e :: r=>match r with
    | []=>ev C ρ e
    | _ :: _=>M.bind (ev C ρ e) fun v=>M.bind (truth v) fun b=>if b = true then M.ret v else evOr C ρ r
end
noncomputable def tst (C:Oracle) (ρ:Env) (e:Ex):M Bool:=M.bind (ev C ρ e) truth
noncomputable def condO (C:Oracle) (ρ:Env):Option Ex -> M Bool
  | none=>M.ret true
  | some c=>tst C ρ c
noncomputable def putS (ρ:Env) (xs:List String) (l:List V):M (Flow × Env):=if l.length = xs.length then M.ret (.next,ρ.sets xs l) else M.fail
noncomputable def raiseM (c:Bool) {α:Type} (p:String × Int):M α:=fun s=>.raise p.1 p.2 c s
noncomputable def mkTF:List V -> M (String × Int)
  | []=>M.fail
  | t :: r=>asStr t fun t=>match r with
    | []=>M.ret (t,0)
    | [i]=>asInt i fun i=>M.ret (t,i)
    | _=>M.fail
noncomputable def reTry (y:M V) (k:V) (ρ:Env):M (Flow × Env):=fun s=>match y s with
  | .ok _ s'=>.ok (.next,ρ) s'
  | .raise t _ false s'=>asInt k (fun i=>raiseM true (t,i)) s'
  | _=>.fail
noncomputable def catchM (y:M V) (x v:String) (ρ:Env):M (Flow × Env):=fun s=>match y s with
  | .ok a s'=>.ok (.next,ρ.set x a) s'
  | .raise _ _ _ s'=>.ok (.ret (.str v),ρ) s'
  | .fail=>.fail
noncomputable def forV (y:Env -> M (Flow × Env)) (x:String) (ρ:Env):V -> M (Flow × Env)
  | .obj j=>forObj (fun v ρ=>y (ρ.set x v)) j 1000 0 ρ
  | a=>M.bind (itemsOf a) fun l=>forItems (fun v ρ=>y (ρ.set x v)) l ρ
noncomputable def nextS (f:Env -> M (Flow × Env)) (p:Flow × Env):M (Flow × Env):=match p.1 with
  | .next=>f p.2
  | _=>M.ret p
noncomputable def turnG (C:Oracle) (ρ:Env) (x:String) (cond:Ex) (y:String) (it2 elt:Ex) (v:V):M (List V) :=
  M.bind (tst C ((ρ.unset y).set x v) cond) fun b=>if b = true then M.bind (M.bind (ev C ((ρ.unset y).set x v) it2) itemsOf) (mapItems fun u=>M.bind (ev C (((ρ.unset y).set x v).set y u) elt) fun z=>M.ret (some z)) else M.ret []
mutual
noncomputable def ex1 (C:Oracle):St -> Env -> M (Flow × Env)
  | .asg x e,ρ=>M.bind (ev C ρ e) fun v=>M.ret (.next,ρ.set x v)
  | .unpk xs e,ρ=>M.bind (ev C ρ e) fun a=>M.bind (itemsOf a) (putS ρ xs)
  | .asg2 xs es,ρ=>M.bind (evs C ρ es) (putS ρ xs)
  | .setA o a e,ρ=>M.bind (ev C ρ e) fun v=>M.bind (ev C ρ o) fun x=>M.bind (doSetA x a v) fun _=>M.ret (.next,ρ)
  | .setI o i e,ρ=>M.bind (ev C ρ e) fun v=>M.bind (ev C ρ o) fun x=>M.bind (ev C ρ i) fun j=>M.bind (doSetI x j v) fun _=>M.ret (.next,ρ)
  | .ex e,ρ=>M.bind (ev C ρ e) fun _=>M.ret (.next,ρ)
  | .ret e,ρ=>M.bind (ev C ρ e) fun v=>M.ret (.ret v,ρ)
  | .retN,ρ=>M.ret (.ret .none,ρ)
  | .ifS c a b,ρ=>M.bind (tst C ρ c) fun t=>if t = true then exs C a ρ else exs C b ρ
  | .whl c b,ρ=>whileT (fun ρ=>tst C ρ c) (fun ρ=>exs C b ρ) 200 ρ
  | .forS x rng it b,ρ=>M.bind (ev C ρ it) fun a=>if rng = true then M.bind (rangeOf a) fun l=>forItems (fun v ρ=>exs C b (ρ.set x v)) l ρ else forV (exs C b) x ρ a
  | .cont,ρ=>M.ret (.cont,ρ)
  | .raiseT m k,ρ=>M.bind (M.bind (evs C ρ (m :: k.toList)) mkTF) (raiseM false)
  | .rethrow o m l k,ρ=>M.bind (ofOpt (ρ k)) fun i=>reTry (ev C ρ (.meth o m l)) i ρ
  | .tryRet x e v,ρ=>catchM (ev C ρ e) x v ρ
  | .asgF z elt x it cond y it2,ρ=>M.bind (compG (M.bind (ev C ρ it) itemsOf) (flatItems (turnG C ρ x cond y it2 elt))) fun v=>M.ret (.next,ρ.set z v)
  | .dead,_=>M.fail
noncomputable def exs (C:Oracle):List St -> Env -> M (Flow × Env)
  | [],ρ=>M.ret (.next,ρ)
  | c :: r,ρ=>M.bind (ex1 C c ρ) (nextS (exs C r))
end
noncomputable def bindTo (ps:List String) (args d:List V):Option Env :=
  if args.length <= ps.length /\ (args ++ d.drop (args.length + d.length - ps.length)).length = ps.length then some (Env.sets (fun _=>none) ps (args ++ d.drop (args.length + d.length - ps.length))) else none
noncomputable def retOf (p:Flow × Env):M V:=match p.1 with
  | .ret v=>M.ret v
  | .next=>M.ret .none
  | .cont=>M.fail
noncomputable def callF (tab:String -> Option Fn):Nat -> Oracle
  | 0,_,_=>M.fail
  | n + 1,f,args=>match (tab f).bind fun fn=>(bindTo fn.params args fn.dflts).map fun ρ=>(fn,ρ) with
    | some p=>M.bind (exs (callF tab n) p.1.body p.2) retOf
    | none=>M.fail
end Mine
end
section
namespace Mine
noncomputable def f_parts_of:Fn:={ params:=["told"],dflts:=[],body:=[.asg "kind" (.idx (.var "told") (.k (.int 0))),.ifS (.cmp .eq (.var "kind") (.k (.str "ref"))) [.ret (.tupE [.idx (.var "told") (.k (.int 3))])] [],.ifS (.orE [.cmp .eq (.var "kind") (.k (.str "box")),.cmp .eq (.var "kind") (.k (.str "array"))]) [.ret (.tupE [.idx (.var "told") (.k (.int 1))])] [],.ifS (.cmp .eq (.var "kind") (.k (.str "tuple"))) [.ret (.idx (.var "told") (.k (.int 1)))] [],.ret (.ite (.cmp .eq (.var "kind") (.k (.str "adt"))) (.idx (.var "told") (.k (.int 3))) (.tupE []))] }
noncomputable def f_rebuilt:Fn:={ params:=["told","parts"],dflts:=[],body:=[.asg "kind" (.idx (.var "told") (.k (.int 0))),.ifS (.cmp .eq (.var "kind") (.k (.str "ref"))) [.ret (.tupE [.k (.str "ref"),.idx (.var "told") (.k (.int 1)),.idx (.var "told") (.k (.int 2)),.idx (.var "parts") (.k (.int 0))])] [],.ifS (.cmp .eq (.var "kind") (.k (.str "box"))) [.ret (.tupE [.k (.str "box"),.idx (.var "parts") (.k (.int 0))])] [],.ifS (.cmp .eq (.var "kind") (.k (.str "array"))) [.ret (.tupE [.k (.str "array"),.idx (.var "parts") (.k (.int 0)),.idx (.var "told") (.k (.int 2))])] [],.ifS (.cmp .eq (.var "kind") (.k (.str "tuple"))) [.ret (.tupE [.k (.str "tuple"),.call (.g "tuple") [.var "parts"]])] [],.ret (.ite (.cmp .eq (.var "kind") (.k (.str "adt"))) (.tupE [.k (.str "adt"),.idx (.var "told") (.k (.int 1)),.idx (.var "told") (.k (.int 2)),.call (.g "tuple") [.var "parts"]]) (.var "told"))] }
noncomputable def f_type_text:Fn:={ params:=["told"],dflts:=[],body:=[.asg "kind" (.idx (.var "told") (.k (.int 0))),.ifS (.orE [.cmp .eq (.var "kind") (.k (.str "int")),.cmp .eq (.var "kind") (.k (.str "param"))]) [.ret (.idx (.var "told") (.k (.int 1)))] [],.ifS (.cmp .eq (.var "kind") (.k (.str "bool"))) [.ret (.k (.str "bool"))] [],.ifS (.cmp .eq (.var "kind") (.k (.str "never"))) [.ret (.k (.str "!"))] [],.ifS (.orE [.cmp .eq (.var "kind") (.k (.str "var")),.cmp .eq (.var "kind") (.k (.str "intvar"))]) [.ret (.k (.str "_"))] [],.asg "inner" (.comp (.call (.g "type_text") [.var "part"]) "part" false (.call (.g "parts_of") [.var "told"]) none),.ifS (.cmp .eq (.var "kind") (.k (.str "ref"))) [.asg "region" (.call .dead [.idx (.var "told") (.k (.int 1))]),.ret (.bin .add (.bin .add (.bin .add (.k (.str "&")) (.ite (.cmp .ne (.var "region") (.k (.str ""))) (.bin .add (.var "region") (.k (.str " "))) (.k (.str "")))) (.ite (.idx (.var "told") (.k (.int 2))) (.k (.str "mut ")) (.k (.str "")))) (.idx (.var "inner") (.k (.int 0))))] [],.ifS (.cmp .eq (.var "kind") (.k (.str "box"))) [.ret (.bin .add (.bin .add (.k (.str "Box<")) (.idx (.var "inner") (.k (.int 0)))) (.k (.str ">")))] [],.ifS (.cmp .eq (.var "kind") (.k (.str "array"))) [.ret (.bin .add (.bin .add (.bin .add (.bin .add (.k (.str "[")) (.idx (.var "inner") (.k (.int 0)))) (.k (.str "; "))) (.call .dead [.idx (.var "told") (.k (.int 2))])) (.k (.str "]")))] [],.ifS (.cmp .eq (.var "kind") (.k (.str "tuple"))) [.ret (.ite (.cmp .eq (.call (.g "len") [.var "inner"]) (.k (.int 1))) (.bin .add (.bin .add (.k (.str "(")) (.idx (.var "inner") (.k (.int 0)))) (.k (.str ",)"))) (.bin .add (.bin .add (.k (.str "(")) (.meth (.k (.str ", ")) "join" [.var "inner"])) (.k (.str ")"))))] [],.asg "inner" (.bin .add (.comp (.call .dead [.var "region"]) "region" false (.idx (.var "told") (.k (.int 2))) (some (.cmp .isNot (.var "region") (.k .none)))) (.var "inner")),.ret (.bin .add (.idx (.var "told") (.k (.int 1))) (.ite (.cmp .ne (.var "inner") (.lstE false [])) (.bin .add (.bin .add (.k (.str "<")) (.meth (.k (.str ", ")) "join" [.var "inner"])) (.k (.str ">"))) (.k (.str ""))))] }
noncomputable def f_is_never:Fn:={ params:=["made"],dflts:=[],body:=[.ret (.cmp .eq (.idx (.var "made") (.k (.int 1))) (.g "NEVER"))] }
noncomputable def f_read_int:Fn:={ params:=["checker","node","wanted"],dflts:=[],body:=[.unpk ["kind","spot","value","width"] (.var "node"),.ifS (.cmp .isNot (.var "width") (.k .none)) [.ret (.tupE [.k (.str "const"),.tupE [.k (.str "int"),.var "width"],.var "spot",.var "value"])] [],.asg "told" (.ite (.cmp .is (.var "wanted") (.k .none)) (.k .none) (.meth (.var "checker") "resolved" [.var "wanted"])),.ifS (.orE [.cmp .is (.var "told") (.k .none),.cmp .notin (.idx (.var "told") (.k (.int 0))) (.tupE [.k (.str "int"),.k (.str "intvar")])]) [.asg "told" (.meth (.attr (.var "checker") "infer") "fresh_int" [])] [],.ret (.tupE [.k (.str "const"),.var "told",.var "spot",.var "value"])] }
noncomputable def f_read_bool:Fn:={ params:=["checker","node","wanted"],dflts:=[],body:=[.ret (.tupE [.k (.str "const"),.g "BOOL",.idx (.var "node") (.k (.int 1)),.idx (.var "node") (.k (.int 2))])] }
noncomputable def f_read_if:Fn:={ params:=["checker","node","wanted"],dflts:=[],body:=[.unpk ["kind","spot","test","way","other"] (.var "node"),.asg "made" (.meth (.var "checker") "coerce" [.meth (.var "checker") "expr" [.var "test",.g "BOOL"],.g "BOOL"]),.ifS (.cmp .is (.var "other") (.k .none)) [.ret (.tupE [.k (.str "if"),.g "UNIT",.var "spot",.var "made",.meth (.var "checker") "coerce" [.meth (.var "checker") "expr" [.var "way",.g "UNIT"],.g "UNIT"],.k .none])] [],.unpk ["told","ways"] (.call .dead [.var "checker",.lstE false [.meth (.var "checker") "expr" [.var "way",.var "wanted"],.meth (.var "checker") "expr" [.var "other",.var "wanted"]],.var "wanted"]),.ret (.tupE [.k (.str "if"),.var "told",.var "spot",.var "made",.idx (.var "ways") (.k (.int 0)),.idx (.var "ways") (.k (.int 1))])] }
noncomputable def f_read_loop:Fn:={ params:=["checker","node","wanted"],dflts:=[],body:=[.unpk ["kind","spot","label","body"] (.var "node"),.asg "loop" (.meth (.var "checker") "enter" [.var "label",.ite (.cmp .is (.var "wanted") (.k .none)) (.meth (.var "checker") "fresh" []) (.var "wanted"),.k (.bool true)]),.asg "made" (.meth (.var "checker") "coerce" [.meth (.var "checker") "expr" [.var "body",.g "UNIT"],.g "UNIT"]),.ex (.meth (.attr (.var "checker") "loops") "pop" []),.ret (.tupE [.k (.str "loop"),.ite (.attr (.var "loop") "is_left") (.attr (.var "loop") "result") (.g "NEVER"),.var "spot",.attr (.var "loop") "number",.var "made"])] }
noncomputable def f_left_loop:Fn:={ params:=["loop","spot"],dflts:=[],body:=[.ret (.tupE [.k (.str "break"),.g "NEVER",.var "spot",.attr (.var "loop") "number",.k .none])] }
noncomputable def f_read_while:Fn:={ params:=["checker","node","wanted"],dflts:=[],body:=[.unpk ["kind","spot","label","test","body"] (.var "node"),.asg "loop" (.meth (.var "checker") "enter" [.var "label",.g "UNIT",.k (.bool false)]),.setA (.var "loop") "is_test" (.k (.bool true)),.asg "made" (.meth (.var "checker") "coerce" [.meth (.var "checker") "expr" [.var "test",.g "BOOL"],.g "BOOL"]),.setA (.var "loop") "is_test" (.k (.bool false)),.asg "way" (.meth (.var "checker") "coerce" [.meth (.var "checker") "expr" [.var "body",.g "UNIT"],.g "UNIT"]),.ex (.meth (.attr (.var "checker") "loops") "pop" []),.ret (.tupE [.k (.str "loop"),.g "UNIT",.var "spot",.attr (.var "loop") "number",.tupE [.k (.str "if"),.g "UNIT",.var "spot",.var "made",.var "way",.call (.g "left_loop") [.var "loop",.var "spot"]]])] }
noncomputable def f_read_break:Fn:={ params:=["checker","node","wanted"],dflts:=[],body:=[.unpk ["kind","spot","label","value"] (.var "node"),.asg "loop" (.meth (.var "checker") "loop_of" [.var "label",.var "spot"]),.setA (.var "loop") "is_left" (.k (.bool true)),.ifS (.cmp .is (.var "value") (.k .none)) [.ex (.meth (.var "checker") "unify" [.attr (.var "loop") "result",.g "UNIT",.var "spot"]),.ret (.call (.g "left_loop") [.var "loop",.var "spot"])] [],.ifS (.notE (.attr (.var "loop") "has_value")) [.ex (.meth (.var "checker") "fault" [.k (.str "a loop that gives no value"),.var "spot"])] [],.asg "made" (.meth (.var "checker") "coerce" [.meth (.var "checker") "expr" [.var "value",.attr (.var "loop") "result"],.attr (.var "loop") "result"]),.ret (.tupE [.k (.str "break"),.g "NEVER",.var "spot",.attr (.var "loop") "number",.var "made"])] }
noncomputable def f_read_continue:Fn:={ params:=["checker","node","wanted"],dflts:=[],body:=[.ret (.tupE [.k (.str "continue"),.g "NEVER",.idx (.var "node") (.k (.int 1)),.attr (.meth (.var "checker") "loop_of" [.idx (.var "node") (.k (.int 2)),.idx (.var "node") (.k (.int 1))]) "number"])] }
noncomputable def f_read_return:Fn:={ params:=["checker","node","wanted"],dflts:=[],body:=[.ifS (.cmp .is (.attr (.var "checker") "result") (.k .none)) [.ex (.meth (.var "checker") "fault" [.k (.str "a return outside of a function"),.idx (.var "node") (.k (.int 1))])] [],.ifS (.cmp .is (.idx (.var "node") (.k (.int 2))) (.k .none)) [.ex (.meth (.var "checker") "unify" [.attr (.var "checker") "result",.g "UNIT",.idx (.var "node") (.k (.int 1))]),.ret (.tupE [.k (.str "return"),.g "NEVER",.idx (.var "node") (.k (.int 1)),.k .none])] [],.asg "made" (.meth (.var "checker") "coerce" [.meth (.var "checker") "expr" [.idx (.var "node") (.k (.int 2)),.attr (.var "checker") "result"],.attr (.var "checker") "result"]),.ret (.tupE [.k (.str "return"),.g "NEVER",.idx (.var "node") (.k (.int 1)),.var "made"])] }
noncomputable def f_read_block:Fn:={ params:=["checker","node","wanted"],dflts:=[],body:=[.unpk ["kind","spot","statements","tail"] (.var "node"),.ex (.meth (.var "checker") "open" []),.asg2 ["rows","is_over"] [.lstE true [],.k (.bool false)],.forS "statement" false (.var "statements") [.ifS (.cmp .eq (.idx (.var "statement") (.k (.int 0))) (.k (.str "let"))) [.ex (.meth (.var "rows") "append" [.call .dead [.var "checker",.var "statement"]]),.asg "is_over" (.orE [.var "is_over",.andE [.cmp .isNot (.idx (.idx (.var "rows") (.neg 1)) (.k (.int 3))) (.k .none),.call (.g "is_never") [.idx (.idx (.var "rows") (.neg 1)) (.k (.int 3))]]])] [.ex (.meth (.var "rows") "append" [.tupE [.k (.str "do"),.idx (.var "statement") (.k (.int 1)),.meth (.var "checker") "expr" [.idx (.var "statement") (.k (.int 2)),.k .none]]]),.asg "is_over" (.orE [.var "is_over",.call (.g "is_never") [.idx (.idx (.var "rows") (.neg 1)) (.k (.int 2))]])]],.asg "made" (.ite (.cmp .is (.var "tail") (.k .none)) (.k .none) (.meth (.var "checker") "expr" [.var "tail",.var "wanted"])),.ifS (.andE [.cmp .isNot (.var "made") (.k .none),.cmp .isNot (.var "wanted") (.k .none)]) [.asg "made" (.meth (.var "checker") "coerce" [.var "made",.var "wanted"])] [],.ex (.meth (.var "checker") "close" []),.asg "told" (.ite (.cmp .is (.var "made") (.k .none)) (.g "UNIT") (.idx (.var "made") (.k (.int 1)))),.ret (.tupE [.k (.str "block"),.ite (.var "is_over") (.g "NEVER") (.var "told"),.var "spot",.call (.g "tuple") [.var "rows"],.var "made"])] }
noncomputable def f_Infer___init:Fn:={ params:=["self"],dflts:=[],body:=[.setA (.var "self") "ended" (.lstE true []),.setA (.var "self") "known" (.lstE true []),.setA (.var "self") "is_number" (.lstE true [])] }
noncomputable def f_Infer_fresh:Fn:={ params:=["self"],dflts:=[],body:=[.ex (.meth (.attr (.var "self") "known") "append" [.k .none]),.ex (.meth (.attr (.var "self") "is_number") "append" [.k (.bool false)]),.ret (.tupE [.k (.str "var"),.bin .sub (.call (.g "len") [.attr (.var "self") "known"]) (.k (.int 1))])] }
noncomputable def f_Infer_shallow:Fn:={ params:=["self","told"],dflts:=[],body:=[.whl (.andE [.cmp .isin (.idx (.var "told") (.k (.int 0))) (.tupE [.k (.str "var"),.k (.str "intvar")]),.cmp .isNot (.idx (.attr (.var "self") "known") (.idx (.var "told") (.k (.int 1)))) (.k .none)]) [.asg "told" (.idx (.attr (.var "self") "known") (.idx (.var "told") (.k (.int 1))))],.ret (.var "told")] }
noncomputable def f_Infer_resolved:Fn:={ params:=["self","told"],dflts:=[],body:=[.asg2 ["done","left","many"] [.lstE false [],.lstE true [.tupE [.var "told",.k (.int 1),.k (.bool false)]],.k (.int 0)],.whl (.cmp .ne (.var "left") (.lstE false [])) [.unpk ["here","deep","is_read"] (.meth (.var "left") "pop" []),.ifS (.var "is_read") [.asg "begin" (.bin .sub (.call (.g "len") [.var "done"]) (.call (.g "len") [.call (.g "parts_of") [.var "here"]])),.asg "done" (.bin .add (.upto (.var "done") (.var "begin")) (.lstE false [.call (.g "rebuilt") [.var "here",.from_ (.var "done") (.var "begin")]])),.cont] [],.asg "many" (.bin .add (.var "many") (.k (.int 1))),.ifS (.orE [.cmp .gt (.var "many") (.g "MOST_PARTS"),.cmp .gt (.var "deep") (.g "MOST_DEEP")]) [.raiseT (.k (.str "a type of too many parts")) (none)] [],.asg "here" (.meth (.var "self") "shallow" [.var "here"]),.ex (.meth (.var "left") "append" [.tupE [.var "here",.var "deep",.k (.bool true)]]),.ex (.meth (.var "left") "extend" [.comp (.tupE [.var "part",.bin .add (.var "deep") (.k (.int 1)),.k (.bool false)]) "part" false (.rev (.call (.g "parts_of") [.var "here"])) (none)])],.ret (.idx (.var "done") (.k (.int 0)))] }
noncomputable def f_Infer_occurs:Fn:={ params:=["self","unknown","told"],dflts:=[],body:=[.asg2 ["left","many"] [.lstE true [.var "told"],.k (.int 0)],.whl (.cmp .ne (.var "left") (.lstE false [])) [.asg "here" (.meth (.var "self") "shallow" [.meth (.var "left") "pop" []]),.ifS (.cmp .eq (.var "here") (.var "unknown")) [.ret (.k (.bool true))] [],.asg "many" (.bin .add (.var "many") (.k (.int 1))),.ifS (.cmp .gt (.var "many") (.g "MOST_PARTS")) [.raiseT (.k (.str "a type of too many parts")) (none)] [],.ex (.meth (.var "left") "extend" [.call (.g "parts_of") [.var "here"]])],.ret (.k (.bool false))] }
noncomputable def f_Infer_bind:Fn:={ params:=["self","unknown","told"],dflts:=[],body:=[.ifS (.andE [.cmp .eq (.idx (.var "unknown") (.k (.int 0))) (.k (.str "intvar")),.cmp .notin (.idx (.var "told") (.k (.int 0))) (.tupE [.k (.str "int"),.k (.str "intvar")])]) [.ifS (.cmp .eq (.idx (.var "told") (.k (.int 0))) (.k (.str "var"))) [.setI (.attr (.var "self") "known") (.idx (.var "told") (.k (.int 1))) (.var "unknown"),.retN] [],.raiseT (.bin .add (.k (.str "a whole number is no ")) (.call (.g "type_text") [.meth (.var "self") "resolved" [.var "told"]])) (none)] [],.ifS (.meth (.var "self") "occurs" [.var "unknown",.var "told"]) [.raiseT (.k (.str "a type that would stand within itself")) (none)] [],.setI (.attr (.var "self") "known") (.idx (.var "unknown") (.k (.int 1))) (.var "told")] }
noncomputable def f_Infer_are_alike:Fn:={ params:=["self","one","other"],dflts:=[],body:=[.ifS (.orE [.cmp .ne (.idx (.var "one") (.k (.int 0))) (.idx (.var "other") (.k (.int 0))),.cmp .ne (.call (.g "len") [.call (.g "parts_of") [.var "one"]]) (.call (.g "len") [.call (.g "parts_of") [.var "other"]])]) [.ret (.k (.bool false))] [],.ifS (.cmp .isin (.idx (.var "one") (.k (.int 0))) (.tupE [.k (.str "int"),.k (.str "param"),.k (.str "adt")])) [.ret (.cmp .eq (.idx (.var "one") (.k (.int 1))) (.idx (.var "other") (.k (.int 1))))] [],.ret (.ite (.cmp .isin (.idx (.var "one") (.k (.int 0))) (.tupE [.k (.str "ref"),.k (.str "array")])) (.cmp .eq (.idx (.var "one") (.k (.int 2))) (.idx (.var "other") (.k (.int 2)))) (.k (.bool true)))] }
noncomputable def f_Infer_unify:Fn:={ params:=["self","one","other"],dflts:=[],body:=[.asg "left" (.lstE true [.tupE [.var "one",.var "other"]]),.whl (.cmp .ne (.var "left") (.lstE false [])) [.unpk ["here","there"] (.meth (.var "left") "pop" []),.asg2 ["here","there"] [.meth (.var "self") "shallow" [.var "here"],.meth (.var "self") "shallow" [.var "there"]],.ifS (.cmp .eq (.var "here") (.var "there")) [.cont] [],.ifS (.cmp .isin (.idx (.var "here") (.k (.int 0))) (.tupE [.k (.str "var"),.k (.str "intvar")])) [.ex (.meth (.var "self") "bind" [.var "here",.var "there"])] [.ifS (.cmp .isin (.idx (.var "there") (.k (.int 0))) (.tupE [.k (.str "var"),.k (.str "intvar")])) [.ex (.meth (.var "self") "bind" [.var "there",.var "here"])] [.ifS (.meth (.var "self") "are_alike" [.var "here",.var "there"]) [.ex (.meth (.var "left") "extend" [.rev (.call .dead [.call .dead [.call (.g "parts_of") [.var "here"],.call (.g "parts_of") [.var "there"]]])])] [.asg "told" (.bin .add (.bin .add (.call (.g "type_text") [.meth (.var "self") "resolved" [.var "here"]]) (.k (.str " and "))) (.call (.g "type_text") [.meth (.var "self") "resolved" [.var "there"]])),.raiseT (.bin .add (.k (.str "types that are not one: ")) (.var "told")) none]]]]] }
noncomputable def f_Loop___init:Fn:={ params:=["self","label","number","result","has_value"],dflts:=[],body:=[.setA (.var "self") "label" (.var "label"),.setA (.var "self") "number" (.var "number"),.setA (.var "self") "result" (.var "result"),.setA (.var "self") "has_value" (.var "has_value"),.setA (.var "self") "is_test" (.k (.bool false)),.setA (.var "self") "is_left" (.k (.bool false))] }
noncomputable def f_Checker___init:Fn:={ params:=["self","world","module","self_type","bounds","reader"],dflts:=[],body:=[.setA (.var "self") "world" (.var "world"),.setA (.var "self") "module" (.var "module"),.setA (.var "self") "self_type" (.var "self_type"),.setA (.var "self") "bounds" (.var "bounds"),.setA (.var "self") "reader" (.var "reader"),.setA (.var "self") "infer" (.call (.g "Infer") []),.setA (.var "self") "locals" (.lstE true []),.setA (.var "self") "scopes" (.lstE true [.dictE []]),.setA (.var "self") "loops" (.lstE true []),.setA (.var "self") "many_loops" (.k (.int 0)),.setA (.var "self") "owed" (.lstE true []),.setA (.var "self") "result" (.g "UNIT")] }
noncomputable def f_Checker_expr:Fn:={ params:=["self","node","wanted"],dflts:=[],body:=[.ret (.meth (.attr (.var "self") "reader") "read" [.var "self",.var "node",.var "wanted"])] }
noncomputable def f_Checker_fault:Fn:={ params:=["self","message","spot"],dflts:=[],body:=[.raiseT (.var "message") (some (.var "spot"))] }
noncomputable def f_Checker_fresh:Fn:={ params:=["self"],dflts:=[],body:=[.ret (.meth (.attr (.var "self") "infer") "fresh" [])] }
noncomputable def f_Checker_resolved:Fn:={ params:=["self","told"],dflts:=[],body:=[.ret (.meth (.attr (.var "self") "infer") "resolved" [.var "told"])] }
noncomputable def f_Checker_unify:Fn:={ params:=["self","one","other","spot"],dflts:=[],body:=[.rethrow (.attr (.var "self") "infer") "unify" [.var "one",.var "other"] "spot"] }
noncomputable def f_Checker_open:Fn:={ params:=["self"],dflts:=[],body:=[.ex (.meth (.attr (.var "self") "scopes") "append" [.dictE []])] }
noncomputable def f_Checker_close:Fn:={ params:=["self"],dflts:=[],body:=[.ex (.meth (.attr (.var "self") "scopes") "pop" [])] }
noncomputable def f_Checker_enter:Fn:={ params:=["self","label","result","has_value"],dflts:=[],body:=[.ex (.meth (.attr (.var "self") "loops") "append" [.call (.g "Loop") [.var "label",.attr (.var "self") "many_loops",.var "result",.var "has_value"]]),.setA (.var "self") "many_loops" (.bin .add (.attr (.var "self") "many_loops") (.k (.int 1))),.ret (.idx (.attr (.var "self") "loops") (.neg 1))] }
noncomputable def f_Checker_loop_of:Fn:={ params:=["self","label","spot"],dflts:=[],body:=[.forS "loop" false (.rev (.attr (.var "self") "loops")) [.ifS (.andE [.cmp .is (.var "label") (.k .none),.attr (.var "loop") "is_test"]) [.dead] [],.ifS (.orE [.cmp .is (.var "label") (.k .none),.cmp .eq (.attr (.var "loop") "label") (.var "label")]) [.ret (.var "loop")] []],.dead] }
noncomputable def f_Checker_coerce:Fn:={ params:=["self","made","told"],dflts:=[],body:=[.asg2 ["here","wanted"] [.meth (.var "self") "resolved" [.idx (.var "made") (.k (.int 1))],.meth (.var "self") "resolved" [.var "told"]],.ifS (.cmp .eq (.var "here") (.tupE [.k (.str "never")])) [.ret (.var "made")] [],.ifS (.andE [.cmp .eq (.idx (.var "here") (.k (.int 0))) (.k (.str "ref")),.cmp .eq (.idx (.var "wanted") (.k (.int 0))) (.k (.str "ref")),.orE [.idx (.var "here") (.k (.int 2)),.notE (.idx (.var "wanted") (.k (.int 2)))]]) [.asg "made" (.meth (.var "self") "made_anew" [.var "made",.var "here",.var "wanted"])] [],.ex (.meth (.var "self") "unify" [.idx (.var "made") (.k (.int 1)),.var "told",.idx (.var "made") (.k (.int 2))]),.ret (.var "made")] }
noncomputable def f_World___init:Fn:={ params:=["self","modules"],dflts:=[.none],body:=[.setA (.var "self") "modules" (.var "modules"),.setA (.var "self") "adts" (.dictE []),.setA (.var "self") "variants" (.dictE []),.setA (.var "self") "sigs" (.dictE []),.setA (.var "self") "traits" (.dictE []),.setA (.var "self") "impls" (.lstE true []),.setA (.var "self") "consts" (.dictE []),.setA (.var "self") "bodies" (.dictE [])] }
noncomputable def f_law_pool:Fn:={ params:=["script","k"],dflts:=[],body:=[.asg "cell" (.k (.int 0)),.ifS (.cmp .lt (.var "k") (.call (.g "len") [.var "script"])) [.asg "cell" (.idx (.var "script") (.var "k"))] [],.asg "big" (.call (.g "max") [.call (.g "int") [.var "cell"],.call (.g "int") [.bin .sub (.neg 1) (.var "cell")]]),.asg "mixed" (.bin .mod (.call (.g "int") [.bin .mul (.bin .add (.bin .add (.bin .add (.bin .mod (.call (.g "int") [.var "big"]) (.k (.int 2147483629))) (.bin .mul (.bin .mul (.k (.int 7919)) (.var "k")) (.var "k"))) (.bin .mul (.k (.int 31)) (.var "k"))) (.k (.int 17))) (.k (.int 48271))]) (.k (.int 2147483647))),.ret (.lstE true [.bin .mul (.var "big") (.call (.g "int") [.cmp .ge (.var "big") (.bin .pow (.k (.int 10)) (.k (.int 18)))]),.var "mixed"])] }
noncomputable def f_law_take:Fn:={ params:=["source","top"],dflts:=[],body:=[.ifS (.cmp .gt (.idx (.var "source") (.k (.int 0))) (.k (.int 0))) [.asg "drawn" (.bin .mod (.call (.g "int") [.idx (.var "source") (.k (.int 0))]) (.var "top")),.setI (.var "source") (.k (.int 0)) (.bin .fdiv (.idx (.var "source") (.k (.int 0))) (.var "top")),.ret (.var "drawn")] [],.setI (.var "source") (.k (.int 1)) (.bin .mod (.call (.g "int") [.bin .add (.bin .mul (.idx (.var "source") (.k (.int 1))) (.k (.int 39373))) (.k (.int 7))]) (.k (.int 2147483647))),.ret (.bin .mod (.call (.g "int") [.bin .fdiv (.bin .mod (.call (.g "int") [.bin .mul (.idx (.var "source") (.k (.int 1))) (.idx (.var "source") (.k (.int 1)))]) (.k (.int 2147483629))) (.k (.int 32))]) (.var "top"))] }
noncomputable def f_law_one:Fn:={ params:=["source","things"],dflts:=[],body:=[.ret (.idx (.var "things") (.call (.g "_law_take") [.var "source",.call (.g "len") [.var "things"]]))] }
noncomputable def f_law_goal:Fn:={ params:=["source","around"],dflts:=[],body:=[.asg "label" (.call (.g "_law_one") [.var "source",.bin .add (.lstE false [.k .none]) (.comp (.idx (.var "row") (.k (.int 1))) "row" false (.var "around") (some (.cmp .isNot (.idx (.var "row") (.k (.int 1))) (.k .none))))]),.asg "fitting" (.comp (.idx (.var "row") (.k (.int 0))) "row" false (.var "around") (some (.orE [.cmp .is (.var "label") (.k .none),.cmp .eq (.idx (.var "row") (.k (.int 1))) (.var "label")]))),.ret (.tupE [.idx (.var "fitting") (.neg 1),.var "label"])] }
noncomputable def f_law_ring:Fn:={ params:=["source","around","count","deep"],dflts:=[],body:=[.asg2 ["number","label"] [.idx (.var "count") (.k (.int 0)),.call (.g "_law_one") [.var "source",.lstE false [.k .none,.k (.str "'a"),.k (.str "'a"),.k (.str "'b")]]],.setI (.var "count") (.k (.int 0)) (.bin .add (.var "number") (.k (.int 1))),.asg "is_while" (.cmp .eq (.call (.g "_law_take") [.var "source",.k (.int 6)]) (.k (.int 0))),.asg "inner" (.call (.g "_law_plans") [.var "source",.bin .add (.var "around") (.lstE false [.lstE false [.var "number",.var "label"]]),.var "count",.var "deep",.bin .add (.k (.int 1)) (.call (.g "_law_take") [.var "source",.k (.int 3)])]),.ret (.tupE [.k (.str "ring"),.var "number",.var "is_while",.var "label",.var "inner"])] }
noncomputable def f_law_plans:Fn:={ params:=["source","around","count","deep","many"],dflts:=[],body:=[.ret (.comp (.call (.g "_law_plan") [.var "source",.var "around",.var "count",.var "deep"]) "turn" true (.var "many") (none))] }
noncomputable def f_law_value:Fn:={ params:=["source","around","count","deep"],dflts:=[],body:=[.asg "way" (.call (.g "_law_take") [.var "source",.ite (.cmp .gt (.var "deep") (.k (.int 0))) (.k (.int 8)) (.k (.int 6))]),.ifS (.cmp .gt (.var "way") (.k (.int 5))) [.ret (.call (.g "_law_ring") [.var "source",.var "around",.var "count",.bin .sub (.var "deep") (.k (.int 1))])] [],.ret (.idx (.lstE false [.k (.str "u8"),.k (.str "u8"),.k (.str "u8"),.k (.str "bool"),.k (.str "unit"),.tupE [.k (.str "return")]]) (.var "way"))] }
noncomputable def f_law_plan:Fn:={ params:=["source","around","count","deep"],dflts:=[],body:=[.asg "way" (.call (.g "_law_take") [.var "source",.k (.int 10)]),.ifS (.orE [.andE [.cmp .lt (.var "way") (.k (.int 3)),.cmp .gt (.var "deep") (.k (.int 0))],.cmp .eq (.var "around") (.lstE false [])]) [.ret (.call (.g "_law_ring") [.var "source",.var "around",.var "count",.bin .sub (.var "deep") (.k (.int 1))])] [],.ifS (.andE [.cmp .eq (.var "way") (.k (.int 3)),.cmp .gt (.var "deep") (.k (.int 0))]) [.ret (.tupE [.k (.str "if"),.call (.g "_law_plans") [.var "source",.var "around",.var "count",.bin .sub (.var "deep") (.k (.int 1)),.bin .add (.k (.int 1)) (.call (.g "_law_take") [.var "source",.k (.int 2)])]])] [],.unpk ["goal","label"] (.call (.g "_law_goal") [.var "source",.var "around"]),.ifS (.cmp .lt (.var "way") (.k (.int 8))) [.ret (.tupE [.k (.str "break"),.var "goal",.var "label",.ite (.cmp .eq (.call (.g "_law_take") [.var "source",.k (.int 4)]) (.k (.int 0))) (.k .none) (.call (.g "_law_value") [.var "source",.var "around",.var "count",.var "deep"])])] [],.ret (.ite (.cmp .eq (.var "way") (.k (.int 8))) (.tupE [.k (.str "continue"),.var "label"]) (.tupE [.k (.str "return")]))] }
noncomputable def f_law_tree:Fn:={ params:=["plan"],dflts:=[],body:=[.ifS (.cmp .eq (.idx (.var "plan") (.k (.int 0))) (.k (.str "ring"))) [.asg "body" (.tupE [.k (.str "block"),.k (.int 1),.call (.g "tuple") [.comp (.tupE [.k (.str "do"),.k (.int 1),.call (.g "_law_tree") [.var "one"]]) "one" false (.idx (.var "plan") (.k (.int 4))) (none)],.k .none]),.ret (.ite (.idx (.var "plan") (.k (.int 2))) (.tupE [.k (.str "while"),.k (.int 1),.idx (.var "plan") (.k (.int 3)),.tupE [.k (.str "bool"),.k (.int 1),.k (.bool true)],.var "body"]) (.tupE [.k (.str "loop"),.k (.int 1),.idx (.var "plan") (.k (.int 3)),.var "body"]))] [],.ifS (.cmp .eq (.idx (.var "plan") (.k (.int 0))) (.k (.str "if"))) [.asg "body" (.tupE [.k (.str "block"),.k (.int 1),.call (.g "tuple") [.comp (.tupE [.k (.str "do"),.k (.int 1),.call (.g "_law_tree") [.var "one"]]) "one" false (.idx (.var "plan") (.k (.int 1))) (none)],.k .none]),.ret (.tupE [.k (.str "if"),.k (.int 1),.tupE [.k (.str "bool"),.k (.int 1),.k (.bool true)],.var "body",.k .none])] [],.ifS (.cmp .eq (.idx (.var "plan") (.k (.int 0))) (.k (.str "break"))) [.ret (.tupE [.k (.str "break"),.k (.int 1),.idx (.var "plan") (.k (.int 2)),.ite (.cmp .is (.idx (.var "plan") (.k (.int 3))) (.k .none)) (.k .none) (.call (.g "_law_tree") [.idx (.var "plan") (.k (.int 3))])])] [],.ifS (.cmp .eq (.idx (.var "plan") (.k (.int 0))) (.k (.str "continue"))) [.ret (.tupE [.k (.str "continue"),.k (.int 1),.idx (.var "plan") (.k (.int 1))])] [],.ifS (.cmp .eq (.idx (.var "plan") (.k (.int 0))) (.k (.str "return"))) [.ret (.tupE [.k (.str "return"),.k (.int 1),.tupE [.k (.str "int"),.k (.int 1),.k (.int 4),.k (.str "u8")]])] [],.asg "words" (.dictE [(.k (.str "u8"),.tupE [.k (.str "int"),.k (.int 1),.k (.int 9),.k (.str "u8")]),(.k (.str "bool"),.tupE [.k (.str "bool"),.k (.int 1),.k (.bool true)]),(.k (.str "unit"),.tupE [.k (.str "block"),.k (.int 1),.tupE [],.k .none])]),.ret (.idx (.var "words") (.var "plan"))] }
noncomputable def f_law_home:Fn:={ params:=["book","number"],dflts:=[],body:=[.whl (.cmp .ne (.meth (.idx (.var "book") (.k (.str "links"))) "get" [.var "number",.var "number"]) (.var "number")) [.asg "number" (.idx (.idx (.var "book") (.k (.str "links"))) (.var "number"))],.ret (.var "number")] }
noncomputable def f_law_kind:Fn:={ params:=["book","number","kind"],dflts:=[],body:=[.asg "first" (.call (.g "_law_home") [.var "book",.var "number"]),.setI (.var "book") (.k (.str "fine")) (.andE [.idx (.var "book") (.k (.str "fine")),.cmp .eq (.meth (.idx (.var "book") (.k (.str "kinds"))) "get" [.var "first",.var "kind"]) (.var "kind")]),.setI (.idx (.var "book") (.k (.str "kinds"))) (.var "first") (.var "kind")] }
noncomputable def f_law_join:Fn:={ params:=["book","number","goal"],dflts:=[],body:=[.asg2 ["one","other"] [.call (.g "_law_home") [.var "book",.var "number"],.call (.g "_law_home") [.var "book",.var "goal"]],.ifS (.cmp .ne (.var "one") (.var "other")) [.setI (.idx (.var "book") (.k (.str "links"))) (.var "one") (.var "other"),.ifS (.cmp .isin (.var "one") (.idx (.var "book") (.k (.str "kinds")))) [.ex (.call (.g "_law_kind") [.var "book",.var "other",.idx (.idx (.var "book") (.k (.str "kinds"))) (.var "one")])] []] []] }
noncomputable def f_law_gather:Fn:={ params:=["book","plan"],dflts:=[],body:=[.ifS (.cmp .eq (.idx (.var "plan") (.k (.int 0))) (.k (.str "ring"))) [.ifS (.idx (.var "plan") (.k (.int 2))) [.ex (.meth (.idx (.var "book") (.k (.str "whiles"))) "append" [.idx (.var "plan") (.k (.int 1))]),.ex (.call (.g "_law_kind") [.var "book",.idx (.var "plan") (.k (.int 1)),.k (.str "unit")])] [],.forS "one" false (.idx (.var "plan") (.k (.int 4))) [.ex (.call (.g "_law_gather") [.var "book",.var "one"])],.ex (.meth (.idx (.var "book") (.k (.str "ended"))) "append" [.idx (.var "plan") (.k (.int 1))])] [.ifS (.cmp .eq (.idx (.var "plan") (.k (.int 0))) (.k (.str "if"))) [.forS "one" false (.idx (.var "plan") (.k (.int 1))) [.ex (.call (.g "_law_gather") [.var "book",.var "one"])]] [.ifS (.cmp .eq (.idx (.var "plan") (.k (.int 0))) (.k (.str "break"))) [.ex (.meth (.idx (.var "book") (.k (.str "left"))) "append" [.idx (.var "plan") (.k (.int 1))]),.ex (.call (.g "_law_handed") [.var "book",.idx (.var "plan") (.k (.int 1)),.idx (.var "plan") (.k (.int 3))])] []]]] }
noncomputable def f_law_handed:Fn:={ params:=["book","goal","value"],dflts:=[],body:=[.ifS (.andE [.cmp .isin (.var "goal") (.idx (.var "book") (.k (.str "whiles"))),.cmp .isNot (.var "value") (.k .none)]) [.setI (.var "book") (.k (.str "fine")) (.k (.bool false))] [.ifS (.cmp .isin (.var "value") (.lstE false [.k (.str "u8"),.k (.str "bool")])) [.ex (.call (.g "_law_kind") [.var "book",.var "goal",.var "value"])] [.ifS (.orE [.cmp .is (.var "value") (.k .none),.cmp .eq (.var "value") (.k (.str "unit"))]) [.ex (.call (.g "_law_kind") [.var "book",.var "goal",.k (.str "unit")])] [.ifS (.cmp .eq (.idx (.var "value") (.k (.int 0))) (.k (.str "ring"))) [.ex (.call (.g "_law_join") [.var "book",.idx (.var "value") (.k (.int 1)),.var "goal"]),.ex (.call (.g "_law_gather") [.var "book",.var "value"])] []]]]] }
noncomputable def f_law_is_never:Fn:={ params:=["book","plan"],dflts:=[],body:=[.ifS (.cmp .eq (.idx (.var "plan") (.k (.int 0))) (.k (.str "ring"))) [.ret (.andE [.notE (.idx (.var "plan") (.k (.int 2))),.cmp .notin (.idx (.var "plan") (.k (.int 1))) (.idx (.var "book") (.k (.str "left")))])] [],.ret (.cmp .isin (.idx (.var "plan") (.k (.int 0))) (.lstE false [.k (.str "break"),.k (.str "continue"),.k (.str "return")]))] }
noncomputable def f_law_due:Fn:={ params:=["plans","tail"],dflts:=[],body:=[.asg "book" (.dictE [(.k (.str "links"),.dictE []),(.k (.str "kinds"),.dictE []),(.k (.str "fine"),.k (.bool true)),(.k (.str "left"),.lstE true []),(.k (.str "whiles"),.lstE true []),(.k (.str "ended"),.lstE true [])]),.forS "plan" false (.var "plans") [.ex (.call (.g "_law_gather") [.var "book",.var "plan"])],.ifS (.cmp .ne (.var "tail") (.k (.str "u8"))) [.ex (.call (.g "_law_kind") [.var "book",.idx (.var "tail") (.k (.int 1)),.k (.str "u8")]),.ex (.call (.g "_law_gather") [.var "book",.var "tail"])] [],.ifS (.notE (.idx (.var "book") (.k (.str "fine")))) [.ret (.k (.str "type"))] [],.asg "found" (.lstE true []),.forS "number" false (.idx (.var "book") (.k (.str "ended"))) [.asg "told" (.meth (.idx (.var "book") (.k (.str "kinds"))) "get" [.call (.g "_law_home") [.var "book",.var "number"],.k (.str "open")]),.ex (.meth (.var "found") "append" [.ite (.orE [.cmp .isin (.var "number") (.idx (.var "book") (.k (.str "left"))),.cmp .isin (.var "number") (.idx (.var "book") (.k (.str "whiles")))]) (.var "told") (.k (.str "never"))])],.asg "is_over" (.cmp .ne (.comp (.var "plan") "plan" false (.var "plans") (some (.call (.g "_law_is_never") [.var "book",.var "plan"]))) (.lstE false [])),.ret (.bin .add (.lstE false [.ite (.orE [.var "is_over",.andE [.cmp .ne (.var "tail") (.k (.str "u8")),.call (.g "_law_is_never") [.var "book",.var "tail"]]]) (.k (.str "never")) (.k (.str "u8"))]) (.var "found"))] }
noncomputable def f_law_read:Fn:={ params:=["checker","node","wanted"],dflts:=[],body:=[.ifS (.cmp .eq (.idx (.var "node") (.k (.int 0))) (.k (.str "break"))) [.ret (.call (.g "read_break") [.var "checker",.var "node",.var "wanted"])] [],.asg "readers" (.dictE [(.k (.str "int"),.g "read_int"),(.k (.str "bool"),.g "read_bool"),(.k (.str "block"),.g "read_block"),(.k (.str "if"),.g "read_if"),(.k (.str "loop"),.g "read_loop")]),.ex (.meth (.var "readers") "update" [.dictE [(.k (.str "while"),.g "read_while"),(.k (.str "continue"),.g "read_continue"),(.k (.str "return"),.g "read_return")]]),.ret (.call (.idx (.var "readers") (.idx (.var "node") (.k (.int 0)))) [.var "checker",.var "node",.var "wanted"])] }
noncomputable def f_law_rings:Fn:={ params:=["node"],dflts:=[],body:=[.asgF "found" (.var "one") "part" (.var "node") (.call (.g "isinstance") [.var "part",.g "tuple"]) "one" (.call (.g "_law_rings") [.var "part"]),.ret (.ite (.andE [.cmp .ne (.var "node") (.tupE []),.cmp .eq (.idx (.var "node") (.k (.int 0))) (.k (.str "loop"))]) (.bin .add (.var "found") (.lstE false [.idx (.var "node") (.k (.int 1))])) (.var "found"))] }
noncomputable def f_law_told:Fn:={ params:=["plans","tail"],dflts:=[],body:=[.asg "reader" (.call (.g "World") []),.setA (.var "reader") "read" (.g "_law_read"),.asg "checker" (.call (.g "Checker") [.call (.g "World") [],.k (.str ""),.k .none,.dictE [],.var "reader"]),.setA (.var "checker") "result" (.tupE [.k (.str "int"),.k (.str "u8")]),.asg "body" (.tupE [.k (.str "block"),.k (.int 1),.call (.g "tuple") [.comp (.tupE [.k (.str "do"),.k (.int 1),.call (.g "_law_tree") [.var "plan"]]) "plan" false (.var "plans") (none)],.call (.g "_law_tree") [.var "tail"]]),.tryRet "made" (.meth (.var "checker") "coerce" [.meth (.var "checker") "expr" [.var "body",.attr (.var "checker") "result"],.attr (.var "checker") "result"]) "type",.asg "words" (.dictE [(.tupE [.k (.str "never")],.k (.str "never")),(.tupE [.k (.str "int"),.k (.str "u8")],.k (.str "u8")),(.tupE [.k (.str "bool")],.k (.str "bool")),(.tupE [.k (.str "tuple"),.tupE []],.k (.str "unit"))]),.asg "rows" (.comp (.meth (.var "checker") "resolved" [.var "one"]) "one" false (.bin .add (.lstE false [.idx (.var "made") (.k (.int 1))]) (.call (.g "_law_rings") [.var "made"])) (none)),.ret (.comp (.meth (.var "words") "get" [.var "one",.ite (.cmp .eq (.idx (.var "one") (.k (.int 0))) (.k (.str "var"))) (.k (.str "open")) (.k (.str "other"))]) "one" false (.var "rows") (none))] }
noncomputable def f_law:Fn:={ params:=["script"],dflts:=[],body:=[.asg "idle" (.tupE [.k (.str "ring"),.k (.int 1),.k (.bool false),.k .none,.lstE false [.tupE [.k (.str "break"),.k (.int 1),.k .none,.k .none]]]),.asg "outer" (.tupE [.k (.str "ring"),.k (.int 0),.k (.bool false),.k (.str "'a"),.lstE false [.var "idle",.tupE [.k (.str "break"),.k (.int 0),.k (.str "'a"),.k (.str "u8")]]]),.asg "inner_ring" (.tupE [.k (.str "ring"),.k (.int 1),.k (.bool false),.k (.str "'a"),.lstE false [.tupE [.k (.str "break"),.k (.int 1),.k (.str "'a"),.tupE [.k (.str "return")]],.tupE [.k (.str "break"),.k (.int 0),.k (.str "'b"),.k (.str "bool")]]]),.asg "two" (.tupE [.k (.str "ring"),.k (.int 0),.k (.bool false),.k (.str "'b"),.lstE false [.var "inner_ring"]]),.ifS (.orE [.cmp .ne (.call (.g "_law_told") [.lstE false [],.var "outer"]) (.lstE false [.k (.str "u8"),.k (.str "unit"),.k (.str "u8")]),.cmp .ne (.call (.g "_law_told") [.lstE false [.var "two"],.k (.str "u8")]) (.lstE false [.k (.str "u8"),.k (.str "open"),.k (.str "bool")])]) [.ret (.k (.bool false))] [],.asg2 ["source","count"] [.call (.g "_law_pool") [.var "script",.k (.int 0)],.lstE true [.k (.int 0)]],.forS "turn" true (.k (.int 2)) [.asg "plans" (.call (.g "_law_plans") [.var "source",.lstE false [],.var "count",.k (.int 3),.call (.g "_law_take") [.var "source",.k (.int 3)]]),.asg "tail" (.ite (.cmp .eq (.call (.g "_law_take") [.var "source",.k (.int 2)]) (.k (.int 0))) (.k (.str "u8")) (.call (.g "_law_ring") [.var "source",.lstE false [],.var "count",.k (.int 2)])),.ifS (.cmp .ne (.call (.g "_law_told") [.var "plans",.var "tail"]) (.call (.g "_law_due") [.var "plans",.var "tail"])) [.ret (.k (.bool false))] []],.ret (.k (.bool true))] }
noncomputable def tab:String -> Option Fn
  | "parts_of" => some f_parts_of
  | "rebuilt" => some f_rebuilt
  | "type_text" => some f_type_text
  | "is_never" => some f_is_never
  | "read_int" => some f_read_int
  | "read_bool" => some f_read_bool
  | "read_if" => some f_read_if
  | "read_loop" => some f_read_loop
  | "left_loop" => some f_left_loop
  | "read_while" => some f_read_while
  | "read_break" => some f_read_break
  | "read_continue" => some f_read_continue
  | "read_return" => some f_read_return
  | "read_block" => some f_read_block
  | "Infer.__init__" => some f_Infer___init
  | "Infer.fresh" => some f_Infer_fresh
  | "Infer.shallow" => some f_Infer_shallow
  | "Infer.resolved" => some f_Infer_resolved
  | "Infer.occurs" => some f_Infer_occurs
  | "Infer.bind" => some f_Infer_bind
  | "Infer.are_alike" => some f_Infer_are_alike
  | "Infer.unify" => some f_Infer_unify
  | "Loop.__init__" => some f_Loop___init
  | "Checker.__init__" => some f_Checker___init
  | "Checker.expr" => some f_Checker_expr
  | "Checker.fault" => some f_Checker_fault
  | "Checker.fresh" => some f_Checker_fresh
  | "Checker.resolved" => some f_Checker_resolved
  | "Checker.unify" => some f_Checker_unify
  | "Checker.open" => some f_Checker_open
  | "Checker.close" => some f_Checker_close
  | "Checker.enter" => some f_Checker_enter
  | "Checker.loop_of" => some f_Checker_loop_of
  | "Checker.coerce" => some f_Checker_coerce
  | "World.__init__" => some f_World___init
  | "_law_pool" => some f_law_pool
  | "_law_take" => some f_law_take
  | "_law_one" => some f_law_one
  | "_law_goal" => some f_law_goal
  | "_law_ring" => some f_law_ring
  | "_law_plans" => some f_law_plans
  | "_law_value" => some f_law_value
  | "_law_plan" => some f_law_plan
  | "_law_tree" => some f_law_tree
  | "_law_home" => some f_law_home
  | "_law_kind" => some f_law_kind
  | "_law_join" => some f_law_join
  | "_law_gather" => some f_law_gather
  | "_law_handed" => some f_law_handed
  | "_law_is_never" => some f_law_is_never
  | "_law_due" => some f_law_due
  | "_law_read" => some f_law_read
  | "_law_rings" => some f_law_rings
  | "_law_told" => some f_law_told
  | "law" => some f_law
  | _=>none
end Mine
end
section
namespace Mine
open PySem
abbrev Sc:=List (Str × NameKind)
noncomputable def toS (y:Str):String:=String.ofList (y.cps.toList.map Char.ofNat)
noncomputable def okS (y:Str):Bool:=Str.ofString (toS y) == y
noncomputable def okN (y:Str):Bool:=okS y && toS y != ".0" && !(y == ("__debug__" : Str))
noncomputable def kindVar (sc:Sc) (y:Str):Bool:=match sc.lookup y with
  | some .local | some .cell=>true
  | _=>false
noncomputable def isGlob (sc:Sc) (y:Str):Bool:=match sc.lookup y with
  | some .globalImplicit=>true
  | _=>false
noncomputable def isLoc (sc:Sc) (y:Str):Bool:=match sc.lookup y with
  | some .local=>true
  | _=>false
noncomputable def plainBase:PySem.Expr -> Bool
  | .Call _ l _ _=>!l.isEmpty
  | _=>true
noncomputable def notSet:PySem.Expr -> Bool
  | .Set .. => false
  | _=>true
noncomputable def notStar:PySem.Expr -> Bool
  | .Starred .. => false
  | _=>true
noncomputable def isCall:PySem.Expr -> Bool
  | .Call .. => true
  | _=>false
noncomputable def notTup:PySem.Expr -> Bool
  | .Tuple .. => false
  | _=>true
noncomputable def isLC:PySem.Expr -> Bool
  | .ListComp .. => true
  | _=>false
noncomputable def relabelSc (sc inner:Sc):Sc:=inner.map fun (n,k)=>if k == .free && sc.lookup n == some .cell then (n,.cell) else (n,k)
noncomputable def compScope (sc:Sc) (s:PySem.Scope) (xs:List Str):Bool :=
  s.kind == .function && s.names.all (fun y=>y.2 != .cell && (y.2 != .free || sc.lookup y.1 == some .cell) && (y.2 != .local || (s.names.lookup y.1 == some .local && (y.1 == ("\x2e0" : Str) || xs.contains y.1)))) &&
  xs.all (fun x=>s.names.lookup x == some .local)
noncomputable def grd (c:Bool) (e:Ex):Ex:=if c = true then e else .dead
noncomputable def trK:Const -> Ex
  | .none=>.k .none
  | .bool b=>.k (.bool b)
  | .int i=>.k (.int i)
  | .str t=>grd (okS t) (.k (.str (toS t)))
  | _=>.dead
noncomputable def trName (sc:Sc) (y:Str):Ex:=grd (okN y) (if kindVar sc y = true then .var (toS y) else grd (isGlob sc y && globNames.contains (toS y)) (.g (toS y)))
noncomputable def optE {α:Type} (o:Option α) (f:α -> Ex):Ex:=match o with
  | some a=>f a
  | none=>.dead
noncomputable def opOf:Operator -> Option Op
  | .Add=>some .add
  | .Sub=>some .sub
  | .Mult=>some .mul
  | .Mod=>some .mod
  | .FloorDiv=>some .fdiv
  | .Pow=>some .pow
  | _=>none
noncomputable def cmOf:CmpOp -> Option Cm
  | .Eq=>some .eq
  | .NotEq=>some .ne
  | .Lt=>some .lt
  | .Gt=>some .gt
  | .GtE=>some .ge
  | .Is=>some .is
  | .IsNot=>some .isNot
  | .In=>some .isin
  | .NotIn=>some .notin
  | .LtE=>none
noncomputable def cInt:PySem.Expr -> Option Int
  | .Constant (.int i) _ _=>some i
  | _=>none
noncomputable def isM1:PySem.Expr -> Bool
  | .UnaryOp .USub x _=>cInt x == some 1
  | _=>false
noncomputable def mkOf (m:Nat) (l:List PySem.Expr):Bool:=match m,l with
  | 1,_=>true
  | 2,[]=>true
  | 3,[x]=>cInt x == some 0
  | 4,[x]=>!notTup x
  | _,_=>false
noncomputable def rangeArg (sc:Sc):PySem.Expr -> Option PySem.Expr
  | .Call (.Name r _) [a] [] _=>if (r == ("range" : Str) && isGlob sc r && notStar a) = true then some a else none
  | _=>none
noncomputable def trPairs (r:PySem.Expr -> Ex):List (Option PySem.Expr) -> List PySem.Expr -> List (Ex × Ex)
  | some k :: ks,v :: vs=>(r k,r v) :: trPairs r ks vs
  | _,_=>[]
noncomputable def trCond (r:PySem.Expr -> Ex):List PySem.Expr -> Option Ex
  | []=>none
  | [c]=>some (r c)
  | _=>some .dead
noncomputable def trIt (sc:Sc) (r:PySem.Expr -> Ex) (it:PySem.Expr) (f:Bool -> Ex -> Ex):Ex:=match rangeArg sc it with
  | some a=>f true (r a)
  | none=>f false (r it)
noncomputable def trComp (r:Sc -> PySem.Expr -> Ex) (sc:Sc) (elt:PySem.Expr) (s:PySem.Scope):List PySem.Comprehension -> Ex
  | [⟨.Name x _,it,ifs,a0⟩]=>grd (a0 == 0 && okN x && compScope sc s [x] && notSet it) (trIt sc (r sc) it fun b i=>.comp (r (relabelSc sc s.names) elt) (toS x) b i (trCond (r (relabelSc sc s.names)) ifs))
  | _=>.dead
noncomputable def trCall (r:PySem.Expr -> Ex) (l:List PySem.Expr) (p:Pos):PySem.Expr -> Ex
  | .Attribute o b q=>grd (okS b && plainBase o && q.endLine == p.line) (.meth (r o) (toS b) (l.map r))
  | f=>.call (r f) (l.map r)
noncomputable def trSlice (r:PySem.Expr -> Ex) (o:Ex) (a b c:Option PySem.Expr):Ex:=match a,b,c with
  | none,none,some s=>grd (isM1 s) (.rev o)
  | none,some b,none=>.upto o (r b)
  | some a,none,none=>.from_ o (r a)
  | _,_,_=>.dead
noncomputable def trSub (r:PySem.Expr -> Ex) (o:Ex):PySem.Expr -> Ex
  | .Slice a b c _=>trSlice r o a b c
  | i=>.idx o (r i)
noncomputable def trUn (r:PySem.Expr -> Ex) (e:PySem.Expr):UnaryOp -> Ex
  | .Not=>.notE (r e)
  | .USub=>match cInt e with
    | some (.ofNat i)=>.neg i
    | _=>.dead
  | _=>.dead
noncomputable def trX (r:Sc -> Nat -> PySem.Expr -> Ex) (sc:Sc) (m:Nat):PySem.Expr -> Ex
  | .Constant c _ _=>trK c
  | .Name y _=>trName sc y
  | .Attribute o b _=>grd (okS b && plainBase o) (.attr (r sc m o) (toS b))
  | .BinOp a o b _=>optE (opOf o) fun c=>.bin c (r sc m a) (r sc m b)
  | .UnaryOp o x _=>trUn (r sc m) x o
  | .Compare a [o] [b] _=>grd (notSet b) (optE (cmOf o) fun c=>.cmp c (r sc m a) (r sc 0 b))
  | .BoolOp .And l _=>.andE (l.map (r sc m))
  | .BoolOp .Or l _=>.orE (l.map (r sc m))
  | .IfExp c a b _=>.ite (r sc m c) (r sc m a) (r sc m b)
  | .Subscript o i _=>trSub (r sc m) (r sc m o) i
  | .Tuple l _ _=>grd (l.all notStar && l.length < 1000) (.tupE (l.map (r sc m)))
  | .List l _=>grd (l.all notStar && l.length < 1000) (.lstE (mkOf m l) (l.map (r sc m)))
  | .Dict ks vs _=>grd (ks.all (·.isSome) && ks.length == vs.length && ks.length < 15) (.dictE (trPairs (r sc m) ks vs))
  | .ListComp elt gs s _=>trComp (fun sc=>r sc m) sc elt s gs
  | .Call f l ks p=>grd (ks.isEmpty && l.all notStar && l.length < 20) (trCall (r sc m) l p f)
  | _=>.dead
noncomputable def trE:Nat -> Sc -> Nat -> PySem.Expr -> Ex
  | 0,_,_,_=>.dead
  | n + 1,sc,m,e=>trX (trE n) sc m e
noncomputable def grdS (c:Bool) (e:St):St:=if c = true then e else .dead
noncomputable def optS {α:Type} (o:Option α) (f:α -> St):St:=match o with
  | some a=>f a
  | none=>.dead
noncomputable def trNames (sc:Sc):List PySem.Expr -> Option (List String)
  | []=>some []
  | .Name y _ :: r=>if (okN y && kindVar sc y) = true then (trNames sc r).map (toS y :: ·) else none
  | _=>none
noncomputable def lineOk (sc:Sc) (ts:List PySem.Expr) (xs:List String):Bool:=ts.all (fun t=>t.pos.line == (ts.head?.map (·.pos.line)).getD 0) && xs.all (fun x=>isLoc sc (Str.ofString x))
noncomputable def trTup (r:PySem.Expr -> Ex) (sc:Sc) (ts:List PySem.Expr) (e:PySem.Expr) (xs:List String):St:=match e with
  | .Tuple es _ _=>grdS (es.all notStar && (xs.length == 2 || xs.length == 3) && es.length == xs.length && decide xs.Nodup && !(es.all (foldedForSure 8)) && !(es.all (constantsAlone 8)) && lineOk sc ts xs) (.asg2 xs (es.map r))
  | _=>grdS (decide (ts.length < 20)) (.unpk xs (r e))
noncomputable def lcOk (sc:Sc) (y:Str) (p:Pos):PySem.Expr -> Bool
  | .ListComp _ _ s q=>p.line == q.line && isLoc sc y && !(s.names.any fun (n,k)=>n == y && (k == .local || k == .cell))
  | .SetComp .. | .DictComp .. => false
  | _=>true
noncomputable def trAsg (r:PySem.Expr -> Ex) (sc:Sc) (e:PySem.Expr):List PySem.Expr -> St
  | [.Name y p]=>grdS (okN y && kindVar sc y && lcOk sc y p e) (.asg (toS y) (r e))
  | [.Tuple ts _ _]=>optS (trNames sc ts) (trTup r sc ts e)
  | [.Attribute o b _]=>grdS (okS b) (.setA (r o) (toS b) (r e))
  | [.Subscript o i _]=>.setI (r o) (r i) (r e)
  | _=>.dead
noncomputable def trFor (r:PySem.Expr -> Ex) (sc:Sc) (it:PySem.Expr) (b:List St):PySem.Expr -> St
  | .Name x _=>grdS (okN x && isLoc sc x && notSet it) (match rangeArg sc it with
    | some a=>.forS (toS x) true (r a) b
    | none=>.forS (toS x) false (r it) b)
  | _=>.dead
noncomputable def trRaise (r:PySem.Expr -> Ex) (sc:Sc):PySem.Expr -> St
  | .Call (.Name f _) as [] _=>grdS (f == ("TypeFault" : Str) && isGlob sc f && as.all notStar) (match as with
    | [m]=>.raiseT (r m) none
    | [m,k]=>.raiseT (r m) (some (r k))
    | _=>.dead)
  | _=>.dead
noncomputable def trY (r:PySem.Expr -> Ex) (b:PySem.Stmt -> St) (sc:Sc):PySem.Stmt -> St
  | .Assign ts e _=>trAsg r sc e ts
  | .Expr e _=>grdS (isCall e) (.ex (r e))
  | .Return none _=>.retN
  | .Return (some e) _=>.ret (r e)
  | .If c x y _=>.ifS (r c) (x.map b) (y.map b)
  | .While c x [] _=>.whl (r c) (x.map b)
  | .For t it x [] _=>trFor r sc it (x.map b) t
  | .Continue _=>.cont
  | .Raise (some x) none _=>trRaise r sc x
  | _=>.dead
noncomputable def trS:Nat -> Sc -> Nat -> PySem.Stmt -> St
  | 0,_,_,_=>.dead
  | n + 1,sc,m,c=>trY (trE 30 sc m) (trS n sc m) sc c
end Mine
end
section
namespace Mine
open PySem PySem.W PyProof.Rows
inductive TI where
  | str (s:Str) | int (i:Int) | unit
  deriving DecidableEq
noncomputable def TItem (h:Heap):TI -> Value -> Prop
  | .str s,v=>∃ t,v = .str s t
  | .int i,v=>∃ t,v = .int i t
  | .unit,v=>∃ a,v = .ref a /\ IsTup h a #[]
noncomputable def TItems (h:Heap):List TI -> List Value -> Prop
  | [],vs=>vs = []
  | k :: ks,vs=>∃ v r,vs = v :: r /\ TItem h k v /\ TItems h ks r
noncomputable def IsTD (h:Heap) (ks:List TI) (a:Addr):Prop:=∃ items,IsTup h a items /\ TItems h ks items.toList
set_option tactic.hygienic true in
theorem TItem.inj {h:Heap} {x y:TI} {v:Value} (hx:TItem h x v) (hy:TItem h y v):x = y:=by
  cases x <;> cases y <;> simp only [TItem] at hx hy
  all_goals obtain ⟨_,hx⟩:=hx
  all_goals obtain ⟨_,hy⟩:=hy
  all_goals first | rfl | (rw [hx] at hy; cases hy; rfl) | (rw [hx] at hy; cases hy; done) | (rw [hx] at hy; exact absurd hy.1 (by simp)) | (rw [hx.1] at hy; exact absurd hy (by simp))
set_option tactic.hygienic true in
theorem TItems.inj {h:Heap}:∀ {x y:List TI} {vs:List Value},TItems h x vs -> TItems h y vs -> x = y
  | [],[],_,_,_=>rfl
  | [],_ :: _,_,a,b=>by obtain ⟨v,r,e,_⟩:=b; cases (show _ = [] from a); cases e
  | _ :: _,[],_,b,a=>by obtain ⟨v,r,e,_⟩:=b; cases (show _ = [] from a); cases e
  | _ :: _,_ :: _,_,a,b=>by
    obtain ⟨v,r,rfl,a1,a2⟩:=a
    obtain ⟨v',r',e,b1,b2⟩:=b
    cases e
    rw [TItem.inj a1 b1,TItems.inj a2 b2]
set_option tactic.hygienic true in
theorem isTup_inj {h:Heap} {a:Addr} {x y:Array Value} (hx:IsTup h a x) (hy:IsTup h a y):x = y:=by
  obtain ⟨o,e1,_,n,d1⟩:=hx
  obtain ⟨o',e2,_,n',d2⟩:=hy
  rw [e1] at e2; cases e2; rw [d1] at d2; cases d2; rfl
set_option tactic.hygienic true in
theorem IsTD.inj {h:Heap} {a:Addr} {x y:List TI} (hx:IsTD h x a) (hy:IsTD h y a):x = y:=by
  obtain ⟨i1,t1,r1⟩:=hx
  obtain ⟨i2,t2,r2⟩:=hy
  cases isTup_inj t1 t2
  exact r1.inj r2
set_option tactic.hygienic true in
theorem isTup_keeps {h h':Heap} {a d:Addr} {o:Obj} {es ep} {items:Array Value} (x:IsTup h a items) (ho:h.get? d = some o) (hd:o.data = .dict es ep) (hs:Heap.SameBut d h h'):IsTup h' a items:=by
  obtain ⟨o',e,c,n,q⟩:=x
  refine ⟨o',(hs.2 a ?_).trans e,c,n,q⟩
  rintro rfl
  rw [ho] at e; cases e; rw [hd] at q; cases q
set_option tactic.hygienic true in
theorem TItem.of {h h':Heap} (k:∀ a items,IsTup h a items -> IsTup h' a items) {x:TI} {v:Value} (y:TItem h x v):TItem h' x v:=by
  cases x with
  | unit=>obtain ⟨a,e,t⟩:=y; exact ⟨a,e,k _ _ t⟩
  | _=>exact y
theorem TItems.of {h h':Heap} (k:∀ a items,IsTup h a items -> IsTup h' a items):∀ {x:List TI} {vs:List Value},TItems h x vs -> TItems h' x vs
  | [],_,y=>y
  | _ :: _,_,y=>by obtain ⟨v,r,e,a,b⟩:=y; exact ⟨v,r,e,a.of k,TItems.of k b⟩
theorem IsTD.of {h h':Heap} (k:∀ a items,IsTup h a items -> IsTup h' a items) {x:List TI} {a:Addr} (y:IsTD h x a):IsTD h' x a:=by
  obtain ⟨i,t,r⟩:=y
  exact ⟨i,k _ _ t,r.of k⟩
theorem IsTD.typeIs {s:Shared} {ks:List TI} {a:Addr} (x:IsTD s.heap ks a):s.TypeIs (.ref a) "tuple" := let ⟨_,t,_⟩:=x; t.typeIs
noncomputable def TI.py:TI -> PyData
  | .str s=>.str s
  | .int i=>.int i
  | .unit=>.tuple []
set_option tactic.hygienic true in
theorem TItem.reads {h:Heap} {x:TI} {v:Value} (y:TItem h x v):Reads h v x.py []:=by
  cases x with
  | str s=>obtain ⟨t,rfl⟩:=y; exact .str _ _
  | int s=>obtain ⟨t,rfl⟩:=y; exact .int _ _
  | unit=>obtain ⟨a,rfl,⟨o,e,c,n,d⟩⟩:=y; exact .tuple e c d (show ReadsAll h (#[]:Array Value).toList [] [] from .nil)
theorem TItems.reads {h:Heap}:∀ {x:List TI} {vs:List Value},TItems h x vs -> ReadsAll h vs (x.map TI.py) []
  | [],_,y=>by cases (show _ = [] from y); exact .nil
  | _ :: _,_,y=>by obtain ⟨v,r,rfl,a,b⟩:=y; exact .cons (as:=[]) (bs:=[]) a.reads (TItems.reads b)
theorem IsTD.reads {h:Heap} {x:List TI} {a:Addr} (y:IsTD h x a):Reads h (.ref a) (.tuple (x.map TI.py)) []:=by
  obtain ⟨i,⟨o,e,c,n,d⟩,r⟩:=y
  exact .tuple e c d r.reads
set_option tactic.hygienic true in
theorem TI.eqv (x y:TI):PyData.eqv x.py y.py = decide (x = y):=by
  cases x <;> cases y <;> simp [TI.py,PyData.eqv,PyData.eqvAll,Bool.beq_eq_decide_eq]
theorem TI.eqvs:∀ (x y:List TI),PyData.eqvAll (x.map TI.py) (y.map TI.py) = decide (x = y)
  | [],[]=>rfl
  | [],_ :: _=>by simp [PyData.eqvAll]
  | _ :: _,[]=>by simp [PyData.eqvAll]
  | a :: x,b :: y=>by simp only [List.map_cons,PyData.eqvAll,TI.eqv,TI.eqvs x y,List.cons.injEq,Bool.decide_and]
noncomputable def TI.ok:TI -> Bool
  | .str s=>PyData.strOk s
  | _=>true
set_option tactic.hygienic true in
theorem TI.canLay:∀ x:List TI,x.all TI.ok = true -> PyData.canLayAll0 (x.map TI.py) = true
  | [],_=>rfl
  | a :: x,h=>by
    simp only [List.all_cons,Bool.and_eq_true] at h
    simp only [List.map_cons,PyData.canLayAll0,Bool.and_eq_true]
    refine ⟨?_,TI.canLay x h.2⟩
    cases a <;> simp [TI.py,PyData.canLay0,PyData.canLayAll0]
    exact h.1
set_option tactic.hygienic true in
theorem TI.depth:∀ x:List TI,PyData.depthAll (x.map TI.py) <= 2
  | []=>by simp [PyData.depthAll]
  | a :: x=>by
    simp only [List.map_cons,PyData.depthAll]
    have:=TI.depth x
    cases a <;> simp [TI.py,PyData.depth,PyData.depthAll] <;> lia
section
variable {prog:Program} {w:World} {A:Around} {E:Value -> Shared -> Prop} {s:Shared}
noncomputable def tiHash (w:World):TI -> Int
  | .str x=>hashStr w x
  | .int i=>hashInt i
  | .unit=>reduceHash (Builtin.Tuple.tupleHashOf [])
noncomputable def tdHash (w:World) (ks:List TI):Int:=reduceHash (Builtin.Tuple.tupleHashOf (ks.map (tiHash w)))
set_option tactic.hygienic true in
theorem ti_pyHash {k:TI} {v:Value} {Q:Int -> Shared -> Prop} (hu:A.units < cLine) (hk:TItem s.heap k v) (h:Q (tiHash w k) { s with toks:=s.toks + 1 }):wpAny (model prog w) A (pyHash v) Q E s:=by
  cases k with
  | str x=>obtain ⟨t,rfl⟩:=hk; exact wpAny_pyHash_str h
  | int i=>obtain ⟨t,rfl⟩:=hk; exact wpAny_pyHash_int h
  | unit =>
    obtain ⟨a,rfl,⟨o,e,c,n,d⟩⟩:=hk
    exact wpAny_pyHash_tuple (knd:=strKind prog w) (ks:=[]) hu ⟨o,_,n,e,c,d,.nil⟩ h
set_option tactic.hygienic true in
theorem td_pyHash {ks:List TI} {a:Addr} {Q:Int -> Shared -> Prop} (hu:A.units + 2 < cLine) (hk:IsTD s.heap ks a) (h:Q (tdHash w ks) { s with toks:=s.toks + (ks.length + 1) }) :
    wpAny (model prog w) A (pyHash (.ref a)) Q E s:=by
  have hT:=hk.typeIs
  obtain ⟨items,⟨o,ho,_,n,hd⟩,hi⟩:=hk
  have hu0:A.units < cLine:=by lia
  unfold pyHash
  first | unfold pyHashByItsType | skip
  first | refine wpAny_bind (wpAny_cRoomFor_or (.inr hu0) ?_) | skip
  refine wpAny_bind (wpAny_specialOf hT F.slot_tuple_hash.lookup ?_)
  show wpAny _ _ (if (some (Value.builtin "tuple.__hash__") == some Value.none) = true then _ else _) Q E s
  rw [if_neg (by rw [beq_builtin_none]; exact Bool.false_ne_true)]
  refine wpAny_bind (wpAny_specialOf hT F.slot_tuple_hash.lookup ?_)
  show wpAny _ _ (callSpecialIfBoundUnlessNone? (.ref a) "__hash__" _ >>= _) Q E s
  refine wpAny_bind (wpAny_callSpecialIfBoundUnlessNone?_slot hT F.slot_tuple_hash (wpAny_call_entry F.slot_tuple_hash hT F.entry_tuple_hash ?_ (F.args_tuple_hash_1 _)))
  show wpAny _ _ (Builtin.Tuple.tupleItemsOf (.ref a) >>= _) _ _ s
  refine wpAny_bind (wpAny_tupleItemsOf ho hd ?_)
  refine wpAny_bind ?_
  rw [<- Array.forIn_toList]
  refine wpAny_forIn_list _
    (fun rest (b:Array Int) s'=>∃ done left,ks = done ++ left /\ TItems s.heap left rest /\ b.toList = done.map (tiHash w) /\ s' = { s with toks:=s.toks + done.length })
    _ ?_ ?_ _ _ ⟨[],ks,rfl,hi,rfl,rfl⟩
  · rintro x rest b s' ⟨done,left,rfl,hl,hb,rfl⟩
    cases left with
    | nil=>cases (show _ = [] from hl)
    | cons k ks' =>
      obtain ⟨v,r,e,h1,hl'⟩:=hl
      cases e
      refine wpAny_bind (ti_pyHash (s:={ s with toks:=s.toks + done.length }) (by simp only [Around.in1_units]; lia) h1 ?_)
      first
        | exact wpAny_pure ⟨done ++ [k],ks',by simp,hl',by simp [hb],by simp [Nat.add_assoc]⟩
        | exact wpAny_bind (wpAny_pure (wpAny_pure ⟨done ++ [k],ks',by simp,hl',by simp [hb],by simp [Nat.add_assoc]⟩))
  · rintro b s' ⟨done,left,rfl,hl,hb,rfl⟩
    cases left with
    | cons k ks'=>obtain ⟨v,r,e,h1,hl'⟩:=hl; cases e
    | nil =>
    rw [List.append_nil] at h
    show wpAny _ _ (retInt (Builtin.Tuple.tupleHashOf b.toList)) _ _ _
    rw [hb]
    refine wpAny_ret_mkInt ?_
    show wpAny _ _ (if (decide (-(2:Int) ^ 63 <= Builtin.Tuple.tupleHashOf (done.map (tiHash w))) && decide (Builtin.Tuple.tupleHashOf (done.map (tiHash w)) < 2 ^ 63)) = true then _ else _) Q E _
    unfold tdHash reduceHash at h
    by_cases hr:(decide (-(2:Int) ^ 63 <= Builtin.Tuple.tupleHashOf (done.map (tiHash w))) && decide (Builtin.Tuple.tupleHashOf (done.map (tiHash w)) < 2 ^ 63)) = true
    · rw [if_pos hr]
      rw [if_pos hr] at h
      exact wpAny_pure (by simpa [Nat.add_assoc] using h)
    · rw [if_neg hr]
      rw [if_neg hr] at h
      exact wpAny_bind (wpAny_rule (wpAny_pure (by simpa [Nat.add_assoc] using h)))
theorem td_eqBool {x y:List TI} {a b:Addr} {Q:Bool -> Shared -> Prop} (hu:A.units + 4 < cLine) (ox:x.all TI.ok = true) (oy:y.all TI.ok = true) (hx:IsTD s.heap x a) (hy:IsTD s.heap y b) (h:Q (decide (x = y)) s) :
    wpAny (model prog w) A (eqBool (.ref a) (.ref b)) Q E s:=by
  refine SeqAt.eqBoolOverData prog w A E s _ _ _ _ _ _ Q hx.reads hy.reads ?_ ?_ ?_ ?_
  · exact TI.canLay x ox
  · exact TI.canLay y oy
  · have:=TI.depth x
    simp only [PyData.depth]
    lia
  · simp only [PyData.eqv,TI.eqvs]; exact h
theorem unit_quiet {n:Nat} {a:Addr} {Q:Bool -> Shared -> Prop} (hk:IsTup s.heap a #[]) (h:Q true s):wpAny (model prog w) A (eqIsQuiet (n + 1) (.ref a)) Q E s:=by
  have hT:s.TypeIs (.ref a) "tuple" := hk.typeIs
  obtain ⟨o,ho,_,m,hd⟩:=hk
  unfold eqIsQuiet
  refine wpAny_bind (wpAny_specialOf hT F.slot_tuple_eq.lookup ?_)
  show wpAny _ _ (isInstance (.ref a) (.type "tuple") >>= _) _ _ s
  refine wpAny_bind (wpAny_isInstance hT isSubtype_tuple_tuple ?_)
  simp only [Bool.not_true,Bool.false_eq_true,if_false]
  refine wpAny_bind (wpAny_seqItems ho hd ?_)
  refine wpAny_bind ?_
  show wpAny _ _ (forIn (#[]:Array Value) _ _) _ _ s
  rw [<- Array.forIn_toList]
  exact wpAny_pure (wpAny_pure h)
set_option tactic.hygienic true in
theorem ti_quiet {n:Nat} {k:TI} {v:Value} {Q:Bool -> Shared -> Prop} (hk:TItem s.heap k v) (h:Q true s):wpAny (model prog w) A (eqIsQuiet (n + 1) v) Q E s:=by
  cases k with
  | str x=>obtain ⟨t,rfl⟩:=hk; rw [eqIsQuiet_byValue _ rfl]; exact wpAny_pure h
  | int i=>obtain ⟨t,rfl⟩:=hk; rw [eqIsQuiet_byValue _ rfl]; exact wpAny_pure h
  | unit=>obtain ⟨a,rfl,t⟩:=hk; exact unit_quiet t h
set_option tactic.hygienic true in
theorem td_quiet {ks:List TI} {a:Addr} {Q:Bool -> Shared -> Prop} (hk:IsTD s.heap ks a) (h:Q true s):wpAny (model prog w) A (eqIsQuiet 8 (.ref a)) Q E s:=by
  have hT:=hk.typeIs
  obtain ⟨items,⟨o,ho,_,n,hd⟩,hi⟩:=hk
  unfold eqIsQuiet
  refine wpAny_bind (wpAny_specialOf hT F.slot_tuple_eq.lookup ?_)
  show wpAny _ _ (isInstance (.ref a) (.type "tuple") >>= _) _ _ s
  refine wpAny_bind (wpAny_isInstance hT isSubtype_tuple_tuple ?_)
  simp only [Bool.not_true,Bool.false_eq_true,if_false]
  refine wpAny_bind (wpAny_seqItems ho hd ?_)
  refine wpAny_bind ?_
  show wpAny _ _ (forIn items _ _) _ _ s
  rw [<- Array.forIn_toList]
  refine wpAny_forIn_list _ (fun rest r s'=>r.1 = none /\ s' = s /\ ∃ left,TItems s.heap left rest) _ ?_ ?_ _ _ ⟨rfl,rfl,ks,hi⟩
  · rintro v rest r s' ⟨hr,rfl,left,hl⟩
    cases left with
    | nil=>cases (show _ = [] from hl)
    | cons k ks' =>
      obtain ⟨v',r',e,h1,hl'⟩:=hl
      cases e
      refine wpAny_bind (ti_quiet (n:=6) h1 ?_)
      simp only [Bool.not_true,Bool.false_eq_true,if_false]
      exact wpAny_pure ⟨rfl,rfl,ks',hl'⟩
  · rintro ⟨r1,r2⟩ s' ⟨hr,rfl,_⟩
    simp only at hr
    subst hr
    exact wpAny_pure h
end
noncomputable def IsTDk (h:Heap) (ks:List TI) (a:Addr):Prop:=IsTD h ks a /\ ks.all TI.ok = true
noncomputable def tdKind (prog:Program) (w:World):HeapKind prog w (List TI) where
  is:=IsTDk
  hash:=tdHash w
  draws:=fun ks=>ks.length + 1
  room:=fun A=>A.units + 4 < cLine
  inj:=fun hx hy=>hx.1.inj hy.1
  keeps:=fun x ho hd hs=>⟨x.1.of fun _ _ t=>isTup_keeps t ho hd hs,x.2⟩
  pyHash:=fun hu hk h=>td_pyHash (by lia) hk.1 h
  eqBool:=fun hu hx hy h=>td_eqBool hu hx.2 hy.2 hx.1 hy.1 h
  quiet:=fun hk h=>td_quiet hk.1 h
end Mine
end
section
namespace Mine
open PySem PySem.W PyProof.Rows
structure FrameI where
  env:PySem.Env
  ρ:Env
  own:List Addr
  real:Bool
  acc:List Addr:=[]
structure Wd where
  φ:Nat -> Addr
  δ:Nat -> Addr
  σ:Store
  K:List FrameI
structure Sz where
  n:Nat
  hid:List Addr
noncomputable def Wd.z (W:Wd):Sz:=⟨W.σ.n,W.K.flatMap (·.acc)⟩
@[simp] theorem Wd.z_n (W:Wd):W.z.n = W.σ.n:=rfl
structure Cx where
  prog:Program
  w:World
  base:Heap
  glb:String -> Option Value
  cls:String -> Option Addr
  fn:String -> Option Addr
abbrev Cx.m (cx:Cx):Model:=model cx.prog cx.w
variable {cx:Cx}
mutual
noncomputable def VRel (cx:Cx) (φ:Nat -> Addr) (n:Sz) (h:Heap):V -> Value -> Prop
  | .none,v=>v = .none
  | .bool b,v=>v = .bool b
  | .int i,v=>∃ t,v = .int i t
  | .str s,v=>∃ t,v = .str (Str.ofString s) t
  | .tup l,v=>∃ a items,v = .ref a /\ IsTup h a items /\ VRels cx φ n h l items.toList
  | .lst l,v=>∃ a items,v = .ref a /\ h.IsList a items /\ ((∀ i,i < n.n -> φ i ≠ a) /\ a ∉ n.hid) /\ VRels cx φ n h l items.toList
  | .obj i,v=>i < n.n /\ v = .ref (φ i)
  | .g x,v=>cx.glb x = some v
noncomputable def VRels (cx:Cx) (φ:Nat -> Addr) (n:Sz) (h:Heap):List V -> List Value -> Prop
  | [],vs=>vs = []
  | x :: xs,vs=>∃ v r,vs = v :: r /\ VRel cx φ n h x v /\ VRels cx φ n h xs r
end
structure Sta (φ:Nat -> Addr) (n:Sz) (h:Heap) (φ':Nat -> Addr) (n':Sz) (h':Heap):Prop where
  keep:∀ a o xs m,h.get? a = some o -> o.data = .seq xs m -> (o.cls = .type "tuple" \/ (o.cls = .type "list" /\ (∀ i,i < n.n -> φ i ≠ a) /\ a ∉ n.hid)) -> h'.get? a = some o
  le:n.n <= n'.n
  same:∀ i,i < n.n -> φ' i = φ i
  new:∀ i,n.n <= i -> i < n'.n -> ∀ o,h.get? (φ' i) = some o -> o.cls ≠ .type "list"
  hid:∀ a ∈ n'.hid,a ∈ n.hid \/ ∀ o,h.get? a = some o -> o.cls ≠ .type "list"
theorem Sta.refl (φ:Nat -> Addr) (n:Sz) (h:Heap):Sta φ n h φ n h:=⟨fun _ _ _ _ e _ _=>e,Nat.le_refl _,fun _ _=>rfl,fun i h1 h2=>absurd h2 (Nat.not_lt.mpr h1),fun _ q=>.inl q⟩
theorem Sta.tup {φ n h φ' n' h'} (S:Sta φ n h φ' n' h') {a:Addr} {items:Array Value} (t:IsTup h a items):IsTup h' a items:=t.imp fun o z=>z.2.2.elim fun m d=>⟨S.keep _ _ _ _ z.1 d (.inl z.2.1),z.2⟩
theorem Sta.lst {φ n h φ' n' h'} (S:Sta φ n h φ' n' h') {a:Addr} {items:Array Value} (t:h.IsList a items) (f:(∀ i,i < n.n -> φ i ≠ a) /\ a ∉ n.hid):h'.IsList a items /\ (∀ i,i < n'.n -> φ' i ≠ a) /\ a ∉ n'.hid:=by
  refine cps fun G k=>?_
  obtain ⟨o,ho,hc,m,hd⟩:=t
  refine k ⟨⟨o,S.keep _ _ _ _ ho hd (.inr ⟨hc,f⟩),hc,m,hd⟩,fun i hi=>?_,fun q=>(S.hid a q).elim f.2 fun q=>q o ho hc⟩
  rcases Nat.lt_or_ge i n.n with q | q
  · exact (S.same i q).symm ▸ f.1 i q
  · exact fun e=>S.new i q hi o (e ▸ ho) hc
mutual
theorem VRel.mono {φ n h φ' n' h'} (S:Sta φ n h φ' n' h'):∀ {V:V} {v:Value},VRel cx φ n h V v -> VRel cx φ' n' h' V v
  | .none,_,x=>x
  | .bool _,_,x=>x
  | .int _,_,x=>x
  | .str _,_,x=>x
  | .tup l,_,x=>x.imp fun a x=>x.imp fun items x=>⟨x.1,S.tup x.2.1,VRels.mono S x.2.2⟩
  | .lst l,_,x=>x.imp fun a x=>x.imp fun items x=>have y:=S.lst x.2.1 x.2.2.1; ⟨x.1,y.1,y.2,VRels.mono S x.2.2.2⟩
  | .obj i,_,x=>⟨Nat.lt_of_lt_of_le x.1 S.le,x.2.trans (congrArg _ (S.same i x.1).symm)⟩
  | .g _,_,x=>x
theorem VRels.mono {φ n h φ' n' h'} (S:Sta φ n h φ' n' h'):∀ {l:List V} {vs:List Value},VRels cx φ n h l vs -> VRels cx φ' n' h' l vs
  | [],_,x=>x
  | _ :: _,_,x=>x.imp fun v x=>x.imp fun r x=>⟨x.1,VRel.mono S x.2.1,VRels.mono S x.2.2⟩
end
theorem VRels.length {φ n h}:∀ {l:List V} {vs:List Value},VRels cx φ n h l vs -> l.length = vs.length
  | [],_,x=>by simp only [VRels] at x; subst x; rfl
  | _ :: _,_,x=>by
    simp only [VRels] at x
    obtain ⟨v,r,rfl,_,z⟩:=x
    simp [VRels.length z]
set_option tactic.hygienic true in
theorem VRels.get {φ n h}:∀ {l:List V} {vs:List Value} {k:Nat} {y:V},VRels cx φ n h l vs -> l[k]? = some y -> ∃ v,vs[k]? = some v /\ VRel cx φ n h y v
  | _ :: _,_,0,_,x,e=>by
    simp only [VRels] at x
    obtain ⟨v,r,rfl,x,z⟩:=x
    cases e
    exact ⟨v,rfl,x⟩
  | _ :: _,_,k + 1,_,x,e=>by
    simp only [VRels] at x
    obtain ⟨v,r,rfl,x,z⟩:=x
    obtain ⟨u,h1,h2⟩:=VRels.get (k:=k) z (by simpa using e)
    exact ⟨u,by simpa using h1,h2⟩
theorem VRels.append {φ n h}:∀ {l:List V} {vs:List Value} {l':List V} {vs':List Value},VRels cx φ n h l vs -> VRels cx φ n h l' vs' -> VRels cx φ n h (l ++ l') (vs ++ vs')
  | [],_,_,_,x,y=>by simp only [VRels] at x; subst x; exact y
  | _ :: _,_,_,_,x,y=>by
    simp only [VRels] at x
    obtain ⟨v,r,rfl,x,z⟩:=x
    simp only [List.cons_append,VRels]
    exact ⟨v,_,rfl,x,VRels.append z y⟩
theorem VRels.nil {φ n h}:VRels cx φ n h [] []:=by simp only [VRels]
theorem VRels.cons {φ n h} {y:V} {v:Value} {l:List V} {vs:List Value} (x:VRel cx φ n h y v) (z:VRels cx φ n h l vs):VRels cx φ n h (y :: l) (v :: vs):=by
  simp only [VRels]; exact ⟨v,vs,rfl,x,z⟩
theorem VRels.reverse {φ n h}:∀ {l:List V} {vs:List Value},VRels cx φ n h l vs -> VRels cx φ n h l.reverse vs.reverse
  | [],_,x=>by simp only [VRels] at x; subst x; exact VRels.nil
  | _ :: _,_,x=>by
    simp only [VRels] at x
    obtain ⟨v,r,rfl,x,z⟩:=x
    rw [List.reverse_cons,List.reverse_cons]
    exact VRels.append (VRels.reverse z) (VRels.cons x VRels.nil)
theorem VRels.take {φ n h}:∀ (k:Nat) {l:List V} {vs:List Value},VRels cx φ n h l vs -> VRels cx φ n h (l.take k) (vs.take k)
  | 0,_,_,_=>by simp only [List.take_zero]; exact VRels.nil
  | _ + 1,[],_,x=>by simp only [VRels] at x; subst x; exact VRels.nil
  | k + 1,_ :: _,_,x=>by
    simp only [VRels] at x
    obtain ⟨v,r,rfl,x,z⟩:=x
    exact VRels.cons x (VRels.take k z)
theorem VRels.drop {φ n h}:∀ (k:Nat) {l:List V} {vs:List Value},VRels cx φ n h l vs -> VRels cx φ n h (l.drop k) (vs.drop k)
  | 0,_,_,x=>by simpa only [List.drop_zero] using x
  | _ + 1,[],_,x=>by simp only [VRels] at x; subst x; exact VRels.nil
  | k + 1,_ :: _,_,x=>by
    simp only [VRels] at x
    obtain ⟨v,r,rfl,x,z⟩:=x
    exact VRels.drop k z
theorem VRels.set {φ n h}:∀ (k:Nat) {l:List V} {vs:List Value} {y:V} {v:Value},VRels cx φ n h l vs -> VRel cx φ n h y v -> VRels cx φ n h (l.set k y) (vs.set k v)
  | _,[],_,_,_,x,_=>by simp only [VRels] at x; subst x; exact VRels.nil
  | 0,_ :: _,_,_,_,x,y=>by
    simp only [VRels] at x
    obtain ⟨v,r,rfl,x,z⟩:=x
    exact VRels.cons y z
  | k + 1,_ :: _,_,_,_,x,y=>by
    simp only [VRels] at x
    obtain ⟨v,r,rfl,x,z⟩:=x
    exact VRels.cons x (VRels.set k z y)
theorem strOk_of (s:String):PyData.strOk (Str.ofString s) = true:=by
  rw [Str.ofString_eq_toList]
  unfold PyData.strOk
  simp only [List.all_toArray,List.all_map,List.all_eq_true]
  intro c _
  have h:=c.valid
  simp only [UInt32.isValidChar,Nat.isValidChar] at h
  have ht:c.toNat = c.val.toNat:=rfl
  simp only [Function.comp,decide_eq_true_eq,ht]
  lia
theorem ofString_inj {a b:String} (h:Str.ofString a = Str.ofString b):a = b:=by
  rw [Str.ofString_eq_toList,Str.ofString_eq_toList] at h
  injection h with h
  have h2:a.toList.map Char.toNat = b.toList.map Char.toNat:=by simpa using congrArg Array.toList h
  have inj:∀ x y:Char,x.toNat = y.toNat -> x = y:=fun x y q=>Char.ext (UInt32.toNat_inj.mp q)
  have h3:a.toList = b.toList:=(List.map_inj_right inj).mp h2
  rw [<- String.ofList_toList (s:=a),<- String.ofList_toList (s:=b),h3]
noncomputable def tiny?:V -> Option TI
  | .str s=>some (.str (Str.ofString s))
  | .int i=>some (.int i)
  | .tup []=>some .unit
  | _=>none
noncomputable def tinies?:List V -> Option (List TI)
  | []=>some []
  | x :: r=>(tiny? x).bind fun a=>(tinies? r).map (a :: ·)
set_option tactic.hygienic true in
theorem tinies_ok:∀ {l:List V} {ks:List TI},tinies? l = some ks -> ks.all TI.ok = true
  | [],_,h=>by cases h; rfl
  | x :: r,ks,h=>by
    simp only [tinies?,Option.bind_eq_some_iff,Option.map_eq_some_iff] at h
    obtain ⟨a,h1,ks',h2,rfl⟩:=h
    simp only [List.all_cons,Bool.and_eq_true]
    refine ⟨?_,tinies_ok h2⟩
    unfold tiny? at h1
    split at h1 <;> first | (cases h1; first | rfl | exact strOk_of _) | cases h1
noncomputable def keyS?:V -> Option Str
  | .str s=>some (Str.ofString s)
  | _=>none
noncomputable def keyI?:V -> Option Int
  | .int i=>some i
  | _=>none
noncomputable def keyT?:V -> Option (List TI)
  | .tup l=>tinies? l
  | _=>none
noncomputable def PairsRel (R:V -> Value -> Prop) {K:Type} (key:V -> Option K):List (V × V) -> List (K × Value) -> Prop
  | [],ps=>ps = []
  | (k,x) :: l,ps=>∃ k' v r,ps = (k',v) :: r /\ key k = some k' /\ R x v /\ PairsRel R key l r
theorem PairsRel.mono {R R':V -> Value -> Prop} {K:Type} {key:V -> Option K} (m:∀ V v,R V v -> R' V v):∀ {l:List (V × V)} {ps:List (K × Value)},PairsRel R key l ps -> PairsRel R' key l ps
  | [],_,x=>x
  | (k,x) :: l,_,y=>by
    obtain ⟨k',v,r,e,a,b,c⟩:=y
    exact ⟨k',v,r,e,a,m _ _ b,PairsRel.mono m c⟩
theorem PairsRel.length {R:V -> Value -> Prop} {K:Type} {key:V -> Option K}:∀ {l:List (V × V)} {ps:List (K × Value)},PairsRel R key l ps -> ps.length = l.length
  | [],_,x=>by cases (show _ = [] from x); rfl
  | (k,x) :: l,_,y=>by
    obtain ⟨k',v,r,rfl,a,b,c⟩:=y
    simp [PairsRel.length c]
noncomputable def allKeys {K:Type} (key:V -> Option K) (l:List (V × V)):Prop:=∀ p ∈ l,(key p.1).isSome = true
noncomputable def DRel (cx:Cx) (R:V -> Value -> Prop) (h:Heap) (a:Addr) (l:List (V × V)):Prop :=
  (∃ o es ep,h.get? a = some o /\ o.ExactDict /\ o.data = .dict es ep) /\
  (allKeys keyS? l -> ∃ ps,PairsRel R keyS? l ps /\ h.DictOf (strKind cx.prog cx.w) a ps) /\
  (allKeys keyI? l -> ∃ ps,PairsRel R keyI? l ps /\ h.DictOf (intKind cx.prog cx.w) a ps) /\
  (allKeys keyT? l -> ∃ xs,PairsRel R keyT? l (xs.map fun x=>(x.1,x.2.2)) /\ h.DictOfH (tdKind cx.prog cx.w) a xs)
abbrev instO (C dx:Addr):Obj:={ cls:=.ref C,dict:=some dx,data:=.plain }
structure InstR (cx:Cx) (W:Wd) (h:Heap) (i:Nat) (c:String) (l:List (String × V)) (C:Addr) (m:Str -> Option Value):Prop where
  cls:cx.cls c = some C
  get:h.get? (W.φ i) = some (instO C (W.δ i))
  ns:h.Ns1 (W.δ i) m
  some:∀ a V,alook a l = some V -> ∃ v,m (Str.ofString a) = some v /\ VRel cx W.φ W.z h V v
  none:∀ a,alook a l = none -> m (Str.ofString a) = none
  fits:∀ p ∈ l,(attrsOf c).contains p.1 = true
  within:PySem.Within m ((attrsOf c).map Str.ofString)
noncomputable def ORel (cx:Cx) (W:Wd) (h:Heap) (i:Nat):AO -> Prop
  | .list l=>W.δ i = W.φ i /\ ∃ items,h.PlainList (W.φ i) items /\ VRels cx W.φ W.z h l items.toList
  | .dict l=>W.δ i = W.φ i /\ DRel cx (VRel cx W.φ W.z h) h (W.φ i) l
  | .inst c l=>∃ C m,InstR cx W h i c l C m
noncomputable def VarAt (cx:Cx) (W:Wd) (h:Heap) (env:PySem.Env) (m:Str -> Option Value) (x:String) (V:V):Prop :=
  (env.kindOf (Str.ofString x) = some .local -> ∃ v,m (Str.ofString x) = some v /\ VRel cx W.φ W.z h V v) /\
  (env.kindOf (Str.ofString x) = some .cell \/ env.kindOf (Str.ofString x) = some .free -> ∃ c o v,env.cells.lookup (Str.ofString x) = some c /\ h.get? c = some o /\ o.data = .cell (some v) /\ VRel cx W.φ W.z h V v)
structure FOk (cx:Cx) (W:Wd) (h:Heap) (F:FrameI):Prop where
  kind:F.env.scope.kind = .function
  glob:F.env.globals = mainGlobals
  bi:F.env.builtins = builtinsNs
  fr:F.real = true -> F.env.frame = some F.env.locals
  ns:∃ m,h.Ns F.env.locals m /\ ∀ x V,x ≠ ".0" -> F.ρ x = some V -> VarAt cx W h F.env m x V
  cell:∀ x c,F.real = true -> F.env.cells.lookup x = some c -> c ∈ F.own
  cellAt:∀ c ∈ F.own,∃ o v,h.get? c = some o /\ o.data = .cell v
  cellOf:∀ x,F.env.kindOf x = some .cell -> ∃ c,F.env.cells.lookup x = some c
  cellInj:∀ x y c,F.real = true -> F.env.cells.lookup x = some c -> F.env.cells.lookup y = some c -> x = y
noncomputable def owned (K:List FrameI):List Addr:=K.flatMap (·.own)
noncomputable def FsOk (cx:Cx) (W:Wd) (h:Heap):List FrameI -> Prop
  | []=>True
  | F :: r=>FOk cx W h F /\ (∀ x c,F.env.cells.lookup x = some c -> c ∈ owned (F :: r)) /\ FsOk cx W h r
structure Inv (cx:Cx) (W:Wd) (h:Heap):Prop where
  base:cx.base.StaysIn h
  obj:∀ i,i < W.σ.n -> ORel cx W h i (W.σ.get i)
  inj:∀ i j,i < W.σ.n -> j < W.σ.n -> i ≠ j -> W.φ i ≠ W.φ j /\ W.φ i ≠ W.δ j /\ W.δ i ≠ W.δ j
  fresh:∀ i,i < W.σ.n -> cx.base.get? (W.φ i) = none /\ cx.base.get? (W.δ i) = none
  frm:FsOk cx W h W.K
  locφ:∀ F ∈ W.K,∀ i,i < W.σ.n -> F.env.locals ≠ W.φ i /\ F.env.locals ≠ W.δ i
  locB:∀ F ∈ W.K,cx.base.get? F.env.locals = none /\ ∀ c ∈ F.own,cx.base.get? c = none
  locN:(W.K.map (·.env.locals)).Nodup
  celN:(owned W.K).Nodup
  accL:∀ a ∈ W.z.hid,∃ o,h.get? a = some o
noncomputable def Mut (W:Wd) (a:Addr):Prop:=(∃ i,i < W.σ.n /\ (a = W.φ i \/ a = W.δ i)) \/ (∃ F ∈ W.K,a = F.env.locals \/ a ∈ F.own)
structure Ext (W:Wd) (s:Shared) (W':Wd) (s':Shared):Prop where
  n:W.σ.n <= W'.σ.n
  same:∀ i,i < W.σ.n -> W'.φ i = W.φ i /\ W'.δ i = W.δ i
  new:∀ i,W.σ.n <= i -> i < W'.σ.n -> s.heap.get? (W'.φ i) = none /\ s.heap.get? (W'.δ i) = none
  live:∀ a,s'.heap.get? a = none -> s.heap.get? a = none
  hid:∀ a ∈ W'.z.hid,a ∈ W.z.hid \/ s.heap.get? a = none
  keep:∀ a o,s.heap.get? a = some o -> ¬ Mut W a -> s'.heap.get? a = some o
  gens:s'.gens = s.gens
  os:s'.os = s.os
theorem Ext.refl (W:Wd) (s:Shared):Ext W s W s :=
  ⟨Nat.le_refl _,fun _ _=>⟨rfl,rfl⟩,fun i h1 h2=>absurd h2 (Nat.not_lt.mpr h1),fun _ e=>e,fun _ q=>.inl q,fun _ _ e _=>e,rfl,rfl⟩
set_option tactic.hygienic true in
theorem Ext.trans {W W' W'':Wd} {s s' s'':Shared} (hK:∀ a,a < s.heap.objs.size -> (∃ F ∈ W'.K,a = F.env.locals \/ a ∈ F.own) -> ∃ F ∈ W.K,a = F.env.locals \/ a ∈ F.own) (x:Ext W s W' s') (y:Ext W' s' W'' s''):Ext W s W'' s'' where
  n:=Nat.le_trans x.n y.n
  same i hi:=by
    have h1:=x.same i hi
    have h2:=y.same i (Nat.lt_of_lt_of_le hi x.n)
    exact ⟨h2.1.trans h1.1,h2.2.trans h1.2⟩
  new i h1 h2:=by
    rcases Nat.lt_or_ge i W'.σ.n with q | q
    · have:=x.new i h1 q
      have e:=y.same i q
      rw [e.1,e.2]; exact this
    · have:=y.new i q h2
      exact ⟨x.live _ this.1,x.live _ this.2⟩
  live a e:=x.live a (y.live a e)
  hid a q:=by
    rcases y.hid a q with q | q
    · exact x.hid a q
    · exact .inr (x.live a q)
  keep a o e nm:=by
    refine y.keep a o (x.keep a o e nm) ?_
    rintro (⟨i,hi,q⟩ | q)
    · rcases Nat.lt_or_ge i W.σ.n with z | z
      · rw [(x.same i z).1,(x.same i z).2] at q
        exact nm (.inl ⟨i,z,q⟩)
      · have:=x.new i z hi
        rcases q with rfl | rfl
        · rw [this.1] at e; cases e
        · rw [this.2] at e; cases e
    · exact nm (.inr (hK a (Heap.lt_size e) q))
  gens:=y.gens.trans x.gens
  os:=y.os.trans x.os
end Mine
end
section
namespace Mine
open PySem PySem.W PyProof.Rows
variable {cx:Cx}
theorem FsOk.mem {W:Wd} {h:Heap} {K:List FrameI}:FsOk cx W h K -> ∀ F ∈ K,FOk cx W h F:=by
  induction K with
  | nil=>exact fun _ F hF=>absurd hF List.not_mem_nil
  | cons G r ih=>exact fun x F hF=>(List.mem_cons.mp hF).elim (fun e=>e ▸ x.1) fun m=>ih x.2.2 F m
set_option tactic.hygienic true in
theorem isList_inj {h:Heap} {a:Addr} {x y:Array Value} (hx:h.IsList a x) (hy:h.IsList a y):x = y:=by
  obtain ⟨o,e1,_,n,d1⟩:=hx
  obtain ⟨o',e2,_,n',d2⟩:=hy
  rw [e1] at e2; cases e2; rw [d1] at d2; cases d2; rfl
set_option tactic.hygienic true in
theorem ORel.at {W:Wd} {h:Heap} {i:Nat} {o:AO} (x:ORel cx W h i o):∃ ob,h.get? (W.φ i) = some ob /\ ob.cls ≠ .type "tuple" := by
  cases o with
  | list l=>obtain ⟨_,items,⟨ob,e⟩,_⟩:=x; exact ⟨_,e,by simp⟩
  | dict l=>obtain ⟨_,⟨ob,es,ep,e,c,_⟩,_⟩:=x; exact ⟨ob,e,by rw [c.1]; decide⟩
  | inst c l=>obtain ⟨C,m,x⟩:=x; exact ⟨_,x.get,by simp⟩
set_option tactic.hygienic true in
theorem ORel.dat {W:Wd} {h:Heap} {i:Nat} {o:AO} (x:ORel cx W h i o):W.δ i = W.φ i \/ ∃ ob es ep,h.get? (W.δ i) = some ob /\ ob.data = .dict es ep:=by
  cases o with
  | list l=>exact .inl x.1
  | dict l=>exact .inl x.1
  | inst c l=>obtain ⟨C,m,x⟩:=x; obtain ⟨ob,es,ep,e1,d,_⟩:=x.ns; exact .inr ⟨ob,es,ep,e1,d⟩
set_option tactic.hygienic true in
theorem Inv.notMut {W:Wd} {h:Heap} (I:Inv cx W h) {a:Addr} {o:Obj} {xs m} (e:h.get? a = some o) (d:o.data = .seq xs m)
    (c:o.cls = .type "tuple" \/ (o.cls = .type "list" /\ (∀ i,i < W.z.n -> W.φ i ≠ a) /\ a ∉ W.z.hid)):¬ Mut W a:=by
  have nφ:∀ i,i < W.σ.n -> a ≠ W.φ i:=fun i hi q=>by
    rcases c with c | c
    · obtain ⟨ob,e1,nc⟩:=(I.obj i hi).at
      rw [<- q,e] at e1; cases e1; exact nc c
    · exact c.2.1 i hi q.symm
  rintro (⟨i,hi,q | q⟩ | ⟨F,hF,q | q⟩)
  · exact nφ i hi q
  · rcases (I.obj i hi).dat with z | ⟨ob,es,ep,e1,d1⟩
    · exact nφ i hi (q.trans z)
    · rw [<- q,e] at e1; cases e1; rw [d] at d1; cases d1
  · obtain ⟨m',⟨ob,es,ep,e1,d1,_⟩,_⟩:=(I.frm.mem F hF).ns
    rw [<- q,e] at e1; cases e1; rw [d] at d1; cases d1
  · obtain ⟨ob,v,e1,d1⟩:=(I.frm.mem F hF).cellAt a q
    rw [e] at e1; cases e1; rw [d] at d1; cases d1
set_option tactic.hygienic true in
theorem Ext.sta {W W':Wd} {s s':Shared} (I:Inv cx W s.heap) (x:Ext W s W' s'):Sta W.φ W.z s.heap W'.φ W'.z s'.heap :=
  ⟨fun a o xs m e d c=>x.keep a o e (I.notMut e d c),x.n,fun i hi=>(x.same i hi).1,fun i h1 h2 o e=>(by rw [(x.new i h1 h2).1] at e; cases e),fun a q=>(x.hid a q).imp id fun z o e=>(by rw [z] at e; cases e)⟩
theorem Sta.of_keeps {W:Wd} {h h':Heap} (k:∀ b o,h.get? b = some o -> h'.get? b = some o):Sta W.φ W.z h W.φ W.z h' :=
  ⟨fun a o xs m e _ _=>k a o e,Nat.le_refl _,fun _ _=>rfl,fun i h1 h2=>absurd h2 (Nat.not_lt.mpr h1),fun _ q=>.inl q⟩
theorem DRel.mono {φ n h φ' n' h'} (S:Sta φ n h φ' n' h') {a:Addr} (e:∀ o,h.get? a = some o -> h'.get? a = some o) {l:List (V × V)} (x:DRel cx (VRel cx φ n h) h a l):DRel cx (VRel cx φ' n' h') h' a l:=by
  obtain ⟨⟨o,es,ep,ho,hx⟩,x1,x2,x3⟩:=x
  refine ⟨⟨o,es,ep,e o ho,hx⟩,fun q=>?_,fun q=>?_,fun q=>?_⟩
  · obtain ⟨ps,p,o',es,ep,g,r⟩:=x1 q
    exact ⟨ps,p.mono fun _ _=>VRel.mono S,o',es,ep,e _ g,r⟩
  · obtain ⟨ps,p,o',es,ep,g,r⟩:=x2 q
    exact ⟨ps,p.mono fun _ _=>VRel.mono S,o',es,ep,e _ g,r⟩
  · obtain ⟨xs,p,o',es,ep,g,r1,r2,r3,r4,r5⟩:=x3 q
    exact ⟨xs,p.mono fun _ _=>VRel.mono S,o',es,ep,e _ g,r1,r2,r3,fun y hy=>⟨(r4 y hy).1.of fun _ _=>S.tup,(r4 y hy).2⟩,r5⟩
set_option tactic.hygienic true in
theorem ORel.mono {W W':Wd} {h h':Heap} {i:Nat} (S:Sta W.φ W.z h W'.φ W'.z h') (eφ:W'.φ i = W.φ i) (eδ:W'.δ i = W.δ i)
    (k:∀ o,h.get? (W.φ i) = some o -> h'.get? (W.φ i) = some o) (k':∀ o,h.get? (W.δ i) = some o -> h'.get? (W.δ i) = some o) {o:AO} (x:ORel cx W h i o):ORel cx W' h' i o:=by
  cases o with
  | list l =>
    obtain ⟨e,items,⟨ob,g⟩,y⟩:=x
    exact ⟨by rw [eφ,eδ,e],items,⟨ob,by rw [eφ]; exact k _ g⟩,VRels.mono S y⟩
  | dict l =>
    obtain ⟨e,y⟩:=x
    exact ⟨by rw [eφ,eδ,e],by rw [eφ]; exact DRel.mono S k y⟩
  | inst c l =>
    obtain ⟨C,m,x⟩:=x
    obtain ⟨ob,es,ep,g,r⟩:=x.ns
    exact ⟨C,m,x.cls,by rw [eφ,eδ]; exact k _ x.get,⟨ob,es,ep,by rw [eδ]; exact k' _ g,r⟩,fun a V q=>(x.some a V q).imp fun v z=>⟨z.1,VRel.mono S z.2⟩,x.none,x.fits,x.within⟩
theorem VarAt.mono {W W':Wd} {h h':Heap} (S:Sta W.φ W.z h W'.φ W'.z h') {env:PySem.Env} {m:Str -> Option Value} {x:String} {y:V}
    (kc:∀ c o v,env.cells.lookup (Str.ofString x) = some c -> h.get? c = some o -> o.data = .cell (some v) -> h'.get? c = some o) (z:VarAt cx W h env m x y):VarAt cx W' h' env m x y:=by
  refine ⟨fun q=>(z.1 q).imp fun v u=>⟨u.1,VRel.mono S u.2⟩,fun q=>?_⟩
  obtain ⟨c,o,v,e1,e2,e3,e4⟩:=z.2 q
  exact ⟨c,o,v,e1,kc c o v e1 e2 e3,e3,VRel.mono S e4⟩
theorem FOk.mono {W W':Wd} {h h':Heap} {F:FrameI} (S:Sta W.φ W.z h W'.φ W'.z h') (kl:∀ o,h.get? F.env.locals = some o -> h'.get? F.env.locals = some o)
    (kc:∀ c o v,c ∈ F.own \/ (∃ x,F.env.cells.lookup x = some c) -> h.get? c = some o -> o.data = .cell v -> h'.get? c = some o) (x:FOk cx W h F):FOk cx W' h' F:=by
  obtain ⟨m,⟨ob,es,ep,g,r⟩,hv⟩:=x.ns
  refine ⟨x.kind,x.glob,x.bi,x.fr,⟨m,⟨ob,es,ep,kl _ g,r⟩,fun y V hy e=>(hv y V hy e).mono S fun c o v e1 e2 e3=>kc c o _ (.inr ⟨_,e1⟩) e2 e3⟩,x.cell,fun c hc=>?_,x.cellOf,x.cellInj⟩
  obtain ⟨o,v,e,d⟩:=x.cellAt c hc
  exact ⟨o,v,kc c o v (.inl hc) e d,d⟩
theorem FsOk.mono {W W':Wd} {h h':Heap} (S:Sta W.φ W.z h W'.φ W'.z h'):∀ {K:List FrameI},(∀ F ∈ K,∀ o,h.get? F.env.locals = some o -> h'.get? F.env.locals = some o) ->
    (∀ c o v,c ∈ owned K -> h.get? c = some o -> o.data = .cell v -> h'.get? c = some o) -> FsOk cx W h K -> FsOk cx W' h' K
  | [],_,_,_=>trivial
  | F :: r,kl,kc,x=>by
    have sub:∀ c,c ∈ F.own -> c ∈ owned (F :: r):=fun c hc=>List.mem_flatMap.mpr ⟨F,.head _,hc⟩
    refine ⟨x.1.mono S (kl F (.head _)) fun c o v q=>kc c o v ?_,x.2.1,FsOk.mono S (fun G hG=>kl G (.tail _ hG)) (fun c o v hc=>kc c o v ?_) x.2.2⟩
    · rcases q with q | ⟨y,q⟩
      · exact sub c q
      · exact x.2.1 y c q
    · simp only [owned,List.flatMap_cons,List.mem_append] at hc ⊢
      exact .inr hc
theorem Inv.keeps {W:Wd} {h h':Heap} (I:Inv cx W h) (k:∀ b o,h.get? b = some o -> h'.get? b = some o):Inv cx W h' where
  base:=fun b o e=>k b o (I.base b o e)
  obj:=fun i hi=>(I.obj i hi).mono (Sta.of_keeps k) rfl rfl (fun o=>k _ o) (fun o=>k _ o)
  inj:=I.inj
  fresh:=I.fresh
  frm:=I.frm.mono (Sta.of_keeps k) (fun F _ o=>k _ o) (fun c o v _ e _=>k c o e)
  locφ:=I.locφ
  locB:=I.locB
  locN:=I.locN
  celN:=I.celN
  accL:=fun a q=>(I.accL a q).imp fun o e=>k a o e
set_option tactic.hygienic true in
theorem live_of {h h':Heap} (k:∀ b o,h.get? b = some o -> h'.get? b = some o):∀ a,h'.get? a = none -> h.get? a = none:=fun a e=>by
  cases q:h.get? a with
  | none=>rfl
  | some o=>rw [k a o q] at e; cases e
set_option tactic.hygienic true in
theorem gone {h:Heap} {a:Addr} (q:h.objs.size <= a):h.get? a = none:=by
  cases z:h.get? a with
  | none=>rfl
  | some o=>exact absurd (Heap.lt_size z) (Nat.not_lt.mpr q)
theorem Ext.keeps {W:Wd} {s s':Shared} (k:∀ b o,s.heap.get? b = some o -> s'.heap.get? b = some o) (hg:s'.gens = s.gens) (ho:s'.os = s.os):Ext W s W s' :=
  ⟨Nat.le_refl _,fun _ _=>⟨rfl,rfl⟩,fun i h1 h2=>absurd h2 (Nat.not_lt.mpr h1),live_of k,fun _ q=>.inl q,fun a o e _=>k a o e,hg,ho⟩
set_option tactic.hygienic true in
theorem ORel.noCell {W:Wd} {h:Heap} {i:Nat} {o:AO} (x:ORel cx W h i o):(∃ ob,h.get? (W.φ i) = some ob /\ ∀ v,ob.data ≠ .cell v) /\ ∃ ob,h.get? (W.δ i) = some ob /\ ∀ v,ob.data ≠ .cell v:=by
  have two:∀ {ob:Obj},W.δ i = W.φ i -> h.get? (W.φ i) = some ob -> (∀ v,ob.data ≠ .cell v) -> (∃ ob,h.get? (W.φ i) = some ob /\ ∀ v,ob.data ≠ .cell v) /\ ∃ ob,h.get? (W.δ i) = some ob /\ ∀ v,ob.data ≠ .cell v :=
    fun e g d=>⟨⟨_,g,d⟩,⟨_,by rw [e]; exact g,d⟩⟩
  cases o with
  | list l=>obtain ⟨e,items,⟨n,g⟩,_⟩:=x; exact two e g (by simp)
  | dict l=>obtain ⟨e,⟨ob,es,ep,g,_,d⟩,_⟩:=x; exact two e g (by rw [d]; simp)
  | inst c l=>obtain ⟨C,m,x⟩:=x; obtain ⟨ob,es,ep,g,d,_⟩:=x.ns; exact ⟨⟨_,x.get,by simp⟩,_,g,by rw [d]; simp⟩
set_option tactic.hygienic true in
theorem Inv.cell_ne {W:Wd} {h:Heap} (I:Inv cx W h) {c:Addr} {o:Obj} {v} (e:h.get? c = some o) (d:o.data = .cell v) {i:Nat} (hi:i < W.σ.n):c ≠ W.φ i /\ c ≠ W.δ i:=by
  obtain ⟨⟨o1,g1,d1⟩,o2,g2,d2⟩:=(I.obj i hi).noCell
  exact ⟨fun q=>by rw [q,g1] at e; cases e; exact d1 _ d,fun q=>by rw [q,g2] at e; cases e; exact d2 _ d⟩
set_option tactic.hygienic true in
theorem Inv.inst_ne {W:Wd} {h:Heap} (I:Inv cx W h) {i:Nat} {c l} (hi:i < W.σ.n) (e:W.σ.get i = .inst c l):W.φ i ≠ W.δ i:=by
  have x:=I.obj i hi
  rw [e] at x
  obtain ⟨C,m,x⟩:=x
  have e:=x.get
  obtain ⟨ob,es,ep,g,d,_⟩:=x.ns
  intro q
  rw [q,g] at e; cases e; cases d
set_option tactic.hygienic true in
theorem Inv.turn {W W':Wd} {h h':Heap} (I:Inv cx W h) {j:Nat} (hj:j < W.σ.n) (T:Addr -> Prop) (hT:∀ b,T b -> b = W.φ j \/ b = W.δ j)
    (hk:∀ b o,h.get? b = some o -> ¬ T b -> h'.get? b = some o) (en:W'.σ.n = W.σ.n) (eφ:W'.φ = W.φ) (eδ:W'.δ = W.δ) (eK:W'.K = W.K)
    (eo:∀ i,i ≠ j -> W'.σ.get i = W.σ.get i) (S:Sta W.φ W.z h W'.φ W'.z h' -> ORel cx W' h' j (W'.σ.get j)):Inv cx W' h':=by
  have nT:∀ i,i < W.σ.n -> i ≠ j -> ¬ T (W.φ i) /\ ¬ T (W.δ i):=fun i hi ne=>by
    have a:=I.inj i j hi hj ne
    have b:=I.inj j i hj hi (Ne.symm ne)
    refine ⟨fun q=>?_,fun q=>?_⟩
    · rcases hT _ q with z | z
      · exact a.1 z
      · exact a.2.1 z
    · rcases hT _ q with z | z
      · exact b.2.1 z.symm
      · exact a.2.2 z
  have St:Sta W.φ W.z h W'.φ W'.z h':=by
    rw [eφ,show W'.z = W.z from by simp only [Wd.z,en,eK]]
    refine ⟨fun a o xs m e d c=>hk a o e fun q=>?_,Nat.le_refl _,fun _ _=>rfl,fun i h1 h2=>absurd h2 (Nat.not_lt.mpr h1),fun _ q=>.inl q⟩
    exact I.notMut e d c (.inl ⟨j,hj,hT a q⟩)
  have dn:∀ b,T b -> cx.base.get? b = none:=fun b q=>by
    rcases hT b q with rfl | rfl
    · exact (I.fresh j hj).1
    · exact (I.fresh j hj).2
  refine ⟨fun b o e=>hk b o (I.base b o e) fun q=>(by rw [dn b q] at e; cases e),fun i hi=>?_,?_,?_,?_,?_,?_,?_,?_,fun a q=>?_⟩
  · rw [en] at hi
    by_cases q:i = j
    · subst q; exact S St
    · rw [eo i q]
      exact (I.obj i hi).mono St (by rw [eφ]) (by rw [eδ]) (fun o e=>hk _ o e (nT i hi q).1) (fun o e=>hk _ o e (nT i hi q).2)
  · rw [en,eφ,eδ]; exact I.inj
  · rw [en,eφ,eδ]; exact I.fresh
  · rw [eK]
    refine I.frm.mono St (fun F hF o e=>hk _ o e fun q=>?_) (fun c o v hc e d=>hk _ o e fun q=>?_)
    · have:=I.locφ F hF j hj
      rcases hT _ q with z | z
      · exact this.1 z
      · exact this.2 z
    · have:=I.cell_ne e d hj
      rcases hT _ q with z | z
      · exact this.1 z
      · exact this.2 z
  · rw [eK,en,eφ,eδ]; exact I.locφ
  · rw [eK]; exact I.locB
  · rw [eK]; exact I.locN
  · rw [eK]; exact I.celN
  · rw [show W'.z = W.z from by simp only [Wd.z,en,eK]] at q
    obtain ⟨o,e⟩:=I.accL a q
    by_cases z:T a
    · obtain ⟨⟨o1,g1,_⟩,o2,g2,_⟩:=(S St).noCell
      rw [eφ] at g1; rw [eδ] at g2
      rcases hT a z with rfl | rfl
      · exact ⟨_,g1⟩
      · exact ⟨_,g2⟩
    · exact ⟨o,hk a o e z⟩
theorem Ext.turn {W W':Wd} {s s':Shared} {j:Nat} (hj:j < W.σ.n) (T:Addr -> Prop) (hT:∀ b,T b -> b = W.φ j \/ b = W.δ j)
    (hk:∀ b o,s.heap.get? b = some o -> ¬ T b -> s'.heap.get? b = some o) (en:W'.σ.n = W.σ.n) (eφ:W'.φ = W.φ) (eδ:W'.δ = W.δ) (eK:W'.K = W.K) (hz:∀ a,s'.heap.get? a = none -> s.heap.get? a = none) (hg:s'.gens = s.gens) (ho:s'.os = s.os):Ext W s W' s':=by
  refine ⟨by rw [en]; exact Nat.le_refl _,fun _ _=>by rw [eφ,eδ]; exact ⟨rfl,rfl⟩,fun i h1 h2=>absurd (en ▸ h2) (Nat.not_lt.mpr h1),hz,fun a q=>.inl (by simpa only [Wd.z,eK] using q),fun a o e nm=>hk a o e fun q=>nm (.inl ⟨j,hj,hT a q⟩),hg,ho⟩
noncomputable def Wd.push (W:Wd) (a d:Addr) (o:AO):Wd:=⟨fun i=>if i = W.σ.n then a else W.φ i,fun i=>if i = W.σ.n then d else W.δ i,W.σ.push o,W.K⟩
theorem Wd.push_lt {W:Wd} {a d:Addr} {o:AO} {i:Nat} (hi:i < W.σ.n):(W.push a d o).φ i = W.φ i /\ (W.push a d o).δ i = W.δ i /\ (W.push a d o).σ.get i = W.σ.get i:=by
  simp [Wd.push,Store.push,Nat.ne_of_lt hi]
theorem Wd.push_new {W:Wd} {a d:Addr} {o:AO}:(W.push a d o).φ W.σ.n = a /\ (W.push a d o).δ W.σ.n = d /\ (W.push a d o).σ.get W.σ.n = o:=by
  simp [Wd.push,Store.push]
theorem Inv.old {W:Wd} {h:Heap} (I:Inv cx W h) {i:Nat} (hi:i < W.σ.n):W.φ i < h.objs.size /\ W.δ i < h.objs.size:=by
  obtain ⟨⟨o1,g1,d1⟩,o2,g2,d2⟩:=(I.obj i hi).noCell
  exact ⟨Heap.lt_size g1,Heap.lt_size g2⟩
theorem Inv.loc_lt {W:Wd} {h:Heap} (I:Inv cx W h) {F:FrameI} (hF:F ∈ W.K):F.env.locals < h.objs.size:=by
  obtain ⟨m,hn,_⟩:=(I.frm.mem F hF).ns
  exact hn.lt
set_option tactic.hygienic true in
theorem Inv.push' {W:Wd} {h h':Heap} (I:Inv cx W h) {a d:Addr} {o:AO} (k:∀ b o,h.get? b = some o -> b ≠ a -> b ≠ d -> h'.get? b = some o)
    (da:∀ o,h.get? a = some o -> ∃ es ep,o.data = .dict es ep) (dd:∀ o,h.get? d = some o -> ∃ es ep,o.data = .dict es ep) (ca:∀ o,h.get? a = some o -> o.cls ≠ .type "list")
    (ne:∀ i,i < W.σ.n -> W.φ i ≠ a /\ W.φ i ≠ d /\ W.δ i ≠ a /\ W.δ i ≠ d) (fa:cx.base.get? a = none /\ cx.base.get? d = none) (nl:∀ F ∈ W.K,F.env.locals ≠ a /\ F.env.locals ≠ d)
    (S:Sta W.φ W.z h (W.push a d o).φ (W.push a d o).z h' -> ORel cx (W.push a d o) h' W.σ.n o):Inv cx (W.push a d o) h':=by
  have nd:∀ b ob,h.get? b = some ob -> (∀ es ep,ob.data ≠ .dict es ep) -> b ≠ a /\ b ≠ d:=fun b ob e x=>by
    refine ⟨fun q=>?_,fun q=>?_⟩
    · subst q; obtain ⟨es,ep,z⟩:=da ob e; exact x _ _ z
    · subst q; obtain ⟨es,ep,z⟩:=dd ob e; exact x _ _ z
  have St:Sta W.φ W.z h (W.push a d o).φ (W.push a d o).z h':=by
    refine ⟨fun b o' xs m e x _=>?_,Nat.le_succ _,fun i hi=>(Wd.push_lt hi).1,fun i h1 h2 o' e=>?_,fun _ q=>.inl q⟩
    · have:=nd b o' e (fun es ep z=>by rw [x] at z; cases z)
      exact k b o' e this.1 this.2
    · have q:i = W.σ.n:=Nat.le_antisymm (Nat.lt_succ_iff.mp h2) h1
      rw [q,Wd.push_new.1] at e; exact ca o' e
  have cs:∀ i,i < (W.push a d o).σ.n -> i < W.σ.n \/ i = W.σ.n:=fun i hi=>Nat.lt_or_eq_of_le (Nat.lt_succ_iff.mp hi)
  refine ⟨fun b o e=>k b o (I.base b o e) (fun q=>by rw [q,fa.1] at e; cases e) (fun q=>by rw [q,fa.2] at e; cases e),fun i hi=>?_,fun i j hi hj ne'=>?_,fun i hi=>?_,?_,fun F hF i hi=>?_,I.locB,I.locN,I.celN,fun b q=>?_⟩
  · rcases cs i hi with q | rfl
    · rw [(Wd.push_lt q).2.2]
      exact (I.obj i q).mono St (Wd.push_lt q).1 (Wd.push_lt q).2.1 (fun o e=>k _ o e (ne i q).1 (ne i q).2.1) (fun o e=>k _ o e (ne i q).2.2.1 (ne i q).2.2.2)
    · rw [Wd.push_new.2.2]; exact S St
  · rcases cs i hi with q | rfl
    · rcases cs j hj with z | rfl
      · rw [(Wd.push_lt q).1,(Wd.push_lt q).2.1,(Wd.push_lt z).1,(Wd.push_lt z).2.1]; exact I.inj i j q z ne'
      · rw [(Wd.push_lt q).1,(Wd.push_lt q).2.1,Wd.push_new.1,Wd.push_new.2.1]
        exact ⟨(ne i q).1,(ne i q).2.1,(ne i q).2.2.2⟩
    · rcases cs j hj with z | rfl
      · rw [(Wd.push_lt z).1,(Wd.push_lt z).2.1,Wd.push_new.1,Wd.push_new.2.1]
        exact ⟨(ne j z).1.symm,(ne j z).2.2.1.symm,(ne j z).2.2.2.symm⟩
      · exact absurd rfl ne'
  · rcases cs i hi with q | rfl
    · rw [(Wd.push_lt q).1,(Wd.push_lt q).2.1]; exact I.fresh i q
    · rw [Wd.push_new.1,Wd.push_new.2.1]; exact fa
  · refine I.frm.mono St (fun F hF o e=>k _ o e (nl F hF).1 (nl F hF).2) (fun c o v _ e x=>?_)
    have:=nd c o e (fun es ep z=>by rw [x] at z; cases z)
    exact k c o e this.1 this.2
  · rcases cs i hi with q | rfl
    · rw [(Wd.push_lt q).1,(Wd.push_lt q).2.1]; exact I.locφ F hF i q
    · rw [Wd.push_new.1,Wd.push_new.2.1]; exact nl F hF
  · obtain ⟨ob,e⟩:=I.accL b q
    obtain ⟨⟨o1,g1,_⟩,o2,g2,_⟩:=(S St).noCell
    rw [Wd.push_new.1] at g1; rw [Wd.push_new.2.1] at g2
    by_cases z1:b = a
    · subst z1; exact ⟨_,g1⟩
    · by_cases z2:b = d
      · subst z2; exact ⟨_,g2⟩
      · exact ⟨ob,k b ob e z1 z2⟩
set_option tactic.hygienic true in
theorem Inv.nothing {W:Wd} {h:Heap} (I:Inv cx W h) {b:Addr} (hb:h.objs.size <= b):cx.base.get? b = none /\ h.get? b = none:=by
  have n:h.get? b = none:=by
    cases q:h.get? b with
    | none=>rfl
    | some o'=>exact absurd (Heap.lt_size q) (Nat.not_lt.mpr hb)
  refine ⟨?_,n⟩
  cases q:cx.base.get? b with
  | none=>rfl
  | some o'=>rw [I.base b o' q] at n; cases n
set_option tactic.hygienic true in
theorem Inv.push {W:Wd} {h h':Heap} (I:Inv cx W h) (k:∀ b o,h.get? b = some o -> h'.get? b = some o) {a d:Addr} {o:AO} (ha:h.objs.size <= a) (hd:h.objs.size <= d)
    (S:Sta W.φ W.z h (W.push a d o).φ (W.push a d o).z h' -> ORel cx (W.push a d o) h' W.σ.n o):Inv cx (W.push a d o) h':=by
  have na:=I.nothing ha
  have nd:=I.nothing hd
  refine I.push' (fun b o e _ _=>k b o e) (fun o e=>by rw [na.2] at e; cases e) (fun o e=>by rw [nd.2] at e; cases e) (fun o e=>by rw [na.2] at e; cases e) (fun i hi=>?_) ⟨na.1,nd.1⟩ (fun F hF=>?_) S
  · have:=I.old hi
    exact ⟨Nat.ne_of_lt (Nat.lt_of_lt_of_le this.1 ha),Nat.ne_of_lt (Nat.lt_of_lt_of_le this.1 hd),Nat.ne_of_lt (Nat.lt_of_lt_of_le this.2 ha),Nat.ne_of_lt (Nat.lt_of_lt_of_le this.2 hd)⟩
  · have:=I.loc_lt hF
    exact ⟨Nat.ne_of_lt (Nat.lt_of_lt_of_le this ha),Nat.ne_of_lt (Nat.lt_of_lt_of_le this hd)⟩
theorem Ext.push {W:Wd} {s s':Shared} {a d:Addr} {o:AO} (k:∀ b o,s.heap.get? b = some o -> s'.heap.get? b = some o) (ha:s.heap.objs.size <= a) (hd:s.heap.objs.size <= d)
    (hz:s.heap.objs.size <= s'.heap.objs.size) (hg:s'.gens = s.gens) (ho:s'.os = s.os):Ext W s (W.push a d o) s':=by
  refine ⟨Nat.le_succ _,fun i hi=>⟨(Wd.push_lt hi).1,(Wd.push_lt hi).2.1⟩,fun i h1 h2=>?_,live_of k,fun _ q=>.inl q,fun a o e _=>k a o e,hg,ho⟩
  have:i = W.σ.n:=Nat.le_antisymm (Nat.lt_succ_iff.mp h2) h1
  rw [this,Wd.push_new.1,Wd.push_new.2.1]; exact ⟨gone ha,gone hd⟩
end Mine
end
section
namespace Mine
open PySem PySem.W PyProof.Rows
variable {cx:Cx}
noncomputable def Wd.top (W:Wd) (F:FrameI):Wd:={ W with K:=F :: W.K.tail }
noncomputable def Wd.under (W:Wd) (F:FrameI):Wd:={ W with K:=F :: W.K }
noncomputable def Wd.drop (W:Wd):Wd:={ W with K:=W.K.tail }
set_option tactic.hygienic true in
theorem Ns.notSeq {h:Heap} {a:Addr} {m:Str -> Option Value} (hn:h.Ns a m) {o:Obj} (e:h.get? a = some o):∃ es ep,o.data = .dict es ep:=by
  obtain ⟨o',es,ep,e',d,_⟩:=hn
  rw [e] at e'; cases e'; exact ⟨es,ep,d⟩
theorem top_z {W:Wd} {F F':FrameI} {r:List FrameI} (hK:W.K = F :: r) (e3:F'.acc = F.acc):(W.top F').z = W.z:=by
  simp only [Wd.z,Wd.top,hK,List.tail_cons,List.flatMap_cons,e3]
set_option tactic.hygienic true in
theorem Inv.topTurn {W:Wd} {h h':Heap} {F F':FrameI} {r:List FrameI} (I:Inv cx W h) (hK:W.K = F :: r) {a:Addr} (ha:a = F.env.locals \/ a ∈ F.own)
    (hs:Heap.SameBut a h h') (e1:F'.env = F.env) (e2:F'.own = F.own) (e3:F'.acc = F.acc) (f:Sta W.φ W.z h (W.top F').φ (W.top F').z h' -> FOk cx (W.top F') h' F'):Inv cx (W.top F') h':=by
  have hm:F ∈ W.K:=by rw [hK]; exact .head _
  have FO:=I.frm.mem F hm
  obtain ⟨m,hn,hv⟩:=FO.ns
  have aDat:∀ o,h.get? a = some o -> (∃ es ep,o.data = .dict es ep) \/ ∃ v,o.data = .cell v:=fun o e=>by
    rcases ha with rfl | q
    · exact .inl (Ns.notSeq hn e)
    · obtain ⟨o',v,e',d⟩:=FO.cellAt a q
      rw [e] at e'; cases e'; exact .inr ⟨v,d⟩
  have aφ:∀ i,i < W.σ.n -> W.φ i ≠ a /\ W.δ i ≠ a:=fun i hi=>by
    rcases ha with rfl | q
    · have:=I.locφ F hm i hi; exact ⟨this.1.symm,this.2.symm⟩
    · obtain ⟨o',v,e',d⟩:=FO.cellAt a q
      have:=I.cell_ne e' d hi; exact ⟨this.1.symm,this.2.symm⟩
  have aB:cx.base.get? a = none:=by
    have:=I.locB F hm
    rcases ha with rfl | q
    · exact this.1
    · exact this.2 a q
  have zz:(W.top F').z = W.z:=top_z hK e3
  have St:Sta W.φ W.z h (W.top F').φ (W.top F').z h':=by
    rw [zz]
    refine ⟨fun b o xs n e d _=>(hs.2 b fun q=>?_).trans e,Nat.le_refl _,fun _ _=>rfl,fun i h1 h2=>absurd h2 (Nat.not_lt.mpr h1),fun _ q=>.inl q⟩
    subst q
    rcases aDat o e with ⟨_,_,z⟩ | ⟨_,z⟩ <;> (rw [d] at z; cases z)
  have hr:∀ G ∈ r,G ∈ W.K:=fun G hG=>by rw [hK]; exact .tail _ hG
  have locN:=I.locN
  have celN:=I.celN
  rw [hK] at locN celN
  have keepLoc:∀ G ∈ r,G.env.locals ≠ a:=fun G hG q=>by
    obtain ⟨mG,hnG,_⟩:=(I.frm.mem G (hr G hG)).ns
    rcases ha with rfl | z
    · simp only [List.map_cons,List.nodup_cons] at locN
      exact locN.1 (q ▸ List.mem_map_of_mem (f:=fun G:FrameI=>G.env.locals) hG)
    · obtain ⟨o',v,e',d⟩:=FO.cellAt a z
      rw [<- q] at e'
      obtain ⟨_,_,z'⟩:=Ns.notSeq hnG e'
      rw [d] at z'; cases z'
  have keepCell:∀ c,c ∈ owned r -> c ≠ a:=fun c hc q=>by
    obtain ⟨G,hG,hcG⟩:=List.mem_flatMap.mp hc
    obtain ⟨o',v,e',d⟩:=(I.frm.mem G (hr G hG)).cellAt c hcG
    rcases ha with rfl | z
    · rw [q] at e'
      obtain ⟨_,_,z'⟩:=Ns.notSeq hn e'
      rw [d] at z'; cases z'
    · simp only [owned,List.flatMap_cons,List.nodup_append] at celN
      exact celN.2.2 a z c hc q.symm
  have frm:=I.frm
  rw [hK] at frm
  have tl:W.K.tail = r:=by rw [hK]; rfl
  have own:∀ F'':FrameI,F''.own = F.own -> owned (F'' :: r) = owned (F :: r):=fun F'' e=>by simp [owned,e]
  refine ⟨fun b o e=>(hs.2 b fun q=>by rw [q,aB] at e; cases e).trans (I.base b o e),fun i hi=>?_,I.inj,I.fresh,?_,fun G hG=>?_,fun G hG=>?_,?_,?_,fun b q=>?_⟩
  · exact (I.obj i hi).mono (W':=W.top F') St rfl rfl (fun o e=>(hs.2 _ (aφ i hi).1).trans e) (fun o e=>(hs.2 _ (aφ i hi).2).trans e)
  · show FsOk _ _ _ (F' :: W.K.tail)
    rw [tl]
    refine ⟨f St,fun x c hc=>?_,?_⟩
    · rw [own F' e2]; rw [e1] at hc; exact frm.2.1 x c hc
    · exact FsOk.mono (W:=W) (W':=W.top F') St (fun G hG o e=>(hs.2 _ (keepLoc G hG)).trans e) (fun c o v hc e _=>(hs.2 _ (keepCell c hc)).trans e) frm.2.2
  · rw [show (W.top F').K = F' :: r from by simp [Wd.top,tl]] at hG
    cases hG with
    | head=>rw [e1]; exact I.locφ F hm
    | tail _ hG=>exact I.locφ G (hr G hG)
  · rw [show (W.top F').K = F' :: r from by simp [Wd.top,tl]] at hG
    cases hG with
    | head=>rw [e1,e2]; exact I.locB F hm
    | tail _ hG=>exact I.locB G (hr G hG)
  · rw [show (W.top F').K = F' :: r from by simp [Wd.top,tl]]
    simp only [List.map_cons,e1] at locN ⊢
    exact locN
  · rw [show (W.top F').K = F' :: r from by simp [Wd.top,tl],own F' e2]; exact celN
  · rw [zz] at q
    obtain ⟨o,e⟩:=I.accL b q
    by_cases z:b = a
    · have FO':=f St
      rcases ha with h1 | h1
      · obtain ⟨m',⟨ob,_,_,g,_⟩,_⟩:=FO'.ns
        exact ⟨ob,by rw [z,h1,<- e1]; exact g⟩
      · obtain ⟨ob,v,g,_⟩:=FO'.cellAt a (by rw [e2]; exact h1)
        exact ⟨ob,by rw [z]; exact g⟩
    · exact ⟨o,(hs.2 b z).trans e⟩
set_option tactic.hygienic true in
theorem Ext.topTurn {W:Wd} {s s':Shared} {F F':FrameI} {r:List FrameI} (hK:W.K = F :: r) (e3:F'.acc = F.acc) {a:Addr} (ha:a = F.env.locals \/ a ∈ F.own)
    (hs:Heap.SameBut a s.heap s'.heap) (lv:∃ o,s'.heap.get? a = some o) (hg:s'.gens = s.gens) (ho:s'.os = s.os):Ext W s (W.top F') s':=by
  refine ⟨Nat.le_refl _,fun _ _=>⟨rfl,rfl⟩,fun i h1 h2=>absurd h2 (Nat.not_lt.mpr h1),fun b e=>(by
    by_cases q:b = a
    · subst q; obtain ⟨o,z⟩:=lv; rw [z] at e; cases e
    · rw [<- hs.2 b q]; exact e),fun b q=>.inl (by rw [top_z hK e3] at q; exact q),fun b o e nm=>(hs.2 b fun q=>nm (.inr ⟨F,by rw [hK]; exact .head _,q ▸ ha⟩)).trans e,hg,ho⟩
noncomputable def FrameI.put (F:FrameI) (x:String) (y:V):FrameI:={ F with ρ:=F.ρ.set x y }
set_option tactic.hygienic true in
theorem Inv.setLocal {W:Wd} {h h':Heap} {F:FrameI} {r:List FrameI} (I:Inv cx W h) (hK:W.K = F :: r) {x:String} {y:V} {v:Value} {m:Str -> Option Value}
    (hm:∀ x V,x ≠ ".0" -> F.ρ x = some V -> VarAt cx W h F.env m x V) (hx:F.env.kindOf (Str.ofString x) = some .local) (hy:VRel cx W.φ W.z h y v)
    (hn:h'.Ns F.env.locals (fun z=>if z = Str.ofString x then some v else m z)) (hs:Heap.SameBut F.env.locals h h'):Inv cx (W.top (F.put x y)) h':=by
  have FO:=I.frm.mem F (by rw [hK]; exact .head _)
  obtain ⟨m0,hn0,_⟩:=FO.ns
  have cne:∀ {c:Addr} {o:Obj} {v},h.get? c = some o -> o.data = .cell v -> c ≠ F.env.locals:=fun e d q=>by
    rw [q] at e
    obtain ⟨_,_,z⟩:=Ns.notSeq hn0 e
    rw [d] at z; cases z
  refine I.topTurn hK (.inl rfl) hs rfl rfl rfl fun S=>?_
  refine ⟨FO.kind,FO.glob,FO.bi,FO.fr,⟨_,hn,fun z V hz e=>?_⟩,FO.cell,fun c hc=>?_,FO.cellOf,FO.cellInj⟩
  · simp only [FrameI.put,Env.set] at e
    by_cases q:z = x
    · subst q
      rw [if_pos rfl] at e
      cases e
      refine ⟨fun _=>⟨v,if_pos rfl,VRel.mono S hy⟩,fun k=>?_⟩
      rw [show (F.put z y).env = F.env from rfl,hx] at k
      rcases k with k | k <;> cases k
    · rw [if_neg q] at e
      have a:=(hm z V hz e).mono (W':=W.top (F.put x y)) S fun c o v e1 e2 e3=>(hs.2 c (cne e2 e3)).trans e2
      refine ⟨fun k=>?_,a.2⟩
      obtain ⟨u,u1,u2⟩:=a.1 k
      exact ⟨u,by dsimp only; rw [if_neg fun q'=>q (ofString_inj q')]; exact u1,u2⟩
  · obtain ⟨o,v,e,d⟩:=FO.cellAt c hc
    exact ⟨o,v,(hs.2 c (cne e d)).trans e,d⟩
set_option tactic.hygienic true in
theorem Inv.setCell {W:Wd} {h h':Heap} {F:FrameI} {r:List FrameI} (I:Inv cx W h) (hK:W.K = F :: r) (hreal:F.real = true) {x:String} {y:V} {v:Value} {c:Addr} {o:Obj}
    (hx:F.env.kindOf (Str.ofString x) = some .cell) (hc:F.env.cells.lookup (Str.ofString x) = some c) (hy:VRel cx W.φ W.z h y v)
    (ho:h'.get? c = some o) (hd:o.data = .cell (some v)) (hs:Heap.SameBut c h h'):Inv cx (W.top (F.put x y)) h':=by
  have FO:=I.frm.mem F (by rw [hK]; exact .head _)
  obtain ⟨m,hn0,hm⟩:=FO.ns
  have hcO:=FO.cell _ _ hreal hc
  have lne:F.env.locals ≠ c:=fun q=>by
    obtain ⟨o',v',e,d⟩:=FO.cellAt c hcO
    rw [<- q] at e
    obtain ⟨_,_,z⟩:=Ns.notSeq hn0 e
    rw [d] at z; cases z
  refine I.topTurn hK (.inr hcO) hs rfl rfl rfl fun S=>?_
  refine ⟨FO.kind,FO.glob,FO.bi,FO.fr,⟨m,hn0.sameBut hs lne,fun z V hz e=>?_⟩,FO.cell,fun c' hc'=>?_,FO.cellOf,FO.cellInj⟩
  · simp only [FrameI.put,Env.set] at e
    by_cases q:z = x
    · subst q
      rw [if_pos rfl] at e
      cases e
      refine ⟨fun k=>?_,fun k=>⟨c,o,v,hc,ho,hd,VRel.mono S hy⟩⟩
      rw [show (F.put z y).env = F.env from rfl,hx] at k
      cases k
    · rw [if_neg q] at e
      refine (hm z V hz e).mono (W':=W.top (F.put x y)) S fun c' o' v' e1 e2 e3=>(hs.2 c' fun z'=>?_).trans e2
      exact q (ofString_inj (FO.cellInj _ _ c hreal (z' ▸ e1) hc))
  · by_cases q:c' = c
    · subst q; exact ⟨o,_,ho,hd⟩
    · obtain ⟨o',v',e,d⟩:=FO.cellAt c' hc'
      exact ⟨o',v',(hs.2 c' q).trans e,d⟩
set_option tactic.hygienic true in
theorem Inv.enter {W:Wd} {h h':Heap} {F:FrameI} (I:Inv cx W h) (k:∀ b o,h.get? b = some o -> h'.get? b = some o) (hL:h.objs.size <= F.env.locals) (hO:∀ c ∈ F.own,h.objs.size <= c) (hN:F.own.Nodup) (hA:∀ a ∈ F.acc,h.get? a = none /\ ∃ o,h'.get? a = some o)
    (f:FOk cx (W.under F) h' F) (g:∀ x c,F.env.cells.lookup x = some c -> c ∈ owned (F :: W.K)):Inv cx (W.under F) h':=by
  have fr:∀ b,h.objs.size <= b -> cx.base.get? b = none:=fun b hb=>by
    cases q:cx.base.get? b with
    | none=>rfl
    | some o'=>exact absurd (Heap.lt_size (I.base b o' q)) (Nat.not_lt.mpr hb)
  have St:Sta W.φ W.z h (W.under F).φ (W.under F).z h':=by
    refine ⟨fun b o xs n e d _=>k b o e,Nat.le_refl _,fun _ _=>rfl,fun i h1 h2=>absurd h2 (Nat.not_lt.mpr h1),fun a q=>?_⟩
    simp only [Wd.z,Wd.under,List.flatMap_cons,List.mem_append] at q
    rcases q with q | q
    · exact .inr fun o e=>(by rw [(hA a q).1] at e; cases e)
    · exact .inl q
  refine ⟨fun b o e=>k b o (I.base b o e),fun i hi=>(I.obj i hi).mono St rfl rfl (fun _ e=>k _ _ e) (fun _ e=>k _ _ e),I.inj,I.fresh,⟨f,g,I.frm.mono St (fun _ _ _ e=>k _ _ e) (fun _ _ _ _ e _=>k _ _ e)⟩,fun G hG i hi=>?_,fun G hG=>?_,?_,?_,fun a q=>?_⟩
  · cases hG with
    | head=>have:=I.old hi; exact ⟨Ne.symm (Nat.ne_of_lt (Nat.lt_of_lt_of_le this.1 hL)),Ne.symm (Nat.ne_of_lt (Nat.lt_of_lt_of_le this.2 hL))⟩
    | tail _ hG=>exact I.locφ G hG i hi
  · cases hG with
    | head=>exact ⟨fr _ hL,fun c hc=>fr c (hO c hc)⟩
    | tail _ hG=>exact I.locB G hG
  · show ((F :: W.K).map _).Nodup
    rw [List.map_cons,List.nodup_cons]
    refine ⟨fun q=>?_,I.locN⟩
    obtain ⟨G,hG,e⟩:=List.mem_map.mp q
    have:=I.loc_lt hG
    rw [e] at this
    exact absurd this (Nat.not_lt.mpr hL)
  · show (owned (F :: W.K)).Nodup
    rw [show owned (F :: W.K) = F.own ++ owned W.K from rfl,List.nodup_append]
    refine ⟨hN,I.celN,fun a ha b hb q=>?_⟩
    subst q
    obtain ⟨G,hG,hcG⟩:=List.mem_flatMap.mp hb
    obtain ⟨o',v,e',d⟩:=(I.frm.mem G hG).cellAt a hcG
    exact absurd (Heap.lt_size e') (Nat.not_lt.mpr (hO a ha))
  · simp only [Wd.z,Wd.under,List.flatMap_cons,List.mem_append] at q
    rcases q with q | q
    · exact (hA a q).2
    · exact (I.accL a q).imp fun o e=>k a o e
theorem Inv.leave {W:Wd} {h:Heap} {F:FrameI} {r:List FrameI} (I:Inv cx W h) (hK:W.K = F :: r):Inv cx { W with K:=r } h:=by
  have frm:=I.frm
  have locN:=I.locN
  have celN:=I.celN
  rw [hK] at frm locN celN
  have hr:∀ G ∈ r,G ∈ W.K:=fun G hG=>by rw [hK]; exact .tail _ hG
  have St:Sta W.φ W.z h W.φ (⟨W.φ,W.δ,W.σ,r⟩:Wd).z h:=by
    refine ⟨fun b o xs n e d _=>e,Nat.le_refl _,fun _ _=>rfl,fun i h1 h2=>absurd h2 (Nat.not_lt.mpr h1),fun a q=>.inl ?_⟩
    simp only [Wd.z,hK,List.flatMap_cons,List.mem_append]
    exact .inr q
  refine ⟨I.base,fun i hi=>(I.obj i hi).mono (W':={ W with K:=r }) St rfl rfl (fun _ e=>e) (fun _ e=>e),I.inj,I.fresh,FsOk.mono (W:=W) (W':={ W with K:=r }) St (fun _ _ _ e=>e) (fun _ _ _ _ e _=>e) frm.2.2,
    fun G hG=>I.locφ G (hr G hG),fun G hG=>I.locB G (hr G hG),?_,?_,fun a q=>I.accL a (by simp only [Wd.z,hK,List.flatMap_cons,List.mem_append]; exact .inr q)⟩
  · rw [List.map_cons,List.nodup_cons] at locN; exact locN.2
  · rw [show owned (F :: r) = F.own ++ owned r from rfl,List.nodup_append] at celN; exact celN.2.1
theorem Ext.trans' {W W' W'':Wd} {s s' s'':Shared} (x:Ext W s W' s') (hK:W'.K = W.K) (y:Ext W' s' W'' s''):Ext W s W'' s'':=x.trans (fun a _ q=>by rw [hK] at q; exact q) y
end Mine
end
section
namespace Mine
open PySem PySem.W PyProof.Rows
noncomputable def LoadsG (base:Heap) (x:Str) (v:Value):Prop :=
  (∃ mg,base.Ns mainGlobals mg /\ mg x = some v) \/ (∃ mg mb,base.Ns mainGlobals mg /\ mg x = none /\ base.Ns builtinsNs mb /\ mb x = some v)
structure Gd (cx:Cx) (Kf:Frag):Prop where
  X:Kf.In cx.base
  nolimit:cx.base.NoLimit
  sysm:∃ o,cx.base.get? sysModules = some o
  name:∀ x ∈ globNames,∃ v,LoadsG cx.base (Str.ofString x) v /\ ∀ φ n h,cx.base.StaysIn h -> VRel cx φ n h (gval x) v
noncomputable def reals (K:List FrameI):List PySem.Env:=(K.filter (·.real)).map (·.env)
structure AOk (A:Around) (K:List FrameI) (n:Nat):Prop where
  handled:A.handled = none
  frames:A.frames = some (reals K)
  depth:A.depth + 3 * n <= 600
  units:A.units + 60 * n <= 9000
noncomputable def flightAt (K:List FrameI):Option Addr:=match K with
  | F :: _=>F.env.frame
  | []=>none
noncomputable def TbOk (cx:Cx) (h₀ h:Heap) (a:Addr) (vs:Array Value) (fl:Value):Prop :=
  ∃ T oT ts,vs[1]? = some (.ref T) /\ h.get? T = some oT /\ oT.data = .fields ts /\ ts[3]? = some fl /\ cx.base.get? T = none /\ T ≠ a /\ h₀.get? T = none
structure Exc0 (cx:Cx) (h₀:Heap) (W:Wd) (h:Heap) (a:Addr) (oe:Obj) (vs:Array Value) (m:String) (k:Int) (c:Bool):Prop where
  get:h.get? a = some oe
  cls:∃ TF,cx.glb "TypeFault" = some (.ref TF) /\ oe.cls = .ref TF
  data:oe.data = .fields vs
  size:vs.size = 6
  ctx:c = false -> vs[2]? = some .none
  dict:∃ dx mm,oe.dict = some dx /\ h.Ns dx mm /\ (∃ t,mm "message" = some (.str (Str.ofString m) t)) /\ (∃ t,mm "spot" = some (.int k t)) /\ cx.base.get? dx = none /\ ¬ Mut W dx
  base:cx.base.get? a = none
  nm:¬ Mut W a
  new:h₀.get? a = none
noncomputable def Exc (cx:Cx) (h₀:Heap) (W:Wd) (h:Heap) (e:Value) (m:String) (k:Int) (c:Bool):Prop :=
  ∃ a oe vs,e = .ref a /\ Exc0 cx h₀ W h a oe vs m k c /\ (vs[1]? = some .none \/ ∃ fl,TbOk cx h₀ h a vs fl /\ (fl = .none \/ ∃ L,flightAt W.K = some L /\ fl = rawInt L))
theorem Exc.back {cx:Cx} {W W' W'':Wd} {s s':Shared} {h:Heap} {e m k c} (X:Ext W s W' s') (x:Exc cx s'.heap W'' h e m k c):Exc cx s.heap W'' h e m k c:=by
  obtain ⟨a,oe,vs,r,x,y⟩:=x
  refine ⟨a,oe,vs,r,⟨x.get,x.cls,x.data,x.size,x.ctx,x.dict,x.base,x.nm,X.live _ x.new⟩,y.imp id fun ⟨fl,⟨T,oT,ts,z1,z2,z3,z4,z5,z6,z7⟩,q⟩=>⟨fl,⟨T,oT,ts,z1,z2,z3,z4,z5,z6,X.live _ z7⟩,q⟩⟩
section
variable {cx:Cx} {Kf:Frag}
noncomputable def Snd (cx:Cx) {α β:Type} (R:Wd -> Heap -> α -> β -> Prop) (t:Sem β) (A:Around) (W:Wd) (s:Shared) (x:M α):Prop :=
  ∀ (Q:β -> Shared -> Prop) (E:Value -> Shared -> Prop),
    (∀ v s' a W',x W.σ = .ok a W'.σ -> Inv cx W' s'.heap -> Ext W s W' s' -> W'.K = W.K -> R W' s'.heap a v -> Q v s') ->
    (∀ e s' m k c W',x W.σ = .raise m k c W'.σ -> Inv cx W' s'.heap -> Ext W s W' s' -> W'.K = W.K -> Exc cx s.heap W' s'.heap e m k c -> E e s') ->
    x W.σ ≠ .fail -> wpAny cx.m A t Q E s
abbrev RV (cx:Cx):Wd -> Heap -> V -> Value -> Prop:=fun W h y v=>VRel cx W.φ W.z h y v
abbrev RVs (cx:Cx):Wd -> Heap -> List V -> List Value -> Prop:=fun W h y v=>VRels cx W.φ W.z h y v
abbrev RB:Wd -> Heap -> Bool -> Bool -> Prop:=fun _ _ a b=>a = b
abbrev RU {α:Type}:Wd -> Heap -> α -> Unit -> Prop:=fun _ _ _ _=>True
variable {α β γ ζ:Type} {R:Wd -> Heap -> α -> β -> Prop} {R':Wd -> Heap -> γ -> ζ -> Prop} {A:Around} {W:Wd} {s:Shared}
theorem M.bind_ok {x:M α} {g:α -> M γ} {σ σ':Store} {a:α} (e:x σ = .ok a σ'):(M.bind x g) σ = g a σ':=by unfold M.bind; rw [e]
theorem M.bind_raise {x:M α} {g:α -> M γ} {σ σ':Store} {m k c} (e:x σ = .raise m k c σ'):(M.bind x g) σ = .raise m k c σ':=by unfold M.bind; rw [e]
set_option tactic.hygienic true in
theorem M.assoc {α β γ:Type} {x:M α} {f:α -> M β} {g:β -> M γ}:M.bind (M.bind x f) g = M.bind x fun a=>M.bind (f a) g:=by
  funext σ
  unfold M.bind
  cases x σ <;> rfl
set_option tactic.hygienic true in
theorem listAt_bind {α β:Type} {j:Nat} {f:List V -> M α} {g:α -> M β}:M.bind (listAt j f) g = listAt j fun l=>M.bind (f l) g :=
  M.assoc.trans (congrArg _ (funext fun o=>by cases o <;> rfl))
theorem M.bind_ne {x:M α} {g:α -> M γ} {σ:Store} (h:(M.bind x g) σ ≠ .fail):x σ ≠ .fail:=by
  intro e; apply h; unfold M.bind; rw [e]
theorem Snd.pure {a:α} {v:β} (I:Inv cx W s.heap) (r:R W s.heap a v):Snd cx R (Pure.pure v) A W s (M.ret a):=fun Q E hq _ _ =>
  wpAny_pure (hq v s a W rfl I (Ext.refl _ _) rfl r)
theorem Snd.fail {t:Sem β}:Snd cx R t A W s (M.fail:M α):=fun Q E _ _ h=>absurd rfl h
theorem Snd.bind {t:Sem β} {f:β -> Sem ζ} {x:M α} {g:α -> M γ} (h:Snd cx R t A W s x)
    (h':∀ v s' a W',Inv cx W' s'.heap -> Ext W s W' s' -> W'.K = W.K -> R W' s'.heap a v -> Snd cx R' (f v) A W' s' (g a)) :
    Snd cx R' (t >>= f) A W s (M.bind x g):=fun Q E hq he hf=>by
  refine wpAny_bind (h _ _ (fun v s' a W' e I X k r=>?_) (fun ev s' m k c W' e I X hk ex=>?_) (M.bind_ne hf))
  · have eb:=M.bind_ok (g:=g) e
    refine h' v s' a W' I X k r Q E (fun v' s'' b W'' e' I' X' k' r'=>?_) (fun ev s'' m kk c W'' e' I' X' k' ex=>?_) (eb ▸ hf)
    · exact hq v' s'' b W'' (eb.trans e') I' (X.trans' k X') (k'.trans k) r'
    · exact he ev s'' m kk c W'' (eb.trans e') I' (X.trans' k X') (k'.trans k) (ex.back X)
  · exact he ev s' m k c W' (M.bind_raise e) I X hk ex
theorem Snd.step {t:Sem β} {t':Sem β} {x:M α} (h:∀ Q E,wpAny cx.m A t Q E s -> wpAny cx.m A t' Q E s) (y:Snd cx R t A W s x):Snd cx R t' A W s x :=
  fun Q E a b c=>h Q E (y Q E a b c)
theorem Snd.hold {vs:List Value} {t:Sem β} {x:M α} (y:Snd cx R t A W s x):Snd cx R (holding vs t) A W s x:=y.step fun _ _=>wpAny_holding
theorem Snd.stand {p:Pos} {f:Unit -> Sem β} {x:M α} (y:Snd cx R (f ()) A W s x):Snd cx R (standAt p >>= f) A W s x:=y.step fun _ _ h=>wpAny_bind (wpAny_standAt h)
theorem Snd.rule_ {p:String} {f:Unit -> Sem β} {x:M α} (y:Snd cx R (f ()) A W s x):Snd cx R (rule p >>= f) A W s x:=y.step fun _ _ h=>wpAny_bind (wpAny_rule h)
theorem Snd.point_ {f:Unit -> Sem β} {x:M α} (y:Snd cx R (f ()) A W s x):Snd cx R (point >>= f) A W s x:=y.step fun _ _ h=>wpAny_bind (wpAny_point h)
theorem Snd.operate {vs:List Value} {t:Sem Value} {R:Wd -> Heap -> α -> Value -> Prop} {x:M α} (y:Snd cx R t A W s x):Snd cx R (operate vs t) A W s x :=
  y.step fun _ _=>wpAny_operateT
theorem Snd.eqv {t t':Sem β} {x x':M α} (et:t' = t) (ex:x' W.σ = x W.σ) (y:Snd cx R t A W s x):Snd cx R t' A W s x':=fun Q E a b c=>by
  subst et
  exact y Q E (fun v s' z W' e=>a v s' z W' (ex.trans e)) (fun ev s' m k cc W' e=>b ev s' m k cc W' (ex.trans e)) (ex ▸ c)
theorem Snd.grow {t:Sem β} {a:α} (I:Inv cx W s.heap)
    (h:∀ Q E,(∀ v s',(∀ b o,s.heap.get? b = some o -> s'.heap.get? b = some o) -> s.heap.objs.size <= s'.heap.objs.size -> s'.gens = s.gens -> s'.os = s.os -> R W s'.heap a v -> Q v s') -> wpAny cx.m A t Q E s) :
    Snd cx R t A W s (M.ret a):=fun Q E hq _ _ =>
  h Q E fun v s' k hz hg ho r=>hq v s' a W rfl (I.keeps k) (Ext.keeps k hg ho) rfl r
theorem Snd.growK {t:Sem β} {a:α} (I:Inv cx W s.heap)
    (h:∀ Q E,(∀ v s',(∀ b o,s.heap.get? b = some o -> s'.heap.get? b = some o) -> s'.gens = s.gens -> s'.os = s.os -> R W s'.heap a v -> Q v s') -> wpAny cx.m A t Q E s) :
    Snd cx R t A W s (M.ret a):=fun Q E hq _ _ =>
  h Q E fun v s' k hg ho r=>hq v s' a W rfl (I.keeps k) (Ext.keeps k hg ho) rfl r
theorem Snd.still {t:Sem β} {a:α} (I:Inv cx W s.heap)
    (h:∀ Q E,(∀ v s',s'.heap = s.heap -> s'.gens = s.gens -> s'.os = s.os -> R W s'.heap a v -> Q v s') -> wpAny cx.m A t Q E s) :
    Snd cx R t A W s (M.ret a):=Snd.grow I fun Q E hq=>h Q E fun v s' hh hg ho r=>hq v s' (fun b o e=>by rw [hh]; exact e) (Nat.le_of_eq (by rw [hh])) hg ho r
theorem VRel.ext {W W':Wd} {s s':Shared} (I:Inv cx W s.heap) (X:Ext W s W' s') {y:V} {v:Value} (r:VRel cx W.φ W.z s.heap y v):VRel cx W'.φ W'.z s'.heap y v:=VRel.mono (X.sta I) r
theorem VRels.ext {W W':Wd} {s s':Shared} (I:Inv cx W s.heap) (X:Ext W s W' s') {y:List V} {v:List Value} (r:VRels cx W.φ W.z s.heap y v):VRels cx W'.φ W'.z s'.heap y v:=VRels.mono (X.sta I) r
end
end Mine
end
section
namespace Mine
open PySem PySem.W PyProof.Rows
mutual
noncomputable def V.py:V -> PyData
  | .none=>.none
  | .bool b=>.bool b
  | .int i=>.int i
  | .str s=>.str (Str.ofString s)
  | .tup l=>.tuple (V.pys l)
  | .lst l=>.list (V.pys l)
  | .obj _=>.none
  | .g _=>.none
noncomputable def V.pys:List V -> List PyData
  | []=>[]
  | x :: r=>V.py x :: V.pys r
end
mutual
theorem VRel.reads {cx φ n h}:∀ {y:V} {v:Value},VRel cx φ n h y v -> y.isData = true -> ∃ as,Reads h v y.py as
  | .none,_,x,_=>(show _ = _ from x) ▸ ⟨_,.none⟩
  | .bool _,_,x,_=>(show _ = _ from x) ▸ ⟨_,.bool _⟩
  | .int _,_,x,_=>x.elim fun _ e=>e ▸ ⟨_,.int _ _⟩
  | .str _,_,x,_=>x.elim fun _ e=>e ▸ ⟨_,.str _ _⟩
  | .tup l,_,x,d=>by
    obtain ⟨a,items,rfl,⟨o,e,c,m,q⟩,z⟩:=x
    exact (VRels.reads z d).elim fun as r=>⟨_,.tuple e c q r⟩
  | .lst l,_,x,d=>by
    obtain ⟨a,items,rfl,⟨o,e,c,m,q⟩,_,z⟩:=x
    exact (VRels.reads z d).elim fun as r=>⟨_,.list e c q r⟩
  | .obj _,_,_,d=>no_tf d
  | .g _,_,_,d=>no_tf d
theorem VRels.reads {cx φ n h}:∀ {y:List V} {v:List Value},VRels cx φ n h y v -> V.areData y = true -> ∃ as,ReadsAll h v (V.pys y) as
  | [],_,x,_=>(show _ = _ from x) ▸ ⟨_,.nil⟩
  | _ :: _,_,x,d=>by
    obtain ⟨v,r,rfl,x,z⟩:=x
    exact (VRel.reads x (and2 d).1).elim fun as a=>(VRels.reads z (and2 d).2).elim fun bs b=>⟨_,.cons a b⟩
end
mutual
theorem V.lay:∀ y:V,y.isData = true -> y.py.canLay0 = true
  | .none,_ | .bool _,_ | .int _,_=>rfl
  | .str s,_=>strOk_of s
  | .tup l,d=>V.lays l d
  | .lst l,d=>V.lays l d
  | .obj _,d=>no_tf d
  | .g _,d=>no_tf d
theorem V.lays:∀ y:List V,V.areData y = true -> PyData.canLayAll0 (V.pys y) = true
  | [],_=>rfl
  | x :: r,d=>Bool.and_eq_true_iff.mpr ⟨V.lay x (and2 d).1,V.lays r (and2 d).2⟩
end
theorem str_beq (s t:String):(Str.ofString s == Str.ofString t) = (s == t):=by
  rw [Bool.eq_iff_iff,beq_iff_eq,beq_iff_eq]
  exact ⟨ofString_inj,congrArg _⟩
set_option tactic.hygienic true in
mutual
theorem V.eqv:∀ a b:V,a.isData = true -> b.isData = true -> PyData.eqv a.py b.py = V.eqb a b
  | .none,b,_,db=>by cases b <;> first | rfl | exact no_tf db
  | .bool x,.bool y,_,_=>by cases x <;> cases y <;> rfl
  | .bool x,.none,_,_ | .bool x,.int _,_,_ | .bool x,.str _,_,_ | .bool x,.tup _,_,_ | .bool x,.lst _,_,_=>rfl
  | .bool x,.obj _,_,db | .bool x,.g _,_,db=>no_tf db
  | .int _,b,_,db=>by cases b <;> first | rfl | exact no_tf db
  | .str s,b,_,db=>by cases b <;> first | rfl | exact no_tf db | exact str_beq _ _
  | .tup l,b,da,db=>by cases b <;> first | rfl | exact no_tf db | exact V.eqvs l _ da db
  | .lst l,b,da,db=>by cases b <;> first | rfl | exact no_tf db | exact V.eqvs l _ da db
  | .obj _,_,da,_=>no_tf da
  | .g _,_,da,_=>no_tf da
theorem V.eqvs:∀ a b:List V,V.areData a = true -> V.areData b = true -> PyData.eqvAll (V.pys a) (V.pys b) = V.eqbs a b
  | [],[],_,_=>rfl
  | [],_ :: _,_,_=>rfl
  | _ :: _,[],_,_=>rfl
  | x :: xs,y :: ys,da,db=>congr (congrArg _ (V.eqv x y (and2 da).1 (and2 db).1)) (V.eqvs xs ys (and2 da).2 (and2 db).2)
end
set_option tactic.hygienic true in
theorem V.tiny_depth (y:V) (h:y.tiny = true):y.py.depth <= 2:=by
  rcases y with _ | _ | _ | _ | _ | _ | _ | _
  case tup l=>cases l <;> first | decide | exact no_tf h
  case lst l=>cases l <;> first | decide | exact no_tf h
  all_goals first | exact no_tf h | decide | exact Nat.zero_le 2
theorem V.tinies_depth:∀ l:List V,l.all V.tiny = true -> PyData.depthAll (V.pys l) <= 2
  | [],_=>by decide
  | x :: r,h=>Nat.max_le.mpr ⟨V.tiny_depth x (and2 h).1,V.tinies_depth r (and2 h).2⟩
set_option tactic.hygienic true in
theorem V.flat_depth (y:V) (h:y.flat = true):y.py.depth <= 3:=by
  rcases y with _ | _ | _ | _ | _ | _ | _ | _
  case tup l=>exact Nat.succ_le_succ (V.tinies_depth l h)
  case lst l=>exact Nat.succ_le_succ (V.tinies_depth l h)
  all_goals exact Nat.le_succ_of_le (V.tiny_depth _ h)
section
variable {cx:Cx} {Kf:Frag} {A:Around} {W:Wd} {s:Shared} {n:Nat}
theorem AOk.cline (AO:AOk A W.K n):A.units + 800 < cLine:=Nat.lt_of_le_of_lt (Nat.add_le_add_right (Nat.le_trans (Nat.le_add_right _ _) AO.units) 800) (by decide)
theorem AOk.room1 (AO:AOk A W.K n) {d:Nat} (h:d <= 3):A.units + 1 + d < cLine:=Nat.lt_of_le_of_lt (Nat.le_trans (Nat.le_of_eq (Nat.add_assoc _ _ _)) (Nat.add_le_add_left (Nat.le_trans (Nat.add_le_add_left h 1) (by decide)) _)) AO.cline
theorem AOk.room (AO:AOk A W.K n) {d:Nat} (h:d <= 3):A.units + d < cLine:=Nat.lt_of_le_of_lt (Nat.add_le_add_left (Nat.le_trans h (by decide)) _) AO.cline
theorem ret_ne {α:Type} {x:M α} {σ:Store} (h:x σ ≠ .fail) (e:x = M.fail):False:=h (by rw [e]; rfl)
theorem Snd.bindRet {α β γ:Type} {R:Wd -> Heap -> α -> β -> Prop} {t:Sem β} {a:γ} {f:γ -> M α} (y:Snd cx R t A W s (f a)):Snd cx R t A W s (M.bind (M.ret a) f):=y
theorem Snd.bindFail {α β γ:Type} {R:Wd -> Heap -> α -> β -> Prop} {t:Sem β} {f:γ -> M α}:Snd cx R t A W s (M.bind M.fail f):=Snd.fail
theorem Snd.ite {α β:Type} {R:Wd -> Heap -> α -> β -> Prop} {t:Sem β} {c:Prop} [Decidable c] {x:M α} (z:c -> Snd cx R t A W s x):Snd cx R t A W s (if c then x else M.fail):=by
  by_cases h:c
  · rw [if_pos h]; exact z h
  · rw [if_neg h]; exact Snd.fail
theorem Snd.bindIte {α β γ:Type} {R:Wd -> Heap -> α -> β -> Prop} {t:Sem β} {c:Prop} [Decidable c] {a:γ} {f:γ -> M α} (y:c -> Snd cx R t A W s (f a)):Snd cx R t A W s (M.bind (if c then M.ret a else M.fail) f):=by
  by_cases h:c
  · rw [if_pos h]; exact y h
  · rw [if_neg h]; exact Snd.fail
theorem rb {b:Bool} {h:Heap}:RV cx W h (.bool b) (.bool b):=rfl
theorem min_flat {a b:V} (z:(a.flat || b.flat) = true):min a.py.depth b.py.depth <= 3:=(Bool.or_eq_true_iff.mp z).elim (fun z=>Nat.le_trans (Nat.min_le_left _ _) (V.flat_depth a z)) fun z=>Nat.le_trans (Nat.min_le_right _ _) (V.flat_depth b z)
theorem snd_eq {a b:V} {va vb:Value} (AO:AOk A W.K n) (I:Inv cx W s.heap) (ra:RV cx W s.heap a va) (rb':RV cx W s.heap b vb) :
    Snd cx (RV cx) (compareOp .Eq va vb) A W s (isB (veq a b)):=Snd.bindIte fun q=>by
  obtain ⟨q,z⟩:=and2 q
  exact (ra.reads (and2 q).1).elim fun as x=>(rb'.reads (and2 q).2).elim fun bs y=>Snd.still I fun Q E hq =>
    SeqAt.compareEq_reads x y (V.lay a (and2 q).1) (V.lay b (and2 q).2) (AO.room (min_flat z)) (V.eqv a b (and2 q).1 (and2 q).2 ▸ hq _ _ rfl rfl rfl rb)
theorem snd_ne {a b:V} {va vb:Value} (AO:AOk A W.K n) (I:Inv cx W s.heap) (ra:∃ as,Reads s.heap va a.py as) (rb':RV cx W s.heap b vb) :
    Snd cx (RV cx) (compareOp .NotEq va vb) A W s (notB (veq a b)):=Snd.bindIte fun q=>by
  obtain ⟨q,z⟩:=and2 q
  exact ra.elim fun as x=>(rb'.reads (and2 q).2).elim fun bs y=>Snd.still I fun Q E hq =>
    SeqAt.compareNe_reads x y (V.lay a (and2 q).1) (V.lay b (and2 q).2) (AO.room (min_flat z)) (V.eqv a b (and2 q).1 (and2 q).2 ▸ hq _ _ rfl rfl rfl rb)
end
end Mine
end
section
namespace Mine
open PySem PySem.W PyProof.Rows
section
variable {cx:Cx} {Kf:Frag} {A:Around} {W:Wd} {s:Shared} {n:Nat} {α β:Type} {R:Wd -> Heap -> α -> β -> Prop} {t:Sem β} {a b:V} {va vb:Value}
theorem Snd.get {j:Nat} {f:AO -> M α} (hj:j < W.σ.n) (y:∀ o,W.σ.get j = o -> Snd cx R t A W s (f o)):Snd cx R t A W s (M.bind (mget j) f) :=
  (y _ rfl).eqv rfl (by show (M.bind (mget j) f) W.σ = _; unfold M.bind mget; rw [if_pos hj])
set_option tactic.hygienic true in
theorem Snd.asInt {f:Int -> M α} (r:RV cx W s.heap a va) (z:∀ i t',va = .int i t' -> Snd cx R t A W s (f i)):Snd cx R t A W s (asInt a f):=by
  rcases a with _ | _ | _ | _ | _ | _ | _ | _
  case int i=>exact r.elim fun _ e=>z i _ e
  all_goals exact Snd.fail
set_option tactic.hygienic true in
theorem Snd.asStr {f:String -> M α} (r:RV cx W s.heap a va) (z:∀ i t',va = .str (Str.ofString i) t' -> Snd cx R t A W s (f i)):Snd cx R t A W s (asStr a f):=by
  rcases a with _ | _ | _ | _ | _ | _ | _ | _
  case str i=>exact r.elim fun _ e=>z i _ e
  all_goals exact Snd.fail
set_option tactic.hygienic true in
theorem Snd.asLst {f:List V -> M α} (z:∀ l,a = .lst l -> Snd cx R t A W s (f l)):Snd cx R t A W s (asLst a f):=by
  rcases a with _ | _ | _ | _ | _ | _ | _ | _
  case lst i=>exact z i rfl
  all_goals exact Snd.fail
theorem Snd.asNone {x:M α} (r:RV cx W s.heap a va) (z:va = .none -> Snd cx R t A W s x):Snd cx R t A W s (asNone a x):=by
  rcases a with _ | _
  case none=>exact z r
  all_goals exact Snd.fail
structure LObj (cx:Cx) (W:Wd) (h:Heap) (j:Nat) (l:List V) (items:Array Value):Prop where
  get:W.σ.get j = .list l
  δ:W.δ j = W.φ j
  at_:h.PlainList (W.φ j) items
  rel:VRels cx W.φ W.z h l items.toList
theorem LObj.of {j:Nat} {l:List V} (I:Inv cx W s.heap) (hj:j < W.σ.n) (e:W.σ.get j = .list l):∃ items,LObj cx W s.heap j l items:=by
  have x:=I.obj j hj
  rw [e] at x
  exact x.2.elim fun items y=>⟨items,e,x.1,y.1,y.2⟩
set_option tactic.hygienic true in
theorem Snd.listAt {j:Nat} {f:List V -> M α} (I:Inv cx W s.heap) (r:RV cx W s.heap (.obj j) va) (z:∀ l items,va = .ref (W.φ j) -> j < W.σ.n -> LObj cx W s.heap j l items -> Snd cx R t A W s (f l)):Snd cx R t A W s (listAt j f) :=
  Snd.get r.1 fun o e=>by
    rcases o with _ | _ | ⟨_,_⟩
    case list l=>exact (LObj.of I r.1 e).elim fun items x=>z l items r.2 r.1 x
    all_goals exact Snd.fail
set_option tactic.hygienic true in
theorem Snd.asObj {f:Nat -> M α} (r:RV cx W s.heap a va) (z:∀ j,va = .ref (W.φ j) -> j < W.σ.n -> Snd cx R t A W s (f j)):Snd cx R t A W s (asObj a f):=by
  rcases a with _ | _ | _ | _ | _ | _ | _ | _
  case obj j=>exact z j r.2 r.1
  all_goals exact Snd.fail
set_option tactic.hygienic true in
theorem Snd.colAt {j:Nat} {f:List V -> M α} {g:List (V × V) -> M α} (I:Inv cx W s.heap) (hj:j < W.σ.n) (z:∀ l items,LObj cx W s.heap j l items -> Snd cx R t A W s (f l)) (y:∀ l,W.σ.get j = .dict l -> Snd cx R t A W s (g l)):Snd cx R t A W s (colAt j f g) :=
  Snd.get hj fun o e=>by
    rcases o with _ | _ | ⟨_,_⟩
    case list l=>exact (LObj.of I hj e).elim fun items x=>z l items x
    case dict l=>exact y l e
    all_goals exact Snd.fail
theorem RV.ref {j:Nat} (h:j < W.σ.n) {hp:Heap}:RV cx W hp (.obj j) (.ref (W.φ j)):=⟨h,rfl⟩
theorem rint {i:Int} {t':Tok} {h:Heap}:RV cx W h (.int i) (.int i t'):=⟨_,rfl⟩
theorem rstr {x:String} {t':Tok} {h:Heap}:RV cx W h (.str x) (.str (Str.ofString x) t'):=⟨_,rfl⟩
set_option tactic.hygienic true in
theorem intBits_le {a:Int} (h:a.natAbs < 18446744073709551616):Builtin.Int.intBits a <= 64:=by
  unfold Builtin.Int.intBits
  split
  · exact Nat.zero_le _
  · rename_i q
    exact (Nat.log2_lt (fun z=>q (beq_iff_eq.mpr (Int.natAbs_eq_zero.mp z)))).mpr h
theorem newList_wp {vs:List Value} {Q:Value -> Shared -> Prop} {E:Value -> Shared -> Prop} (h:Q (.ref s.heap.objs.size) { s with heap:=s.heap.push { cls:=.type "list",data:=.seq vs.toArray } }) (hsz:vs.length <= sizeLine) :
    wpAny cx.m A (newList vs) Q E s:=wpAny_newObj_type h hsz
theorem newTuple_wp {vs:List Value} {Q:Value -> Shared -> Prop} {E:Value -> Shared -> Prop} (h:Q (.ref s.heap.objs.size) { s with heap:=s.heap.push { cls:=.type "tuple",data:=.seq vs.toArray } }) (hsz:vs.length <= sizeLine) :
    wpAny cx.m A (newTuple vs) Q E s:=wpAny_newObj_type h hsz
theorem push_keeps (h:Heap) (o:Obj):∀ b ob,h.get? b = some ob -> (h.push o).get? b = some ob:=fun b ob e=>Heap.get?_push_of_some o e
theorem push_le (h:Heap) (o:Obj):h.objs.size <= (h.push o).objs.size:=by rw [Heap.size_push]; exact Nat.le_succ _
theorem VRels.push {o:Obj} {l:List V} {vs:List Value} (r:VRels cx W.φ W.z s.heap l vs):VRels cx W.φ W.z (s.heap.push o) l vs:=VRels.mono (Sta.of_keeps (W:=W) (push_keeps _ _)) r
theorem made_lst {l:List V} {vs:List Value} (I:Inv cx W s.heap) (r:VRels cx W.φ W.z s.heap l vs) :
    RV cx W (s.heap.push { cls:=.type "list",data:=.seq vs.toArray }) (.lst l) (.ref s.heap.objs.size) :=
  ⟨_,vs.toArray,rfl,⟨_,Heap.get?_push_size _ rfl,rfl,_,rfl⟩,⟨fun i hi=>Nat.ne_of_lt (I.old hi).1,fun q=>(I.accL _ q).elim fun o e=>Nat.lt_irrefl _ (Heap.lt_size e)⟩,r.push⟩
theorem made_tup {l:List V} {vs:List Value} (r:VRels cx W.φ W.z s.heap l vs) :
    RV cx W (s.heap.push { cls:=.type "tuple",data:=.seq vs.toArray }) (.tup l) (.ref s.heap.objs.size) :=
  ⟨_,vs.toArray,rfl,⟨_,Heap.get?_push_size _ rfl,rfl,_,rfl⟩,r.push⟩
theorem VRels.size {φ:Nat -> Addr} {n:Sz} {h:Heap} {l:List V} {items:Array Value} (r:VRels cx φ n h l items.toList):items.size = l.length:=r.length.symm
theorem small {l m:List V} {i1 i2:Array Value} {φ:Nat -> Addr} {n:Sz} {h:Heap} (r1:VRels cx φ n h l i1.toList) (r2:VRels cx φ n h m i2.toList) (hz:(decide (l.length < 100000) && decide (m.length < 100000)) = true):i1.size + i2.size <= sizeLine:=by
  rw [r1.size,r2.size]
  exact Nat.le_trans (Nat.add_le_add (Nat.le_of_lt (of_decide_eq_true (and2 hz).1)) (Nat.le_of_lt (of_decide_eq_true (and2 hz).2))) (by decide)
set_option tactic.hygienic true in
theorem snd_glue {a b:List V} {x y:Addr} {i1 i2:Array Value} (I:Inv cx W s.heap) (h1:s.heap.IsList x i1) (h2:s.heap.IsList y i2) (r1:VRels cx W.φ W.z s.heap a i1.toList) (r2:VRels cx W.φ W.z s.heap b i2.toList) :
    Snd cx (RV cx) (binaryOp .Add (.ref x) (.ref y)) A W s (glue a b):=Snd.ite fun hz=>Snd.grow I fun Q E hq=>by
  obtain ⟨⟨cls,dd,data,sl⟩,ho,hc,m,hd⟩:=h1
  obtain ⟨⟨cls2,dd2,data2,sl2⟩,ho2,hc2,m2,hd2⟩:=h2
  cases hc
  cases hd
  cases hc2
  cases hd2
  refine concat_meets ⟨_,ho,rfl⟩ ⟨_,ho2,rfl⟩ noFill_list_add seq_list_add PySem.F.slot_list_add PySem.F.entry_list_add (PySem.F.args_list_add_2 _ _)
    (list_addW x y i1 i2 m m2 dd dd2 sl sl2 (small r1 r2 hz)) ⟨ho,ho2,hq _ _ (push_keeps _ _) (push_le _ _) rfl rfl ?_⟩
  have e:i1 ++ i2 = (i1.toList ++ i2.toList).toArray:=by simp
  rw [e]
  exact made_lst I (VRels.append r1 r2)
theorem ofString_append (a b:String):Str.ofString (a ++ b) = Str.ofString a ++ Str.ofString b:=by
  apply Str.ext'
  rw [Str.cps_append]
  simp [Str.ofString_eq_toList]
theorem ofString_length (a:String):(Str.ofString a).length = a.length:=by
  rw [Str.ofString_eq_toList]
  exact (List.length_map _).trans String.length_toList
variable (AO:AOk A W.K n) (I:Inv cx W s.heap) (ra:RV cx W s.heap a va) (rb':RV cx W s.heap b vb)
include I ra rb'
set_option tactic.hygienic true in
theorem snd_add:Snd cx (RV cx) (binaryOp .Add va vb) A W s (doAdd a b):=by
  rcases a with _ | _ | _ | _ | _ | _ | _ | _
  case int i =>
    obtain ⟨_,rfl⟩:=ra
    exact Snd.asInt rb' fun j _ e=>e ▸ Snd.still I fun Q E hq=>P.add_int (hq _ _ rfl rfl rfl rint)
  case str x =>
    obtain ⟨_,rfl⟩:=ra
    refine Snd.asStr rb' fun y _ e=>e ▸ Snd.ite fun q=>Snd.grow I fun Q E hq=>add_str (fun t' tk=>hq _ _ (fun _ _ e=>e) (Nat.le_refl _) rfl rfl ⟨t',by rw [ofString_append]⟩) ?_
    rw [ofString_length,ofString_length]
    exact Nat.le_trans (Nat.add_le_add (Nat.le_of_lt (of_decide_eq_true (and2 q).1)) (Nat.le_of_lt (of_decide_eq_true (and2 q).2))) (by decide)
  case lst l =>
    obtain ⟨x,i1,rfl,h1,_,r1⟩:=ra
    cases b with
    | lst r =>
      obtain ⟨y,i2,rfl,h2,_,r2⟩:=rb'
      exact snd_glue I h1 h2 r1 r2
    | obj j=>exact Snd.listAt I rb' fun l items e _ x=>e ▸ snd_glue I h1 x.at_.isList r1 x.rel
    | _=>exact Snd.fail
  all_goals exact Snd.fail
theorem Snd.ints {f:Int -> Int -> M α} (z:∀ i j p u,va = .int i p -> vb = .int j u -> Snd cx R t A W s (f i j)):Snd cx R t A W s (Mine.asInt a fun i=>Mine.asInt b (f i)) :=
  Snd.asInt ra fun i _ e=>Snd.asInt rb' fun j _ e'=>z i j _ _ e e'
theorem snd_sub:Snd cx (RV cx) (binaryOp .Sub va vb) A W s (doBin .sub a b) :=
  Snd.ints I ra rb' fun i j _ _ e e'=>by subst e e'; exact Snd.still I fun Q E hq=>P.sub_int (hq _ _ rfl rfl rfl rint)
theorem snd_mul:Snd cx (RV cx) (binaryOp .Mult va vb) A W s (doBin .mul a b) :=
  Snd.ints I ra rb' fun i j _ _ e e'=>by
    subst e e'
    exact Snd.ite fun q=>Snd.still I fun Q E hq=>P.mul_int (hq _ _ rfl rfl rfl rint) ((Bool.or_eq_true_iff.mp q).elim (fun q=>.of_left (intBits_le (of_decide_eq_true q))) fun q=>.of_right (intBits_le (of_decide_eq_true q)))
theorem snd_mod:Snd cx (RV cx) (binaryOp .Mod va vb) A W s (doBin .mod a b) :=
  Snd.ints I ra rb' fun i j _ _ e e'=>by
    subst e e'
    refine Snd.ite fun q=>Snd.still I fun Q E hq=>AutoIntOps.mod_1 (by simp; omega) (hq _ _ rfl rfl rfl ⟨s.toks,by rw [Int.fmod_eq_emod_of_nonneg _ (Int.le_of_lt q)]⟩)
theorem snd_fdiv:Snd cx (RV cx) (binaryOp .FloorDiv va vb) A W s (doBin .fdiv a b) :=
  Snd.ints I ra rb' fun x y _ _ e e'=>by
    subst e e'
    refine Snd.ite fun q=>?_
    simp only [Bool.and_eq_true,decide_eq_true_eq] at q
    refine Snd.still I fun Q E hq=>AutoIntOps.floordiv_1 (by simp; omega) ?_ (hq _ _ rfl rfl rfl ⟨s.toks,by rw [Int.fdiv_eq_ediv_of_nonneg _ (Int.le_of_lt q.1)]⟩)
    unfold Builtin.divisionGoesByPylong
    have:(y == 0) = false:=by simp; omega
    have l:y.natAbs.log2 < 40:=(Nat.log2_lt (by omega)).mpr (by omega)
    simp only [this,Bool.false_eq_true,if_false,Bool.and_eq_true,decide_eq_true_eq,not_and]
    intro z
    omega
theorem snd_pow:Snd cx (RV cx) (binaryOp .Pow va vb) A W s (doBin .pow a b) :=
  Snd.ints I ra rb' fun i j _ _ e e'=>by
    subst e e'
    refine Snd.ite fun q=>?_
    obtain rfl:i = 10:=beq_iff_eq.mp (and2 q).1
    obtain rfl:j = 18:=beq_iff_eq.mp (and2 q).2
    exact Snd.still I fun Q E hq=>AutoIntOps.pow_4 (by decide) (by decide) (by decide) (by decide) (by decide +kernel) (hq _ _ rfl rfl rfl rint)
end
end Mine
end
section
namespace Mine
open PySem PySem.W PyProof.Rows
section
variable {cx:Cx} {Kf:Frag} {A:Around} {W:Wd} {s:Shared} {n:Nat} {α β:Type} {R:Wd -> Heap -> α -> β -> Prop}
theorem VRel.listReads {φ:Nat -> Addr} {n:Sz} {h:Heap} {a:Addr} {items:Array Value} {l:List V} (hl:h.IsList a items) (r:VRels cx φ n h l items.toList) (d:V.areData l = true):∃ as,Reads h (.ref a) (V.lst l).py as:=by
  obtain ⟨o,e,c,m,q⟩:=hl
  exact (VRels.reads r d).elim fun as z=>⟨_,.list e c q z⟩
theorem V.anyEqv (x:V) (dx:x.isData = true):∀ l:List V,V.areData l = true -> ((V.pys l).any fun y=>PyData.eqv y x.py) = l.any fun y=>V.eqb y x
  | [],_=>rfl
  | y :: r,d=>congr (congrArg _ (V.eqv y x (and2 d).1 dx)) (V.anyEqv x dx r (and2 d).2)
theorem V.flats_depth:∀ l:List V,l.all V.flat = true -> PyData.depthAll (V.pys l) <= 3
  | [],_=>Nat.zero_le _
  | x :: r,h=>Nat.max_le.mpr ⟨V.flat_depth x (and2 h).1,V.flats_depth r (and2 h).2⟩
theorem V.min_depth {x:V} {l:List V} (q:(x.flat || l.all V.flat) = true):min (PyData.depthAll (V.pys l)) x.py.depth <= 3 :=
  (Bool.or_eq_true_iff.mp q).elim (fun q=>Nat.le_trans (Nat.min_le_right _ _) (V.flat_depth x q)) fun q=>Nat.le_trans (Nat.min_le_left _ _) (V.flats_depth l q)
section
variable {x:V} {vx:Value} {l:List V} {a:Addr} {items:Array Value} (AO:AOk A W.K n) (I:Inv cx W s.heap) (rx:RV cx W s.heap x vx) (r:VRels cx W.φ W.z s.heap l items.toList)
include AO I rx r
theorem vin_of {β:Type} {R:Wd -> Heap -> α -> β -> Prop} {t:Sem β} {f:Bool -> M α}
    (h:∀ as bs ds,V.areData l = true -> ReadsAll s.heap items.toList (V.pys l) as -> Reads s.heap vx x.py bs -> PyData.canLayAll0 (V.pys l) = true -> x.py.canLay0 = true -> A.units + 1 + min (PyData.depthAll (V.pys l)) x.py.depth < cLine -> ((V.pys l).any fun y=>PyData.eqv y x.py) = ds -> Snd cx R t A W s (f ds)) :
    Snd cx R t A W s (M.bind (vin x l) f):=Snd.bindIte fun q=>by
  obtain ⟨q,z⟩:=and2 q
  exact (VRels.reads r (and2 q).1).elim fun as y=>(rx.reads (and2 q).2).elim fun bs y'=>h as bs _ (and2 q).1 y y' (V.lays l (and2 q).1) (V.lay x (and2 q).2) (AO.room1 (V.min_depth z)) (V.anyEqv x (and2 q).2 l (and2 q).1)
theorem snd_in_list (hl:s.heap.IsList a items):Snd cx (RV cx) (compareOp .In vx (.ref a)) A W s (isB (vin x l)) :=
  vin_of AO I rx r fun as bs ds d _ y c1 c2 hu e=>Snd.still I fun Q E hq=>(VRel.listReads hl r d).elim fun _ z=>SeqAt.in_list_reads z y c1 c2 hu (e ▸ hq _ _ rfl rfl rfl rfl)
theorem snd_notin_list (hl:s.heap.IsList a items):Snd cx (RV cx) (compareOp .NotIn vx (.ref a)) A W s (notB (vin x l)) :=
  vin_of AO I rx r fun as bs ds d _ y c1 c2 hu e=>Snd.still I fun Q E hq=>(VRel.listReads hl r d).elim fun _ z=>SeqAt.notIn_list_reads z y c1 c2 hu (e ▸ hq _ _ rfl rfl rfl rfl)
theorem snd_in_tup (hl:IsTup s.heap a items):Snd cx (RV cx) (compareOp .In vx (.ref a)) A W s (isB (vin x l)):=by
  obtain ⟨o,e,c,m,q⟩:=hl
  exact vin_of AO I rx r fun as bs ds d z y c1 c2 hu e'=>Snd.still I fun Q E hq=>SeqAt.in_tuple_reads (.tuple e c q z) y c1 c2 hu (e' ▸ hq _ _ rfl rfl rfl rfl)
theorem snd_notin_tup (hl:IsTup s.heap a items):Snd cx (RV cx) (compareOp .NotIn vx (.ref a)) A W s (notB (vin x l)):=by
  obtain ⟨o,e,c,m,q⟩:=hl
  exact vin_of AO I rx r fun as bs ds d z y c1 c2 hu e'=>Snd.still I fun Q E hq=>SeqAt.notIn_tuple_reads (.tuple e c q z) y c1 c2 hu (e' ▸ hq _ _ rfl rfl rfl rfl)
end
noncomputable def DictIn (cx:Cx):Prop:=∀ (A:Around) (W:Wd) (s:Shared) (n:Nat) (x:V) (vx:Value) (j:Nat) (l:List (V × V)),AOk A W.K n -> Inv cx W s.heap -> RV cx W s.heap x vx ->
  j < W.σ.n -> W.σ.get j = .dict l -> Snd cx (RV cx) (compareOp .In vx (.ref (W.φ j))) A W s (hasKey x l)
variable {a b:V} {va vb:Value} (AO:AOk A W.K n) (I:Inv cx W s.heap) (ra:RV cx W s.heap a va) (rb':RV cx W s.heap b vb)
include AO I ra rb'
set_option tactic.hygienic true in
theorem snd_in (DI:DictIn cx):Snd cx (RV cx) (compareOp .In va vb) A W s (doIn a b):=by
  rcases b with _ | _ | _ | _ | _ | _ | _ | _
  case lst l =>
    obtain ⟨y,items,rfl,hl,_,r⟩:=rb'
    exact snd_in_list AO I ra r hl
  case tup l =>
    obtain ⟨y,items,rfl,hl,r⟩:=rb'
    exact snd_in_tup AO I ra r hl
  case obj j =>
    obtain ⟨hj,rfl⟩:=rb'
    exact Snd.colAt I hj (fun l items x=>snd_in_list AO I ra x.rel x.at_.isList) fun l e=>DI A W s n _ _ _ l AO I ra hj e
  all_goals exact Snd.fail
set_option tactic.hygienic true in
theorem snd_nin:Snd cx (RV cx) (compareOp .NotIn va vb) A W s (doNin a b):=by
  rcases b with _ | _ | _ | _ | _ | _ | _ | _
  case lst l =>
    obtain ⟨y,items,rfl,hl,_,r⟩:=rb'
    exact snd_notin_list AO I ra r hl
  case tup l =>
    obtain ⟨y,items,rfl,hl,r⟩:=rb'
    exact snd_notin_tup AO I ra r hl
  case obj j=>exact Snd.listAt I rb' fun l items e _ x=>e ▸ snd_notin_list AO I ra x.rel x.at_.isList
  all_goals exact Snd.fail
set_option tactic.hygienic true in
theorem snd_neq:Snd cx (RV cx) (compareOp .NotEq va vb) A W s (doCmp .ne a b):=by
  rcases a with _ | _ | _ | _ | _ | _ | _ | _
  case obj j =>
    refine Snd.eqv rfl (congrFun listAt_bind _) (Snd.listAt I ra fun l items e _ x=>e ▸ Snd.bindIte fun q=>?_)
    have h:=snd_ne (va:=.ref (W.φ j)) (a:=.lst l) AO I (VRel.listReads x.at_.isList x.rel (and2 (and2 q).1).1) rb'
    refine h.eqv rfl ?_
    show M.ret _ _ = M.bind (if _ then _ else _) _ W.σ
    rw [if_pos q]; rfl
  case g x=>exact Snd.fail.eqv (x:=M.fail) rfl rfl
  all_goals exact Snd.bindIte fun q=>(snd_ne AO I (ra.reads (and2 (and2 q).1).1) rb').eqv rfl (by show M.ret _ _ = M.bind (if _ then _ else _) _ W.σ; rw [if_pos q]; rfl)
omit AO rb' in
set_option tactic.hygienic true in
theorem isNone_of {β:Type} {R:Wd -> Heap -> α -> β -> Prop} {t:Sem β} {f:Bool -> M α} (z:Snd cx R t A W s (f (va == .none))):Snd cx R t A W s (M.bind (isNone a) f):=by
  rcases a with _ | _ | _ | _ | _ | _ | _ | _
  case none=>cases (show va = _ from ra); exact z
  case bool b=>cases (show va = _ from ra); exact z
  case int i=>obtain ⟨t,rfl⟩:=ra; exact z
  case str i=>obtain ⟨t,rfl⟩:=ra; exact z
  case tup l=>obtain ⟨x,i,rfl,_⟩:=ra; exact z
  case lst l=>obtain ⟨x,i,rfl,_⟩:=ra; exact z
  case obj j=>obtain ⟨_,rfl⟩:=ra; exact z
  case g x=>exact Snd.fail
omit AO in
theorem snd_is:Snd cx (RV cx) (compareOp .Is va vb) A W s (doCmp .is a b):=Snd.asNone rb' fun e=>e ▸ isNone_of I ra (Snd.still I fun Q E hq=>is_none (hq _ _ rfl rfl rfl rfl))
omit AO in
theorem snd_isNot:Snd cx (RV cx) (compareOp .IsNot va vb) A W s (doCmp .isNot a b):=Snd.asNone rb' fun e=>e ▸ isNone_of I ra (Snd.still I fun Q E hq=>isNot_none (hq _ _ rfl rfl rfl rfl))
omit AO in
theorem snd_lt:Snd cx (RV cx) (compareOp .Lt va vb) A W s (doCmp .lt a b):=Snd.ints I ra rb' fun i j _ _ e e'=>by subst e e'; exact Snd.still I fun Q E hq=>P.lt_int (hq _ _ rfl rfl rfl rfl)
omit AO in
theorem snd_gt:Snd cx (RV cx) (compareOp .Gt va vb) A W s (doCmp .gt a b):=Snd.ints I ra rb' fun i j _ _ e e'=>by subst e e'; exact Snd.still I fun Q E hq=>P.gt_int (hq _ _ rfl rfl rfl rfl)
omit AO in
theorem snd_ge:Snd cx (RV cx) (compareOp .GtE va vb) A W s (doCmp .ge a b):=Snd.ints I ra rb' fun i j _ _ e e'=>by subst e e'; exact Snd.still I fun Q E hq=>P.ge_int (hq _ _ rfl rfl rfl rfl)
end
end Mine
end
section
namespace Mine
open PySem PySem.W PyProof.Rows
noncomputable def KeyOk {K:Type} [DecidableEq K] (key:V -> Option K):Prop:=∀ a k a' k',key a = some a' -> key k = some k' -> V.eqb a k = decide (a' = k')
theorem beq_dec {α:Type} [DecidableEq α] (a b:α):(a == b) = decide (a = b):=rfl
set_option tactic.hygienic true in
theorem keyS_elim {v:V} {a:Str} (h:keyS? v = some a):∃ s,v = .str s /\ Str.ofString s = a:=by
  rcases v with _ | _ | _ | _ | _ | _ | _ | _
  case str s=>exact ⟨s,rfl,Option.some.inj h⟩
  all_goals exact none_some h
set_option tactic.hygienic true in
theorem keyI_elim {v:V} {a:Int} (h:keyI? v = some a):v = .int a:=by
  rcases v with _ | _ | _ | _ | _ | _ | _ | _
  case int s=>exact congrArg _ (Option.some.inj h)
  all_goals exact none_some h
set_option tactic.hygienic true in
theorem keyT_elim {v:V} {a:List TI} (h:keyT? v = some a):∃ l,v = .tup l /\ tinies? l = some a:=by
  rcases v with _ | _ | _ | _ | _ | _ | _ | _
  case tup l=>exact ⟨l,rfl,h⟩
  all_goals exact none_some h
theorem str_dec (s t:String):(s == t) = decide (Str.ofString s = Str.ofString t):=(str_beq s t).symm.trans (beq_dec _ _)
theorem keyS_ok:KeyOk keyS?:=fun a k a' k' h1 h2=>by
  obtain ⟨s,rfl,rfl⟩:=keyS_elim h1
  obtain ⟨t,rfl,rfl⟩:=keyS_elim h2
  exact str_dec s t
set_option tactic.hygienic true in
theorem keyI_ok:KeyOk keyI?:=fun a k a' k' h1 h2=>by
  cases keyI_elim h1
  cases keyI_elim h2
  exact beq_dec a' k'
set_option tactic.hygienic true in
theorem tiny_elim {v:V} {x:TI} (h:tiny? v = some x):(∃ s,v = .str s /\ x = .str (Str.ofString s)) \/ (∃ i,v = .int i /\ x = .int i) \/ v = .tup [] /\ x = .unit:=by
  rcases v with _ | _ | _ | _ | _ | _ | _ | _
  case str s=>exact .inl ⟨s,rfl,(Option.some.inj h).symm⟩
  case int i=>exact .inr (.inl ⟨i,rfl,(Option.some.inj h).symm⟩)
  case tup l=>cases l with
    | nil=>exact .inr (.inr ⟨rfl,(Option.some.inj h).symm⟩)
    | cons _ _=>exact none_some h
  all_goals exact none_some h
set_option tactic.hygienic true in
theorem TI.dec_str (a b:Str):decide (TI.str a = TI.str b) = decide (a = b):=decide_eq_decide.mpr ⟨fun h=>by cases h; rfl,congrArg _⟩
set_option tactic.hygienic true in
theorem TI.dec_int (a b:Int):decide (TI.int a = TI.int b) = decide (a = b):=decide_eq_decide.mpr ⟨fun h=>by cases h; rfl,congrArg _⟩
theorem tiny_eqb {a b:V} {x y:TI} (h1:tiny? a = some x) (h2:tiny? b = some y):V.eqb a b = decide (x = y):=by
  obtain ⟨s,rfl,rfl⟩ | ⟨i,rfl,rfl⟩ | ⟨rfl,rfl⟩:=tiny_elim h1 <;> obtain ⟨t,rfl,rfl⟩ | ⟨j,rfl,rfl⟩ | ⟨rfl,rfl⟩:=tiny_elim h2
  · exact (str_dec s t).trans (TI.dec_str _ _).symm
  · rfl
  · rfl
  · rfl
  · exact (beq_dec i j).trans (TI.dec_int _ _).symm
  · rfl
  · rfl
  · rfl
  · rfl
theorem tinies_cons {a:V} {as:List V} {x:List TI} (h:tinies? (a :: as) = some x):∃ k r,x = k :: r /\ tiny? a = some k /\ tinies? as = some r:=by
  obtain ⟨k,h1,h2⟩:=Option.bind_eq_some_iff.mp h
  obtain ⟨r,h3,rfl⟩:=Option.map_eq_some_iff.mp h2
  exact ⟨k,r,rfl,h1,h3⟩
theorem dec_cons {a b:TI} {r r':List TI}:decide (a :: r = b :: r') = (decide (a = b) && decide (r = r')):=by
  rw [<- Bool.decide_and]
  exact decide_eq_decide.mpr List.cons_eq_cons
set_option tactic.hygienic true in
theorem tinies_eqb:∀ {a b:List V} {x y:List TI},tinies? a = some x -> tinies? b = some y -> V.eqbs a b = decide (x = y)
  | [],[],_,_,h1,h2=>by cases h1; cases h2; rfl
  | [],_ :: _,_,_,h1,h2=>by cases h1; obtain ⟨_,_,rfl,_⟩:=tinies_cons h2; rfl
  | _ :: _,[],_,_,h2,h1=>by cases h1; obtain ⟨_,_,rfl,_⟩:=tinies_cons h2; rfl
  | _ :: _,_ :: _,_,_,h1,h2=>by
    obtain ⟨_,_,rfl,p1,p2⟩:=tinies_cons h1
    obtain ⟨_,_,rfl,q1,q2⟩:=tinies_cons h2
    exact (congr (congrArg _ (tiny_eqb p1 q1)) (tinies_eqb p2 q2)).trans dec_cons.symm
theorem keyT_ok:KeyOk keyT?:=fun a k a' k' h1 h2=>by
  obtain ⟨s,rfl,h1⟩:=keyT_elim h1
  obtain ⟨t,rfl,h2⟩:=keyT_elim h2
  exact tinies_eqb h1 h2
set_option tactic.hygienic true in
theorem tk_tiny {x:V} (h:x.tk = true):∃ a,tiny? x = some a:=by
  rcases x with _ | _ | _ | _ | _ | _ | _ | _
  case str s=>exact ⟨_,rfl⟩
  case int s=>exact ⟨_,rfl⟩
  case tup l=>cases l with
    | nil=>exact ⟨_,rfl⟩
    | cons _ _=>exact no_tf h
  all_goals exact no_tf h
theorem tk_tinies:∀ {l:List V},l.all V.tk = true -> ∃ ks,tinies? l = some ks
  | [],_=>⟨[],rfl⟩
  | x :: r,h=>(tk_tiny (and2 h).1).elim fun a ha=>(tk_tinies (and2 h).2).elim fun ks hk=>⟨a :: ks,by rw [tinies?,ha,hk]; rfl⟩
section
variable {K:Type} [DecidableEq K] {key:V -> Option K} {R:V -> Value -> Prop}
theorem dlook_hit {k a v:V} {r:List (V × V)} (h:V.eqb a k = true):dlook k ((a,v) :: r) = some v:=if_pos h
theorem dlook_miss {k a v:V} {r:List (V × V)} (h:V.eqb a k = false):dlook k ((a,v) :: r) = dlook k r:=if_neg (by rw [h]; exact Bool.false_ne_true)
theorem valueAt_hit {k:K} {v:Value} {r:List (K × Value)}:valueAt ((k,v) :: r) k = some v:=by
  show ((List.find? _ _).map _) = _
  rw [List.find?_cons_of_pos (by exact decide_eq_true rfl)]; rfl
theorem valueAt_miss {k a:K} {v:Value} {r:List (K × Value)} (h:a ≠ k):valueAt ((a,v) :: r) k = valueAt r k:=by
  show ((List.find? _ _).map _) = _
  rw [List.find?_cons_of_neg (by exact fun z=>h (of_decide_eq_true z))]; rfl
noncomputable def OptRel (R:V -> Value -> Prop) (a:Option V) (b:Option Value):Prop:=match a with | some y=>∃ v,b = some v /\ R y v | none=>b = none
theorem dlook_rel (ok:KeyOk key) {k:V} {k':K} (hk:key k = some k'):∀ {l:List (V × V)} {ps:List (K × Value)},PairsRel R key l ps -> OptRel R (dlook k l) (valueAt ps k')
  | [],_,h=>by cases (show _ = [] from h); exact rfl
  | (a,x) :: l,_,h=>by
    obtain ⟨a',v,r,rfl,e1,e2,e3⟩:=h
    by_cases q:a' = k'
    · rw [dlook_hit ((ok a k a' k' e1 hk).trans (decide_eq_true q)),q,valueAt_hit]
      exact ⟨v,rfl,e2⟩
    · rw [dlook_miss ((ok a k a' k' e1 hk).trans (decide_eq_false q)),valueAt_miss q]
      exact dlook_rel ok hk e3
theorem dput_rel (ok:KeyOk key) {k y:V} {k':K} {v:Value} (hk:key k = some k') (hy:R y v):∀ {l:List (V × V)} {ps:List (K × Value)},PairsRel R key l ps -> (ps.map (·.1)).Nodup -> PairsRel R key (dput k y l) (stored ps k' v)
  | [],_,h,_=>by cases (show _ = [] from h); exact ⟨k',v,[],rfl,hk,hy,rfl⟩
  | (a,x) :: l,_,h,nd=>by
    obtain ⟨a',u,r,rfl,e1,e2,e3⟩:=h
    rw [List.map_cons,List.nodup_cons] at nd
    have e:=ok a k a' k' e1 hk
    show PairsRel R key (if V.eqb a k = true then (a,y) :: l else (a,x) :: dput k y l) _
    by_cases q:a' = k'
    · subst q
      rw [if_pos (e.trans (decide_eq_true rfl))]
      have s:stored ((a',u) :: r) a' v = (a',v) :: r:=by
        unfold stored
        rw [List.any_cons,decide_eq_true rfl,Bool.true_or,if_pos rfl,List.map_cons,if_pos rfl,map_store_of_not_mem r a' v nd.1]
      rw [s]
      exact ⟨a',v,r,rfl,e1,hy,e3⟩
    · rw [if_neg (by rw [e,decide_eq_false q]; exact Bool.false_ne_true)]
      have s:stored ((a',u) :: r) k' v = (a',u) :: stored r k' v:=by
        unfold stored
        rw [List.any_cons,decide_eq_false q,Bool.false_or,List.map_cons,if_neg q]
        split <;> rfl
      rw [s]
      exact ⟨a',u,_,rfl,e1,e2,dput_rel ok hk hy e3 nd.2⟩
set_option tactic.hygienic true in
theorem dput_ne {k y:V} (l:List (V × V)):dput k y l ≠ []:=by
  rcases l with _ | ⟨_,_⟩
  case nil=>exact List.cons_ne_nil _ _
  case cons p r =>
    show (if _ then _ else _) ≠ _
    split <;> exact List.cons_ne_nil _ _
section
variable {cx:Cx} {Kf:Frag} {A:Around} {W:Wd} {s:Shared} {n:Nat} {α β:Type} {t:Sem β} {R:Wd -> Heap -> α -> β -> Prop}
structure KK (cx:Cx) {K:Type} [DecidableEq K] (knd:KeyKind cx.prog cx.w K) (key:V -> Option K):Prop where
  ok:KeyOk key
  is:∀ {φ n h k k' v},key k = some k' -> VRel cx φ n h k v -> knd.is k' v = true
  drel:∀ {h a l ps R},h.DictOf knd a ps -> PairsRel R key l ps -> l ≠ [] -> DRel cx R h a l
theorem DRel.of {h:Heap} {a:Addr} {K:Type} [DecidableEq K] {knd:KeyKind cx.prog cx.w K} {ps:List (K × Value)} {P:Prop} (hd:h.DictOf knd a ps)
    (x:(∃ o es ep,h.get? a = some o /\ o.ExactDict /\ o.data = .dict es ep) -> P):P:=x (hd.imp fun _ x=>x.imp fun _ x=>x.imp fun _ x=>⟨x.1,x.2.1,x.2.2.1⟩)
set_option tactic.hygienic true in
theorem apart {K K':Type} {key:V -> Option K} {key':V -> Option K'} (h:∀ v a b,key v = some a -> key' v = some b -> False) {R:V -> Value -> Prop} {l:List (V × V)} {ps:List (K × Value)} (pr:PairsRel R key l ps) (ne:l ≠ []) {P:Prop} (q:allKeys key' l):P:=by
  rcases l with _ | ⟨_,_⟩
  case nil=>exact absurd rfl ne
  case cons p r =>
    obtain ⟨a',v,_,_,e,_⟩:=pr
    exact (Option.isSome_iff_exists.mp (q p (.head _))).elim fun b hb=>(h _ _ _ e hb).elim
set_option tactic.hygienic true in
theorem noSI (v:V) (a:Str) (b:Int) (h:keyS? v = some a) (h':keyI? v = some b):False:=by obtain ⟨s,rfl,_⟩:=keyS_elim h; cases h'
set_option tactic.hygienic true in
theorem noST (v:V) (a:Str) (b:List TI) (h:keyS? v = some a) (h':keyT? v = some b):False:=by obtain ⟨s,rfl,_⟩:=keyS_elim h; cases h'
set_option tactic.hygienic true in
theorem noIT (v:V) (a:Int) (b:List TI) (h:keyI? v = some a) (h':keyT? v = some b):False:=by cases keyI_elim h; cases h'
theorem kkS:KK cx (strKind cx.prog cx.w) keyS?:=⟨keyS_ok,fun h r=>by obtain ⟨s,rfl,rfl⟩:=keyS_elim h; exact r.elim fun _ e=>e ▸ strKind_is cx.prog cx.w _ _,
  fun hd pr ne=>.of hd fun x=>⟨x,fun _=>⟨_,pr,hd⟩,apart noSI pr ne,apart noST pr ne⟩⟩
set_option tactic.hygienic true in
theorem kkI:KK cx (intKind cx.prog cx.w) keyI?:=⟨keyI_ok,fun h r=>by cases keyI_elim h; exact r.elim fun _ e=>e ▸ decide_eq_true rfl,
  fun hd pr ne=>.of hd fun x=>⟨x,apart (fun v a b h h'=>noSI v b a h' h) pr ne,fun _=>⟨_,pr,hd⟩,apart noIT pr ne⟩⟩
set_option tactic.hygienic true in
theorem same_S {s:String} {v:V} (h:sameKind v (.str s) = true):(keyS? v).isSome = true:=by
  rcases v with _ | _ | _ | _ | _ | _ | _ | _
  case str t=>rfl
  all_goals exact no_tf h
set_option tactic.hygienic true in
theorem same_I {i:Int} {v:V} (h:sameKind v (.int i) = true):(keyI? v).isSome = true:=by
  rcases v with _ | _ | _ | _ | _ | _ | _ | _
  case int t=>rfl
  all_goals exact no_tf h
set_option tactic.hygienic true in
theorem same_T {t:List V} {v:V} (k:v.isKey = true) (h:sameKind v (.tup t) = true):(keyT? v).isSome = true:=by
  rcases v with _ | _ | _ | _ | _ | _ | _ | _
  case tup l=>exact (tk_tinies k).elim fun ks e=>by show (tinies? l).isSome = true; rw [e]; rfl
  all_goals exact no_tf h
theorem fits_S {s:String} {l:List (V × V)} (h:keyFits (.str s) l = true):allKeys keyS? l:=fun p hp=>same_S (and2 (List.all_eq_true.mp (and2 h).2 p hp)).2
theorem fits_I {i:Int} {l:List (V × V)} (h:keyFits (.int i) l = true):allKeys keyI? l:=fun p hp=>same_I (and2 (List.all_eq_true.mp (and2 h).2 p hp)).2
theorem fits_T {t:List V} {l:List (V × V)} (h:keyFits (.tup t) l = true):allKeys keyT? l:=fun p hp=>same_T (and2 (List.all_eq_true.mp (and2 h).2 p hp)).1 (and2 (List.all_eq_true.mp (and2 h).2 p hp)).2
theorem RV.dict {j:Nat} {l:List (V × V)} (I:Inv cx W s.heap) (hj:j < W.σ.n) (e:W.σ.get j = .dict l):W.δ j = W.φ j /\ DRel cx (VRel cx W.φ W.z s.heap) s.heap (W.φ j) l:=by
  have x:=I.obj j hj
  rw [e] at x
  exact x
set_option tactic.hygienic true in
theorem ne_sysm (G:Gd cx Kf) (I:Inv cx W s.heap) {j:Nat} (hj:j < W.σ.n):(W.φ j == sysModules) = false:=G.sysm.elim fun o e =>
  beq_eq_false_iff_ne.mpr fun q=>by have:=(I.fresh j hj).1; rw [q,e] at this; cases this
set_option tactic.hygienic true in
theorem Snd.pkey {x:V} {j:Nat} {l:List (V × V)} {y:M α} (I:Inv cx W s.heap) (hj:j < W.σ.n) (e:W.σ.get j = .dict l)
    (z:∀ {K:Type} [DecidableEq K] (knd:KeyKind cx.prog cx.w K) (key:V -> Option K) (k:K) (ps:List (K × Value)),KK cx knd key -> key x = some k -> PairsRel (VRel cx W.φ W.z s.heap) key l ps -> s.heap.DictOf knd (W.φ j) ps -> Snd cx R t A W s y) (q:(keyFits x l && x.plainKey) = true):Snd cx R t A W s y:=by
  obtain ⟨_,_,dS,dI,_⟩:=RV.dict I hj e
  rcases x with _ | _ | _ | _ | _ | _ | _ | _
  case int i=>exact (dI (fits_I (and2 q).1)).elim fun ps h=>z _ _ i ps kkI rfl h.1 h.2
  case str i=>exact (dS (fits_S (and2 q).1)).elim fun ps h=>z _ _ _ ps kkS rfl h.1 h.2
  all_goals exact no_tf (and2 q).2
set_option tactic.hygienic true in
theorem OptRel.isSome {R:V -> Value -> Prop} {a:Option V} {b:Option Value} (h:OptRel R a b):b.isSome = a.isSome:=by
  rcases a with _ | _
  case none=>cases (show b = none from h); rfl
  case some y=>obtain ⟨v,rfl,_⟩:=h; rfl
set_option tactic.hygienic true in
theorem OptRel.getD {R:V -> Value -> Prop} {a:Option V} {b:Option Value} {d:V} {e:Value} (h:OptRel R a b) (r:R d e):R (a.getD d) (b.getD e):=by
  rcases a with _ | _
  case none=>cases (show b = none from h); exact r
  case some y=>obtain ⟨v,rfl,h⟩:=h; exact h
set_option tactic.hygienic true in
theorem Snd.opt {o:Option α} (z:∀ a,o = some a -> Snd cx R t A W s (M.ret a)):Snd cx R t A W s (ofOpt o):=by
  rcases o with _ | _
  case none=>exact Snd.fail
  case some a=>exact z a rfl
theorem dictIn (G:Gd cx Kf):DictIn cx:=fun A W s n x vx j l AO I rx hj e=>Snd.ite (Snd.pkey I hj e fun knd key k ps kk hk pr hd=>Snd.still I fun Q E hq =>
  wpAny_in_of (kk.is hk rx) (ne_sysm G I hj) hd.mapOf (by rw [(dlook_rel kk.ok hk pr).isSome]; exact hq _ _ rfl rfl rfl rfl))
section
variable {x:V} {vx:Value} {j:Nat} {l:List (V × V)} (I:Inv cx W s.heap) (rx:RV cx W s.heap x vx) (hj:j < W.σ.n) (e:W.σ.get j = .dict l)
include I rx hj e
theorem snd_dict_item (G:Gd cx Kf):Snd cx (RV cx) (getItem (.ref (W.φ j)) vx) A W s (keyAt x l):=Snd.ite (Snd.pkey I hj e fun knd key k ps kk hk pr hd=>Snd.opt fun y hy=>Snd.still I fun Q E hq=>by
  have r:=dlook_rel kk.ok hk pr
  rw [hy] at r
  exact r.elim fun v h=>wpAny_getItem_of (kk.is hk rx) hd.mapOf h.1 (hq _ _ rfl rfl rfl h.2))
noncomputable def Wd.set (W:Wd) (j:Nat) (o:AO):Wd:={ W with σ:=W.σ.set j o }
omit rx e in
set_option tactic.hygienic true in
theorem Snd.turn {β:Type} {t:Sem β} {R:Wd -> Heap -> Unit -> β -> Prop} {o:AO}
    (h:∀ Q E,(∀ v s',Heap.SameBut (W.φ j) s.heap s'.heap \/ Heap.SameBut (W.δ j) s.heap s'.heap -> s'.gens = s.gens -> s'.os = s.os ->
      (Sta W.φ W.z s.heap W.φ W.z s'.heap -> ORel cx (W.set j o) s'.heap j o) -> R (W.set j o) s'.heap () v -> Q v s') -> wpAny cx.m A t Q E s) :
    Snd cx R t A W s (mset j o):=fun Q E hq _ _=>by
  refine h Q E fun v s' hs hg ho hr r=>?_
  have ge:∀ i,i ≠ j -> (W.set j o).σ.get i = W.σ.get i:=fun i hi=>if_neg hi
  have keep:∀ b ob,s.heap.get? b = some ob -> ¬ (b = W.φ j \/ b = W.δ j) -> s'.heap.get? b = some ob:=fun b ob e nb =>
    hs.elim (fun x=>(x.2 b fun q=>nb (.inl q)).trans e) fun x=>(x.2 b fun q=>nb (.inr q)).trans e
  have I':Inv cx (W.set j o) s'.heap:=I.turn hj (fun b=>b = W.φ j \/ b = W.δ j) (fun b q=>q) keep rfl rfl rfl rfl ge fun S=>by rw [show (W.set j o).σ.get j = o from if_pos rfl]; exact hr S
  refine hq v s' () (W.set j o) rfl I' (Ext.turn hj (fun b=>b = W.φ j \/ b = W.δ j) (fun b q=>q) keep rfl rfl rfl rfl (fun a e=>?_) hg ho) rfl r
  obtain ⟨⟨o1,g1,_⟩,o2,g2,_⟩:=(I'.obj j hj).noCell
  cases z:s.heap.get? a with
  | none=>rfl
  | some ob =>
    refine absurd (keep a ob z fun q=>?_) (by rw [e]; exact fun h=>nomatch h)
    rcases q with rfl | rfl
    · cases g1.symm.trans e
    · cases g2.symm.trans e
theorem snd_dict_put {y:V} {vy:Value} (ry:RV cx W s.heap y vy):Snd cx (RU (α:=Unit)) (setItem (.ref (W.φ j)) vx vy) A W s (putKey j l y x):=Snd.ite fun q =>
  Snd.pkey I hj e (fun knd key k ps kk hk pr hd=>Snd.turn I hj fun Q E hq=>by
    obtain ⟨_,_,_,_,_,_,_,_,nd⟩:=id hd
    exact wpAny_setItem_pairs (kk.is hk rx) hd (fun h' hd' hs=>hq _ _ (.inl hs) rfl rfl (fun S=>⟨(RV.dict I hj e).1,kk.drel hd' (dput_rel kk.ok hk (VRel.mono S ry) (pr.mono fun _ _=>VRel.mono S) nd) (dput_ne l)⟩) trivial)
      (by rw [pr.length]; exact Nat.le_trans (Nat.le_of_lt (of_decide_eq_true (and2 q).2)) (by decide))) (and2 q).1
end
theorem ti_of {W:Wd} {h:Heap} {x:V} {k:TI} {v:Value} (h1:tiny? x = some k) (r:RV cx W h x v):TItem h k v:=by
  obtain ⟨s,rfl,rfl⟩ | ⟨i,rfl,rfl⟩ | ⟨rfl,rfl⟩:=tiny_elim h1
  · exact r
  · exact r
  · obtain ⟨a,i,rfl,ht,hi⟩:=r
    have:i = #[]:=Array.toList_eq_nil_iff.mp hi
    exact ⟨a,rfl,this ▸ ht⟩
set_option tactic.hygienic true in
theorem tis_of {W:Wd} {h:Heap}:∀ {t:List V} {ks:List TI} {vs:List Value},tinies? t = some ks -> VRels cx W.φ W.z h t vs -> TItems h ks vs
  | [],_,_,e,r=>by cases e; exact r
  | x :: t,_,_,e,r=>by
    obtain ⟨_,_,rfl,e1,e2⟩:=tinies_cons e
    obtain ⟨v,rest,rfl,rx,rr⟩:=r
    exact ⟨v,rest,rfl,ti_of e1 rx,tis_of e2 rr⟩
theorem td_of {W:Wd} {h:Heap} {t:List V} {ks:List TI} {va:Value} (e:tinies? t = some ks) (r:RV cx W h (.tup t) va):∃ a,va = .ref a /\ IsTDk h ks a :=
  let ⟨a,items,ha,ht,r⟩:=r; ⟨a,ha,⟨items,ht,tis_of e r⟩,tinies_ok e⟩
theorem valueAt_keys (ks:List TI):∀ (xs:List (List TI × Addr × Value)),valueAt (xs.map fun x=>(x.1,x.2.2)) ks = (atKey xs ks).map (·.2)
  | []=>rfl
  | (k,a,v) :: r=>by
    by_cases q:k = ks
    · subst q
      rw [List.map_cons,valueAt_hit]
      unfold atKey
      rw [List.find?_cons_of_pos (by exact decide_eq_true rfl)]; rfl
    · rw [List.map_cons,valueAt_miss q,valueAt_keys ks r]
      unfold atKey
      rw [List.find?_cons_of_neg (by exact fun z=>q (of_decide_eq_true z))]
set_option tactic.hygienic true in
theorem snd_dict_get (G:Gd cx Kf) (AO:AOk A W.K n) {x d:V} {vx vd:Value} {j:Nat} {l:List (V × V)} (I:Inv cx W s.heap) (rx:RV cx W s.heap x vx) (rd:RV cx W s.heap d vd) (hj:j < W.σ.n) (e:W.σ.get j = .dict l) :
    Snd cx (RV cx) (call (.builtin "dict.get") [.ref (W.φ j),vx,vd]) A W s (mGet l x d):=Snd.ite fun q=>by
  have plain:(keyFits x l && x.plainKey) = true -> Snd cx (RV cx) (call (.builtin "dict.get") [.ref (W.φ j),vx,vd]) A W s (M.ret ((dlook x l).getD d)):=Snd.pkey I hj e fun knd key k ps kk hk pr hd=>Snd.still I fun Q E hq =>
    call_meetsIn F.slot_dict_get hd.typeIs F.entry_dict_get (F.args_dict_get_3 _ _ _) (meets_dict_get_default knd _ (kk.is hk rx) (ne_sysm G I hj) vd) ⟨_,hd.mapOf,hq _ _ rfl rfl rfl ((dlook_rel kk.ok hk pr).getD rd)⟩
  rcases x with _ | _ | _ | _ | _ | _ | _ | _
  case int i=>exact plain (Bool.and_eq_true_iff.mpr ⟨q,rfl⟩)
  case str i=>exact plain (Bool.and_eq_true_iff.mpr ⟨q,rfl⟩)
  case tup t =>
    obtain ⟨ks,hks⟩:=tk_tinies (and2 q).1
    obtain ⟨xs,pr,hd⟩:=(RV.dict I hj e).2.2.2.2 (fits_T q)
    obtain ⟨a,rfl,ha⟩:=td_of hks rx
    have h2:=dlook_rel (k:=.tup t) (k':=ks) keyT_ok hks pr
    rw [valueAt_keys] at h2
    exact Snd.still I fun Q E hq=>call_meetsIn F.slot_dict_get hd.typeIs F.entry_dict_get (F.args_dict_get_3 _ _ _) (meetsH_dict_get_default (tdKind cx.prog cx.w) _ _ (ne_sysm G I hj) vd)
      ⟨show A.units + (1 + 4) < cLine from Nat.lt_of_le_of_lt (Nat.add_le_add_left (by decide:1 + 4 <= 800) _) AO.cline,ks,xs,ha,hd,hq _ _ rfl rfl rfl (h2.getD rd)⟩
  all_goals exact no_tf (and2 q).1
end
end
end Mine
end
section
namespace Mine
open PySem PySem.W PyProof.Rows
theorem allS {l:List (V × V)} (h:l.all (fun p=>keyS p.1) = true):allKeys keyS? l:=fun p hp=>by
  have:=List.all_eq_true.mp h p hp
  obtain ⟨k,v⟩:=p
  rcases k with _ | _ | _ | _ | _ | _ | _ | _
  case str=>rfl
  all_goals exact no_tf this
theorem stored_nodup {K:Type} [DecidableEq K] {ps:List (K × Value)} {k:K} {v:Value} (nd:(ps.map (·.1)).Nodup):((stored ps k v).map (·.1)).Nodup:=by
  unfold stored
  by_cases z:(ps.any fun kv=>decide (kv.1 = k)) = true
  · rw [if_pos z,keys_map_store]; exact nd
  · rw [if_neg z,List.map_append,List.nodup_append]
    refine ⟨nd,List.nodup_cons.mpr ⟨List.not_mem_nil,List.nodup_nil⟩,fun b hb c hc q=>z ?_⟩
    obtain ⟨p,hp,rfl⟩:=List.mem_map.mp hb
    exact List.any_eq_true.mpr ⟨p,hp,decide_eq_true (q.trans (List.mem_singleton.mp hc))⟩
theorem merged_rel {K:Type} [DecidableEq K] {key:V -> Option K} {R:V -> Value -> Prop} (ok:KeyOk key):∀ {r:List (V × V)} {qs:List (K × Value)} {l:List (V × V)} {ps:List (K × Value)},PairsRel R key r qs -> PairsRel R key l ps -> (ps.map (·.1)).Nodup ->
    PairsRel R key (r.foldl (fun acc p=>dput p.1 p.2 acc) l) (merged ps qs)
  | [],_,l,ps,h,h',_=>by cases (show _ = [] from h); exact h'
  | (a,x) :: r,_,l,ps,h,h',nd=>by
    obtain ⟨a',v,qs,rfl,e1,e2,e3⟩:=h
    exact merged_rel (r:=r) (qs:=qs) ok e3 (dput_rel ok e1 e2 h' nd) (stored_nodup nd)
theorem foldput_ne:∀ {r l:List (V × V)},l ≠ [] \/ r ≠ [] -> r.foldl (fun acc p=>dput p.1 p.2 acc) l ≠ []
  | [],l,h=>h.elim id fun h=>absurd rfl h
  | (a,x) :: r,l,h=>foldput_ne (r:=r) (.inl (dput_ne l))
section
variable {cx:Cx} {Kf:Frag} {A:Around} {W:Wd} {s:Shared} {n:Nat} {α β:Type} {R:Wd -> Heap -> α -> β -> Prop}
abbrev RNone:Wd -> Heap -> Unit -> Value -> Prop:=fun _ _ _ v=>v = Value.none
theorem snd_dict_update (G:Gd cx Kf) {j i:Nat} {l r:List (V × V)} (I:Inv cx W s.heap) (hj:j < W.σ.n) (hi:i < W.σ.n) (e:W.σ.get j = .dict l) (e':W.σ.get i = .dict r)
    (q:i ≠ j /\ l.length < 100 /\ r.length < 100 /\ r.all (fun p=>keyS p.1) = true /\ l.all (fun p=>keyS p.1) = true /\ 0 < l.length) :
    Snd cx RNone (call (.builtin "dict.update") [.ref (W.φ j),.ref (W.φ i)]) A W s (mset j (.dict (r.foldl (fun acc p=>dput p.1 p.2 acc) l))):=by
  obtain ⟨q1,q2,q3,q4,q5,q6⟩:=q
  obtain ⟨ps,pr,hd⟩:=(RV.dict I hj e).2.2.1 (allS q5)
  obtain ⟨qs,qr,hd'⟩:=(RV.dict I hi e').2.2.1 (allS q4)
  refine Snd.turn I hj fun Q E hq=>?_
  obtain ⟨_,_,_,_,_,_,_,_,nd⟩:=id hd
  exact call_meetsIn F.slot_dict_update hd.typeIs F.entry_dict_update (F.args_dict_update_2 _ _) (meets_dict_update (strKind cx.prog cx.w) _ _ (I.inj i j hi hj q1).1.symm (ne_sysm G I hi))
    ⟨ps,qs,hd,hd',by rw [pr.length,qr.length]; exact Nat.le_trans (Nat.add_le_add (Nat.le_of_lt q2) (Nat.le_of_lt q3)) (by decide),fun h' h1 h2 hs =>
      hq _ _ (.inl hs) rfl rfl (fun S=>⟨(RV.dict I hj e).1,kkS.drel h1 (merged_rel keyS_ok (qr.mono fun _ _=>VRel.mono S) (pr.mono fun _ _=>VRel.mono S) nd) (foldput_ne (.inl (List.ne_nil_of_length_pos q6)))⟩) rfl⟩
theorem LObj.small {W:Wd} {h:Heap} {j:Nat} {l:List V} {items:Array Value} (L:LObj cx W h j l items) (hz:l.length < 100000):items.size <= sizeLine:=by
  rw [L.rel.size]; exact Nat.le_trans (Nat.le_of_lt hz) (by decide)
theorem snd_append {j:Nat} {l:List V} {items:Array Value} {y:V} {vy:Value} (I:Inv cx W s.heap) (hj:j < W.σ.n) (L:LObj cx W s.heap j l items) (ry:RV cx W s.heap y vy) (hz:l.length < 100000) :
    Snd cx RNone (call (.builtin "list.append") [.ref (W.φ j),vy]) A W s (mset j (.list (l ++ [y]))):=Snd.turn I hj fun Q E hq =>
  wpAny_list_append_plain L.at_ (fun h' hl' hs=>hq _ _ (.inl hs) rfl rfl (fun S=>⟨L.δ,_,hl',by rw [Array.toList_push]; exact VRels.append (VRels.mono S L.rel) (VRels.cons (VRel.mono S ry) VRels.nil)⟩) rfl) (L.small hz)
theorem seq_at {i:Int} {n k:Nat} (h:seqIndex? i n = some k):k < n /\ (0 <= i /\ i.toNat = k \/ i < 0 /\ -(n:Int) <= i /\ (i + n).toNat = k):=by
  unfold seqIndex? at h
  by_cases q:i < 0
  · rw [if_pos q] at h
    by_cases z:(decide (0 <= i + n) && decide (i + n < n)) = true
    · cases (if_pos z).symm.trans h
      simp only [Bool.and_eq_true,decide_eq_true_eq] at z
      exact ⟨by lia,.inr ⟨q,by lia,rfl⟩⟩
    · cases (if_neg z).symm.trans h
  · rw [if_neg q] at h
    by_cases z:(decide (0 <= i) && decide (i < n)) = true
    · cases (if_pos z).symm.trans h
      simp only [Bool.and_eq_true,decide_eq_true_eq] at z
      exact ⟨by lia,.inl ⟨z.1,rfl⟩⟩
    · cases (if_neg z).symm.trans h
theorem Snd.item {l:List V} {vs:Array Value} {i:Int} {t:Sem Value} (I:Inv cx W s.heap) (r:VRels cx W.φ W.z s.heap l vs.toList)
    (h:∀ k v (Q:Value -> Shared -> Prop) (E:Value -> Shared -> Prop),-1000000 < i -> i < 1000000 -> seqIndex? i vs.size = some k -> vs[k]? = some v -> Q v s -> wpAny cx.m A t Q E s):Snd cx (RV cx) t A W s (atPlace l i) :=
  Snd.ite fun q=>Snd.opt fun y hy=>Snd.still I fun Q E hq=>by
    obtain ⟨k,hk,hy⟩:=Option.bind_eq_some_iff.mp hy
    obtain ⟨v,hv,rv⟩:=r.get hy
    exact h k v Q E (of_decide_eq_true (and2 q).1) (of_decide_eq_true (and2 q).2) (by rw [r.size]; exact hk) (Array.getElem?_toList.symm.trans hv) (hq _ _ rfl rfl rfl rv)
theorem snd_item_list {a:Addr} {items:Array Value} {l:List V} {i:Int} {t:Tok} (I:Inv cx W s.heap) (hl:s.heap.IsList a items) (r:VRels cx W.φ W.z s.heap l items.toList) :
    Snd cx (RV cx) (getItem (.ref a) (.int i t)) A W s (atPlace l i):=Snd.item I r fun k v Q E h1 h2 hk hv hq=>by
  obtain ⟨_,⟨h0,rfl⟩ | ⟨h0,h3,rfl⟩⟩:=seq_at hk
  · exact wpAny_getItem_list hl h0 (Int.lt_trans h2 (by decide)) hv hq
  · exact wpAny_getItem_list_neg hl h0 h3 (Int.le_of_lt (Int.lt_trans (by decide) h1)) hv hq
theorem snd_item_tup {a:Addr} {items:Array Value} {l:List V} {i:Int} {t:Tok} (I:Inv cx W s.heap) (hl:IsTup s.heap a items) (r:VRels cx W.φ W.z s.heap l items.toList) :
    Snd cx (RV cx) (getItem (.ref a) (.int i t)) A W s (atPlace l i):=Snd.item I r fun k v Q E h1 h2 hk hv hq =>
  getItem_tuple hl (Int.le_of_lt (Int.lt_trans (by decide) h1)) (Int.lt_trans h2 (by decide)) hk hv hq
end
end Mine
end
section
namespace Mine
open PySem PySem.W PyProof.Rows PySem.MeetsSeq
open AutoSeq1 (wpAny_loadPart')
theorem popW (l:Addr) (items:Array Value) (n:Nat) (dd:Option Addr) (sl:Array (Option Value)) (y:Value) (hy:items[items.size - 1]? = some y) (hs1:items.size <= sizeLine) :
    Meets (Builtin.«list.pop» ⟨[.ref l],[]⟩)
      (fun _ R s=>s.heap.get? l = some { cls:=.type "list",dict:=dd,data:=.seq items n,slots:=sl } /\ R (.ok (.ret y)) { s with heap:=s.heap.update l (Obj.mapSeq fun xs=>xs.eraseIdxIfInBounds (items.size - 1)) }) :=
  .of_wp fun prog w A R s h=>by
    obtain ⟨hp,g,d,tk,os⟩:=s; obtain ⟨hl,h⟩:=h
    have hpos:0 < items.size:=by
      rcases Nat.eq_zero_or_pos items.size with h0 | h0
      · simp [h0] at hy
      · exact h0
    have hne:¬ items.isEmpty = true:=by
      intro he; have:items.size = 0:=by simpa using he
      lia
    have hk:seqIndex? (-1) items.size = some (items.size - 1):=by
      rw [PySem.seqIndex_neg (by lia) (by lia)]; congr 1; lia
    wp_walk using wpAny_loadPart' hl
    simp only [hk,hy,Option.bind_some,Option.map_some]
    have hz':(items.eraseIdxIfInBounds (items.size - 1)).size <= sizeLine + 1:=Nat.le_trans (size_erased items _) (Nat.le_succ_of_le hs1)
    wp_walk using (wpAny_updateSeq hl rfl (hz:=hs1) (_hz':=hz')),wpAny_loadPart' hl
    exact ⟨_,rfl,h⟩
theorem extW (l:Addr) (items:Array Value) (n:Nat) (dd:Option Addr) (sl:Array (Option Value)) (b:Addr) (items2:Array Value) (n2:Nat) (dd2:Option Addr) (sl2:Array (Option Value))
    (hc0:¬(!items.isEmpty && Builtin.List.listTooLong (items.size + items2.size)) = true) (hc1:items.size <= sizeLine) (hs2:items.size + items2.size <= sizeLine + 1) :
    Meets (Builtin.«list.extend» ⟨[.ref l,.ref b],[]⟩) (fun _ R s=>s.heap.get? l = some { cls:=.type "list",dict:=dd,data:=.seq items n,slots:=sl } /\ s.heap.get? b = some { cls:=.type "list",dict:=dd2,data:=.seq items2 n2,slots:=sl2 } /\ R (.ok (.ret Value.none)) { s with heap:=s.heap.update l (Obj.mapSeq fun x=>x ++ items2),toks:=s.toks }) :=
  .of_wp fun prog w A R s h=>by
    obtain ⟨hp,g,d,tk,os⟩:=s; obtain ⟨hl,hb,h⟩:=h
    have f1:=AutoSeq1.idx_int; have f2:=AutoSeq1.sub_tuple_tuple; have f3:=AutoSeq1.sub_list_list; have f4:=AutoSeq1.sub_tuple_list; have f5:=AutoSeq1.sub_list_tuple
    have hz':(items ++ items2).size <= sizeLine + 1:=by rw [Array.size_append]; exact hs2
    wp_walk using (wpAny_updateSeq hl rfl (hz:=hc1) (_hz':=hz')),wpAny_loadPart' hl,wpAny_loadPart' hb
    exact ⟨_,rfl,h⟩
theorem extTW (l:Addr) (items:Array Value) (n:Nat) (dd:Option Addr) (sl:Array (Option Value)) (b:Addr) (items2:Array Value) (n2:Nat) (dd2:Option Addr) (sl2:Array (Option Value))
    (hc0:¬(!items.isEmpty && Builtin.List.listTooLong (items.size + items2.size)) = true) (hc1:items.size <= sizeLine) (hs2:items.size + items2.size <= sizeLine + 1) :
    Meets (Builtin.«list.extend» ⟨[.ref l,.ref b],[]⟩) (fun _ R s=>s.heap.get? l = some { cls:=.type "list",dict:=dd,data:=.seq items n,slots:=sl } /\ s.heap.get? b = some { cls:=.type "tuple",dict:=dd2,data:=.seq items2 n2,slots:=sl2 } /\ R (.ok (.ret Value.none)) { s with heap:=s.heap.update l (Obj.mapSeq fun x=>x ++ items2),toks:=s.toks }) :=
  .of_wp fun prog w A R s h=>by
    obtain ⟨hp,g,d,tk,os⟩:=s; obtain ⟨hl,hb,h⟩:=h
    have f1:=AutoSeq1.idx_int; have f2:=AutoSeq1.sub_tuple_tuple; have f3:=AutoSeq1.sub_list_list; have f4:=AutoSeq1.sub_tuple_list; have f5:=AutoSeq1.sub_list_tuple
    have hz':(items ++ items2).size <= sizeLine + 1:=by rw [Array.size_append]; exact hs2
    wp_walk using (wpAny_updateSeq hl rfl (hz:=hc1) (_hz':=hz')),wpAny_loadPart' hl,wpAny_loadPart' hb
    exact ⟨_,rfl,h⟩
theorem mapSeq_plain (f:Array Value -> Array Value) (its:Array Value) (n:Nat):∃ n',Obj.mapSeq f { cls:=.type "list",data:=.seq its n } = { cls:=.type "list",data:=.seq (f its) n' }:=by
  simp [Obj.mapSeq]
theorem updPlain {h:Heap} {a:Addr} {items:Array Value} (hl:h.PlainList a items) (f:Array Value -> Array Value):(h.update a (Obj.mapSeq f)).PlainList a (f items) /\ Heap.SameBut a h (h.update a (Obj.mapSeq f)):=by
  obtain ⟨n,ho⟩:=hl
  obtain ⟨n',e⟩:=mapSeq_plain f items n
  refine ⟨⟨n',?_⟩,Heap.SameBut.update ..⟩
  rw [Heap.get?_update_self _ ho (by rw [e]; rfl),e]
theorem updList {h:Heap} {a:Addr} {items:Array Value} (hl:h.IsList a items) (f:Array Value -> Array Value):(h.update a (Obj.mapSeq f)).IsList a (f items) /\ Heap.SameBut a h (h.update a (Obj.mapSeq f)):=by
  obtain ⟨o,ho,hc,n,hd⟩:=hl
  obtain ⟨n',hd'⟩:=Obj.data_mapSeq hd f
  exact ⟨⟨_,Heap.get?_update_self _ ho (Obj.isFreed_of_seq hd'),(Obj.cls_mapSeq ..).trans hc,n',hd'⟩,Heap.SameBut.update ..⟩
set_option tactic.hygienic true in
theorem eraseLast (items:Array Value):(items.eraseIdxIfInBounds (items.size - 1)).toList = items.toList.dropLast:=by
  unfold Array.eraseIdxIfInBounds
  split
  · rename_i h
    simp only [Array.toList_eraseIdx]
    have:items.size = items.toList.length:=(Array.length_toList).symm
    rw [this,List.eraseIdx_length_sub_one]
  · rename_i h
    have h0:items.size = 0:=by omega
    have:items = #[]:=Array.eq_empty_of_size_eq_zero h0
    subst this; rfl
section
variable {cx:Cx} {Kf:Frag} {A:Around} {W:Wd} {s:Shared} {n:Nat} {α β:Type} {R:Wd -> Heap -> α -> β -> Prop}
theorem VRels.dropLast {φ n h} {l:List V} {vs:List Value} (r:VRels cx φ n h l vs):VRels cx φ n h l.dropLast vs.dropLast:=by
  rw [List.dropLast_eq_take,List.dropLast_eq_take,r.length]
  exact VRels.take _ r
theorem Snd.then {t:Sem β} {R:Wd -> Heap -> Unit -> β -> Prop} {R':Wd -> Heap -> α -> β -> Prop} {x:M Unit} {y:α} (h:Snd cx R t A W s x) (z:∀ W' h v,R W' h () v -> R' W' h y v):Snd cx R' t A W s (M.bind x fun _=>M.ret y):=fun Q E hq he hf =>
  h Q E (fun v s' _ W' e I X k r=>hq v s' y W' (M.bind_ok e) I X k (z _ _ _ r)) (fun ev s' m k c W' e=>he ev s' m k c W' (M.bind_raise e)) (M.bind_ne hf)
set_option tactic.hygienic true in
theorem snd_pop {j:Nat} {l:List V} {items:Array Value} {y:V} (I:Inv cx W s.heap) (hj:j < W.σ.n) (L:LObj cx W s.heap j l items) (hy:l.getLast? = some y) (hz:l.length < 100000) :
    Snd cx (RV cx) (call (.builtin "list.pop") [.ref (W.φ j)]) A W s (M.bind (mset j (.list l.dropLast)) fun _=>M.ret y):=by
  rw [List.getLast?_eq_getElem?] at hy
  obtain ⟨v,hv,rv⟩:=L.rel.get hy
  rw [<- L.rel.size] at hv
  refine Snd.then (R:=fun W' h _ v'=>RV cx W' h y v') (Snd.turn I hj fun Q E hq=>?_) fun _ _ _ r=>r
  obtain ⟨m,ho⟩:=id L.at_
  obtain ⟨u1,u2⟩:=updPlain L.at_ fun xs=>xs.eraseIdxIfInBounds (items.size - 1)
  refine call_meets F.slot_list_pop L.at_.isList.typeIs F.entry_list_pop (F.args_list_pop_1 _) (popW (W.φ j) items m none #[] v (Array.getElem?_toList.symm.trans hv) (L.small hz)) ⟨ho,hq _ _ (.inl u2) rfl rfl (fun S=>⟨L.δ,_,u1,by rw [eraseLast]; exact (VRels.mono S L.rel).dropLast⟩) (VRel.mono (φ:=W.φ) (n:=W.z) ⟨fun a o xs k g d c=>(u2.2 a fun q=>?_).trans g,Nat.le_refl _,fun _ _=>rfl,fun i h1 h2=>absurd h2 (Nat.not_lt.mpr h1),fun _ q=>.inl q⟩ rv)⟩
  rcases c with c | c
  · subst q; cases ho.symm.trans g; exact absurd c (by simp)
  · exact c.2.1 j hj q.symm
set_option tactic.hygienic true in
theorem snd_extend {j:Nat} {l:List V} {items:Array Value} {y:V} {vy:Value} (I:Inv cx W s.heap) (hj:j < W.σ.n) (L:LObj cx W s.heap j l items) (ry:RV cx W s.heap y vy) :
    Snd cx (RV cx) (call (.builtin "list.extend") [.ref (W.φ j),vy]) A W s (mExtend j l y):=by
  obtain ⟨m,ho⟩:=id L.at_
  have fin:∀ {r:List V} {b:Addr} {items2:Array Value},VRels cx W.φ W.z s.heap r items2.toList ->
      (¬(!items.isEmpty && Builtin.List.listTooLong (items.size + items2.size)) = true -> items.size <= sizeLine -> items.size + items2.size <= sizeLine + 1 -> ∀ (Q:Value -> Shared -> Prop) (E:Value -> Shared -> Prop),Q .none { s with heap:=s.heap.update (W.φ j) (Obj.mapSeq fun x=>x ++ items2),toks:=s.toks } -> wpAny cx.m A (call (.builtin "list.extend") [.ref (W.φ j),.ref b]) Q E s) ->
      Snd cx (RV cx) (call (.builtin "list.extend") [.ref (W.φ j),.ref b]) A W s (M.bind (M.ret r) fun r=>if l.length < 100000 && r.length < 100000 then M.bind (mset j (.list (l ++ r))) fun _=>M.ret .none else M.fail):=fun {r b items2} r2 h =>
    Snd.bindRet (Snd.ite fun q=>Snd.then (R:=RNone) (Snd.turn I hj fun Q E hq=>by
      have z:=small L.rel r2 q
      obtain ⟨u1,u2⟩:=updPlain L.at_ fun xs=>xs ++ items2
      exact h (extend_door z) (Nat.le_trans (Nat.le_add_right _ _) z) (Nat.le_succ_of_le z) Q E (hq _ _ (.inl u2) rfl rfl (fun S=>⟨L.δ,_,u1,by rw [Array.toList_append]; exact VRels.append (VRels.mono S L.rel) (VRels.mono S r2)⟩) rfl)) fun _ _ _ r=>r)
  rcases y with _ | _ | _ | _ | l' | l' | _ | _
  case tup =>
    obtain ⟨b,items2,rfl,⟨⟨c2,dd2,data2,sl2⟩,ho2,hc2,m2,hd2⟩,r2⟩:=ry
    cases hc2
    cases hd2
    exact fin r2 fun h1 h2 h3 Q E hq=>call_meets F.slot_list_extend L.at_.isList.typeIs F.entry_list_extend (F.args_list_extend_2 _ _) (extTW (W.φ j) items m none #[] b items2 m2 dd2 sl2 h1 h2 h3) ⟨ho,ho2,hq⟩
  case lst =>
    obtain ⟨b,items2,rfl,⟨⟨c2,dd2,data2,sl2⟩,ho2,hc2,m2,hd2⟩,_,r2⟩:=ry
    cases hc2
    cases hd2
    exact fin r2 fun h1 h2 h3 Q E hq=>call_meets F.slot_list_extend L.at_.isList.typeIs F.entry_list_extend (F.args_list_extend_2 _ _) (extW (W.φ j) items m none #[] b items2 m2 dd2 sl2 h1 h2 h3) ⟨ho,ho2,hq⟩
  all_goals exact Snd.fail
theorem setItem_plain {l:Addr} {items:Array Value} {k:Int} {t:Tok} {v:Value} {Q:Unit -> Shared -> Prop} {E:Value -> Shared -> Prop} (hp:s.heap.PlainList l items)
    (h0:0 <= k) (hfit:k < 2 ^ 63) (hn:k < items.size)
    (hQ:∀ h',h'.PlainList l (items.setIfInBounds k.toNat v) -> Heap.SameBut l s.heap h' -> Q () { s with heap:=h' }) :
    wpAny cx.m A (setItem (.ref l) (.int k t) v) Q E s:=by
  have hl:=hp.isList
  obtain ⟨o,ho,hc,ne,hd⟩:=id hl
  unfold setItem
  try with_reducible refine wpAny_holding ?_
  first | refine wpAny_bind (wpAny_pure ?_) | skip
  refine wpAny_bind (wpAny_sequenceKey hl.typeIs (by decide) ?_)
  refine wpAny_bind (wpAny_callSpecial?_slot (name:=Str.ofString "__setitem__") hl.typeIs slot_list_setitem
    (wpAny_call_entry slot_list_setitem hl.typeIs entry_list_setitem ?_ (args_list_setitem _ _ _)))
  show wpAny _ _ (Builtin.List.listSubscript? (.int k t) >>= _) _ _ s
  refine wpAny_bind (wpAny_listSubscript_int (fitsIndex_of h0 hfit) ?_)
  clear hfit
  obtain ⟨j,rfl⟩:=Int.eq_ofNat_of_zero_le h0
  have hj:j < items.size:=by lia
  have hx':items[j]? = some items[j]:=Array.getElem?_eq_getElem hj
  show wpAny _ _ ((seqItemAt l j >>= fun r=>pure (r.map (j,·))) >>= _) _ _ s
  refine wpAny_bind (wpAny_bind (wpAny_seqItemAt ho hd (wpAny_pure ?_)))
  rw [hx']
  show wpAny _ _ (setSeqItemAt l j v >>= _) _ _ s
  obtain ⟨u1,u2⟩:=updPlain hp (·.setIfInBounds j v)
  refine wpAny_bind (wpAny_setSeqItemAt ho hd ?_)
  first
    | exact wpAny_bind (wpAny_pure (wpAny_pure ⟨.none,rfl,wpAny_pure (hQ _ u1 u2)⟩))
    | exact wpAny_pure ⟨.none,rfl,wpAny_pure (hQ _ u1 u2)⟩
theorem snd_list_put {j:Nat} {l:List V} {items:Array Value} {i:Int} {t:Tok} {y:V} {vy:Value} (I:Inv cx W s.heap) (hj:j < W.σ.n) (L:LObj cx W s.heap j l items) (ry:RV cx W s.heap y vy) :
    Snd cx (RU (α:=Unit)) (setItem (.ref (W.φ j)) (.int i t) vy) A W s (putAt j l y i):=Snd.ite fun hi=>Snd.turn I hj fun Q E hq =>
  setItem_plain L.at_ hi.1 (Int.lt_trans hi.2.1 (Int.lt_trans (Int.ofNat_lt.mpr hi.2.2) (by decide))) (by rw [L.rel.size]; exact hi.2.1) fun h' hl' hs=>hq _ _ (.inl hs) rfl rfl (fun S=>⟨L.δ,_,hl',by rw [Array.toList_setIfInBounds]; exact VRels.set _ (VRels.mono S L.rel) (VRel.mono S ry)⟩) trivial
end
end Mine
end
section
namespace Mine
open PySem PySem.W PyProof.Rows PySem.MeetsSeq
section
variable {cx:Cx} {Kf:Frag} {A:Around} {W:Wd} {s:Shared} {n:Nat} {α β:Type} {R:Wd -> Heap -> α -> β -> Prop}
set_option tactic.hygienic true in
theorem subscripted_op (slice:PySem.Expr) (o i:Value):∃ ops,subscripted slice false o i = PySem.operate ops (getItem o i):=by
  refine cps fun G k=>?_
  cases slice <;> first | exact k ⟨_,rfl⟩ | skip
  rename_i a b c p
  cases c <;> exact k ⟨_,rfl⟩
abbrev subT (value slice:PySem.Expr) (pos:Pos) (va vb:Value):Sem Value:=do standAt pos; let r <- subscripted slice (<- getitemInPython va) va vb; letTemporaryGo value va r; pure r
theorem snd_tail {value slice:PySem.Expr} {pos:Pos} {o i:Value} {x:M V} {T id:String} (hT:s.TypeIs o T) (hl:typeLookup (.type T) "__getitem__" = pure (some (.builtin id)))
    (y:Snd cx (RV cx) (getItem o i) A W s x):Snd cx (RV cx) (subT value slice pos o i) A W s x:=y.step fun Q E h=>by
  refine wpAny_bind (wpAny_standAt (wpAny_bind ?_))
  rw [getitemInPython_of_ne hT.not_modules]
  refine wpAny_bind (wpAny_specialOf hT hl (wpAny_pure (wpAny_bind ?_)))
  obtain ⟨ops,e⟩:=subscripted_op slice o i
  show wpAny cx.m A (subscripted slice false o i) _ E s
  rw [e]
  exact wpAny_operateT (wpAny_mono h (fun r s₃ h₃=>wpAny_bind (wpAny_letTemporaryGo (wpAny_pure h₃))) fun _ _ x=>x)
theorem str_item {x:String} {i:Int} {t u:Tok} (I:Inv cx W s.heap):Snd cx (RV cx) (getItem (.str (Str.ofString x) t) (.int i u)) A W s (strAt x i):=Snd.ite fun q=>Snd.opt fun y hy=>by
  subst q
  obtain ⟨c,hc,rfl⟩:=Option.map_eq_some_iff.mp hy
  obtain ⟨r,h⟩:=List.head?_eq_some_iff.mp hc
  have e:(Str.ofString x).cps = ((c :: r).map Char.toNat).toArray:=by rw [Str.ofString_eq_toList,h]
  have h0:(Str.ofString x).cps[(0:Int).toNat]? = some c.toNat:=by rw [e]; rfl
  have it:Txt.item (Str.ofString x) 0 = Str.ofString (String.ofList [c]):=by
    rw [item_meets (n:=c.toNat) (by decide) h0,Str.ofString_eq_toList,String.toList_ofList]; rfl
  have len:(1:Int) <= (Str.ofString x).length:=by
    show (1:Int) <= ((Str.ofString x).cps.size:Nat)
    rw [e]
    exact Int.ofNat_le.mpr (Nat.succ_le_succ (Nat.zero_le _))
  exact Snd.still I fun Q E hq=>SB.getItem (by decide) (charAt_isSome (by lia) (by lia)) (hq _ _ rfl rfl rfl ⟨s.toks,by rw [it]⟩)
theorem snd_idx {value slice:PySem.Expr} {pos:Pos} {a b:V} {va vb:Value} (G:Gd cx Kf) (I:Inv cx W s.heap) (ra:RV cx W s.heap a va) (rb:RV cx W s.heap b vb) :
    Snd cx (RV cx) (subT value slice pos va vb) A W s (doIdx a b):=by
  rcases a with _ | _ | _ | _ | _ | _ | j | _
  case tup =>
    obtain ⟨x,items,rfl,ht,r⟩:=ra
    exact Snd.asInt rb fun i _ e=>e ▸ snd_tail ht.typeIs slot_tuple_getitem.lookup (snd_item_tup I ht r)
  case lst =>
    obtain ⟨x,items,rfl,ht,_,r⟩:=ra
    exact Snd.asInt rb fun i _ e=>e ▸ snd_tail ht.typeIs F.slot_list_getitem.lookup (snd_item_list I ht r)
  case str =>
    obtain ⟨t,rfl⟩:=ra
    exact Snd.asInt rb fun i _ e=>e ▸ snd_tail (typeIs_str _ _ _) F.slot_str_getitem.lookup (str_item I)
  case obj =>
    obtain ⟨hj,rfl⟩:=ra
    refine Snd.colAt I hj (fun l items L=>Snd.asInt rb fun i _ e=>e ▸ snd_tail L.at_.isList.typeIs F.slot_list_getitem.lookup (snd_item_list I L.at_.isList L.rel)) fun l e=>?_
    obtain ⟨_,⟨o,es,ep,g,x,d⟩,_⟩:=RV.dict I hj e
    exact snd_tail (s:=s) (o:=.ref (W.φ j)) ⟨o,g,x.1⟩ slot_dict_getitem.lookup (snd_dict_item I rb hj e G)
  all_goals exact Snd.fail
theorem snd_slice {x:Addr} {items:Array Value} {l:List V} {l':List V} {vl vu vs:Value} {lo hi st:Option Int} {sl:Addr} (I:Inv cx W s.heap) (hl:s.heap.IsList x items) (r:VRels cx W.φ W.z s.heap l items.toList)
    (hs:s.heap.IsSliceOf sl vl vu vs) (pl:IsPart vl lo) (pu:IsPart vu hi) (ps:IsPart vs st) (h0:st ≠ some 0) (hz:l.length < 100000)
    (e:VRels cx W.φ W.z s.heap l' (slicePick items lo hi st).toList):Snd cx (RV cx) (getItem (.ref x) (.ref sl)) A W s (M.ret (.lst l')):=Snd.grow I fun Q E hq =>
  wpAny_getItem_list_slice hl hs pl pu ps h0 (hq _ _ (push_keeps _ _) (push_le _ _) rfl rfl (made_lst (vs:=(slicePick items lo hi st).toList) I e)) (by rw [r.size]; exact Nat.le_trans (Nat.le_of_lt hz) (by decide))
theorem IsSlice.keep {h h':Heap} {sl:Addr} {a b c:Value} (x:h.IsSliceOf sl a b c) (k:∀ b o,h.get? b = some o -> h'.get? b = some o):h'.IsSliceOf sl a b c:=let ⟨o,e,r⟩:=x; ⟨o,k _ _ e,r⟩
theorem snd_rev_list {x:Addr} {items:Array Value} {l:List V} {sl:Addr} {vs:Value} (I:Inv cx W s.heap) (hl:s.heap.IsList x items) (r:VRels cx W.φ W.z s.heap l items.toList)
    (hs:s.heap.IsSliceOf sl .none .none vs) (pv:IsPart vs (some (-1))):Snd cx (RV cx) (getItem (.ref x) (.ref sl)) A W s (revL l) :=
  Snd.ite fun hz=>snd_slice I hl r hs .none .none pv (by decide) hz (by rw [krv_pick]; simpa using r.reverse)
theorem sliceApplied_rev0 {sl:Addr} {Q:Int × Int × Nat -> Shared -> Prop} {E:Value -> Shared -> Prop} {u:Tok} (hs:s.heap.IsSliceOf sl .none .none (.int (-1) u)) (h:∀ lo,Q (lo,-1,0) s) :
    wpAny cx.m A (Builtin.Slice.sliceApplied (.ref sl) (pure ((0:Nat):Int))) Q E s:=by
  obtain ⟨os,hos,hcs,hds⟩:=id hs
  unfold Builtin.Slice.sliceApplied Builtin.Slice.sliceFields
  refine wpAny_bind (wpAny_bind (wpAny_field hos hds (x:=.none) rfl (wpAny_bind (wpAny_field hos hds (x:=.none) rfl (wpAny_bind (wpAny_field hos hds (x:=.int (-1) u) rfl (wpAny_pure ?_)))))))
  refine wpAny_bind (slicePart_int ?_)
  show wpAny _ _ (if ((-1:Int) == 0) = true then _ else _) _ _ s
  rw [if_neg (by decide)]
  refine wpAny_bind (slicePart_none (wpAny_bind (slicePart_none (wpAny_bind (wpAny_pure ?_)))))
  exact wpAny_pure (h _)
end
end Mine
end
section
namespace Mine
open PySem PySem.W PyProof.Rows PySem.MeetsSeq
section
variable {cx:Cx} {Kf:Frag} {A:Around} {W:Wd} {s:Shared} {n:Nat} {α β γ:Type} {R:Wd -> Heap -> α -> β -> Prop}
theorem Snd.side {m:Sem γ} {f:γ -> Sem β} {x:M α} (P:γ -> Shared -> Prop) (h:∀ (Q:γ -> Shared -> Prop) (E:Value -> Shared -> Prop),(∀ v s',P v s' -> Q v s') -> wpAny cx.m A m Q E s)
    (hP:∀ v s',P v s' -> Ext W s W s') (y:∀ v s',P v s' -> Snd cx R (f v) A W s' x):Snd cx R (m >>= f) A W s x:=fun Q E hq he hf=>by
  refine wpAny_bind (h _ E fun v s' p=>?_)
  exact y v s' p Q E (fun v' s'' a W' e I X k r=>hq v' s'' a W' e I ((hP v s' p).trans' rfl X) k r) (fun ev s'' m k c W' e I X kk ex=>he ev s'' m k c W' e I ((hP v s' p).trans' rfl X) kk (ex.back (hP v s' p))) hf
theorem tup_rev0 {t sl:Addr} {u:Tok} (I:Inv cx W s.heap) (ht:IsTup s.heap t #[]) (hs:s.heap.IsSliceOf sl .none .none (.int (-1) u)) :
    Snd cx (RV cx) (getItem (.ref t) (.ref sl)) A W s (M.ret (.tup [])):=by
  refine Snd.grow I fun Q E hq=>?_
  have fin:Q (.ref s.heap.objs.size) { s with heap:=s.heap.push { cls:=.type "tuple",data:=.seq ([]:List Value).toArray } } :=
    hq _ _ (push_keeps _ _) (push_le _ _) rfl rfl (made_tup VRels.nil)
  obtain ⟨os,hos,hcs,hds⟩:=id hs
  have hTs:s.TypeIs (.ref sl) "slice" := ⟨os,hos,hcs⟩
  have ok:sizeOk (.seq ([]:List Value).toArray):=by show ([]:List Value).toArray.size <= sizeLine; simp
  unfold getItem
  try with_reducible refine wpAny_holding ?_
  first | refine wpAny_bind (wpAny_pure ?_) | skip
  refine wpAny_bind (wpAny_sequenceKey ht.typeIs (by decide) ?_)
  refine wpAny_bind (wpAny_callSpecial?_slot (name:=Str.ofString "__getitem__") ht.typeIs slot_tuple_getitem
    (wpAny_call_entry slot_tuple_getitem ht.typeIs entry_tuple_getitem ?_ (args_tuple_getitem _ _)))
  show wpAny _ _ (Builtin.Tuple.tupleItemsOf (.ref t) >>= _) _ _ s
  refine wpAny_bind (tupleItemsOf_ ht ?_)
  refine wpAny_bind (wpAny_typeOf hTs ?_)
  rw [if_pos (by decide)]
  refine wpAny_bind (sliceApplied_rev0 hs fun lo=>?_)
  show wpAny _ _ (if (lo == 0 && (-1:Int) == 1 && (0:Nat) == (#[]:Array Value).size) = true then _ else _) _ _ s
  rw [if_neg (by rw [show ((-1:Int) == 1) = false from rfl]; simp)]
  first
    | exact wpAny_bind (m:=Builtin.Tuple.tupleExact _) (wpAny_newObj_type (wpAny_pure ⟨_,rfl,wpAny_pure fin⟩) ok)
    | exact wpAny_bind (m:=Builtin.Tuple.tupleExact _) (wpAny_newObj_type (wpAny_bind (wpAny_pure (wpAny_pure ⟨_,rfl,wpAny_pure fin⟩))) ok)
    | exact wpAny_bind (wpAny_bind (m:=Builtin.Tuple.tupleExact _) (wpAny_newObj_type (wpAny_pure (wpAny_pure ⟨_,rfl,wpAny_pure fin⟩)) ok))
    | exact wpAny_bind (wpAny_bind (m:=Builtin.Tuple.tupleExact _) (wpAny_newObj_type (wpAny_pure ⟨_,rfl,wpAny_pure fin⟩) ok))
theorem snd_neg {env:PySem.Env} {i:Nat} {k:Nat} {p p2:Pos} (I:Inv cx W s.heap):Snd cx (RV cx) (eval (.UnaryOp .USub (.Constant (.int i) k p) p2) env) A W s (M.ret (.int (-(i:Int)))) :=
  Snd.still I fun Q E hq=>wpAny_UnaryOp (wpAny_Constant_int (P.neg_int (hq _ _ rfl rfl rfl ⟨_,rfl⟩)))
noncomputable def NewSlice (s:Shared) (a b c:Value) (v:Value) (s':Shared):Prop:=∃ sl,v = .ref sl /\ s'.heap.IsSliceOf sl a b c /\ (∀ b o,s.heap.get? b = some o -> s'.heap.get? b = some o) /\ s.heap.objs.size <= s'.heap.objs.size /\ s'.gens = s.gens /\ s'.os = s.os
theorem NewSlice.ext {a b c v:Value} {s':Shared} (x:NewSlice s a b c v s'):Ext W s W s':=let ⟨_,_,_,k,z,g,o⟩:=x; Ext.keeps k g o
theorem slice_rev {env:PySem.Env} {k:Nat} {p p2 p3:Pos} {Q:Value -> Shared -> Prop} {E:Value -> Shared -> Prop}
    (h:∀ u v s',NewSlice s .none .none (.int (-1) u) v s' -> Q v s'):wpAny cx.m A (eval (.Slice none none (some (.UnaryOp .USub (.Constant (.int 1) k p) p2)) p3) env) Q E s:=by
  refine wpAny_Slice ?_
  rw [evalPart_none,evalPart_some]
  refine wpAny_pure (wpAny_pure (wpAny_UnaryOp (wpAny_Constant_int (P.neg_int ?_))))
  exact h _ _ _ ⟨_,rfl,Heap.IsSliceOf.new ..,push_keeps _ _,push_le _ _,rfl,rfl⟩
theorem snd_doRev {value slice:PySem.Expr} {pos:Pos} {a:V} {va sl:Value} {u:Tok} (I:Inv cx W s.heap) (ra:RV cx W s.heap a va) (hs:∃ x,sl = .ref x /\ s.heap.IsSliceOf x .none .none (.int (-1) u)) :
    Snd cx (RV cx) (subT value slice pos va sl) A W s (doRev a):=by
  obtain ⟨x,rfl,hs⟩:=hs
  rcases a with _ | _ | _ | _ | l | l | j | _
  case tup =>
    obtain ⟨b,items,rfl,ht,r⟩:=ra
    rcases l with _ | _
    · have:items = #[]:=Array.toList_eq_nil_iff.mp r
      exact snd_tail ht.typeIs slot_tuple_getitem.lookup (tup_rev0 I (this ▸ ht) hs)
    · exact Snd.fail
  case lst =>
    obtain ⟨b,items,rfl,ht,_,r⟩:=ra
    exact snd_tail ht.typeIs F.slot_list_getitem.lookup (snd_rev_list I ht r hs (.int _ _))
  case obj=>exact Snd.listAt I ra fun l items e _ L=>e ▸ snd_tail L.at_.isList.typeIs F.slot_list_getitem.lookup (snd_rev_list I L.at_.isList L.rel hs (.int _ _))
  all_goals exact Snd.fail
theorem snd_part {value slice:PySem.Expr} {pos:Pos} {a b:V} {va vb sl vl vu:Value} {f:List V -> Nat -> List V} (I:Inv cx W s.heap) (ra:RV cx W s.heap a va) (rb:RV cx W s.heap b vb) (hs:∃ x,sl = .ref x /\ s.heap.IsSliceOf x vl vu .none)
    (h:∀ (k:Nat) (t:Tok),vb = .int k t -> ∃ lo hi,IsPart vl lo /\ IsPart vu hi /\ ∀ (items:Array Value) (l:List V),VRels cx W.φ W.z s.heap l items.toList -> VRels cx W.φ W.z s.heap (f l k) (slicePick items lo hi none).toList) :
    Snd cx (RV cx) (subT value slice pos va sl) A W s (asLst a fun l=>asInt b fun i=>if 0 <= i && i <= l.length && l.length < 100000 then M.ret (.lst (f l i.toNat)) else M.fail):=by
  obtain ⟨x,rfl,hs⟩:=hs
  refine Snd.asLst fun l e=>?_
  subst e
  obtain ⟨y,items,rfl,ht,_,r⟩:=ra
  refine Snd.asInt rb fun i t e=>Snd.ite fun q=>snd_tail ht.typeIs F.slot_list_getitem.lookup ?_
  obtain ⟨k,rfl⟩:=Int.eq_ofNat_of_zero_le (of_decide_eq_true (and2 (and2 q).1).1)
  obtain ⟨lo,hi,p1,p2,p3⟩:=h k t e
  exact snd_slice I ht r hs p1 p2 .none (fun h=>nomatch h) (of_decide_eq_true (and2 q).2) (p3 items l r)
theorem snd_doUpto {value slice:PySem.Expr} {pos:Pos} {a b:V} {va vb sl:Value} (I:Inv cx W s.heap) (ra:RV cx W s.heap a va) (rb:RV cx W s.heap b vb) (hs:∃ x,sl = .ref x /\ s.heap.IsSliceOf x .none vb .none) :
    Snd cx (RV cx) (subT value slice pos va sl) A W s (doUpto a b):=snd_part (f:=fun l k=>l.take k) I ra rb hs fun k t e=>⟨none,some k,.none,e ▸ .int _ _,fun items l r=>by rw [slicePick_upto']; simpa using r.take k⟩
theorem snd_doFrom {value slice:PySem.Expr} {pos:Pos} {a b:V} {va vb sl:Value} (I:Inv cx W s.heap) (ra:RV cx W s.heap a va) (rb:RV cx W s.heap b vb) (hs:∃ x,sl = .ref x /\ s.heap.IsSliceOf x vb .none .none) :
    Snd cx (RV cx) (subT value slice pos va sl) A W s (doFrom a b):=snd_part (f:=fun l k=>l.drop k) I ra rb hs fun k t e=>⟨some k,none,e ▸ .int _ _,.none,fun items l r=>by rw [slicePick_from']; simpa using r.drop k⟩
theorem VRels.fit {φ:Nat -> Addr} {n:Sz} {h:Heap} {l:List V} {vs:List Value} (r:VRels cx φ n h l vs) (hz:l.length < 100000):vs.length <= sizeLine:=by
  rw [<- r.length]; exact Nat.le_trans (Nat.le_of_lt hz) (by decide)
theorem Snd.new {t:Sem Value} {o:AO} {ob:Obj} (I:Inv cx W s.heap) (h:∀ Q E,Q (.ref s.heap.objs.size) { s with heap:=s.heap.push ob } -> wpAny cx.m A t Q E s)
    (ho:Sta W.φ W.z s.heap (W.push s.heap.objs.size s.heap.objs.size o).φ (W.push s.heap.objs.size s.heap.objs.size o).z (s.heap.push ob) -> ORel cx (W.push s.heap.objs.size s.heap.objs.size o) (s.heap.push ob) W.σ.n o):Snd cx (RV cx) t A W s (mnew o):=fun Q E hq _ _ =>
  h Q E (hq _ _ (.obj W.σ.n) (W.push s.heap.objs.size s.heap.objs.size o) rfl (I.push (push_keeps _ _) (Nat.le_refl _) (Nat.le_refl _) ho) (Ext.push (push_keeps _ _) (Nat.le_refl _) (Nat.le_refl _) (push_le _ _) rfl rfl) rfl ⟨Nat.lt_succ_self _,by rw [Wd.push_new.1]⟩)
theorem snd_lst {vs:List Value} {l:List V} {mt:Bool} (I:Inv cx W s.heap) (r:RVs cx W s.heap l vs) (hz:l.length < 100000) :
    Snd cx (RV cx) (newList vs) A W s (if mt = true then mnew (.list l) else M.ret (.lst l)):=by
  by_cases q:mt = true
  · rw [if_pos q]
    exact Snd.new I (fun Q E h=>newList_wp h (r.fit hz)) fun S=>⟨by rw [Wd.push_new.1,Wd.push_new.2.1],vs.toArray,by rw [Wd.push_new.1]; exact ⟨_,Heap.get?_push_size _ rfl⟩,VRels.mono S r⟩
  · rw [if_neg q]
    exact Snd.grow I fun Q E hq=>newList_wp (hq _ _ (push_keeps _ _) (push_le _ _) rfl rfl (made_lst I r)) (r.fit hz)
theorem snd_tup {vs:List Value} {l:List V} (I:Inv cx W s.heap) (r:RVs cx W s.heap l vs) (hz:l.length < 100000) :
    Snd cx (RV cx) (newTuple vs) A W s (M.ret (.tup l)):=Snd.grow I fun Q E hq=>newTuple_wp (hq _ _ (push_keeps _ _) (push_le _ _) rfl rfl (made_tup r)) (r.fit hz)
end
end Mine
end
section
namespace Mine
open PySem PySem.W PyProof.Rows PySem.MeetsSeq
abbrev emptyDict:Obj:={ cls:=.type "dict",data:=.dict #[] }
noncomputable def PVRel (cx:Cx) (W:Wd) (h:Heap):List (V × V) -> List (Value × Value) -> Prop
  | [],vs=>vs = []
  | (a,b) :: l,vs=>∃ x y r,vs = (x,y) :: r /\ VRel cx W.φ W.z h a x /\ VRel cx W.φ W.z h b y /\ PVRel cx W h l r
section
variable {cx:Cx} {Kf:Frag} {A:Around} {W:Wd} {s:Shared} {n:Nat} {α β γ:Type} {R:Wd -> Heap -> α -> β -> Prop}
theorem PVRel.mono {W W':Wd} {h h':Heap} (S:Sta W.φ W.z h W'.φ W'.z h'):∀ {l:List (V × V)} {vs:List (Value × Value)},PVRel cx W h l vs -> PVRel cx W' h' l vs
  | [],_,x=>x
  | (a,b) :: l,_,x=>x.imp fun _ x=>x.imp fun _ x=>x.imp fun _ x=>⟨x.1,VRel.mono S x.2.1,VRel.mono S x.2.2.1,PVRel.mono S x.2.2.2⟩
theorem PVRel.length {W:Wd} {h:Heap}:∀ {l:List (V × V)} {vs:List (Value × Value)},PVRel cx W h l vs -> vs.length = l.length
  | [],_,x=>by cases (show _ = [] from x); rfl
  | (a,b) :: l,_,x=>x.elim fun _ x=>x.elim fun _ x=>x.elim fun _ x=>by rw [x.1]; exact congrArg (· + 1) x.2.2.2.length
theorem carries {K:Type} [DecidableEq K] {knd:KeyKind cx.prog cx.w K} {key:V -> Option K} (kk:KK cx knd key) {h:Heap}:∀ {l:List (V × V)} {vs:List (Value × Value)},PVRel cx W h l vs -> allKeys key l -> ∃ kvs,Carries knd vs kvs /\ PairsRel (VRel cx W.φ W.z h) key l kvs
  | [],_,x,_=>by cases (show _ = [] from x); exact ⟨[],trivial,rfl⟩
  | (a,b) :: l,_,x,k=>by
    obtain ⟨x,y,r,rfl,p,q,z⟩:=x
    obtain ⟨kvs,c,pr⟩:=carries kk z fun p hp=>k p (.tail _ hp)
    obtain ⟨k',ek⟩:=Option.isSome_iff_exists.mp (k (a,b) (.head _))
    exact ⟨(k',y) :: kvs,⟨kk.is ek p,rfl,c⟩,k',y,kvs,rfl,ek,q,pr⟩
set_option tactic.hygienic true in
theorem carries_T {h:Heap}:∀ {l:List (V × V)} {vs:List (Value × Value)},PVRel cx W h l vs -> allKeys keyT? l -> ∃ xs:List (List TI × Addr × Value),vs = xs.map (fun x=>(.ref x.2.1,x.2.2)) /\ (∀ x ∈ xs,IsTDk h x.1 x.2.1) /\ PairsRel (VRel cx W.φ W.z h) keyT? l (kvsOf xs)
  | [],_,x,_=>by cases (show _ = [] from x); exact ⟨[],rfl,fun x h=>(by cases h),rfl⟩
  | (a,b) :: l,_,x,k=>by
    obtain ⟨x,y,r,rfl,p,q,z⟩:=x
    obtain ⟨xs,rfl,kk,pr⟩:=carries_T z fun p hp=>k p (.tail _ hp)
    obtain ⟨ks,ek⟩:=Option.isSome_iff_exists.mp (k (a,b) (.head _))
    obtain ⟨t,rfl,hk⟩:=keyT_elim ek
    obtain ⟨d,rfl,ht⟩:=td_of hk p
    exact ⟨(ks,d,y) :: xs,rfl,fun x hx=>(List.mem_cons.mp hx).elim (fun e=>e ▸ ht) (kk x),ks,y,kvsOf xs,rfl,ek,q,pr⟩
theorem storeAllH {K:Type} [DecidableEq K] {knd:HeapKind cx.prog cx.w K} {E:Value -> Shared -> Prop} {d:Addr} (hu:knd.room A):∀ (xs acc:List (K × Addr × Value)) (s:Shared) (Q:PUnit -> Shared -> Prop),(∀ x ∈ xs,knd.is s.heap x.1 x.2.1) -> s.heap.DictOfH knd d acc -> acc.length + xs.length <= sizeLine ->
    (∀ h' tk,h'.DictOfH knd d (xs.foldl (fun acc x=>storedH acc x.1 x.2.1 x.2.2) acc) -> Heap.SameBut d s.heap h' -> Q PUnit.unit { s with heap:=h',toks:=tk }) ->
    wpAny cx.m A (PySem.storeAll d (xs.map fun x=>(.ref x.2.1,x.2.2))) Q E s
  | [],acc,s,Q,_,hm,_,hQ=>by
    unfold PySem.storeAll
    rw [List.map_nil,List.forIn_nil]
    exact wpAny_pure (hQ s.heap s.toks hm (Heap.SameBut.refl _ _))
  | (k,a,v) :: xs,acc,s,Q,hc,hm,hsz,hQ=>by
    rw [List.length_cons] at hsz
    unfold PySem.storeAll
    rw [List.map_cons,List.forIn_cons]
    refine wpAny_bind (wpAny_bind (wpAny_dictSet_heap (hsz:=by lia) hu (hc _ (.head _)) hm fun h₁ hm₁ hs₁=>wpAny_pure ?_))
    have hm':=hm
    obtain ⟨o,es,ep,ho,_,hd,_⟩:=hm'
    refine storeAllH hu xs (storedH acc k a v) _ Q (fun x hx=>knd.keeps (hc x (.tail _ hx)) ho hd hs₁) hm₁ ?_ fun h' tk hm' hs'=>?_
    · have:(storedH acc k a v).length <= acc.length + 1:=by unfold storedH; split <;> simp
      lia
    · exact hQ h' tk hm' (hs₁.trans hs')
theorem kvsOf_fold:∀ (xs acc:List (List TI × Addr × Value)),kvsOf (xs.foldl (fun acc x=>storedH acc x.1 x.2.1 x.2.2) acc) = merged (kvsOf acc) (kvsOf xs)
  | [],_=>rfl
  | (k,a,v) :: xs,acc=>by
    rw [List.foldl_cons,kvsOf_fold xs,kvsOf_storedH]
    rfl
theorem drel_T {h:Heap} {a:Addr} {l:List (V × V)} {xs:List (List TI × Addr × Value)} {R:V -> Value -> Prop} (hd:h.DictOfH (tdKind cx.prog cx.w) a xs) (pr:PairsRel R keyT? l (kvsOf xs)) (ne:l ≠ []):DRel cx R h a l :=
  ⟨hd.imp fun _ x=>x.imp fun _ x=>x.imp fun _ x=>⟨x.1,x.2.1,x.2.2.1⟩,apart (fun v a b h h'=>noST v b a h' h) pr ne,apart (fun v a b h h'=>noIT v b a h' h) pr ne,fun _=>⟨xs,pr,hd⟩⟩
theorem dictOf_empty {K:Type} [DecidableEq K] {knd:KeyKind cx.prog cx.w K} {h:Heap} {a:Addr} (e:h.get? a = some emptyDict):h.DictOf knd a [] :=
  ⟨_,#[],0,e,⟨rfl,rfl,rfl⟩,rfl,fun _ he=>absurd he (Array.not_mem_empty _),Pairs.nil,List.nodup_nil⟩
theorem dictOfH_empty {K:Type} [DecidableEq K] {knd:HeapKind cx.prog cx.w K} {h:Heap} {a:Addr} (e:h.get? a = some emptyDict):h.DictOfH knd a [] :=
  ⟨_,#[],_,e,⟨rfl,rfl,rfl⟩,rfl,rfl,fun _ he=>absurd he List.not_mem_nil,List.nodup_nil⟩
theorem drel_nil {h:Heap} {a:Addr} {R:V -> Value -> Prop} (e:h.get? a = some emptyDict):DRel cx R h a [] :=
  ⟨⟨_,_,_,e,⟨rfl,rfl,rfl⟩,rfl⟩,fun _=>⟨[],rfl,dictOf_empty e⟩,fun _=>⟨[],rfl,dictOf_empty e⟩,fun _=>⟨[],rfl,dictOfH_empty e⟩⟩
theorem snd_stored {d:Addr} {ps:List (V × V)} {vs:List (Value × Value)} {Q:PUnit -> Shared -> Prop} {E:Value -> Shared -> Prop} (AO:AOk A W.K n) (hd:s.heap.get? d = some emptyDict) (r:PVRel cx W s.heap ps vs)
    (q:(ps.all (fun p=>keyFits p.1 ps) && decide (ps.length < 15)) = true)
    (h:∀ h' tk,Heap.SameBut d s.heap h' -> (∀ R:V -> Value -> Prop,(∀ y v,VRel cx W.φ W.z s.heap y v -> R y v) -> DRel cx R h' d (foldPut ps)) -> Q () { s with heap:=h',toks:=tk }) :
    wpAny cx.m A (PySem.storeAll d vs) Q E s:=by
  have vl:=r.length
  have hz:vs.length <= sizeLine:=by rw [vl]; exact Nat.le_trans (Nat.le_of_lt (of_decide_eq_true (and2 q).2)) (by decide)
  rcases ps with _ | ⟨p,l⟩
  · cases (show _ = [] from r)
    exact wpAny_pure (h s.heap s.toks (Heap.SameBut.refl _ _) fun R _=>drel_nil hd)
  have fne:foldPut (p :: l) ≠ []:=foldput_ne (.inr (List.cons_ne_nil _ _))
  have hp:=List.all_eq_true.mp (and2 q).1 p (.head _)
  have plain:∀ {K:Type} [DecidableEq K] {knd:KeyKind cx.prog cx.w K} {key:V -> Option K},KK cx knd key -> allKeys key (p :: l) -> wpAny cx.m A (PySem.storeAll d vs) Q E s:=fun {K _ knd key} kk ak=>by
    obtain ⟨kvs,c,pr⟩:=carries kk r ak
    exact wpAny_storeAll (knd:=knd) vs kvs [] s _ c (dictOf_empty hd) (by rw [c.length,List.length_nil,Nat.zero_add]; exact hz) fun h' hm hs=>h _ _ hs fun R hR=>kk.drel hm (merged_rel kk.ok (pr.mono hR) (l:=[]) (ps:=[]) rfl List.nodup_nil) fne
  obtain ⟨k,v⟩:=p
  rcases k with _ | _ | _ | _ | _ | _ | _ | _
  case int=>exact plain kkI (fits_I hp)
  case str=>exact plain kkS (fits_S hp)
  case tup =>
    obtain ⟨xs,rfl,c,pr⟩:=carries_T r (fits_T hp)
    exact storeAllH (knd:=tdKind cx.prog cx.w) (show A.units + 4 < cLine from Nat.lt_of_le_of_lt (Nat.add_le_add_left (by decide:4 <= 800) _) AO.cline) xs [] s _ c (dictOfH_empty hd) (by rw [List.length_map] at hz; rw [List.length_nil,Nat.zero_add]; exact hz) fun h' tk hm hs=>h _ _ hs fun R hR=>drel_T hm (by rw [kvsOf_fold]; exact merged_rel keyT_ok (pr.mono hR) (l:=[]) (ps:=[]) rfl List.nodup_nil) fne
  all_goals exact no_tf (and2 hp).1
theorem fresh_nm (I:Inv cx W s.heap) {a:Addr} (ha:s.heap.objs.size <= a):¬ Mut W a:=fun m=>by
  rcases m with ⟨i,hi,rfl | rfl⟩ | ⟨F,hF,rfl | q⟩
  · exact Nat.not_lt.mpr ha (I.old hi).1
  · exact Nat.not_lt.mpr ha (I.old hi).2
  · exact Nat.not_lt.mpr ha (I.loc_lt hF)
  · obtain ⟨o',v,e',d⟩:=(I.frm.mem F hF).cellAt _ q
    exact Nat.not_lt.mpr ha (Heap.lt_size e')
set_option tactic.hygienic true in
theorem snd_dict {keys:List (Option PySem.Expr)} {values:List PySem.Expr} {env:PySem.Env} {pos:Pos} {x:M (List (V × V))} (AO:AOk A W.K n) (I:Inv cx W s.heap) (hall:keys.all (·.isSome) = true) (hl:keys.length = values.length) (h0:keys ≠ []) (hlen:keys.length <= 15)
    (y:∀ s',s' = { s with heap:=s.heap.push emptyDict } -> Inv cx W s'.heap -> Snd cx (PVRel cx) (evalPairs (pairTrees keys values env pos)) A W s' x) :
    Snd cx (RV cx) (eval (.Dict keys values pos) env) A W s (M.bind x newDict):=fun Q E hq he hf=>by
  refine wpAny_Dict_any hall hl h0 hlen ?_
  have k:=push_keeps s.heap emptyDict
  have X0:Ext W s W { s with heap:=s.heap.push emptyDict }:=Ext.keeps k rfl rfl
  have hd:(s.heap.push emptyDict).get? s.heap.objs.size = some emptyDict:=Heap.get?_push_size _ rfl
  refine y _ rfl (I.keeps k) _ _ (fun vs s₁ ps W₁ e I₁ X₁ K₁ r=>?_) (fun ev s₁ m kk c W₁ e I₁ X₁ K₁ ex=>he _ _ _ _ _ _ (M.bind_raise e) I₁ (X0.trans' rfl X₁) K₁ (Exc.back X0 ex)) (M.bind_ne hf)
  have eb:=M.bind_ok (g:=newDict) e
  rw [eb] at hf
  by_cases q:(ps.all (fun p=>keyFits p.1 ps) && decide (ps.length < 15)) = true
  case neg=>exact absurd (if_neg q:newDict ps = M.fail) fun z=>hf (congrFun z _)
  replace eb:=eb.trans (congrFun (if_pos q:newDict ps = mnew _) _)
  have ne:∀ i,i < W₁.σ.n -> W₁.φ i ≠ s.heap.objs.size /\ W₁.δ i ≠ s.heap.objs.size:=fun i hi=>by
    rcases Nat.lt_or_ge i W.σ.n with z | z
    · rw [(X₁.same i z).1,(X₁.same i z).2]
      exact ⟨Nat.ne_of_lt (I.old z).1,Nat.ne_of_lt (I.old z).2⟩
    · have:=X₁.new i z hi
      exact ⟨fun q=>(none_some (this.1.symm.trans ((congrArg _ q).trans hd))),fun q=>(none_some (this.2.symm.trans ((congrArg _ q).trans hd)))⟩
  have at₁:=X₁.keep _ _ hd (fresh_nm I (Nat.le_refl _))
  refine snd_stored (K₁ ▸ AO) at₁ r q fun h' tk hs D=>?_
  have I₂:Inv cx (W₁.push s.heap.objs.size s.heap.objs.size (.dict (foldPut ps))) h':=I₁.push' (fun b o e n1 _=>(hs.2 b n1).trans e) (fun o e=>by cases at₁.symm.trans e; exact ⟨_,_,rfl⟩) (fun o e=>by cases at₁.symm.trans e; exact ⟨_,_,rfl⟩) (fun o e=>by cases at₁.symm.trans e; decide)
    (fun i hi=>⟨(ne i hi).1,(ne i hi).1,(ne i hi).2,(ne i hi).2⟩) ⟨(I.nothing (Nat.le_refl _)).1,(I.nothing (Nat.le_refl _)).1⟩ (fun F hF=>⟨Nat.ne_of_lt (I.loc_lt (K₁ ▸ hF)),Nat.ne_of_lt (I.loc_lt (K₁ ▸ hF))⟩)
    fun S=>⟨by rw [Wd.push_new.1,Wd.push_new.2.1],by rw [Wd.push_new.1]; exact D _ fun y v=>VRel.mono S⟩
  refine hq _ _ (.obj W₁.σ.n) (W₁.push s.heap.objs.size s.heap.objs.size (.dict (foldPut ps))) eb I₂ ⟨Nat.le_trans X₁.n (Nat.le_succ _),fun i hi=>?_,fun i h1 h2=>?_,fun a e=>?_,fun a q=>(X₁.hid a q).imp id (live_of k _),fun a o e nm'=>(hs.2 a (Nat.ne_of_lt (Heap.lt_size e))).trans (X₁.keep a o (k _ _ e) nm'),X₁.gens,X₁.os⟩ K₁ ⟨Nat.lt_succ_self _,by rw [Wd.push_new.1]⟩
  · have z:=Wd.push_lt (W:=W₁) (a:=s.heap.objs.size) (d:=s.heap.objs.size) (o:=.dict (foldPut ps)) (Nat.lt_of_lt_of_le hi X₁.n)
    exact ⟨z.1.trans (X₁.same i hi).1,z.2.1.trans (X₁.same i hi).2⟩
  · rcases Nat.lt_or_ge i W₁.σ.n with z | z
    · rw [(Wd.push_lt z).1,(Wd.push_lt z).2.1]
      exact ⟨live_of k _ (X₁.new i h1 z).1,live_of k _ (X₁.new i h1 z).2⟩
    · rw [Nat.le_antisymm (Nat.lt_succ_iff.mp h2) z,Wd.push_new.1,Wd.push_new.2.1]; exact ⟨gone (Nat.le_refl _),gone (Nat.le_refl _)⟩
  · by_cases q:a = s.heap.objs.size
    · rw [q]; exact gone (Nat.le_refl _)
    · exact live_of k _ (X₁.live _ ((hs.2 a q).symm.trans e))
theorem snd_dict_nil {env:PySem.Env} {pos:Pos} (I:Inv cx W s.heap):Snd cx (RV cx) (eval (.Dict [] [] pos) env) A W s (mnew (.dict [])) :=
  Snd.new I (fun Q E h=>wpAny_Dict_empty h) fun S=>⟨by rw [Wd.push_new.1,Wd.push_new.2.1],by rw [Wd.push_new.1]; exact drel_nil (Heap.get?_push_size _ rfl)⟩
end
end Mine
end
section
namespace Mine
open PySem PySem.W PyProof.Rows PySem.MeetsSeq
structure ClsOk (Kf:Frag) (c:String) (C:Addr):Prop where
  ga:findIn Kf (.ref C) "__getattribute__" = some (some (.builtin "object.__getattribute__"))
  gt:findIn Kf (.ref C) "__getattr__" = some none
  sa:findIn Kf (.ref C) "__setattr__" = some (some (.builtin "object.__setattr__"))
  over:plainOver Kf C = true
  made:makesIn Kf C = true
  has:(clsIn Kf C).any (·.hasDict) = true
  attrs:∀ a,(attrsOf c).contains a = true -> findIn Kf (.ref C) (Str.ofString a) = some none
  cls:c ∈ classes
noncomputable def biVal:String -> Value
  | "int" => .type "int"
  | "tuple" => .type "tuple"
  | x=>.builtin x
structure Gx (cx:Cx) (Kf:Frag):Prop where
  gd:Gd cx Kf
  hand:∀ x v,cx.glb x = some v -> handedIn v = true
  tf:∃ TF,cx.glb "TypeFault" = some (.ref TF) /\ LoadsG cx.base (Str.ofString "TypeFault") (.ref TF)
  rng:LoadsG cx.base (Str.ofString "range") (.type "range")
  cls:∀ c C,cx.cls c = some C -> ClsOk Kf c C
  gcls:∀ c v,c ∈ classes -> cx.glb c = some v -> ∃ C,v = .ref C /\ cx.cls c = some C
  meth:∀ c C m f,cx.cls c = some C -> cx.fn (c ++ "." ++ m) = some f -> findIn Kf (.ref C) (Str.ofString m) = some (some (.ref f)) /\ typeIn Kf (.ref f) = some (.type "function")
  fnG:∀ x v f,cx.fn x = some f -> cx.glb x = some v -> v = .ref f
  fnAt:∀ x,fnNames.contains x = true -> ∃ f,cx.fn x = some f /\ fnIn Kf f = true
  bi:∀ x v,x ∈ builtins -> cx.glb x = some v -> v = biVal x
noncomputable def Here (W:Wd) (env:PySem.Env) (ρ:Env):Prop:=∃ F r,W.K = F :: r /\ F.env = env /\ F.ρ = ρ
theorem Here.of {W W':Wd} {env:PySem.Env} {ρ:Env} (h:Here W env ρ) (e:W'.K = W.K):Here W' env ρ:=by
  obtain ⟨F,r,h,x⟩:=h; exact ⟨F,r,e.trans h,x⟩
theorem AOk.of {A:Around} {W W':Wd} {n:Nat} (h:AOk A W.K n) (e:W'.K = W.K):AOk A W'.K n:=e ▸ h
noncomputable def SE (cx:Cx) (A:Around) (n:Nat) (env:PySem.Env) (ρ:Env) {α β:Type} (R:Wd -> Heap -> α -> β -> Prop) (t:Sem β) (x:M α):Prop :=
  ∀ W s,Here W env ρ -> AOk A W.K n -> Inv cx W s.heap -> Snd cx R t A W s x
section
variable {cx:Cx} {Kf:Frag} {A:Around} {W:Wd} {s:Shared} {n:Nat} {env:PySem.Env} {ρ:Env} {α β γ ζ:Type} {R:Wd -> Heap -> α -> β -> Prop} {R':Wd -> Heap -> γ -> ζ -> Prop} {C:Oracle}
theorem SE.bind {t:Sem β} {f:β -> Sem ζ} {x:M α} {g:α -> M γ} (h:SE cx A n env ρ R t x)
    (h':∀ W s v a,Here W env ρ -> AOk A W.K n -> Inv cx W s.heap -> R W s.heap a v -> Snd cx R' (f v) A W s (g a)):SE cx A n env ρ R' (t >>= f) (M.bind x g) :=
  fun W s hh AO I=>Snd.bind (h W s hh AO I) fun v s' a W' I' X k r=>h' W' s' v a (hh.of k) (AO.of k) I' r
abbrev SV (cx:Cx) (A:Around) (n:Nat) (env:PySem.Env) (ρ:Env) (t:Sem Value) (x:M V):Prop:=SE cx A n env ρ (RV cx) t x
abbrev SB (cx:Cx) (A:Around) (n:Nat) (env:PySem.Env) (ρ:Env) (t:Sem Bool) (x:M Bool):Prop:=SE cx A n env ρ RB t x
theorem SE.two {t t':Sem Value} {f:Value -> Value -> Sem ζ} {x y:M V} {g:V -> V -> M γ} (h:SV cx A n env ρ t x) (h2:SV cx A n env ρ t' y)
    (h':∀ W s va vb a b,Here W env ρ -> AOk A W.K n -> Inv cx W s.heap -> RV cx W s.heap a va -> RV cx W s.heap b vb -> Snd cx R' (f va vb) A W s (g a b)) :
    SE cx A n env ρ R' (t >>= fun va=>holding [va] t' >>= fun vb=>f va vb) (M.bind x fun a=>M.bind y fun b=>g a b) :=
  fun W s hh AO I=>Snd.bind (h W s hh AO I) fun va s' a W' I' X k r=>Snd.bind (Snd.hold (h2 W' s' (hh.of k) (AO.of k) I')) fun vb s'' b W'' I'' X' k' r' =>
    h' W'' s'' va vb a b ((hh.of k).of k') ((AO.of k).of k') I'' (VRel.ext I' X' r) r'
theorem SE.grd {e:Ex} {c:Bool} {t:Sem Value} (h:c = true -> SV cx A n env ρ t (ev C ρ e)):SV cx A n env ρ t (ev C ρ (grd c e)):=by
  rcases c with _ | _
  · exact fun W s hh AO I=>Snd.fail
  · exact h rfl
theorem sv_dead {t:Sem Value}:SV cx A n env ρ t (ev C ρ .dead):=fun W s hh AO I=>Snd.fail
theorem okS_eq {y:Str} (h:okS y = true):Str.ofString (toS y) = y:=beq_iff_eq.mp h
theorem okN_eq {y:Str} (h:okN y = true):Str.ofString (toS y) = y:=okS_eq (and2 (and2 h).1).1
theorem okN_0 {y:Str} (h:okN y = true):toS y ≠ ".0" := bne_iff_ne.mp (and2 (and2 h).1).2
theorem okN_d {y:Str} (h:okN y = true):(y == ("__debug__" : Str)) = false:=(Bool.not_eq_true' _).mp (and2 h).2
theorem se_const {c:Const} {k:Nat} {p:Pos}:SV cx A n env ρ (eval (.Constant c k p) env) (ev C ρ (trK c)):=by
  rcases c with _ | _ | _ | _ | _ | t | _ | _
  case none=>exact fun W s hh AO I=>Snd.still I fun Q E hq=>wpAny_pure (hq _ _ rfl rfl rfl rfl)
  case bool=>exact fun W s hh AO I=>Snd.still I fun Q E hq=>wpAny_pure (hq _ _ rfl rfl rfl rfl)
  case int=>exact fun W s hh AO I=>Snd.still I fun Q E hq=>wpAny_Constant_int (hq _ _ rfl rfl rfl rint)
  case str=>exact SE.grd fun h W s hh AO I=>Snd.still I fun Q E hq=>Calls.Constant_str (hq _ _ rfl rfl rfl ⟨_,by rw [okS_eq h]⟩)
  all_goals exact sv_dead
theorem kindOf_sc (env:PySem.Env) (x:Str):env.kindOf x = env.scope.names.lookup x:=rfl
theorem kindVar_elim {sc:Sc} {y:Str} (h:kindVar sc y = true):sc.lookup y = some .local \/ sc.lookup y = some .cell:=by
  unfold kindVar at h
  generalize sc.lookup y = o at h
  rcases o with _ | k
  · exact no_tf h
  · rcases k with _ | _ | _ | _ | _
    · exact .inl rfl
    · exact .inr rfl
    all_goals exact no_tf h
theorem isGlob_eq {sc:Sc} {y:Str} (h:isGlob sc y = true):sc.lookup y = some .globalImplicit:=by
  unfold isGlob at h
  generalize sc.lookup y = o at h
  rcases o with _ | k
  · exact no_tf h
  · rcases k with _ | _ | _ | _ | _ <;> first | rfl | exact no_tf h
theorem isLoc_eq {sc:Sc} {y:Str} (h:isLoc sc y = true):sc.lookup y = some .local:=by
  unfold isLoc at h
  generalize sc.lookup y = o at h
  rcases o with _ | k
  · exact no_tf h
  · rcases k with _ | _ | _ | _ | _ <;> first | rfl | exact no_tf h
theorem SE.opt {β:Type} {o:Option β} {f:β -> Ex} {t:Sem Value} (h:∀ c,o = some c -> SV cx A n env ρ t (ev C ρ (f c))):SV cx A n env ρ t (ev C ρ (optE o f)):=by
  rcases o with _ | c
  · exact sv_dead
  · exact h c rfl
theorem load_var {x:String} {V:V} {p:Pos} {Q:Value -> Shared -> Prop} {E:Value -> Shared -> Prop} (I:Inv cx W s.heap) (hh:Here W env ρ) (h0:x ≠ ".0") (hd:(Str.ofString x == ("__debug__" : Str)) = false) (hk:kindVar env.scope.names (Str.ofString x) = true) (e:ρ x = some V) (h:∀ v,VRel cx W.φ W.z s.heap V v -> Q v s):wpAny cx.m A (eval (.Name (Str.ofString x) p) env) Q E s:=by
  obtain ⟨F,r,hK,rfl,rfl⟩:=hh
  have FO:=I.frm.mem F (by rw [hK]; exact .head _)
  refine wpAny_Name ?_ hd
  refine cps fun G9 k9=>?_
  obtain ⟨m,hn,hv⟩:=FO.ns
  have at_:=hv x V h0 e
  rcases kindVar_elim hk with q | q
  · obtain ⟨v,e1,e2⟩:=at_.1 q
    exact k9 (wpAny_loadName_local FO.kind q hn e1 (h v e2))
  · obtain ⟨c,o,v,e1,e2,e3,e4⟩:=at_.2 (.inl q)
    exact k9 (wpAny_loadName_cell FO.kind q e1 ⟨o,e2,e3⟩ (h v e4))
theorem loadsG {x:Str} {v:Value} {Q:Value -> Shared -> Prop} {E:Value -> Shared -> Prop} (I:Inv cx W s.heap) (hh:Here W env ρ) (L:LoadsG cx.base x v) (h:Q v s):wpAny cx.m A (loadGlobal env x) Q E s:=by
  obtain ⟨F,r,hK,rfl,rfl⟩:=hh
  have FO:=I.frm.mem F (by rw [hK]; exact .head _)
  have st:∀ a m,cx.base.Ns a m -> s.heap.Ns a m:=fun a m ⟨o,es,ep,e,r⟩=>⟨o,es,ep,I.base _ _ e,r⟩
  rcases L with ⟨mg,h1,h2⟩ | ⟨mg,mb,h1,h2,h3,h4⟩
  · exact Calls.loadGlobal_global (by rw [FO.glob]; exact st _ _ h1) h2 h
  · exact Calls.loadGlobal_builtin (by rw [FO.glob]; exact st _ _ h1) h2 (by rw [FO.bi]; exact st _ _ h3) h4 h
theorem name_global {x:Str} {v:Value} {p:Pos} {Q:Value -> Shared -> Prop} {E:Value -> Shared -> Prop} (I:Inv cx W s.heap) (hh:Here W env ρ) (hk:env.scope.names.lookup x = some .globalImplicit) (hd:(x == ("__debug__" : Str)) = false) (L:LoadsG cx.base x v) (h:Q v s) :
    wpAny cx.m A (eval (.Name x p) env) Q E s:=by
  have hkind:env.scope.kind = .function:=by
    obtain ⟨F,r,hK,rfl,rfl⟩:=hh
    exact (I.frm.mem F (by rw [hK]; exact .head _)).kind
  exact Calls.Name_function_global hkind hk (loadsG I hh L h) hd
theorem se_name (G:Gx cx Kf) {y:Str} {p:Pos}:SV cx A n env ρ (eval (.Name y p) env) (ev C ρ (trName env.scope.names y)):=SE.grd fun h=>by
  have e:=okN_eq h
  by_cases hk:kindVar env.scope.names y = true
  · rw [if_pos hk]
    exact fun W s hh AO I=>Snd.opt fun V e'=>Snd.still I fun Q E hq=>by rw [<- e]; exact load_var I hh (okN_0 h) (by rw [e]; exact okN_d h) (by rw [e]; exact hk) e' fun v r=>hq _ _ rfl rfl rfl r
  · rw [if_neg hk]
    refine SE.grd fun hx W s hh AO I=>?_
    obtain ⟨v,L,rv⟩:=G.gd.name (toS y) (List.contains_iff_mem.mp (and2 hx).2)
    exact Snd.still I fun Q E hq=>name_global I hh (isGlob_eq (and2 hx).1) (okN_d h) (e ▸ L) (hq _ _ rfl rfl rfl (rv _ _ _ I.base))
set_option tactic.hygienic true in
theorem snd_bin {op:Operator} {o:Op} (h:opOf op = some o) {a b:V} {va vb:Value} (I:Inv cx W s.heap) (ra:RV cx W s.heap a va) (rb:RV cx W s.heap b vb):Snd cx (RV cx) (binaryOp op va vb) A W s (doBin o a b):=by
  rcases op with _ | _ | _ | _ | _ | _ | _ | _ | _ | _ | _ | _ | _ <;> first | exact none_some h | cases h
  · exact snd_add I ra rb
  · exact snd_sub I ra rb
  · exact snd_mul I ra rb
  · exact snd_mod I ra rb
  · exact snd_pow I ra rb
  · exact snd_fdiv I ra rb
theorem se_bin {op:Operator} {l r:PySem.Expr} {p:Pos} {a b:Ex} (h1:SV cx A n env ρ (eval l env) (ev C ρ a)) (h2:SV cx A n env ρ (eval r env) (ev C ρ b)) :
    SV cx A n env ρ (eval (.BinOp l op r p) env) (ev C ρ (optE (opOf op) fun c=>.bin c a b)):=SE.opt fun c h=>by
  rw [arm_eval_BinOp]
  exact SE.two h1 h2 fun W s va vb a b hh AO I ra rb=>Snd.stand (Snd.operate (snd_bin h I ra rb))
theorem marked_plain {op:CmpOp} {e:PySem.Expr} {t:Sem Value} (h:notSet e = true):markedEach [op] [e] [t] = [t]:=by
  have:behindInMarks op e = false:=by rcases e with _ | _ | _ | _ | _ | _ | _ | _ | _ | _ | _ | _ | _ | _ | _ | _ | _ | _ | _ | _ | _ | _ | _ | _ | _ | _ | _ <;> first | rfl | exact no_tf h
  simp only [markedEach,markedBehindIn,this]
set_option tactic.hygienic true in
theorem snd_cmp (G:Gx cx Kf) {op:CmpOp} {o:Cm} (h:cmOf op = some o) {a b:V} {va vb:Value} (AO:AOk A W.K n) (I:Inv cx W s.heap) (ra:RV cx W s.heap a va) (rb:RV cx W s.heap b vb):Snd cx (RV cx) (compareOp op va vb) A W s (doCmp o a b):=by
  rcases op with _ | _ | _ | _ | _ | _ | _ | _ | _ | _ <;> first | exact none_some h | cases h
  · exact snd_eq AO I ra rb
  · exact snd_neq AO I ra rb
  · exact snd_lt I ra rb
  · exact snd_gt I ra rb
  · exact snd_ge I ra rb
  · exact snd_is I ra rb
  · exact snd_isNot I ra rb
  · exact snd_in AO I ra rb (dictIn G.gd)
  · exact snd_nin AO I ra rb
theorem se_cmp (G:Gx cx Kf) {op:CmpOp} {c:Cm} (h:cmOf op = some c) {l r:PySem.Expr} {p:Pos} {x y:M V} (hs:notSet r = true) (h1:SV cx A n env ρ (eval l env) x) (h2:SV cx A n env ρ (eval r env) y) :
    SV cx A n env ρ (eval (.Compare l [op] [r] p) env) (M.bind x fun a=>M.bind y fun b=>doCmp c a b):=by
  rw [arm_eval_Compare,arm_evalEach_cons,arm_evalEach_nil,marked_plain hs]
  exact SE.two h1 h2 fun W s va vb a b hh AO I ra rb=>Snd.stand (Snd.operate (snd_cmp G h AO I ra rb))
theorem snd_truthy {v:V} {vv:Value} (I:Inv cx W s.heap) (r:RV cx W s.heap v vv):Snd cx RB (truthy vv) A W s (truth v):=by
  rcases v with _ | b | _ | _ | _ | _ | _ | _
  case bool=>exact Snd.still I fun Q E hq=>(show vv = _ from r) ▸ wpAny_truthy_bool (hq _ _ rfl rfl rfl rfl)
  all_goals exact Snd.fail
noncomputable def ST (cx:Cx) (A:Around) (n:Nat) (env:PySem.Env) (ρ:Env) (e:PySem.Expr) (x:M Bool):Prop:=SB cx A n env ρ (isTrue e env (eval e env)) x
theorem se_tplain {e:PySem.Expr} {x:M V} (h:SV cx A n env ρ (eval e env) x) (ht:isTrue e env (eval e env) = (do let v <- eval e env; standAt e.pos; holding [v] (truthy v))):ST cx A n env ρ e (M.bind x truth):=by
  unfold ST
  rw [ht]
  exact SE.bind h fun W s v a hh AO I r=>Snd.stand (Snd.hold (snd_truthy I r))
theorem se_tcmp (G:Gx cx Kf) {op:CmpOp} {c:Cm} (h:cmOf op = some c) {l r:PySem.Expr} {p:Pos} {x y:M V} (hs:notSet r = true) (h1:SV cx A n env ρ (eval l env) x) (h2:SV cx A n env ρ (eval r env) y):ST cx A n env ρ (.Compare l [op] [r] p) (M.bind (M.bind x fun a=>M.bind y fun b=>doCmp c a b) truth):=by
  unfold ST
  rw [arm_isTrue_Compare,arm_evalEach_cons,arm_evalEach_nil,marked_plain hs,M.assoc]
  refine SE.bind h1 fun W s v a hh AO I ra=>?_
  rw [M.assoc]
  exact Snd.bind (Snd.hold (h2 W s hh AO I)) fun vb s' b W' I' X' k r'=>Snd.stand (Snd.bind (Snd.operate (snd_cmp G h (AO.of k) I' (VRel.ext I X' ra) r')) fun v s' z W' I' X' k r=>Snd.hold (snd_truthy I' r))
theorem se_not {e:PySem.Expr} {p:Pos} {x:M V} (h:SV cx A n env ρ (eval e env) x):SV cx A n env ρ (eval (.UnaryOp .Not e p) env) (M.bind (M.bind x truth) fun b=>M.ret (.bool (!b))):=by
  rw [arm_eval_UnaryOp,M.assoc]
  refine SE.bind h fun W s v a hh AO I r=>Snd.stand (Snd.hold ?_)
  refine Snd.eqv (t:=holding [v] (truthy v >>= fun b=>pure (Value.bool (!b)))) rfl rfl (Snd.hold ?_)
  exact Snd.bind (snd_truthy I r) fun b s' b' W' I' X k e=>Snd.pure I' (by cases (show b' = b from e); rfl)
theorem se_tnot {e:PySem.Expr} {p:Pos} {x:M V} (h:ST cx A n env ρ e (M.bind x truth)):ST cx A n env ρ (.UnaryOp .Not e p) (M.bind (M.bind (M.bind x truth) fun b=>M.ret (.bool (!b))) truth):=by
  unfold ST
  rw [arm_isTrue_UnaryOp,M.assoc]
  exact SE.bind h fun W s v a hh AO I r=>Snd.pure I (by cases (show a = v from r); rfl)
set_option tactic.hygienic true in
theorem SE.ite {t:Sem Bool} {a b:Sem β} {x:M Bool} {ya yb:M α} (h:SB cx A n env ρ t x) (ha:SE cx A n env ρ R a ya) (hb:SE cx A n env ρ R b yb) :
    SE cx A n env ρ R (t >>= fun c=>if c = true then a else b) (M.bind x fun c=>if c = true then ya else yb):=by
  refine SE.bind h fun W s v c hh AO I r=>?_
  cases (show c = v from r)
  cases v
  · exact hb W s hh AO I
  · exact ha W s hh AO I
theorem se_ite {c a b:PySem.Expr} {p:Pos} {x:M Bool} {ya yb:M V} (h:ST cx A n env ρ c x) (ha:SV cx A n env ρ (eval a env) ya) (hb:SV cx A n env ρ (eval b env) yb) :
    SV cx A n env ρ (eval (.IfExp c a b p) env) (M.bind x fun c=>if c = true then ya else yb):=by
  rw [arm_eval_IfExp]; exact SE.ite h ha hb
theorem ite_bind {α β:Type} {c:Bool} {x y:M α} {f:α -> M β}:M.bind (if c = true then x else y) f = if c = true then M.bind x f else M.bind y f:=by rcases c with _ | _ <;> rfl
theorem se_tite {c a b:PySem.Expr} {p:Pos} {x:M Bool} {ya yb:M V} (h:ST cx A n env ρ c x) (ha:ST cx A n env ρ a (M.bind ya truth)) (hb:ST cx A n env ρ b (M.bind yb truth)) :
    ST cx A n env ρ (.IfExp c a b p) (M.bind (M.bind x fun c=>if c = true then ya else yb) truth):=by
  unfold ST
  rw [arm_isTrue_IfExp,M.assoc,show (fun c=>M.bind (if c = true then ya else yb) truth) = fun c:Bool=>if c = true then M.bind ya truth else M.bind yb truth from funext fun _=>ite_bind]
  exact SE.ite h ha hb
noncomputable def Both (cx:Cx) (A:Around) (n:Nat) (env:PySem.Env) (ρ:Env) (C:Oracle) (f:PySem.Expr -> Ex):Prop:=∀ e,SV cx A n env ρ (eval e env) (ev C ρ (f e)) /\ ST cx A n env ρ e (M.bind (ev C ρ (f e)) truth)
variable {f:PySem.Expr -> Ex}
theorem se_and (H:Both cx A n env ρ C f) (p:Pos):∀ l:List PySem.Expr,SV cx A n env ρ (boolOp p .And (evalEach l env)) (evAnd C ρ (l.map f))
  | []=>fun W s hh AO I=>Snd.fail
  | [e]=>(H e).1
  | e :: d :: r=>SE.bind (H e).1 fun W s v a hh AO I q=>Snd.stand (Snd.bind (Snd.hold (snd_truthy I q)) fun b s' b' W' I' X k e=>by
    cases (show b' = b from e)
    rcases b with _ | _
    · exact Snd.pure I' (VRel.ext I X q)
    · exact se_and H p (d :: r) W' s' (hh.of k) (AO.of k) I')
theorem se_or (H:Both cx A n env ρ C f) (p:Pos):∀ l:List PySem.Expr,SV cx A n env ρ (boolOp p .Or (evalEach l env)) (evOr C ρ (l.map f))
  | []=>fun W s hh AO I=>Snd.fail
  | [e]=>(H e).1
  | e :: d :: r=>SE.bind (H e).1 fun W s v a hh AO I q=>Snd.stand (Snd.bind (Snd.hold (snd_truthy I q)) fun b s' b' W' I' X k e=>by
    cases (show b' = b from e)
    rcases b with _ | _
    · exact se_or H p (d :: r) W' s' (hh.of k) (AO.of k) I'
    · exact Snd.pure I' (VRel.ext I X q))
theorem bool_bind {x:M Bool}:(M.bind x fun b=>if b = true then M.ret true else M.ret false) = x:=by
  funext σ
  unfold M.bind
  rcases x σ with ⟨b,s⟩ | ⟨_,_,_,_⟩ | _ <;> try rfl
  rcases b with _ | _ <;> rfl
theorem and_tr {x y:M V}:M.bind (M.bind x fun v=>M.bind (truth v) fun b=>if b = true then y else M.ret v) truth = M.bind (M.bind x truth) fun b=>if b = true then M.bind y truth else M.ret false:=by
  rw [M.assoc,M.assoc]
  refine congrArg _ (funext fun v=>?_)
  rcases v with _ | b | _ | _ | _ | _ | _ | _ <;> try rfl
  rcases b with _ | _ <;> rfl
theorem or_tr {x y:M V}:M.bind (M.bind x fun v=>M.bind (truth v) fun b=>if b = true then M.ret v else y) truth = M.bind (M.bind x truth) fun b=>if b = true then M.ret true else M.bind y truth:=by
  rw [M.assoc,M.assoc]
  refine congrArg _ (funext fun v=>?_)
  rcases v with _ | b | _ | _ | _ | _ | _ | _ <;> try rfl
  rcases b with _ | _ <;> rfl
theorem all_and {e:PySem.Expr} {r:List PySem.Expr}:allTrue .And (e :: r) env = (isTrue e env (eval e env) >>= fun c=>if c = true then allTrue .And r env else pure false):=by
  rw [arm_allTrue_cons]
  exact congrArg _ (funext fun c=>by rcases c with _ | _ <;> rfl)
theorem all_or {e:PySem.Expr} {r:List PySem.Expr}:allTrue .Or (e :: r) env = (isTrue e env (eval e env) >>= fun c=>if c = true then pure true else allTrue .Or r env):=by
  rw [arm_allTrue_cons]
  exact congrArg _ (funext fun c=>by rcases c with _ | _ <;> rfl)
theorem SB.pure {b:Bool}:SB cx A n env ρ (Pure.pure b) (M.ret b):=fun W s hh AO I=>Snd.pure I rfl
theorem se_tand (H:Both cx A n env ρ C f):∀ l:List PySem.Expr,SB cx A n env ρ (allTrue .And l env) (M.bind (evAnd C ρ (l.map f)) truth)
  | []=>fun W s hh AO I=>Snd.fail
  | [e]=>by
    rw [all_and,<- bool_bind (x:=M.bind (evAnd C ρ ([e].map f)) truth)]
    exact SE.ite (H e).2 SB.pure SB.pure
  | e :: d :: r=>by
    rw [all_and,List.map_cons,List.map_cons,show evAnd C ρ (f e :: f d :: r.map f) = M.bind (ev C ρ (f e)) fun v=>M.bind (truth v) fun b=>if b = true then evAnd C ρ (f d :: r.map f) else M.ret v from rfl,and_tr]
    exact SE.ite (H e).2 (se_tand H (d :: r)) SB.pure
theorem se_tor (H:Both cx A n env ρ C f):∀ l:List PySem.Expr,SB cx A n env ρ (allTrue .Or l env) (M.bind (evOr C ρ (l.map f)) truth)
  | []=>fun W s hh AO I=>Snd.fail
  | [e]=>by
    rw [all_or,<- bool_bind (x:=M.bind (evOr C ρ ([e].map f)) truth)]
    exact SE.ite (H e).2 SB.pure SB.pure
  | e :: d :: r=>by
    rw [all_or,List.map_cons,List.map_cons,show evOr C ρ (f e :: f d :: r.map f) = M.bind (ev C ρ (f e)) fun v=>M.bind (truth v) fun b=>if b = true then M.ret v else evOr C ρ (f d :: r.map f) from rfl,or_tr]
    exact SE.ite (H e).2 SB.pure (se_tor H (d :: r))
theorem se_idx (G:Gx cx Kf) {l r:PySem.Expr} {p:Pos} {x y:M V} (h1:SV cx A n env ρ (eval l env) x) (h2:SV cx A n env ρ (eval r env) y) :
    SV cx A n env ρ (eval (.Subscript l r p) env) (M.bind x fun a=>M.bind y fun b=>doIdx a b):=by
  rw [arm_eval_Subscript]
  exact SE.two h1 h2 fun W s va vb a b hh AO I ra rb=>snd_idx G.gd I ra rb
theorem slice_new {a b c:Value} {Q:Value -> Shared -> Prop} {E:Value -> Shared -> Prop} (h:∀ v s',NewSlice s a b c v s' -> Q v s'):wpAny cx.m A (newFields "slice" [a,b,c]) Q E s :=
  wpAny_newObj_type (h _ _ ⟨_,rfl,Heap.IsSliceOf.new ..,push_keeps _ _,push_le _ _,rfl,rfl⟩)
theorem VRel.keeps {W:Wd} {h h':Heap} (k:∀ b o,h.get? b = some o -> h'.get? b = some o) {y:V} {v:Value} (r:VRel cx W.φ W.z h y v):VRel cx W.φ W.z h' y v:=VRel.mono (Sta.of_keeps k) r
theorem se_rev {l:PySem.Expr} {k:Nat} {p p2 p3 p4:Pos} {x:M V} (h1:SV cx A n env ρ (eval l env) x) :
    SV cx A n env ρ (eval (.Subscript l (.Slice none none (some (.UnaryOp .USub (.Constant (.int 1) k p) p2)) p3) p4) env) (M.bind x fun a=>doRev a):=by
  rw [arm_eval_Subscript]
  refine SE.bind h1 fun W s va a hh AO I ra=>?_
  refine Snd.side (fun v s'=>∃ u,NewSlice s .none .none (.int (-1) u) v s') (fun Q E hq=>wpAny_holding (slice_rev fun u v s' z=>hq _ _ ⟨u,z⟩)) (fun v s' ⟨u,z⟩=>z.ext) fun v s' ⟨u,z⟩=>?_
  obtain ⟨sl,rfl,hs,k,_⟩:=z
  exact snd_doRev (I.keeps k) (VRel.keeps k ra) ⟨sl,rfl,hs⟩
set_option tactic.hygienic true in
theorem M.bind_ret {x:M α} {σ:Store}:(M.bind x M.ret) σ = x σ:=by
  unfold M.bind M.ret
  cases x σ <;> rfl
abbrev RSlU (cx:Cx):Wd -> Heap -> V -> Value -> Prop:=fun W h b sl=>∃ x vb,sl = .ref x /\ h.IsSliceOf x .none vb .none /\ RV cx W h b vb
abbrev RSlF (cx:Cx):Wd -> Heap -> V -> Value -> Prop:=fun W h b sl=>∃ x vb,sl = .ref x /\ h.IsSliceOf x vb .none .none /\ RV cx W h b vb
theorem newSlice_snd {a c vb:Value} {b:V} {P:Wd -> Heap -> V -> Value -> Prop} (I:Inv cx W s.heap) (rb:RV cx W s.heap b vb) {d e f:Value} (hP:∀ h' x,h'.IsSliceOf x d e f -> RV cx W h' b vb -> P W h' b (.ref x)) :
    Snd cx P (newFields "slice" [d,e,f]) A W s (M.ret b) :=
  Snd.grow I fun Q E hq=>slice_new fun v s' ⟨x,e,hs,k,z,g,o⟩=>hq v s' k z g o (by subst e; exact hP _ _ hs (VRel.keeps k rb))
theorem slice_upto {i:PySem.Expr} {p:Pos} {y:M V} (h:SV cx A n env ρ (eval i env) y):SE cx A n env ρ (RSlU cx) (eval (.Slice none (some i) none p) env) y:=fun W s hh AO I=>by
  rw [arm_eval_Slice]
  refine Snd.eqv (x:=M.bind y M.ret) rfl M.bind_ret.symm ?_
  refine Snd.step (fun Q E h=>wpAny_bind (wpAny_pure h)) (Snd.bind (Snd.hold (h W s hh AO I)) fun vb s' b W' I' X k rb=>?_)
  refine Snd.step (fun Q E h=>wpAny_bind (wpAny_holding (wpAny_pure h))) ?_
  exact newSlice_snd (c:=.none) (a:=.none) I' rb fun h' x hs r=>⟨x,vb,rfl,hs,r⟩
theorem slice_from {i:PySem.Expr} {p:Pos} {y:M V} (h:SV cx A n env ρ (eval i env) y):SE cx A n env ρ (RSlF cx) (eval (.Slice (some i) none none p) env) y:=fun W s hh AO I=>by
  rw [arm_eval_Slice]
  refine Snd.eqv (x:=M.bind y M.ret) rfl M.bind_ret.symm ?_
  refine (Snd.bind (h W s hh AO I) fun vb s' b W' I' X k rb=>?_)
  refine Snd.step (fun Q E h=>wpAny_bind (wpAny_holding (wpAny_pure h))) ?_
  refine Snd.step (fun Q E h=>wpAny_bind (wpAny_holding (wpAny_pure h))) ?_
  exact newSlice_snd (c:=.none) (a:=.none) I' rb fun h' x hs r=>⟨x,vb,rfl,hs,r⟩
theorem se_upto {l i:PySem.Expr} {p3 p4:Pos} {x y:M V} (h1:SV cx A n env ρ (eval l env) x) (h2:SV cx A n env ρ (eval i env) y) :
    SV cx A n env ρ (eval (.Subscript l (.Slice none (some i) none p3) p4) env) (M.bind x fun a=>M.bind y fun b=>doUpto a b):=by
  rw [arm_eval_Subscript]
  refine SE.bind h1 fun W s va a hh AO I ra=>?_
  refine Snd.bind (Snd.hold (slice_upto h2 W s hh AO I)) fun sl s' b W' I' X k ⟨x,vb,e,hs,rb⟩=>?_
  subst e
  exact snd_doUpto I' (VRel.ext I X ra) rb ⟨x,rfl,hs⟩
theorem se_from {l i:PySem.Expr} {p3 p4:Pos} {x y:M V} (h1:SV cx A n env ρ (eval l env) x) (h2:SV cx A n env ρ (eval i env) y) :
    SV cx A n env ρ (eval (.Subscript l (.Slice (some i) none none p3) p4) env) (M.bind x fun a=>M.bind y fun b=>doFrom a b):=by
  rw [arm_eval_Subscript]
  refine SE.bind h1 fun W s va a hh AO I ra=>?_
  refine Snd.bind (Snd.hold (slice_from h2 W s hh AO I)) fun sl s' b W' I' X k ⟨x,vb,e,hs,rb⟩=>?_
  subst e
  exact snd_doFrom I' (VRel.ext I X ra) rb ⟨x,rfl,hs⟩
end
end Mine
end
section
namespace Mine
open PySem PySem.W PyProof.Rows PySem.MeetsSeq
theorem isStr_refKey {es:Array DictEntry} (k:StrKeys es):es.toList.any (·.refKey) = false:=by
  rw [List.any_eq_false]
  intro e he
  obtain ⟨n,t,q⟩:=k e (Array.mem_toList_iff.mp he)
  simp [DictEntry.refKey,q]
set_option tactic.hygienic true in
theorem lookIn_ns {h:Heap} {a:Addr} {m:Str -> Option Value} (x:h.Ns a m):∃ o,h.get? a = some o /\ ∀ name,lookIn name o = some (m name):=by
  obtain ⟨o,es,ep,e,d,k,f⟩:=x
  refine ⟨o,e,fun name=>?_⟩
  unfold lookIn
  rw [d]
  have:=f name
  unfold nsFind findBy at this
  rw [<- Array.find?_toList] at this
  dsimp only
  split
  · rename_i q; rw [q] at this; rw [<- this]; rfl
  · rename_i q
    rw [q] at this
    rw [isStr_refKey k,<- this]; rfl
section
variable {cx:Cx} {Kf:Frag} {A:Around} {W:Wd} {s:Shared} {n:Nat} {env:PySem.Env} {ρ:Env} {α β γ ζ:Type} {R:Wd -> Heap -> α -> β -> Prop} {R':Wd -> Heap -> γ -> ζ -> Prop} {C:Oracle}
theorem Gx.In (G:Gx cx Kf) (I:Inv cx W s.heap):Kf.In s.heap:=fun a o e=>I.base a o (G.gd.X a o e)
theorem inst_at {j:Nat} {c:String} {l:List (String × V)} (I:Inv cx W s.heap) (hj:j < W.σ.n) (e:W.σ.get j = .inst c l):∃ C m od,InstR cx W s.heap j c l C m /\ InstAt s.heap (W.φ j) (instO C (W.δ j)) C (some od) /\ ∀ name,lookIn name od = some (m name):=by
  have x:=I.obj j hj
  rw [e] at x
  exact x.elim fun C x=>x.elim fun m x=>(lookIn_ns x.ns.ns).elim fun od y=>⟨C,m,od,x,⟨x.get,rfl,rfl,y.1⟩,y.2⟩
theorem alook_mem {a:String} {y:V}:∀ {l:List (String × V)},alook a l = some y -> ∃ p ∈ l,p.1 = a
  | (b,v) :: r,h=>by
    simp only [alook] at h
    by_cases q:b = a
    · exact ⟨_,.head _,q⟩
    · rw [if_neg q] at h
      obtain ⟨p,hp,e⟩:=alook_mem h
      exact ⟨p,.tail _ hp,e⟩
theorem VRel.hand (G:Gx cx Kf) {φ n h} {y:V} {v:Value} (r:VRel cx φ n h y v):handedIn v = true:=by
  rcases y with _ | _ | _ | _ | _ | _ | _ | _
  · exact (show v = _ from r) ▸ rfl
  · exact (show v = _ from r) ▸ rfl
  · exact r.elim fun _ e=>e ▸ rfl
  · exact r.elim fun _ e=>e ▸ rfl
  · exact r.elim fun _ r=>r.elim fun _ r=>r.1 ▸ rfl
  · exact r.elim fun _ r=>r.elim fun _ r=>r.1 ▸ rfl
  · exact r.2 ▸ rfl
  · exact G.hand _ _ r
theorem find_own {C:Addr} {od:Obj} {name:Str} {v:Value} {c:String} (K:ClsOk Kf c C) (h1:findIn Kf (.ref C) name = some none) (h2:lookIn name od = some (some v)):findObj Kf C (some od) name = some (.value v):=by
  obtain ⟨cd,hc,hd⟩:=any_some K.has
  unfold findObj
  rw [hc,h1]
  simp only [Option.bind_some,PySem.W.ownOf,hd,if_true,h2]
theorem snd_attr (G:Gx cx Kf) {j:Nat} {c a:String} {l:List (String × V)} {expr:Bool} (I:Inv cx W s.heap) (hj:j < W.σ.n) (e:W.σ.get j = .inst c l) :
    Snd cx (RV cx) (getAttr (.ref (W.φ j)) (Str.ofString a) expr) A W s (ofOpt (alook a l)):=Snd.opt fun y hy=>Snd.still I fun Q E hq=>by
  refine cps fun H k=>?_
  obtain ⟨C,m,od,x,IA,hl⟩:=inst_at I hj e
  obtain ⟨p,hp,rfl⟩:=alook_mem hy
  obtain ⟨v,hv,r⟩:=x.some _ _ hy
  have K:=G.cls c C x.cls
  exact k (get_value (G.In I) IA K.ga (find_own K (K.attrs _ (x.fits p hp)) ((hl _).trans (congrArg _ hv))) (r.hand G) (hq _ _ rfl rfl rfl r))
set_option tactic.hygienic true in
theorem base_plain {o:PySem.Expr} {attr:Str} {env:PySem.Env} {t:Sem Value} (h:plainBase o = true):attributeBase o attr env t = t:=by
  refine cps fun G k=>?_
  rcases o with _ | _ | _ | _ | _ | _ | _ | _ | _ | _ | _ | _ | _ | _ | _ | _ | _ | _ | _ | _ | _ | _ | _ | _ | _ | _ | _ <;> first | exact k rfl | skip
  rename_i f as ks p
  rcases as with _ | _
  · exact no_tf h
  · rcases f with _ | _ | _ | _ | _ | _ | _ | _ | _ | _ | _ | _ | _ | _ | _ | _ | _ | _ | _ | _ | _ | _ | _ | _ | _ | _ | _ <;> exact k rfl
theorem Snd.instAt {t:Sem β} {j:Nat} {g:String -> List (String × V) -> M α} (hj:j < W.σ.n) (z:∀ c l,W.σ.get j = .inst c l -> Snd cx R t A W s (g c l)):Snd cx R t A W s (instAt j g):=Snd.get hj fun o e=>by
  rcases o with _ | _ | ⟨c,l⟩
  case inst=>exact z c l e
  all_goals exact Snd.fail
theorem snd_doAttr (G:Gx cx Kf) {o:V} {vo:Value} {a:String} {expr:Bool} (I:Inv cx W s.heap) (ro:RV cx W s.heap o vo):Snd cx (RV cx) (getAttr vo (Str.ofString a) expr) A W s (doAttr o a) :=
  Snd.asObj ro fun j e hj=>e ▸ Snd.instAt hj fun c l e=>snd_attr G I hj e
theorem Snd.letGo {b:PySem.Expr} {o:Value} {t:Sem Value} {x:M α} {R:Wd -> Heap -> α -> Value -> Prop} (y:Snd cx R t A W s x):Snd cx R (t >>= fun r=>letTemporaryGo b o r >>= fun _=>Pure.pure r) A W s x :=
  y.step fun Q E h=>wpAny_bind (wpAny_mono h (fun r s₃ h₃=>wpAny_bind (wpAny_letTemporaryGo (wpAny_pure h₃))) fun _ _ x=>x)
theorem se_attr (G:Gx cx Kf) {e:PySem.Expr} {b:Str} {p:Pos} {x:M V} (ha:okS b = true) (hp:plainBase e = true) (h:SV cx A n env ρ (eval e env) x) :
    SV cx A n env ρ (eval (.Attribute e b p) env) (M.bind x fun o=>doAttr o (toS b)):=by
  rw [arm_eval_Attribute,base_plain hp]
  exact SE.bind h fun W s v o hh AO I r=>Snd.stand (Snd.letGo (Snd.hold (by have:=snd_doAttr (A:=A) (a:=toS b) (expr:=true) G I r; rw [okS_eq ha] at this; exact this)))
theorem alook_aput {a b:String} {y:V}:∀ l:List (String × V),alook b (aput a y l) = if b = a then some y else alook b l
  | []=>by
    simp only [aput,alook]
    by_cases q:b = a
    · rw [if_pos q,if_pos q.symm]
    · rw [if_neg q,if_neg (Ne.symm q)]
  | (c,v) :: r=>by
    simp only [aput]
    by_cases q:c = a
    · subst q
      rw [if_pos rfl]
      simp only [alook]
      by_cases z:b = c
      · rw [if_pos z,if_pos z.symm]
      · rw [if_neg z,if_neg (Ne.symm z),if_neg (Ne.symm z)]
    · rw [if_neg q]
      simp only [alook,alook_aput r]
      by_cases z:c = b
      · subst z; rw [if_pos rfl,if_pos rfl,if_neg q]
      · rw [if_neg z,if_neg z]
set_option tactic.hygienic true in
theorem aput_mem {a:String} {y:V}:∀ {l:List (String × V)} {p:String × V},p ∈ aput a y l -> p.1 = a \/ ∃ q ∈ l,q.1 = p.1
  | [],p,h=>by simp only [aput,List.mem_singleton] at h; subst h; exact .inl rfl
  | (c,v) :: r,p,h=>by
    simp only [aput] at h
    by_cases q:c = a
    · rw [if_pos q] at h
      cases h with
      | head=>exact .inl q
      | tail _ h=>exact .inr ⟨p,.tail _ h,rfl⟩
    · rw [if_neg q] at h
      cases h with
      | head=>exact .inr ⟨_,.head _,rfl⟩
      | tail _ h =>
        rcases aput_mem h with z | ⟨q,hq,z⟩
        · exact .inl z
        · exact .inr ⟨q,.tail _ hq,z⟩
theorem attrs_len (c:String):(attrsOf c).length <= 20:=by unfold attrsOf; split <;> simp
set_option tactic.hygienic true in
theorem aput_inst {W:Wd} {h h':Heap} {j:Nat} {c a:String} {l:List (String × V)} {C:Addr} {m:Str -> Option Value} {y:V} {vy:Value} (x:InstR cx W h j c l C m) (ha:(attrsOf c).contains a = true) (ry:RV cx W h y vy) (ne:W.φ j ≠ W.δ j) (hs:Heap.SameBut (W.δ j) h h') (hn:h'.Ns1 (W.δ j) fun x=>if x = Str.ofString a then some vy else m x)
    (hw:PySem.Within (fun x=>if x = Str.ofString a then some vy else m x) ((attrsOf c).map Str.ofString)) (S:Sta W.φ W.z h W.φ W.z h'):InstR cx (W.set j (.inst c (aput a y l))) h' j c (aput a y l) C fun x=>if x = Str.ofString a then some vy else m x where
  cls:=x.cls
  get:=(hs.2 _ ne).trans x.get
  ns:=hn
  some b V q:=by
    rw [alook_aput] at q
    by_cases z:b = a
    · rw [if_pos z] at q
      exact ⟨vy,if_pos (congrArg _ z),VRel.mono S (Option.some.inj q ▸ ry)⟩
    · rw [if_neg z] at q
      exact (x.some b V q).imp fun v r=>⟨(if_neg fun q'=>z (ofString_inj q')).trans r.1,VRel.mono S r.2⟩
  none b q:=by
    rw [alook_aput] at q
    by_cases z:b = a
    · rw [if_pos z] at q; cases q
    · rw [if_neg z] at q
      exact (if_neg fun q'=>z (ofString_inj q')).trans (x.none b q)
  fits p hp:=(aput_mem hp).elim (fun z=>z ▸ ha) fun z=>z.elim fun q z=>z.2 ▸ x.fits q z.1
  within:=hw
theorem snd_setA (G:Gx cx Kf) {j:Nat} {c a:String} {l:List (String × V)} {y:V} {vy:Value} (I:Inv cx W s.heap) (hj:j < W.σ.n) (e:W.σ.get j = .inst c l) (ry:RV cx W s.heap y vy) :
    Snd cx (RU (α:=Unit)) (setAttr (.ref (W.φ j)) (Str.ofString a) vy) A W s (if (attrsOf c).contains a then mset j (.inst c (aput a y l)) else M.fail):=Snd.ite fun ha=>Snd.turn I hj fun Q E hq=>by
  refine cps fun H k=>?_
  obtain ⟨C,m,od,x,IA,hl⟩:=inst_at I hj e
  have K:=G.cls c C x.cls
  obtain ⟨cd,hc,hd'⟩:=any_some K.has
  refine k (set_plain (G.In I) IA K.sa (osa_open (s:={ s with toks:=s.toks + 1 }) (G.In I) IA K.over (r:=none) (by unfold takerIn; rw [K.attrs a ha]; rfl) fun b=>?_))
  refine wpAny_bind (wpAny_pure (wpAny_bind (wpAny_bind (wpAny_loadPart (s:={ s with toks:=s.toks + 1 }) x.get (wpAny_bind (Looks.here (s:={ s with toks:=s.toks + 1 }) (looks_clsIn (G.In I) hc) ?_))))))
  rw [hd']
  refine wpAny_pure (a:=some (W.δ j)) (wpAny_bind (wpAny_pure (wpAny_bind (wpAny_nsSet1 (s:={ s with toks:=s.toks + 1 }) x.ns fun h' hn' hs=>?_))))
  have hw':PySem.Within (fun x=>if x = Str.ofString a then some vy else m x) ((attrsOf c).map Str.ofString):=fun z hz=>by
    by_cases q:z = Str.ofString a
    · exact q ▸ List.mem_map_of_mem (List.contains_iff_mem.mp ha)
    · exact x.within z fun w=>hz ((if_neg q).trans w)
  refine cps fun H k=>?_
  obtain ⟨oD,esD,epD,hoD,hdD,hcD⟩:=hn'.count hw'
  exact k (wpAny_bind (wpAny_lookBehind hoD (by rw [hdD]; exact pastItsLine_dict (by rw [List.length_map] at hcD; exact Nat.le_trans hcD (Nat.le_trans (attrs_len c) (by decide)))) (wpAny_pure (hq _ _ (.inr hs) rfl rfl (fun S=>⟨C,_,aput_inst x ha ry (I.inst_ne hj e) hs hn' hw' S⟩) trivial))))
theorem snd_doSetA (G:Gx cx Kf) {o:V} {vo:Value} {a:String} {y:V} {vy:Value} (I:Inv cx W s.heap) (ro:RV cx W s.heap o vo) (ry:RV cx W s.heap y vy):Snd cx (RU (α:=Unit)) (setAttr vo (Str.ofString a) vy) A W s (doSetA o a y) :=
  Snd.asObj ro fun j e hj=>e ▸ Snd.instAt hj fun c l e=>snd_setA G I hj e ry
abbrev SVs (cx:Cx) (A:Around) (n:Nat) (env:PySem.Env) (ρ:Env) (t:Sem (List Value)) (x:M (List V)):Prop:=SE cx A n env ρ (RVs cx) t x
theorem starEach_plain {e:PySem.Expr} {r:List PySem.Expr} (h:notStar e = true) (p:Pos):backTo p (starEach (e :: r) env) = (false,eval e env) :: backTo p (starEach r env):=by
  rcases e with _ | _ | _ | _ | _ | _ | _ | _ | _ | _ | _ | _ | _ | _ | _ | _ | _ | _ | _ | _ | _ | _ | _ | _ | _ | _ | _ <;> first | rfl | exact no_tf h
variable {f:PySem.Expr -> Ex}
theorem se_evs (H:Both cx A n env ρ C f) (p:Pos):∀ l:List PySem.Expr,l.all notStar = true -> SVs cx A n env ρ (spliced (backTo p (starEach l env))) (evs C ρ (l.map f))
  | [],_=>fun W s hh AO I=>Snd.pure I VRels.nil
  | e :: r,h=>by
    rw [starEach_plain (and2 h).1]
    exact SE.bind (H e).1 fun W s v a hh AO I q=>Snd.step (fun Q E h=>wpAny_bind (wpAny_pure h)) (Snd.bind (Snd.hold (se_evs H p r (and2 h).2 W s hh AO I)) fun vs s' as W' I' X k rs=>Snd.pure I' (VRels.cons (VRel.ext I X q) rs))
set_option tactic.hygienic true in
theorem M.bind_eq_ok {x:M α} {f:α -> M β} {σ σ':Store} {b:β} (h:M.bind x f σ = .ok b σ'):∃ a σ1,x σ = .ok a σ1 /\ f a σ1 = .ok b σ':=by
  unfold M.bind at h
  cases e:x σ with
  | ok a s1=>rw [e] at h; exact ⟨a,s1,rfl,h⟩
  | raise m k c s1=>rw [e] at h; cases h
  | fail=>rw [e] at h; cases h
set_option tactic.hygienic true in
theorem evs_len {C:Oracle} {ρ:Env}:∀ {l:List Ex} {σ σ':Store} {vs:List V},evs C ρ l σ = .ok vs σ' -> vs.length = l.length
  | [],σ,σ',vs,h=>by cases h; rfl
  | e :: r,σ,σ',vs,h=>by
    obtain ⟨v,σ1,h1,h⟩:=M.bind_eq_ok h
    obtain ⟨vs',σ2,h2,h⟩:=M.bind_eq_ok h
    cases h
    exact congrArg (· + 1) (evs_len h2)
theorem Snd.both {t:Sem β} {x:M α} {P:α -> Prop} (hP:∀ a σ',x W.σ = .ok a σ' -> P a) (y:Snd cx R t A W s x):Snd cx (fun W h a b=>R W h a b /\ P a) t A W s x:=fun Q E hq he hf =>
  y Q E (fun v s' a W' e I X k r=>hq v s' a W' e I X k ⟨r,hP _ _ e⟩) he hf
theorem Snd.evs (H:Both cx A n env ρ C f) {p:Pos} {l:List PySem.Expr} (hl:(l.all notStar && decide (l.length < 1000)) = true) {g:List Value -> Sem Value} {h:List V -> M V} (z:∀ W s vs as,Inv cx W s.heap -> RVs cx W s.heap as vs -> as.length < 100000 -> Snd cx (RV cx) (g vs) A W s (h as)) :
    SV cx A n env ρ (standAt p >>= fun _=>spliced (backTo p (starEach l env)) >>= g) (M.bind (evs C ρ (l.map f)) h):=fun W s hh AO I =>
  Snd.stand (Snd.bind (Snd.both (P:=fun vs=>vs.length = (l.map f).length) (fun _ _ e=>evs_len e) (se_evs H p l (and2 hl).1 W s hh AO I)) fun vs s' as W' I' X k r=>z W' s' vs as I' r.1 (by rw [r.2,List.length_map]; exact Nat.lt_trans (of_decide_eq_true (and2 hl).2) (by decide)))
theorem se_tup (H:Both cx A n env ρ C f) {p:Pos} {l:List PySem.Expr} {k:Nat}:SV cx A n env ρ (eval (.Tuple l k p) env) (ev C ρ (grd (l.all notStar && decide (l.length < 1000)) (.tupE (l.map f)))):=SE.grd fun h=>by
  rw [arm_eval_Tuple]
  exact Snd.evs H h fun W s vs as I r hz=>snd_tup I r hz
theorem se_lst (H:Both cx A n env ρ C f) {p:Pos} {l:List PySem.Expr} {mt:Bool}:SV cx A n env ρ (eval (.List l p) env) (ev C ρ (grd (l.all notStar && decide (l.length < 1000)) (.lstE mt (l.map f)))):=SE.grd fun h=>by
  rw [arm_eval_List]
  exact Snd.evs H h fun W s vs as I r hz=>snd_lst I r hz
end
end Mine
end
section
namespace Mine
open PySem PySem.W PyProof.Rows PySem.MeetsSeq
section
variable {cx:Cx} {Kf:Frag} {A:Around} {W:Wd} {s:Shared} {n:Nat} {env:PySem.Env} {ρ:Env} {α β γ ζ:Type} {R:Wd -> Heap -> α -> β -> Prop} {R':Wd -> Heap -> γ -> ζ -> Prop}
theorem Snd.one {t:Sem Value} {args:List V} {f:V -> M V} {vs:List Value} (r:RVs cx W s.heap args vs) (z:∀ a v,vs = [v] -> RV cx W s.heap a v -> Snd cx (RV cx) t A W s (f a)):Snd cx (RV cx) t A W s (one f args):=by
  rcases args with _ | ⟨a,_ | ⟨b,l⟩⟩
  · exact Snd.fail
  · exact r.elim fun v r=>r.elim fun l r=>z a v (r.1.trans (congrArg _ r.2.2)) r.2.1
  · exact Snd.fail
theorem Snd.two {t:Sem Value} {args:List V} {f:V -> V -> M V} {vs:List Value} (r:RVs cx W s.heap args vs) (z:∀ a b v u,vs = [v,u] -> RV cx W s.heap a v -> RV cx W s.heap b u -> Snd cx (RV cx) t A W s (f a b)):Snd cx (RV cx) t A W s (two f args):=by
  rcases args with _ | ⟨a,_ | ⟨b,_ | ⟨c,l⟩⟩⟩
  · exact Snd.fail
  · exact Snd.fail
  · obtain ⟨v,_,rfl,r1,u,_,rfl,r2,rfl⟩:=r
    exact z a b v u rfl r1 r2
  · exact Snd.fail
theorem snd_len_seq {v:Value} {l:List V} {items:Array Value} (I:Inv cx W s.heap) (r:VRels cx W.φ W.z s.heap l items.toList)
    (h:∀ (Q:Value -> Shared -> Prop) (E:Value -> Shared -> Prop),(items.size:Int) < 2 ^ 63 -> Q (.int items.size (s.toks + 1)) { s with toks:=s.toks + 1 + 1 } -> wpAny cx.m A (call (.builtin "len") [v]) Q E s) :
    Snd cx (RV cx) (call (.builtin "len") [v]) A W s (if l.length < 100000 then M.ret (.int (Int.ofNat l.length)) else M.fail) :=
  Snd.ite fun q=>Snd.still I fun Q E hq=>h Q E (by rw [r.size]; exact Int.lt_trans (Int.ofNat_lt.mpr q) (by decide)) (hq _ _ rfl rfl rfl ⟨s.toks + 1,by rw [r.size]; rfl⟩)
theorem snd_tupL {a:Addr} {l:List V} {items:Array Value} (I:Inv cx W s.heap) (ht:s.heap.IsList a items) (rr:VRels cx W.φ W.z s.heap l items.toList):Snd cx (RV cx) (call (.type "tuple") [.ref a]) A W s (tupL l) :=
  Snd.ite fun q=>Snd.growK I fun Q E hq=>call_tuple_list ht (fun h' k=>by
    have k':∀ b o,s.heap.get? b = some o -> (h'.push { cls:=.type "tuple",data:=.seq items }).get? b = some o:=fun b o e=>Heap.get?_push_of_some _ (k b o e)
    exact hq _ _ k' rfl rfl ⟨_,items,rfl,⟨_,Heap.get?_push_size _ rfl,rfl,_,rfl⟩,VRels.mono (Sta.of_keeps k') rr⟩) (by rw [rr.size]; exact Nat.le_trans (Nat.le_of_lt q) (by decide))
theorem snd_bInt {args:List V} {vs:List Value} (I:Inv cx W s.heap) (r:RVs cx W s.heap args vs):Snd cx (RV cx) (call (.type "int") vs) A W s (bInt args):=by
  rcases args with _ | ⟨a,_ | ⟨b,l⟩⟩
  · exact Snd.fail
  · obtain ⟨v,_,rfl,r1,rfl⟩:=r
    rcases a with _ | _ | _ | _ | _ | _ | _ | _
    case bool=>cases (show v = _ from r1); exact Snd.still I fun Q E hq=>call_int_bool (hq _ _ rfl rfl rfl ⟨_,rfl⟩)
    case int=>obtain ⟨t,rfl⟩:=r1; exact Snd.still I fun Q E hq=>call_int_int (hq _ _ rfl rfl rfl ⟨_,rfl⟩)
    all_goals exact Snd.fail
  · rcases a with _ | _ | _ | _ | _ | _ | _ | _ <;> exact Snd.fail
theorem snd_len {a:V} {v:Value} (I:Inv cx W s.heap) (r:RV cx W s.heap a v):Snd cx (RV cx) (call (.builtin "len") [v]) A W s (M.bind (seqOf a) fun l=>if l.length < 100000 then M.ret (.int (Int.ofNat l.length)) else M.fail):=by
  rcases a with _ | _ | _ | _ | l | l | j | _
  case tup =>
    obtain ⟨a,items,rfl,ht,rr⟩:=r
    exact snd_len_seq I rr fun Q E hz h=>PyProof.Rows.len_tuple ht hz h
  case lst =>
    obtain ⟨a,items,rfl,ht,_,rr⟩:=r
    exact snd_len_seq I rr fun Q E hz h=>Calls.call_len_list ht hz h
  case obj =>
    refine Snd.eqv rfl (congrFun listAt_bind _) (Snd.listAt I r fun l items e _ L=>?_)
    exact e ▸ snd_len_seq I L.rel fun Q E hz h=>Calls.call_len_list L.at_.isList hz h
  all_goals exact Snd.fail
theorem snd_isi {a:V} {v:Value} (I:Inv cx W s.heap) (r:RV cx W s.heap a v):Snd cx (RV cx) (call (.builtin "isinstance") [v,.type "tuple"]) A W s (isTupB a):=by
  rcases a with _ | _ | _ | _ | _ | _ | _ | _
  · cases (show v = _ from r); exact Snd.still I fun Q E hq=>call_isinstance_of (isinstance_nested_false_none (by decide) F.isi_meta_tuple F.sub_NoneType_tuple (hq _ _ rfl rfl rfl rfl))
  · cases (show v = _ from r); exact Snd.still I fun Q E hq=>IsiPair.bool_tuple (hq _ _ rfl rfl rfl rfl)
  · obtain ⟨t,rfl⟩:=r; exact Snd.still I fun Q E hq=>IsiPair.int_tuple (hq _ _ rfl rfl rfl rfl)
  · obtain ⟨t,rfl⟩:=r; exact Snd.still I fun Q E hq=>IsiPair.str_tuple (hq _ _ rfl rfl rfl rfl)
  · obtain ⟨a,items,rfl,ht,rr⟩:=r; exact Snd.still I fun Q E hq=>call_isinstance_yes ht.typeIs F.isi_meta_tuple isSubtype_tuple_tuple (hq _ _ rfl rfl rfl rfl)
  all_goals exact Snd.fail
theorem snd_builtin (G:Gx cx Kf) {x:String} {fv:Value} {args:List V} {vs:List Value} (AO:AOk A W.K n) (I:Inv cx W s.heap) (hx:x ∈ builtins) (hg:cx.glb x = some fv) (r:RVs cx W s.heap args vs) :
    Snd cx (RV cx) (call fv vs) A W s (doBuiltin x args):=by
  have e:=G.bi x fv hx hg
  subst e
  unfold doBuiltin
  by_cases q:x = "int"
  · subst q; exact snd_bInt I r
  rw [if_neg q]
  clear q
  by_cases q:x = "len"
  · subst q; exact Snd.one r fun a v e r=>e ▸ snd_len I r
  rw [if_neg q]
  clear q
  by_cases q:x = "max"
  · subst q
    exact Snd.two r fun a b v u e ra rb=>e ▸ Snd.ints I ra rb fun i j _ _ e e'=>by
      subst e e'
      exact Snd.growK I fun Q E hq=>max_two_ints AO.handled fun h' tk k=>hq _ _ k rfl rfl (by by_cases q:i < j <;> simp only [q,if_true,if_false] <;> exact ⟨_,rfl⟩)
  rw [if_neg q]
  clear q
  by_cases q:x = "tuple"
  · subst q
    refine Snd.one r fun a v e r=>e ▸ ?_
    rcases a with _ | _ | _ | _ | _ | _ | _ | _
    case lst =>
      obtain ⟨a,items,rfl,ht,_,rr⟩:=r
      exact snd_tupL I ht rr
    case obj=>exact Snd.listAt I r fun l items e _ L=>e ▸ snd_tupL I L.at_.isList L.rel
    all_goals exact Snd.fail
  rw [if_neg q]
  clear q
  by_cases q:x = "isinstance"
  · subst q
    refine Snd.two r fun a b v u e ra rb=>e ▸ ?_
    rcases b with _ | _ | _ | _ | _ | _ | _ | y
    case g =>
      refine Snd.ite fun q=>?_
      subst q
      obtain rfl:u = .type "tuple" := G.bi "tuple" u (by decide) rb
      exact snd_isi I ra
    all_goals exact Snd.fail
  rw [if_neg q]
  exact Snd.fail
end
end Mine
end
section
namespace Mine
open PySem PySem.W PyProof.Rows PySem.MeetsSeq
structure AOc (A:Around) (K:List FrameI) (n:Nat):Prop where
  handled:A.handled = none
  frames:A.frames = some (reals K)
  depth:A.depth + 3 * n <= 602
  units:A.units + 60 * n <= 9050
noncomputable def Back (Q:Value -> Shared -> Prop) (E:Value -> Shared -> Prop):Result -> Shared -> Prop:=fun r s'=>match r with
  | .ok (.ret v)=>Q v s'
  | .ok _=>False
  | .error e=>E e s'
section
variable {cx:Cx} {Kf:Frag} {A:Around} {W:Wd} {s:Shared} {n:Nat} {env:PySem.Env} {ρ:Env} {α β γ ζ:Type} {R:Wd -> Heap -> α -> β -> Prop} {R':Wd -> Heap -> γ -> ζ -> Prop} {C:Oracle}
theorem AOk.c (AO:AOk A W.K n):AOc A W.K n:=⟨AO.handled,AO.frames,Nat.le_trans AO.depth (by decide),Nat.le_trans AO.units (by decide)⟩
theorem AOk.under_make (AO:AOk A W.K n) (Ca:Addr) (vs:List Value):AOc (A.under (.builtin "type.__call__" ⟨.ref Ca :: vs,[]⟩)) W.K n :=
  ⟨AO.handled,AO.frames,by have:=AO.depth; show A.depth + 1 + 3 * n <= 602; lia,by have:=AO.units; show A.units + 1 + 60 * n <= 9050; lia⟩
noncomputable def SndC (cx:Cx) (A:Around) (W:Wd) (s:Shared) (f:Value) (vs:List Value) (x:M V):Prop :=
  ∀ (Q:Value -> Shared -> Prop) (E:Value -> Shared -> Prop),
    (∀ v s' a W',x W.σ = .ok a W'.σ -> Inv cx W' s'.heap -> Ext W s W' s' -> W'.K = W.K -> RV cx W' s'.heap a v -> Q v s') ->
    (∀ e s' m k c W',x W.σ = .raise m k c W'.σ -> Inv cx W' s'.heap -> Ext W s W' s' -> W'.K = W.K -> Exc cx s.heap W' s'.heap e m k c -> E e s') ->
    x W.σ ≠ .fail -> codeAny cx.m A (.call f ⟨vs,[]⟩) (Back Q E) s
theorem SndC.snd {f:Value} {vs:List Value} {x:M V} (h:SndC cx A W s f vs x):Snd cx (RV cx) (call f vs) A W s x:=fun Q E a b c =>
  wpAny_call (codeAny_mono (h Q E a b c) fun r s' z=>by rcases r with e | (v | _ | _ | _) <;> exact z)
noncomputable def SC (cx:Cx) (C:Oracle) (n:Nat):Prop:=∀ f a args vs A W s,cx.fn f = some a -> AOc A W.K n -> Inv cx W s.heap -> RVs cx W s.heap args vs -> SndC cx A W s (.ref a) vs (C f args)
theorem snd_make (G:Gx cx Kf) (S:SC cx C n) {x:String} {Ca:Addr} {args:List V} {vs:List Value} (AO:AOk A W.K n) (I:Inv cx W s.heap) (hx:fnNames.contains (x ++ ".__init__") = true) (hc:cx.cls x = some Ca) (r:RVs cx W s.heap args vs) :
    Snd cx (RV cx) (call (.ref Ca) vs) A W s (M.bind (mnew (.inst x [])) fun o=>M.bind (C (x ++ ".__init__") (o :: args)) (retNone o)):=fun Q E hq he hf=>by
  refine cps fun H k0=>?_
  obtain ⟨fi,hfi,hfn⟩:=G.fnAt _ hx
  have K:=G.cls x Ca hc
  have X:=G.In I
  obtain ⟨hi,ht⟩:=G.meth x Ca "__init__" fi hc (by rw [show (x ++ "." ++ "__init__" : String) = x ++ ".__init__" from by rw [String.append_assoc]; rfl]; exact hfi)
  refine k0 ?_
  obtain ⟨hh,g,d,t,os⟩:=s
  refine wpAny_call (make_core (makes_of X K.made) (looks_findIn X hi) (fun self=>bind_fn X self ht) (.inl rfl) ?_)
  have k:∀ b o,hh.get? b = some o -> ((hh.push PySem.W.emptyDict).push (instObj Ca hh.objs.size)).get? b = some o:=fun b o e=>Heap.get?_push_of_some _ (Heap.get?_push_of_some _ e)
  have hsz:(hh.push PySem.W.emptyDict).objs.size = hh.objs.size + 1:=Heap.size_push ..
  have I1:Inv cx (W.push (hh.objs.size + 1) hh.objs.size (.inst x [])) ((hh.push PySem.W.emptyDict).push (instObj Ca hh.objs.size)):=I.push k (Nat.le_succ _) (Nat.le_refl _) fun S=>⟨Ca,fun _=>none,hc,by rw [Wd.push_new.1,Wd.push_new.2.1,<- hsz]; exact Heap.get?_push_size _ rfl,
    by rw [Wd.push_new.2.1]; exact Heap.Ns1.of_empty ⟨_,#[],_,Heap.get?_push_of_some _ (Heap.get?_push_size _ rfl),rfl,fun e he=>absurd he (Array.not_mem_empty _),fun _=>rfl⟩,fun a V q=>none_some q,fun _ _=>rfl,fun p hp=>absurd hp List.not_mem_nil,fun y hy=>absurd rfl hy⟩
  have X1:Ext W ⟨hh,g,d,t,os⟩ (W.push (hh.objs.size + 1) hh.objs.size (.inst x [])) ⟨(hh.push PySem.W.emptyDict).push (instObj Ca hh.objs.size),g,d,t,os⟩ :=
    Ext.push k (Nat.le_succ _) (Nat.le_refl _) (Nat.le_trans (push_le hh _) (push_le _ _)) rfl rfl
  have ro:RV cx (W.push (hh.objs.size + 1) hh.objs.size (.inst x [])) ((hh.push PySem.W.emptyDict).push (instObj Ca hh.objs.size)) (.obj W.σ.n) (.ref (hh.objs.size + 1)):=⟨Nat.lt_succ_self _,by rw [Wd.push_new.1]⟩
  refine codeAny_mono (S _ fi (.obj W.σ.n :: args) (.ref (hh.objs.size + 1) :: vs) _ (W.push (hh.objs.size + 1) hh.objs.size (.inst x [])) _ hfi (AO.under_make Ca vs) I1 (VRels.cons ro (VRels.ext I X1 r))
    (fun v s'=>InitBack (hh.objs.size + 1) (fun r s'=>match r with | .ok (.ret v)=>Q v s' | .ok _=>False | .error e=>E e s') (.ok (.ret v)) s')
    (fun e s'=>E e s') (fun v s' a W' e I' X' k' r'=>?_) (fun e s' m k c W' e1 I' X' k' ex=>he _ _ _ _ _ _ (M.bind_raise (g:=retNone (.obj W.σ.n)) e1) I' (X1.trans' rfl X') (k'.trans rfl) (ex.back X1)) (M.bind_ne (g:=retNone (.obj W.σ.n)) hf)) fun r s' z=>?_
  · have e2:=M.bind_ok (g:=retNone (.obj W.σ.n)) e
    have hf2:retNone (.obj W.σ.n) a W'.σ ≠ .fail:=e2 ▸ hf
    rcases a with _ | _ | _ | _ | _ | _ | _ | _ <;> try exact absurd rfl hf2
    have:=X'.same W.σ.n (Nat.lt_succ_self _)
    exact ⟨r',hq _ _ (.obj W.σ.n) W' e2 I' (X1.trans' rfl X') (k'.trans rfl) ⟨Nat.lt_of_lt_of_le (Nat.lt_succ_self _) X'.n,by rw [this.1,Wd.push_new.1]⟩⟩
  · rcases r with e | (v | _ | _ | _) <;> exact z
theorem keep_cls {Ca:Addr} (h:makesIn Kf Ca = true):keepIn Kf (.ref Ca) = true:=by
  unfold makesIn at h
  unfold keepIn
  dsimp only
  generalize Kf.lookup Ca = o at h
  rcases o with _ | ⟨_,_,d,_⟩
  · exact no_tf h
  · rcases d with _ | _ | _ | _ | _ | _ | _ | _ | _ | _ | _ <;> first | exact no_tf h | exact (and2 (and2 h).1).2 | exact (and2 h).1 | exact (and2 h).2
theorem keep_fn {f:Addr} (h:fnIn Kf f = true):keepIn Kf (.ref f) = true:=by
  unfold fnIn at h
  unfold keepIn
  dsimp only
  generalize Kf.lookup f = o at h
  rcases o with _ | ⟨_,_,d,_⟩
  · exact no_tf h
  · rcases d with _ | _ | _ | _ | _ | _ | _ | _ | _ | _ | _ <;> first | exact no_tf h | rfl
theorem keeps_val (G:Gx cx Kf) {x:String} {v:Value} {M:Model} (hx:x ∈ classes \/ x ∈ builtins \/ fnNames.contains x = true) (hg:cx.glb x = some v) (h:Heap) (X:Kf.In h):∃ k,(k = Keeper.frame \/ k = Keeper.machine \/ k = Keeper.boundFrame) /\ Looks M h (keeperOf v) k:=by
  rcases hx with hx | hx | hx
  · obtain ⟨Ca,rfl,hc⟩:=G.gcls x v hx hg
    exact keeps_K (keep_cls (G.cls x Ca hc).made) h X
  · have:=G.bi x v hx hg
    subst this
    refine ⟨.machine,.inr (.inl rfl),?_⟩
    simp only [builtins,List.mem_cons,List.not_mem_nil,or_false] at hx
    rcases hx with rfl | rfl | rfl | rfl | rfl <;> exact Looks.of_pure rfl
  · obtain ⟨f,hf,hfn⟩:=G.fnAt x hx
    have:=G.fnG x v f hf hg
    subst this
    exact keeps_K (keep_fn hfn) h X
theorem Snd.asG {α β:Type} {R:Wd -> Heap -> α -> β -> Prop} {t:Sem β} {a:V} {va:Value} {f:String -> M α} (r:RV cx W s.heap a va) (z:∀ x,cx.glb x = some va -> Snd cx R t A W s (f x)):Snd cx R t A W s (asG a f):=by
  rcases a with _ | _ | _ | _ | _ | _ | _ | x
  case g=>exact z x r
  all_goals exact Snd.fail
theorem init_fn:∀ x ∈ classes,fnNames.contains (x ++ ".__init__") = true:=by decide +kernel
theorem snd_doCall (G:Gx cx Kf) (S:SC cx C n) {a:V} {fv:Value} {args:List V} {vs:List Value} (AO:AOk A W.K n) (I:Inv cx W s.heap) (ra:RV cx W s.heap a fv) (r:RVs cx W s.heap args vs) :
    Snd cx (RV cx) (call fv vs) A W s (doCall C a args):=Snd.asG ra fun x hg=>by
  by_cases h1:classes.contains x = true
  · rw [if_pos h1]
    have h1':=List.contains_iff_mem.mp h1
    obtain ⟨Ca,rfl,hc⟩:=G.gcls x fv h1' hg
    exact snd_make G S AO I (init_fn x h1') hc r
  · rw [if_neg h1]
    by_cases h2:builtins.contains x = true
    · rw [if_pos h2]
      exact snd_builtin G AO I (List.contains_iff_mem.mp h2) hg r
    · rw [if_neg h2]
      refine Snd.ite fun h3=>?_
      obtain ⟨f,hf,hfn⟩:=G.fnAt x h3
      obtain rfl:=G.fnG x fv f hf hg
      exact (S x f args vs A W s hf AO.c I r).snd
theorem any_star {p:Pos}:∀ {l:List PySem.Expr},l.all notStar = true -> (backTo p (starEach l env)).any (·.1) = false /\ (backTo p (starEach l env)).length = l.length
  | [],_=>⟨rfl,rfl⟩
  | e :: r,h=>by
    simp only [List.all_cons,Bool.and_eq_true] at h
    rw [starEach_plain h.1]
    have:=any_star (p:=p) h.2
    exact ⟨by simp only [List.any_cons,this.1,Bool.or_false],by simp only [List.length_cons,this.2]⟩
set_option tactic.hygienic true in
theorem evalArgs_any {f:Value} {args:List (Bool × Sem Value)} {Q:Args -> Shared -> Prop} {E:Value -> Shared -> Prop} {M:Model} (hp:args.any (·.1) = false) (h:wpAny M A (spliced args) (fun vs s'=>Q ⟨vs,[]⟩ s') E s):wpAny M A (evalArgs f true args []) Q E s:=by
  cases args with
  | nil =>
    unfold evalArgs
    show wpAny M A (spliced [] >>= _) Q E s
    refine wpAny_bind (wpAny_mono h (fun vs s' h'=>?_) fun _ _ x=>x)
    refine wpAny_bind (wpAny_pure ?_)
    refine wpAny_holding ?_
    exact wpAny_bind (wpAny_pure (wpAny_bind (wpAny_pure (wpAny_pure h'))))
  | cons a r =>
    obtain ⟨b,t⟩:=a
    simp only [List.any_cons,Bool.or_eq_false_iff] at hp
    obtain ⟨rfl,hp⟩:=hp
    exact Calls.evalArgs_plain h
theorem se_callWith {f:Value} {first:List Value} {p q:Pos} {l:List PySem.Expr} {x:M (List V)} {R:Wd -> Heap -> α -> Value -> Prop} {y:List V -> M α} (hl:l.all notStar = true) (W:Wd) (s:Shared) (hh:Here W env ρ) (AO:AOk A W.K n) (I:Inv cx W s.heap)
    (hk:∀ (W':Wd) (s':Shared),Inv cx W' s'.heap -> ∃ k,(k = Keeper.frame \/ k = Keeper.machine \/ k = Keeper.boundFrame) /\ Looks cx.m s'.heap (keeperOf f) k)
    (h:SVs cx A n env ρ (spliced (backTo q (starEach l env))) x)
    (h':∀ (W':Wd) (s':Shared) vs args,Ext W s W' s' -> AOk A W'.K n -> Inv cx W' s'.heap -> RVs cx W' s'.heap args vs -> Snd cx R (call f (first ++ vs)) A W' s' (y args)) :
    Snd cx R (callWith p f first (backTo q (starEach l env)) []) A W s (M.bind x y):=fun Q E hq he hf=>by
  have hs:=any_star (env:=env) (p:=q) hl
  refine callWith_of (P:=fun hp=>∃ k,(k = Keeper.frame \/ k = Keeper.machine \/ k = Keeper.boundFrame) /\ Looks cx.m hp (keeperOf f) k) (by rw [hs.1]; rfl) (fun _ z=>z) (evalArgs_any hs.1 ?_)
  refine h W s hh AO I _ _ (fun vs s' as W' e I' X k r=>?_) (fun ev s' m kk c W' e I' X k ex=>?_) (M.bind_ne hf)
  · refine ⟨hk W' s' I',?_⟩
    have eb:=M.bind_ok (g:=y) e
    refine h' W' s' vs as X (AO.of k) I' r Q E (fun v' s'' b W'' e' I'' X'' k'' r''=>?_) (fun ev s'' m kk c W'' e' I'' X'' k'' ex=>?_) (eb ▸ hf)
    · exact hq v' s'' b W'' (eb.trans e') I'' (X.trans' k X'') (k''.trans k) r''
    · exact he ev s'' m kk c W'' (eb.trans e') I'' (X.trans' k X'') (k''.trans k) (ex.back X)
  · exact he ev s' m kk c W' (M.bind_raise e) I' X k ex
noncomputable def notAttr:PySem.Expr -> Bool
  | .Attribute .. => false
  | _=>true
theorem eval_call {f:PySem.Expr} {l:List PySem.Expr} {p:Pos} (h:notAttr f = true):eval (.Call f l [] p) env = (eval f env >>= fun fv=>callWith p fv [] (backTo p (starEach l env)) []):=by
  rcases f with _ | _ | _ | _ | _ | _ | _ | _ | _ | _ | _ | _ | _ | _ | _ | _ | _ | _ | _ | _ | _ | _ | _ | _ | _ | _ | _ <;> first | rfl | exact no_tf h
theorem call_keeps {x:String} (h:(classes.contains x || builtins.contains x || fnNames.contains x) = true):x ∈ classes \/ x ∈ builtins \/ fnNames.contains x = true :=
  (Bool.or_eq_true_iff.mp h).elim (fun h=>(Bool.or_eq_true_iff.mp h).imp List.contains_iff_mem.mp fun h=>.inl (List.contains_iff_mem.mp h)) fun h=>.inr (.inr h)
theorem se_call (G:Gx cx Kf) (S:SC cx C n) {g:PySem.Expr -> Ex} (H:Both cx A n env ρ C g) {f:PySem.Expr} {l:List PySem.Expr} {p:Pos} (hf:notAttr f = true) (hl:l.all notStar = true):SV cx A n env ρ (eval (.Call f l [] p) env) (ev C ρ (.call (g f) (l.map g))):=by
  rw [eval_call hf]
  refine SE.bind (H f).1 fun W s fv a hh AO I r=>?_
  rcases a with _ | _ | _ | _ | _ | _ | _ | x <;> try exact Snd.fail
  exact Snd.bindIte fun hx=>se_callWith (first:=[]) hl W s hh AO I (fun W' s' I'=>keeps_val G (call_keeps hx) r _ (G.In I')) (se_evs H p l hl) fun W' s' vs args X AO' I' rs=>snd_doCall G S AO' I' (show RV cx W' s'.heap (.g x) fv from r) rs
end
end Mine
end
section
namespace Mine
open PySem PySem.W PyProof.Rows PySem.MeetsSeq
section
variable {cx:Cx} {Kf:Frag} {A:Around} {W:Wd} {s:Shared} {n:Nat} {env:PySem.Env} {ρ:Env} {α β γ ζ:Type} {R:Wd -> Heap -> α -> β -> Prop} {R':Wd -> Heap -> γ -> ζ -> Prop} {C:Oracle}
noncomputable def RBd (cx:Cx) (Kf:Frag) (m:String):Wd -> Heap -> Bd -> Value × List Value -> Prop:=fun W h b fv=>match b with
  | .fn f pre=>∃ fa,cx.fn f = some fa /\ fnIn Kf fa = true /\ fv.1 = .ref fa /\ RVs cx W h pre fv.2
  | .lst j=>j < W.σ.n /\ fv.1 = .builtin ("list." ++ m) /\ fv.2 = [.ref (W.φ j)]
  | .dct j=>j < W.σ.n /\ fv.1 = .builtin ("dict." ++ m) /\ fv.2 = [.ref (W.φ j)]
  | .str=>m = "join" /\ fv.1 = .builtin "str.join" /\ ∃ x t,fv.2 = [.str x t]
set_option tactic.hygienic true in
theorem snd_instM (G:Gx cx Kf) {j:Nat} {m c:String} {l:List (String × V)} {pl:Sem Bool} (I:Inv cx W s.heap) (hj:j < W.σ.n) (e:W.σ.get j = .inst c l):Snd cx (RBd cx Kf m) (getMethod (.ref (W.φ j)) (Str.ofString m) pl) A W s (instM j m c l):=by
  refine cps fun H k=>?_
  obtain ⟨Ca,mm,od,x,IA,hl⟩:=inst_at I hj e
  have K:=G.cls c Ca x.cls
  refine k ?_
  unfold instM
  cases ha:alook m l with
  | some v =>
    rcases v with _ | _ | _ | _ | _ | _ | _ | f <;> try exact Snd.fail
    refine Snd.ite fun q=>Snd.still I fun Q E hq=>?_
    obtain ⟨p,hp,rfl⟩:=alook_mem ha
    obtain ⟨v,hv,rv⟩:=x.some _ _ ha
    have a1:=K.attrs _ (x.fits p hp)
    obtain ⟨fa,hfa,hfn⟩:=G.fnAt f (and2 q).2
    obtain rfl:=G.fnG f v fa hfa rv
    exact method_usual (G.In I) IA K.ga K.gt a1 rfl (get_value (G.In I) IA K.ga (find_own K a1 ((hl _).trans (congrArg _ hv))) rfl (hq _ _ rfl rfl rfl ⟨fa,hfa,hfn,rfl,VRels.nil⟩))
  | none =>
    refine Snd.ite fun q=>Snd.still I fun Q E hq=>?_
    obtain ⟨fa,hfa,hfn⟩:=G.fnAt _ q
    obtain ⟨f1,f2⟩:=G.meth c Ca m fa x.cls hfa
    exact method_fn (G.In I) IA K.ga K.gt f1 f2 (by unfold shadowIn; dsimp only; rw [hl,x.none m ha]; rfl) (hq _ _ rfl rfl rfl ⟨fa,hfa,hfn,rfl,VRels.cons (RV.ref hj) VRels.nil⟩)
theorem mem3 {m a b c:String} (q:[a,b,c].contains m = true) {P:String -> Prop} (h1:P a) (h2:P b) (h3:P c):P m:=by
  rcases List.mem_cons.mp (List.contains_iff_mem.mp q) with rfl | q
  · exact h1
  rcases List.mem_cons.mp q with rfl | q
  · exact h2
  · exact List.mem_singleton.mp q ▸ h3
theorem mem2 {m a b:String} (q:[a,b].contains m = true) {P:String -> Prop} (h1:P a) (h2:P b):P m:=by
  rcases List.mem_cons.mp (List.contains_iff_mem.mp q) with rfl | q
  · exact h1
  · exact List.mem_singleton.mp q ▸ h2
set_option tactic.hygienic true in
set_option maxRecDepth 20000 in
theorem snd_getM (G:Gx cx Kf) {o:V} {vo:Value} {m:String} {pl:Sem Bool} (I:Inv cx W s.heap) (r:RV cx W s.heap o vo) :
    Snd cx (RBd cx Kf m) (getMethod vo (Str.ofString m) pl) A W s (doGetM o m):=by
  rcases o with _ | _ | _ | x | _ | _ | j | _ <;> try exact Snd.fail
  · refine Snd.ite fun q=>Snd.still I fun Q E hq=>?_
    subst q
    obtain ⟨t,rfl⟩:=r
    exact getMethod_builtin (typeIs_str _ _ _) F.plainAttrs_str F.slot_str_join F.type_str_join GM.noRef (hq _ _ rfl rfl rfl ⟨rfl,rfl,_,_,rfl⟩)
  · obtain ⟨hj,rfl⟩:=r
    refine Snd.get hj fun o e=>?_
    rcases o with l | l | ⟨c,l⟩
    · refine Snd.ite fun q=>Snd.still I fun Q E hq=>?_
      obtain ⟨items,L⟩:=LObj.of I hj e
      obtain ⟨k,ho⟩:=L.at_
      have hT:s.TypeIs (.ref (W.φ j)) "list" := ⟨_,ho,rfl⟩
      have hd:∀ a,Value.ref (W.φ j) = .ref a -> ∃ o,s.heap.get? a = some o /\ o.dict = none:=fun a q=>by cases q; exact ⟨_,ho,rfl⟩
      exact mem3 (P:=fun m=>(∀ v s',s'.heap = s.heap -> s'.gens = s.gens -> s'.os = s.os -> RBd cx Kf m W s'.heap (.lst j) v -> Q v s') -> wpAny cx.m A (getMethod (.ref (W.φ j)) (Str.ofString m) pl) Q E s) q
        (fun hq=>getMethod_builtin hT F.plainAttrs_list F.slot_list_append F.type_list_append hd (hq _ _ rfl rfl rfl ⟨hj,rfl,rfl⟩))
        (fun hq=>getMethod_builtin hT F.plainAttrs_list F.slot_list_pop F.type_list_pop hd (hq _ _ rfl rfl rfl ⟨hj,rfl,rfl⟩))
        (fun hq=>getMethod_builtin hT F.plainAttrs_list F.slot_list_extend F.type_list_extend hd (hq _ _ rfl rfl rfl ⟨hj,rfl,rfl⟩)) hq
    · refine Snd.ite fun q=>Snd.still I fun Q E hq=>?_
      obtain ⟨_,⟨o,es,ep,g,x,d⟩,_⟩:=RV.dict I hj e
      have hT:s.TypeIs (.ref (W.φ j)) "dict" := ⟨o,g,x.1⟩
      have hd:∀ a,Value.ref (W.φ j) = .ref a -> ∃ o,s.heap.get? a = some o /\ o.dict = none:=fun a q=>by cases q; exact ⟨_,g,x.2.1⟩
      exact mem2 (P:=fun m=>(∀ v s',s'.heap = s.heap -> s'.gens = s.gens -> s'.os = s.os -> RBd cx Kf m W s'.heap (.dct j) v -> Q v s') -> wpAny cx.m A (getMethod (.ref (W.φ j)) (Str.ofString m) pl) Q E s) q
        (fun hq=>getMethod_builtin hT F.plainAttrs_dict F.slot_dict_get F.type_dict_get hd (hq _ _ rfl rfl rfl ⟨hj,rfl,rfl⟩))
        (fun hq=>getMethod_builtin hT F.plainAttrs_dict F.slot_dict_update F.type_dict_update hd (hq _ _ rfl rfl rfl ⟨hj,rfl,rfl⟩)) hq
    · exact snd_instM G I hj e
theorem str_join_nil {x:Str} {t:Tok} {a:Addr} (I:Inv cx W s.heap) (hl:s.heap.IsList a #[]) :
    Snd cx (RV cx) (call (.builtin "str.join") [.str x t,.ref a]) A W s (M.ret (.str "")):=Snd.still I fun Q E hq=>by
  refine call_meets F.slot_str_join (typeIs_str _ _ _) F.entry_str_join (F.args_str_join_2 _ _) (meets_str_join_list x t a [] (by simp [Builtin.Str.tooLong])) ⟨hl,?_⟩
  simp only [joinMade,Made.post]
  rw [show Builtin.Str.glued x (([]:List (Str × Tok)).map (·.1)) = Str.ofString "" from rfl]
  exact ⟨by decide +kernel,hq _ _ rfl rfl rfl ⟨s.toks,rfl⟩⟩
set_option tactic.hygienic true in
theorem snd_listM {j:Nat} {l:List V} {items:Array Value} {m:String} {args:List V} {vs:List Value} (I:Inv cx W s.heap) (hj:j < W.σ.n) (L:LObj cx W s.heap j l items) (r:RVs cx W s.heap args vs):Snd cx (RV cx) (call (.builtin ("list." ++ m)) (.ref (W.φ j) :: vs)) A W s (listMeth j l m args):=by
  unfold listMeth
  by_cases q:m = "append"
  · subst q
    exact Snd.one r fun a v e ra=>e ▸ Snd.ite fun q=>Snd.then (snd_append I hj L ra q) fun _ _ _ r=>r
  rw [if_neg q]
  clear q
  by_cases q:m = "pop"
  · subst q
    rcases args with _ | ⟨a,l'⟩
    · cases (show vs = [] from r)
      show Snd cx (RV cx) _ A W s (mPop j l)
      unfold mPop
      cases hv:l.getLast? with
      | none=>exact Snd.fail
      | some v=>exact Snd.ite fun q=>snd_pop I hj L hv q
    · exact Snd.fail
  rw [if_neg q]
  clear q
  by_cases q:m = "extend"
  · subst q
    exact Snd.one r fun a v e ra=>e ▸ snd_extend I hj L ra
  rw [if_neg q]
  exact Snd.fail
theorem Snd.dictAt {α β:Type} {R:Wd -> Heap -> α -> β -> Prop} {t:Sem β} {j:Nat} {f:List (V × V) -> M α} (hj:j < W.σ.n) (z:∀ l,W.σ.get j = .dict l -> Snd cx R t A W s (f l)):Snd cx R t A W s (dictAt j f):=Snd.get hj fun o e=>by
  rcases o with l | l | ⟨c,l⟩
  case dict=>exact z l e
  all_goals exact Snd.fail
theorem snd_dictM (G:Gx cx Kf) {j:Nat} {l:List (V × V)} {m:String} {args:List V} {vs:List Value} (AO:AOk A W.K n) (I:Inv cx W s.heap) (hj:j < W.σ.n) (e:W.σ.get j = .dict l) (r:RVs cx W s.heap args vs):Snd cx (RV cx) (call (.builtin ("dict." ++ m)) (.ref (W.φ j) :: vs)) A W s (dictMeth j l m args):=by
  unfold dictMeth
  by_cases q:m = "get"
  · subst q
    exact Snd.two r fun a b v u e' ra rb=>e' ▸ snd_dict_get G.gd AO I ra rb hj e
  rw [if_neg q]
  clear q
  by_cases q:m = "update"
  · subst q
    exact Snd.one r fun a v e' ra=>e' ▸ Snd.asObj ra fun i e'' hi=>e'' ▸ Snd.dictAt hi fun r' er=>Snd.ite fun q=>Snd.then (snd_dict_update G.gd I hj hi e er q) fun _ _ _ r=>r
  rw [if_neg q]
  exact Snd.fail
theorem snd_app (G:Gx cx Kf) (S:SC cx C n) {m:String} {b:Bd} {fv:Value × List Value} {args:List V} {vs:List Value} (AO:AOk A W.K n) (I:Inv cx W s.heap) (rb:RBd cx Kf m W s.heap b fv) (r:RVs cx W s.heap args vs) :
    Snd cx (RV cx) (call fv.1 (fv.2 ++ vs)) A W s (doApp C b m args):=by
  obtain ⟨f,first⟩:=fv
  rcases b with ⟨f',pre⟩ | j | j | _
  · obtain ⟨fa,h1,h2,rfl,h4⟩:=rb
    exact (S _ _ _ _ _ _ _ h1 AO.c I (VRels.append h4 r)).snd
  · obtain ⟨hj,rfl,rfl⟩:=rb
    exact Snd.listAt I (RV.ref hj) fun l items _ _ L=>snd_listM I hj L r
  · obtain ⟨hj,rfl,rfl⟩:=rb
    exact Snd.dictAt hj fun l e=>snd_dictM G AO I hj e r
  · obtain ⟨rfl,rfl,x,t,rfl⟩:=rb
    refine Snd.one r fun a v e ra=>e ▸ ?_
    rcases a with _ | _ | _ | _ | _ | l | _ | _ <;> try exact Snd.fail
    rcases l with _ | _
    · obtain ⟨a,items,rfl,hl,_,rr⟩:=ra
      obtain rfl:items = #[]:=Array.toList_eq_nil_iff.mp rr
      exact str_join_nil I hl
    · exact Snd.fail
set_option tactic.hygienic true in
theorem keeps_bd (G:Gx cx Kf) {m:String} {b:Bd} {fv:Value × List Value} {W:Wd} {hp:Heap} {M:Model} (rb:RBd cx Kf m W hp b fv) (h:Heap) (X:Kf.In h):∃ k,(k = Keeper.frame \/ k = Keeper.machine \/ k = Keeper.boundFrame) /\ Looks M h (keeperOf fv.1) k:=by
  cases b with
  | fn f pre =>
    obtain ⟨fa,h1,h2,e,h4⟩:=rb
    rw [e]; exact keeps_K (keep_fn h2) h X
  | lst j=>obtain ⟨_,e,_⟩:=rb; rw [e]; exact ⟨.machine,.inr (.inl rfl),Looks.of_pure rfl⟩
  | dct j=>obtain ⟨_,e,_⟩:=rb; rw [e]; exact ⟨.machine,.inr (.inl rfl),Looks.of_pure rfl⟩
  | str=>obtain ⟨_,e,_⟩:=rb; rw [e]; exact ⟨.machine,.inr (.inl rfl),Looks.of_pure rfl⟩
set_option tactic.hygienic true in
theorem RBd.ext {m:String} {b:Bd} {fv:Value × List Value} {W W':Wd} {s s':Shared} (I:Inv cx W s.heap) (X:Ext W s W' s') (rb:RBd cx Kf m W s.heap b fv):RBd cx Kf m W' s'.heap b fv:=by
  cases b with
  | fn f pre=>obtain ⟨fa,h1,h2,e,h4⟩:=rb; exact ⟨fa,h1,h2,e,VRels.ext I X h4⟩
  | lst j=>obtain ⟨h1,e,e'⟩:=rb; exact ⟨Nat.lt_of_lt_of_le h1 X.n,e,by rw [e',(X.same j h1).1]⟩
  | dct j=>obtain ⟨h1,e,e'⟩:=rb; exact ⟨Nat.lt_of_lt_of_le h1 X.n,e,by rw [e',(X.same j h1).1]⟩
  | str=>exact rb
theorem kw_nil (p:Pos):backToKw p (keywordEach [] env) = []:=rfl
theorem form_ok {l:List PySem.Expr} {p:Pos} (hl:l.all notStar = true) (hz:l.length < 20):methodCallForm (l.length + ([]:List Keyword).length) (backTo p (starEach l env)) (backToKw p (keywordEach [] env)) = true:=by
  have hs:=(any_star (env:=env) (p:=p) hl).1
  unfold methodCallForm
  rw [kw_nil]
  simp only [List.all_nil,List.isEmpty_nil,if_true,List.length_nil,Nat.add_zero,Bool.and_true,Bool.and_eq_true,decide_eq_true_eq]
  exact ⟨List.all_eq_true.mpr fun y hy=>by simpa using List.any_eq_false.mp hs y hy,by lia⟩
theorem se_meth (G:Gx cx Kf) (S:SC cx C n) {g:PySem.Expr -> Ex} (H:Both cx A n env ρ C g) {o:PySem.Expr} {b:Str} {q:Pos} {l:List PySem.Expr} {p:Pos} (hm:okS b = true) (ho:plainBase o = true) (hl:l.all notStar = true) (hz:l.length < 20) (hline:(q.endLine == p.line) = true) :
    SV cx A n env ρ (eval (.Call (.Attribute o b q) l [] p) env) (ev C ρ (.meth (g o) (toS b) (l.map g))):=by
  have e:=okS_eq hm
  clear hm
  generalize toS b = m at e ⊢
  subst e
  rw [arm_eval_Call,base_plain ho]
  refine SE.bind (H o).1 fun W s ov a hh AO I r=>Snd.stand ?_
  unfold methodCall
  rw [form_ok hl hz,show methodCallPos true o env q p = pure p from by unfold methodCallPos; simp [hline]]
  refine Snd.bind (Snd.hold (snd_getM G I r)) fun fv s' bd W' I' X k rb=>?_
  obtain ⟨f,first⟩:=fv
  refine Snd.step (fun Q E h=>wpAny_bind (wpAny_pure h)) ?_
  rw [kw_nil]
  exact se_callWith hl W' s' (hh.of k) (AO.of k) I' (fun W'' s'' I''=>keeps_bd G rb _ (G.In I'')) (se_evs H p l hl) fun W'' s'' vs args X' AO' I'' rs=>snd_app G S AO' I'' (RBd.ext I' X' rb) rs
theorem se_trCall (G:Gx cx Kf) (S:SC cx C n) {g:PySem.Expr -> Ex} (H:Both cx A n env ρ C g) {f:PySem.Expr} {l:List PySem.Expr} {p:Pos} (hl:l.all notStar = true) (hz:l.length < 20):SV cx A n env ρ (eval (.Call f l [] p) env) (ev C ρ (trCall g l p f)):=by
  by_cases q:notAttr f = true
  · rw [show trCall g l p f = .call (g f) (l.map g) from by rcases f with _ | _ | _ | _ | _ | _ | _ | _ | _ | _ | _ | _ | _ | _ | _ | _ | _ | _ | _ | _ | _ | _ | _ | _ | _ | _ | _ <;> first | rfl | exact no_tf q]
    exact se_call G S H q hl
  · obtain ⟨o,b,q',rfl⟩:∃ o b q',f = .Attribute o b q':=by rcases f with _ | _ | _ | _ | _ | _ | _ | _ | _ | _ | _ | _ | _ | _ | _ | _ | _ | _ | _ | _ | _ | _ | _ | _ | _ | _ | _ <;> first | exact ⟨_,_,_,rfl⟩ | exact absurd rfl q
    exact SE.grd fun h=>se_meth G S H (and2 (and2 h).1).1 (and2 (and2 h).1).2 hl hz (and2 h).2
end
end Mine
end
section
namespace Mine
open PySem PySem.W PyProof.Rows PySem.MeetsSeq
section
variable {cx:Cx} {Kf:Frag} {A:Around} {W:Wd} {s:Shared} {n:Nat} {env:PySem.Env} {ρ:Env} {α β γ ζ:Type} {R:Wd -> Heap -> α -> β -> Prop} {R':Wd -> Heap -> γ -> ζ -> Prop} {C:Oracle}
structure Aside (cx:Cx) (W:Wd) (h:Heap) (b:Addr):Prop where
  nm:¬ Mut W b
  base:cx.base.get? b = none
  tup:∀ o xs m,h.get? b = some o -> o.data = .seq xs m -> o.cls ≠ .type "tuple"
  lst:∀ o xs m,h.get? b = some o -> o.data = .seq xs m -> o.cls = .type "list" -> b ∈ W.z.hid
theorem Sta.aside {W:Wd} {h h':Heap} (T:Addr -> Prop) (hT:∀ b,T b -> Aside cx W h b) (k:∀ b o,h.get? b = some o -> ¬ T b -> h'.get? b = some o):Sta W.φ W.z h W.φ W.z h':=by
  refine ⟨fun a o xs m e d c=>k a o e fun q=>?_,Nat.le_refl _,fun _ _=>rfl,fun i h1 h2=>absurd h2 (Nat.not_lt.mpr h1),fun _ q=>.inl q⟩
  rcases c with c | ⟨c,_,c2⟩
  · exact (hT a q).tup o _ _ e d c
  · exact c2 ((hT a q).lst o _ _ e d c)
set_option tactic.hygienic true in
theorem Inv.aside {W:Wd} {h h':Heap} (I:Inv cx W h) (T:Addr -> Prop) (hT:∀ b,T b -> Aside cx W h b) (k:∀ b o,h.get? b = some o -> ¬ T b -> h'.get? b = some o)
    (lv:∀ b,T b -> b ∈ W.z.hid -> ∃ o,h'.get? b = some o):Inv cx W h':=by
  have St:=Sta.aside T hT k
  have nφ:∀ i,i < W.σ.n -> ¬ T (W.φ i) /\ ¬ T (W.δ i):=fun i hi=>⟨fun q=>(hT _ q).nm (.inl ⟨i,hi,.inl rfl⟩),fun q=>(hT _ q).nm (.inl ⟨i,hi,.inr rfl⟩)⟩
  refine ⟨fun b o e=>k b o (I.base b o e) fun q=>(by rw [(hT b q).base] at e; cases e),fun i hi=>(I.obj i hi).mono St rfl rfl (fun o e=>k _ o e (nφ i hi).1) (fun o e=>k _ o e (nφ i hi).2),I.inj,I.fresh,
    I.frm.mono St (fun F hF o e=>k _ o e fun q=>(hT _ q).nm (.inr ⟨F,hF,.inl rfl⟩)) (fun c o v hc e _=>k _ o e fun q=>?_),I.locφ,I.locB,I.locN,I.celN,fun a q=>?_⟩
  · obtain ⟨F,hF,hcF⟩:=List.mem_flatMap.mp hc
    exact (hT _ q).nm (.inr ⟨F,hF,.inr hcF⟩)
  · by_cases z:T a
    · exact lv a z q
    · exact (I.accL a q).imp fun o e=>k a o e z
set_option tactic.hygienic true in
theorem Ext.aside {W W':Wd} {s s₁ s₂:Shared} (X:Ext W s W' s₁) (T:Addr -> Prop) (hT:∀ b,T b -> s.heap.get? b = none \/ (Mut W b /\ ∃ o,s₂.heap.get? b = some o)) (k:∀ b o,s₁.heap.get? b = some o -> ¬ T b -> s₂.heap.get? b = some o)
    (hg:s₂.gens = s₁.gens) (ho:s₂.os = s₁.os):Ext W s W' s₂:=by
  refine ⟨X.n,X.same,X.new,fun a e=>?_,X.hid,fun a o e nm=>k a o (X.keep a o e nm) fun q=>(hT a q).elim (fun z=>none_some (z.symm.trans e)) fun z=>nm z.1,hg.trans X.gens,ho.trans X.os⟩
  by_cases q:T a
  · exact (hT a q).elim id fun z=>z.2.elim fun o z=>none_some (e.symm.trans z)
  · refine X.live a ?_
    cases z:s₁.heap.get? a with
    | none=>rfl
    | some o=>exact none_some (e.symm.trans (k a o z q))
set_option tactic.hygienic true in
theorem Mut.step {W W':Wd} {s s':Shared} {b:Addr} (X:Ext W s W' s') (k:W'.K = W.K) (lv:∃ o,s.heap.get? b = some o) (nm:¬ Mut W b):¬ Mut W' b:=by
  rintro (⟨i,hi,q⟩ | q)
  · rcases Nat.lt_or_ge i W.σ.n with z | z
    · rw [(X.same i z).1,(X.same i z).2] at q
      exact nm (.inl ⟨i,z,q⟩)
    · have:=X.new i z hi
      obtain ⟨o,e⟩:=lv
      rcases q with rfl | rfl
      · rw [this.1] at e; cases e
      · rw [this.2] at e; cases e
  · rw [k] at q; exact nm (.inr q)
set_option tactic.hygienic true in
theorem closure_eq {env:PySem.Env} (scope:PySem.Scope) (h:∀ y ∈ scope.names,y.2 = .free -> ∃ c,env.cells.lookup y.1 = some c) :
    ∃ cs:List (Str × Addr),closureFor scope env = pure cs /\ (∀ x c,cs.lookup x = some c -> env.cells.lookup x = some c) /\ ∀ x,(x,NameKind.free) ∈ scope.names -> ∃ d,cs.lookup x = some d:=by
  have key:∀ (l:List (Str × NameKind)) (cs:List (Str × Addr)),(∀ y ∈ l,y.2 = .free -> ∃ c,env.cells.lookup y.1 = some c) -> (∀ x c,cs.lookup x = some c -> env.cells.lookup x = some c) -> ∃ cs':List (Str × Addr),
      (forIn l cs (fun (y:Str × NameKind) (cs:List (Str × Addr))=>(do if y.2 == .free then do let c <- cellOf env y.1; pure (ForInStep.yield ((y.1,c) :: cs)) else pure (ForInStep.yield cs):Sem (ForInStep (List (Str × Addr)))))) = pure cs' /\
      (∀ x c,cs'.lookup x = some c -> env.cells.lookup x = some c) /\ ∀ x,(x,NameKind.free) ∈ l \/ (∃ d,cs.lookup x = some d) -> ∃ d,cs'.lookup x = some d:=by
    intro l
    induction l with
    | nil=>exact fun cs _ hc=>⟨cs,rfl,hc,fun x q=>q.resolve_left List.not_mem_nil⟩
    | cons y r ih =>
      intro cs hl hc
      obtain ⟨x,k⟩:=y
      rw [List.forIn_cons]
      by_cases q:(k == NameKind.free) = true
      · obtain ⟨c,e⟩:=hl (x,k) (.head _) (beq_iff_eq.mp q)
        obtain ⟨cs',e1,e2,e3⟩:=ih ((x,c) :: cs) (fun y hy=>hl y (.tail _ hy)) fun z d hd=>by
          rw [List.lookup_cons] at hd
          by_cases w:(z == x) = true
          · rw [w] at hd; cases hd; rw [beq_iff_eq.mp w]; exact e
          · rw [(Bool.not_eq_true _).mp w] at hd; exact hc z d hd
        refine ⟨cs',?_,e2,fun z w=>e3 z ?_⟩
        · rw [if_pos q,cellOf,e,pure_bind,pure_bind]; exact e1
        · by_cases v:(z == x) = true
          · exact .inr ⟨c,by rw [List.lookup_cons,v]⟩
          · refine w.imp (fun w=>?_) fun w=>w.imp fun d hd=>by rw [List.lookup_cons,(Bool.not_eq_true _).mp v]; exact hd
            exact (List.mem_cons.mp w).resolve_left fun u=>v (by cases u; exact beq_self_eq_true _)
      · rw [if_neg q,pure_bind]
        obtain ⟨cs',e1,e2,e3⟩:=ih cs (fun y hy=>hl y (.tail _ hy)) hc
        exact ⟨cs',e1,e2,fun z w=>e3 z (w.imp_left fun w=>(List.mem_cons.mp w).resolve_left fun u=>q (by cases u; rfl))⟩
  obtain ⟨cs,e1,e2,e3⟩:=key scope.names [] h fun x c q=>none_some q
  exact ⟨cs,by unfold closureFor; simp only [bind_pure]; exact e1,e2,fun x q=>e3 x (.inl q)⟩
end
end Mine
end
section
namespace Mine
open PySem PySem.W PyProof.Rows PySem.MeetsSeq
structure IterD (cx:Cx) (A:Around) (I:Addr) (l:List V) (P:Nat -> Value -> Prop) (St:Nat -> Heap -> Prop) (J:Wd -> Heap -> Prop) (fp:List Addr):Prop where
  walks:Walks cx.prog cx.w A I fp [I] l.length P St
  live:∀ i h,St i h -> ∃ o,h.get? I = some o /\ o.cls ≠ .type "tuple" /\ o.cls ≠ .type "list"
  mono:∀ (W:Wd) (h:Heap) (W':Wd) (h':Heap),Sta W.φ W.z h W'.φ W'.z h' -> J W h -> J W' h'
  fix:∀ b ∈ fp,b = I \/ ∀ (W:Wd) (h:Heap) (W':Wd) (h':Heap),J W h -> Sta W.φ W.z h W'.φ W'.z h' -> ∀ o,h.get? b = some o -> h'.get? b = some o
  rel:∀ (W:Wd) (h:Heap) (i:Nat) (v:Value) (y:V),J W h -> P i v -> l[i]? = some y -> VRel cx W.φ W.z h y v
noncomputable def ph (c:PySem.Env) (T:List Addr):FrameI:={ env:=c,ρ:=fun _=>none,own:=T,real:=false }
noncomputable def Wd.ph (W:Wd) (c:PySem.Env) (T:List Addr):Wd:=W.under (Mine.ph c T)
section
variable {cx:Cx} {Kf:Frag} {A:Around} {W:Wd} {s:Shared} {n:Nat} {env:PySem.Env} {ρ:Env} {α β γ ζ:Type} {C:Oracle} {cenv:PySem.Env} {K₀:List FrameI} {D I:Addr} {x:String} {ys:List V} {T:List Addr}
theorem mut_ph {a:Addr} (h:Mut (W.ph cenv T) a):Mut W a \/ a = cenv.locals \/ a ∈ T:=by
  rcases h with h | ⟨F,hF,q⟩
  · exact .inl (.inl h)
  · rcases List.mem_cons.mp hF with rfl | hF
    · exact .inr q
    · exact .inl (.inr ⟨F,hF,q⟩)
theorem ph_mut {a:Addr} (h:a ∈ T):Mut (W.ph cenv T) a:=.inr ⟨_,.head _,.inr h⟩
theorem mut_top {W:Wd} {F F2:FrameI} {r:List FrameI} (hK:W.K = F :: r) (e1:F2.env = F.env) (e2:F2.own = F.own) {b:Addr} (h:Mut (W.top F2) b):Mut W b:=by
  rcases h with h | ⟨G,hG,q⟩
  · exact .inl h
  · rcases List.mem_cons.mp hG with rfl | hG
    · exact .inr ⟨F,by rw [hK]; exact .head _,by rw [<- e1,<- e2]; exact q⟩
    · exact .inr ⟨G,List.mem_of_mem_tail hG,q⟩
structure FrC (cenv:PySem.Env) (D:Addr) (x:String) (ρ:Env) (F:FrameI):Prop where
  env:F.env = cenv
  real:F.real = false
  own:F.own = []
  acc:F.acc = [D]
  le:∀ z V,z ≠ x -> ρ z = some V -> F.ρ z = some V
structure CS (cx:Cx) (cenv:PySem.Env) (K₀:List FrameI) (D:Addr) (x:String) (ρ:Env) (W:Wd) (s:Shared) (ys:List V):Prop where
  frame:∃ F,W.K = F :: K₀ /\ FrC cenv D x ρ F
  inv:Inv cx W s.heap
  acc:∃ vals,s.heap.PlainList D vals /\ VRels cx W.φ W.z s.heap ys vals.toList
  nD:¬ Mut W D
theorem Ext.via {W W' W'':Wd} {s s' s'':Shared} {T T':List Addr} {F':FrameI} (x:Ext (W.ph cenv T) s W' s') (y:Ext (W'.ph cenv T') s' W'' s'') (hT:∀ a ∈ T',a ∈ T) (hK:W'.K = F' :: K₀) (e:F'.env = cenv) (o:F'.own = []) (hW:∀ G ∈ K₀,G ∈ W.K):Ext (W.ph cenv T) s W'' s'' :=
  by
  refine Ext.trans (W':=W'.ph cenv T') (fun a _ z=>?_) ⟨x.n,x.same,x.new,x.live,x.hid,x.keep,x.gens,x.os⟩ y
  refine cps fun G9 k9=>?_
  obtain ⟨G,hG,q⟩:=z
  refine k9 ?_
  rcases List.mem_cons.mp hG with rfl | hG
  · exact ⟨_,.head _,q.imp_right (hT a)⟩
  · rw [hK] at hG
    rcases List.mem_cons.mp hG with rfl | hG
    · refine ⟨_,.head _,.inl (q.elim (fun q=>q.trans (congrArg _ e)) fun q=>?_)⟩
      rw [o] at q; exact absurd q List.not_mem_nil
    · exact ⟨G,.tail _ (hW G hG),q⟩
theorem Ext.ph {W W':Wd} {s s':Shared} (x:Ext W s W' s'):Ext (W.ph cenv T) s W' s':=⟨x.n,x.same,x.new,x.live,x.hid,fun a o e nm=>x.keep a o e fun m=>nm (m.imp_right fun ⟨F,hF,q⟩=>⟨F,.tail _ hF,q⟩),x.gens,x.os⟩
theorem CS.hid (c:CS cx cenv K₀ D x ρ W s ys):D ∈ W.z.hid:=by
  obtain ⟨F,hK,f⟩:=c.frame
  exact List.mem_flatMap.mpr ⟨F,by rw [hK]; exact .head _,by rw [f.acc]; exact .head _⟩
theorem CS.ao (c:CS cx cenv K₀ D x ρ W s ys) (AO:AOk A K₀ n):AOk A W.K n:=by
  obtain ⟨F,hK,f⟩:=c.frame
  exact ⟨AO.handled,AO.frames.trans (by rw [hK]; unfold reals; rw [List.filter_cons,f.real]; rfl),AO.depth,AO.units⟩
set_option tactic.hygienic true in
theorem CS.sta {W':Wd} {s':Shared} (c:CS cx cenv K₀ D x ρ W s ys) (y:Ext (W.ph cenv [D]) s W' s'):Sta W.φ W.z s.heap W'.φ W'.z s'.heap:=by
  refine ⟨fun a o xs m e d q=>y.keep a o e fun z=>?_,y.n,fun i hi=>(y.same i hi).1,fun i h1 h2 o e=>none_some ((y.new i h1 h2).1.symm.trans e),fun a q=>(y.hid a q).imp id fun z o e=>none_some (z.symm.trans e)⟩
  refine cps fun G k=>?_
  obtain ⟨F,hK,f⟩:=c.frame
  obtain ⟨vals,⟨mm,e'⟩,r⟩:=c.acc
  refine k ?_
  have nm:=c.inv.notMut e d q
  rcases mut_ph z with z | rfl | z
  · exact nm z
  · exact nm (.inr ⟨F,by rw [hK]; exact .head _,.inl (by rw [f.env])⟩)
  · obtain rfl:=List.mem_singleton.mp z
    rw [e'] at e
    cases e
    exact q.elim (fun q=>absurd q (by simp)) fun q=>q.2.2 c.hid
structure ItOk (cx:Cx) (I:Addr) (St:Nat -> Heap -> Prop) (J:Wd -> Heap -> Prop) (i:Nat) (W:Wd) (h:Heap):Prop where
  st:St i h
  j:J W h
  nm:¬ Mut W I
  nh:I ∉ W.z.hid
variable {l:List V} {P:Nat -> Value -> Prop} {St:Nat -> Heap -> Prop} {J:Wd -> Heap -> Prop} {fp:List Addr} {i:Nat}
theorem ItOk.to {W':Wd} {h h':Heap} (It:IterD cx A I l P St J fp) (t:ItOk cx I St J i W h) (S:Sta W.φ W.z h W'.φ W'.z h') (kI:∀ o,h.get? I = some o -> h'.get? I = some o) (nm:¬ Mut W' I) (nh:I ∉ W'.z.hid):ItOk cx I St J i W' h' :=
  ⟨It.walks.frame i h h' t.st fun b hb o e=>(It.fix b hb).elim (fun q=>q ▸ kI o (q ▸ e)) fun z=>z W h W' h' t.j S o e,It.mono _ _ _ _ S t.j,nm,nh⟩
theorem ItOk.as {h:Heap} (It:IterD cx A I l P St J fp) (t:ItOk cx I St J i W h) (hb:cx.base.get? I = none):Aside cx W h I:=by
  obtain ⟨o,e,n1,n2⟩:=It.live _ _ t.st
  exact ⟨t.nm,hb,fun o' _ _ e' _=>Option.some.inj (e.symm.trans e') ▸ n1,fun o' _ _ e' _ q=>absurd (Option.some.inj (e.symm.trans e') ▸ q) n2⟩
theorem CS.it {W':Wd} {s':Shared} {ys':List V} {x':String} {ρ':Env} (It:IterD cx A I l P St J fp) (c:CS cx cenv K₀ D x ρ W s ys) (c':CS cx cenv K₀ D x' ρ' W' s' ys') (t:ItOk cx I St J i W s.heap) (y:Ext (W.ph cenv [D]) s W' s') (ne:I ≠ D):ItOk cx I St J i W' s'.heap:=by
  refine cps fun G k=>?_
  obtain ⟨F,hK,f⟩:=c.frame
  obtain ⟨F',hK',f'⟩:=c'.frame
  obtain ⟨o,e,_⟩:=It.live _ _ t.st
  have hF:F ∈ W.K:=by rw [hK]; exact .head _
  refine k (t.to It (c.sta y) (fun o e=>y.keep _ o e fun z=>?_) ?_ fun z=>?_)
  · rcases mut_ph z with z | z | z
    · exact t.nm z
    · exact t.nm (.inr ⟨F,hF,.inl (by rw [f.env]; exact z)⟩)
    · exact ne (List.mem_singleton.mp z)
  · rintro (⟨i,hi,q⟩ | ⟨G,hG,q⟩)
    · rcases Nat.lt_or_ge i W.σ.n with z | z
      · rw [(y.same i z).1,(y.same i z).2] at q
        exact t.nm (.inl ⟨i,z,q⟩)
      · have:=y.new i z hi
        exact q.elim (fun q=>none_some ((q ▸ this.1).symm.trans e)) fun q=>none_some ((q ▸ this.2).symm.trans e)
    · rw [hK'] at hG
      rcases List.mem_cons.mp hG with rfl | hG
      · rw [f'.env,f'.own] at q
        exact t.nm (.inr ⟨F,hF,by rw [f.env,f.own]; exact q⟩)
      · exact t.nm (.inr ⟨G,by rw [hK]; exact .tail _ hG,q⟩)
  · exact (y.hid I z).elim t.nh fun z=>none_some (z.symm.trans e)
theorem CS.aside {s':Shared} {ys':List V} (c:CS cx cenv K₀ D x ρ W s ys) (b:Addr) (hT:Aside cx W s.heap b) (lv:b ∈ W.z.hid -> ∃ o,s'.heap.get? b = some o) (k:∀ a o,s.heap.get? a = some o -> ¬ a = b -> s'.heap.get? a = some o)
    (acc:Sta W.φ W.z s.heap W.φ W.z s'.heap -> ∃ vals,s'.heap.PlainList D vals /\ VRels cx W.φ W.z s'.heap ys' vals.toList):CS cx cenv K₀ D x ρ W s' ys' :=
  have hT':∀ a,a = b -> Aside cx W s.heap a:=fun a q=>q ▸ hT
  ⟨c.frame,c.inv.aside (· = b) hT' k fun a q z=>q ▸ lv (q ▸ z),acc (Sta.aside (· = b) hT' k),c.nD⟩
theorem CS.asD (c:CS cx cenv K₀ D x ρ W s ys) (hb:cx.base.get? D = none):Aside cx W s.heap D:=by
  obtain ⟨vals,⟨m,e⟩,r⟩:=c.acc
  exact ⟨c.nD,hb,fun o' _ _ e' _ q=>absurd (Option.some.inj (e.symm.trans e') ▸ q) (by simp),fun o' _ _ e' _ q=>c.hid⟩
theorem CS.step {W':Wd} {s':Shared} (c:CS cx cenv K₀ D x ρ W s ys) (I':Inv cx W' s'.heap) (X:Ext W s W' s') (k:W'.K = W.K):CS cx cenv K₀ D x ρ W' s' ys :=
  ⟨c.frame.imp fun F q=>⟨k.trans q.1,q.2⟩,I',c.acc.imp fun vals q=>⟨q.1.imp fun m e=>X.keep _ _ e c.nD,VRels.mono (X.sta c.inv) q.2⟩,c.acc.elim fun vals q=>q.1.elim fun m e=>Mut.step X k ⟨_,e⟩ c.nD⟩
end
end Mine
end
section
namespace Mine
open PySem PySem.W PyProof.Rows PySem.MeetsSeq
section
variable {cx:Cx} {Kf:Frag} {A:Around} {W:Wd} {s:Shared} {n:Nat} {env:PySem.Env} {ρ:Env} {α β γ ζ:Type} {R:Wd -> Heap -> α -> β -> Prop} {C:Oracle} {cenv:PySem.Env} {K₀:List FrameI} {D I:Addr} {x:String} {ys:List V} {T:List Addr}
theorem Snd.ok {t:Sem β} {x:M α} {a:α} {σ:Store} (h:Snd cx R t A W s x) (e:x W.σ = .ok a σ) {Q:β -> Shared -> Prop} {E:Value -> Shared -> Prop}
    (hq:∀ v s' W',W'.σ = σ -> Inv cx W' s'.heap -> Ext W s W' s' -> W'.K = W.K -> R W' s'.heap a v -> Q v s'):wpAny cx.m A t Q E s:=by
  refine h Q E (fun v s' a' W' e' I X k r=>?_) (fun ev s' m kk c W' e'=>nomatch e.symm.trans e') (e ▸ nofun)
  injection e.symm.trans e' with e1 e2
  exact hq v s' W' e2.symm I X k (e1 ▸ r)
noncomputable def testsT (ifs:List PySem.Expr) (env:PySem.Env):Sem Bool:=forIn ifs true fun c r=>if r = true then do let ok <- isTrue c env (eval c env); pure (ForInStep.yield ok) else pure (ForInStep.yield r)
theorem Inv.weaken {F F':FrameI} {r:List FrameI} {h:Heap} (I:Inv cx W h) (hK:W.K = F :: r) (e1:F'.env = F.env) (e2:F'.own = F.own) (e3:F'.acc = F.acc) (e4:F'.real = F.real) (hρ:∀ z V,F'.ρ z = some V -> F.ρ z = some V):Inv cx (W.top F') h:=by
  refine cps fun G k=>?_
  have FO:=I.frm.mem F (by rw [hK]; exact .head _)
  obtain ⟨m,hn,hv⟩:=FO.ns
  refine k (I.topTurn hK (.inl rfl) (Heap.SameBut.refl ..) e1 e2 e3 fun S=>?_)
  refine ⟨by rw [e1]; exact FO.kind,by rw [e1]; exact FO.glob,by rw [e1]; exact FO.bi,by rw [e1,e4]; exact FO.fr,⟨m,by rw [e1]; exact hn,fun x V hx e=>?_⟩,by rw [e1,e2,e4]; exact FO.cell,by rw [e2]; exact FO.cellAt,by rw [e1]; exact FO.cellOf,by rw [e1,e4]; exact FO.cellInj⟩
  have:=hv x V hx (hρ x V e)
  unfold VarAt at this ⊢
  rw [top_z hK e3,e1]
  exact this
theorem CS.bind {y:V} {v:Value} {p:Pos} {Q:Unit -> Shared -> Prop} {E:Value -> Shared -> Prop} (c:CS cx cenv K₀ D x ρ W s ys) (hx:cenv.kindOf (Str.ofString x) = some .local) (ry:VRel cx W.φ W.z s.heap y v)
    (h:∀ W' s',W'.σ = W.σ -> Here W' cenv (ρ.set x y) -> CS cx cenv K₀ D x ρ W' s' ys -> Ext W s W' s' -> Q () s'):wpAny cx.m A (assign (.Name (Str.ofString x) p) cenv v) Q E s:=by
  refine cps fun G9 k9=>?_
  obtain ⟨F,hK,f⟩:=c.frame
  have FO:=c.inv.frm.mem F (by rw [hK]; exact .head _)
  obtain ⟨m,hn,hv⟩:=FO.ns
  have ef:=f.env
  subst ef
  refine k9 (wpAny_assign_Name (wpAny_storeName_local hx hn (fun h' hn' hs=>?_) (by rw [FO.kind]; rfl)))
  have I':=c.inv.setLocal hK hv hx ry hn' hs
  have tk:(W.top (F.put x y)).K = F.put x y :: K₀:=by rw [Wd.top,hK]; rfl
  have hz:(W.top (F.put x y)).z = W.z:=top_z hK rfl
  have X:Ext W s (W.top (F.put x y)) { s with heap:=h',toks:=s.toks + 1 }:=Ext.topTurn hK rfl (.inl rfl) hs (hn'.elim fun o z=>z.elim fun _ z=>z.elim fun _ z=>⟨o,z.1⟩) rfl rfl
  let F2:FrameI:={ F with ρ:=ρ.set x y }
  have e2:(W.top (F.put x y)).top F2 = W.top F2:=rfl
  have I2:Inv cx (W.top F2) h':=e2 ▸ I'.weaken (F':=F2) tk rfl rfl rfl rfl fun z V e=>by
    by_cases q:z = x
    · exact (if_pos q).trans ((if_pos q).symm.trans e)
    · exact (if_neg q).trans (f.le z V q ((if_neg q).symm.trans e))
  have X2:Ext W s (W.top F2) { s with heap:=h',toks:=s.toks + 1 }:=⟨X.n,X.same,X.new,X.live,X.hid,X.keep,X.gens,X.os⟩
  have tk2:(W.top F2).K = F2 :: K₀:=by rw [Wd.top,hK]; rfl
  exact h (W.top F2) _ rfl ⟨F2,K₀,tk2,rfl,rfl⟩ ⟨⟨F2,tk2,rfl,f.real,f.own,f.acc,fun z V q e=>(if_neg q).trans e⟩,I2,c.acc.imp fun vals q=>⟨q.1.imp fun m e=>X.keep _ _ e c.nD,VRels.mono (X2.sta c.inv) q.2⟩,fun z=>c.nD (mut_top (F2:=F2) hK rfl rfl z)⟩ X2
noncomputable def Body (cx:Cx) (A:Around) (cenv:PySem.Env) (K₀:List FrameI) (D:Addr) (x:String) (ρ:Env) (f:V -> M (List V)) (body:Sem Unit):Prop :=
  ∀ W s y ys zs σ' E,CS cx cenv K₀ D x ρ W s ys -> Here W cenv (ρ.set x y) -> f y W.σ = .ok zs σ' -> ys.length + zs.length < 100000 ->
    wpAny cx.m A body (fun _ s'=>∃ W',W'.σ = σ' /\ CS cx cenv K₀ D x ρ W' s' (ys ++ zs) /\ Ext (W.ph cenv [D]) s W' s') E s
noncomputable def TurnEq (e:PySem.Expr) (d:Nat) (it acc:Value) (env:PySem.Env) (t:PySem.Expr) (body:Sem Unit):Prop :=
  ∀ (M:Model) (A:Around) (Q:PySem.Fin -> Shared -> Prop) (E:Value -> Shared -> Prop) (s:Shared),wpAny M A (pyNext it) (fun r s₁=>r.elim (Q (.done .next) s₁) fun v=>wpAny M A (assign t env v) (fun _ s₂=>wpAny M A body (fun _ s₃=>Q (.again (.compLoop e d it acc env)) s₃) E s₂) E s₁) E s -> wpAny M A (compTurn e d it acc env) Q E s
set_option tactic.hygienic true in
theorem comp_loop {elt:PySem.Expr} {gs:List PySem.Comprehension} {sc:PySem.Scope} {pos:Pos} {d:Nat} {p:Pos} {body:Sem Unit} {f:V -> M (List V)} {l:List V} {P St J fp} {W₀:Wd} {s₀:Shared} (hT:TurnEq (.ListComp elt gs sc pos) d (.ref I) (.ref D) cenv (.Name (Str.ofString x) p) body) (It:IterD cx A I l P St J fp) (hx:cenv.kindOf (Str.ofString x) = some .local) (hb:Body cx A cenv K₀ D x ρ f body)
    (bI:cx.base.get? I = none) (nI:s₀.heap.get? I = none) (ne:I ≠ D) (hW:∀ G ∈ K₀,G ∈ W₀.K) {σe:Store} {RR:Result -> Shared -> Prop}:∀ (r:List V) (i:Nat) (W:Wd) (s:Shared) (ys vs:List V),(∀ j,r[j]? = l[i + j]?) -> i + r.length = l.length -> CS cx cenv K₀ D x ρ W s ys -> ItOk cx I St J i W s.heap -> Ext (W₀.ph cenv [D,I]) s₀ W s -> flatItems f r W.σ = .ok vs σe -> ys.length + vs.length < 100000 ->
      (∀ W' s',W'.σ = σe -> CS cx cenv K₀ D x ρ W' s' (ys ++ vs) -> Ext (W₀.ph cenv [D,I]) s₀ W' s' -> RR (.ok .next) s') -> codeAny cx.m A (.compLoop (.ListComp elt gs sc pos) d (.ref I) (.ref D) cenv) RR s:=by
  have next:∀ {W:Wd} {s:Shared} {ys:List V} {i:Nat} {h':Heap} {tk:Nat},CS cx cenv K₀ D x ρ W s ys -> ItOk cx I St J i W s.heap -> Ext (W₀.ph cenv [D,I]) s₀ W s -> (∀ b o,b ∉ [I] -> s.heap.get? b = some o -> h'.get? b = some o) -> CS cx cenv K₀ D x ρ W { s with heap:=h',toks:=tk } ys /\ Ext (W₀.ph cenv [D,I]) s₀ W { s with heap:=h',toks:=tk } /\ Sta W.φ W.z s.heap W.φ W.z h':=fun c t X kk=>by
    have k':∀ a o,_ -> ¬ a = I -> _:=fun a o e na=>kk a o (fun q=>na (List.mem_singleton.mp q)) e
    have as:=t.as It bI
    exact ⟨c.aside I as (fun z=>absurd z t.nh) k' fun S=>c.acc.imp fun vals q=>⟨q.1.imp fun m e=>k' _ _ e (Ne.symm ne),VRels.mono S q.2⟩,X.aside (· = I) (fun b q=>.inl (q ▸ nI)) k' rfl rfl,Sta.aside (· = I) (fun b q=>q ▸ as) k'⟩
  intro r
  induction r with
  | nil =>
    intro i W s ys vs hr hi c t X hok hlen hR
    refine codeAny_of_tree ?_
    show wpAny _ A ((compTurn (.ListComp elt gs sc pos) d (.ref I) (.ref D) cenv).onRaise fun x=>do noteFrame x cenv; theTreesLotGoes x) _ _ s
    refine wpAny_noted (hT _ _ _ _ _ ?_)
    obtain rfl:i = l.length:=hi
    refine It.walks.done s _ _ t.st fun h' tk kk=>?_
    cases hok
    rw [List.append_nil] at hR
    have z:=next (tk:=tk) c t X kk
    exact hR W _ rfl z.1 z.2.1
  | cons y r ih =>
    intro i W s ys vs hr hi c t X hok hlen hR
    refine codeAny_of_tree ?_
    show wpAny _ A ((compTurn (.ListComp elt gs sc pos) d (.ref I) (.ref D) cenv).onRaise fun x=>do noteFrame x cenv; theTreesLotGoes x) _ _ s
    refine wpAny_noted (hT _ _ _ _ _ ?_)
    have hi':i + 1 + r.length = l.length:=(Nat.succ_add_eq_add_succ i r.length).trans hi
    refine It.walks.item i s _ _ (hi' ▸ Nat.le_add_right _ _) t.st fun v h' tk hP st' kk=>?_
    have z:=next (tk:=tk) c t X kk
    refine z.1.bind hx (It.rel _ _ _ _ _ (It.mono _ _ _ _ z.2.2 t.j) hP (hr 0).symm) fun W2 s2 eσ hh c2 X2=>?_
    have t1:ItOk cx I St J (i + 1) W { s with heap:=h',toks:=tk }.heap:=⟨st',It.mono _ _ _ _ z.2.2 t.j,t.nm,t.nh⟩
    have t2:=z.1.it It c2 t1 X2.ph ne
    refine cps fun G k=>?_
    obtain ⟨as,σ1,h1,hq⟩:=M.bind_eq_ok hok
    obtain ⟨bs,σ2,h2,hq⟩:=M.bind_eq_ok hq
    obtain ⟨F,hK,fc⟩:=z.1.frame
    obtain ⟨F2,hK2,fc2⟩:=c2.frame
    cases hq
    rw [List.length_append,<- Nat.add_assoc] at hlen
    rw [<- List.append_assoc] at hR
    have Xa:=z.2.1.via (T':=[]) X2.ph nofun hK fc.env fc.own hW
    refine k (wpAny_mono (hb W2 s2 y ys as σ1 _ c2 hh (eσ ▸ h1) (Nat.lt_of_le_of_lt (Nat.le_add_right _ _) hlen)) (fun _ s3 q=>q.elim fun W3 q=>?_) fun _ _ x=>x)
    exact ⟨rfl,ih (i + 1) W3 s3 (ys ++ as) bs (fun j=>(hr (j + 1)).trans (congrArg (l[·]?) (Nat.succ_add_eq_add_succ i j).symm)) hi' q.2.1 (c2.it It q.2.1 t2 q.2.2 ne) (Xa.via q.2.2 (fun a z=>(List.mem_singleton.mp z) ▸ .head _) hK2 fc2.env fc2.own hW) (q.1 ▸ h2) (by rw [List.length_append]; exact hlen) hR⟩
end
end Mine
end
section
namespace Mine
open PySem PySem.W PyProof.Rows PySem.MeetsSeq
section
variable {cx:Cx} {Kf:Frag} {A:Around} {W:Wd} {s:Shared} {n:Nat} {env:PySem.Env} {ρ:Env} {α β γ ζ:Type} {R:Wd -> Heap -> α -> β -> Prop} {R':Wd -> Heap -> γ -> ζ -> Prop} {C:Oracle}
inductive RIt (cx:Cx) (W:Wd) (h:Heap) (l:List V):Value -> Prop where
  | tup {a:Addr} {items:Array Value} (t:IsTup h a items) (r:VRels cx W.φ W.z h l items.toList):RIt cx W h l (.ref a)
  | lst {a:Addr} {items:Array Value} (t:h.IsList a items) (f:(∀ i,i < W.z.n -> W.φ i ≠ a) /\ a ∉ W.z.hid) (r:VRels cx W.φ W.z h l items.toList):RIt cx W h l (.ref a)
  | rng {r:Addr} {n:Nat} {t u x} (t:IsRange h r 0 (n:Nat) 1 t u x) (hn:n < 1000) (e:l = (List.range n).map fun k=>.int (Int.ofNat k)):RIt cx W h l (.ref r)
theorem iterD_seq {a I:Addr} {items:Array Value} {l:List V} {St:Nat -> Heap -> Prop} {K:Wd -> Heap -> Prop} (hw:Walks cx.prog cx.w A I [I,a] [I] items.size (fun i v=>items[i]? = some v) St) (hz:l.length = items.size)
    (live:∀ i h,St i h -> ∃ o,h.get? I = some o /\ o.cls ≠ .type "tuple" /\ o.cls ≠ .type "list") (mono:∀ (W:Wd) (h:Heap) (W':Wd) (h':Heap),Sta W.φ W.z h W'.φ W'.z h' -> K W h -> K W' h')
    (fix:∀ (W:Wd) (h:Heap) (W':Wd) (h':Heap),K W h -> Sta W.φ W.z h W'.φ W'.z h' -> ∀ o,h.get? a = some o -> h'.get? a = some o) :
    IterD cx A I l (fun i v=>items[i]? = some v) St (fun W h=>K W h /\ VRels cx W.φ W.z h l items.toList) [I,a] :=
  ⟨hz ▸ hw,live,fun W h W' h' S j=>⟨mono W h W' h' S j.1,VRels.mono S j.2⟩,fun b hb=>(List.mem_cons.mp hb).imp (fun z=>z) fun z=>(show b = a from List.mem_singleton.mp z) ▸ fun W h W' h' j S=>fix W h W' h' j.1 S,
    fun W h i v y j hp hy=>(j.2.get hy).elim fun v' q=>Option.some.inj ((Array.getElem?_toList.symm.trans q.1).symm.trans hp) ▸ q.2⟩
theorem iterD_range (hh:A.handled = none) {I:Addr} {n:Nat} :
    IterD cx A I ((List.range n).map fun k=>V.int (Int.ofNat k)) (fun i v=>∃ t,v = .int (0 + i * 1) t) (fun i h=>IsRangeIter h I (0 + (i:Nat) * 1) ((n:Int) - (i:Nat)) 1) (fun _ _=>True) [I]:=by
  refine ⟨by simpa using Walks.range hh I 0 1 n,fun i h st=>⟨_,st,by simp,by simp⟩,fun _ _ _ _ _ _=>trivial,fun b hb=>.inl (List.mem_singleton.mp hb),fun W h i v y _ hv hy=>?_⟩
  rw [List.getElem?_map] at hy
  obtain ⟨k,hk,rfl⟩:=Option.map_eq_some_iff.mp hy
  obtain ⟨hi,rfl⟩:=List.getElem?_eq_some_iff.mp hk
  exact hv.imp fun t e=>e.trans (by rw [List.getElem_range,Int.zero_add,Int.mul_one]; rfl)
set_option tactic.hygienic true in
theorem RIt.new (hh:A.handled = none) {l:List V} {v:Value} (r:RIt cx W s.heap l v) {Q:Value -> Shared -> Prop} {E:Value -> Shared -> Prop}
    (h:∀ o P St J fp,o.cls ≠ .type "tuple" -> o.cls ≠ .type "list" -> o.isFreed = false -> IterD cx A s.heap.objs.size l P St J fp -> St 0 (s.heap.push o) -> J W (s.heap.push o) -> Q (.ref s.heap.objs.size) { s with heap:=s.heap.push o }) :
    wpAny cx.m A (pyIter v) Q E s:=by
  rcases r with ⟨ht,rr⟩ | ⟨ht,f,rr⟩ | ⟨hr,hk,rfl⟩
  · rename_i b items
    have kp:=push_keeps s.heap { cls:=.type "tuple_iterator",data:=.fields #[.ref b,.int 0 0] }
    have ne:b ≠ s.heap.objs.size:=Nat.ne_of_lt (ht.elim fun o z=>Heap.lt_size z.1)
    exact wpAny_pyIter_tuple ht (h _ _ _ _ _ (by simp) (by simp) rfl (iterD_seq (K:=fun _ h=>IsTup h b items) (Walks.tuple hh _ b ne items) rr.length (fun i h z=>z.1.imp fun o z=>⟨z.1,by rw [z.2.1]; decide,by rw [z.2.1]; decide⟩) (fun W h W' h' S z=>S.tup z)
      fun W h W' h' z S o e=>by obtain ⟨o',ho,hc,m,hd⟩:=z; rw [ho] at e; cases e; exact S.keep _ _ _ _ ho hd (.inl hc)) ⟨⟨_,Heap.get?_push_size _ rfl,rfl,rfl⟩,ht.keeps kp⟩ ⟨ht.keeps kp,VRels.mono (Sta.of_keeps kp) rr⟩)
  · rename_i b items
    have kp:=push_keeps s.heap { cls:=.type "list_iterator",data:=.fields #[.ref b,.int 0 0] }
    have ne:b ≠ s.heap.objs.size:=Nat.ne_of_lt (ht.elim fun o z=>Heap.lt_size z.1)
    have ht':(s.heap.push { cls:=.type "list_iterator",data:=.fields #[.ref b,.int 0 0] }).IsList b items:=ht.imp fun o q=>⟨kp _ _ q.1,q.2⟩
    exact wpAny_pyIter_list ht (h _ _ _ _ _ (by simp) (by simp) rfl (iterD_seq (K:=fun W h=>h.IsList b items /\ (∀ i,i < W.z.n -> W.φ i ≠ b) /\ b ∉ W.z.hid) (Walks.list hh _ b ne items) rr.length (fun i h z=>z.1.imp fun o z=>⟨z.1,by rw [z.2.1]; decide,by rw [z.2.1]; decide⟩) (fun W h W' h' S z=>S.lst z.1 z.2)
      fun W h W' h' z S o e=>by obtain ⟨⟨o',ho,hc,m,hd⟩,f⟩:=z; rw [ho] at e; cases e; exact S.keep _ _ _ _ ho hd (.inr ⟨hc,f⟩)) ⟨⟨_,Heap.get?_push_size _ rfl,rfl,rfl⟩,ht'⟩ ⟨⟨ht',f⟩,VRels.mono (Sta.of_keeps kp) rr⟩)
  · rename_i ra k _ _ _
    have e:Builtin.Range.rangeSize 0 (k:Int) 1 = k:=by
      unfold Builtin.Range.rangeSize
      rw [if_pos (by decide)]
      by_cases q:0 < k
      · rw [if_pos (by lia)]; simp
      · rw [if_neg (by lia)]; lia
    refine wpAny_pyIter_range hr ?_ (h _ _ _ _ _ (by simp) (by simp) rfl (iterD_range hh) ?_ trivial)
    · unfold Builtin.Range.small
      rw [e]
      simp [Builtin.Range.rangeFitsLong]
      lia
    · rw [e,show (0:Int) + ((0:Nat):Int) * 1 = 0 from rfl,show (k:Int) - ((0:Nat):Int) = k from Int.sub_zero _]
      exact Heap.get?_push_size _ rfl
theorem se_items {e:PySem.Expr} {x:M V} (h:SV cx A n env ρ (eval e env) x):SE cx A n env ρ (RIt cx) (eval e env) (M.bind x itemsOf):=fun W s hh AO I=>by
  refine Snd.eqv (t:=eval e env >>= fun v=>pure v) (x:=M.bind x itemsOf) (bind_pure _).symm rfl ?_
  refine Snd.bind (h W s hh AO I) fun v s' a W' I' X k r=>?_
  rcases a with _ | _ | _ | _ | _ | _ | _ | _
  case tup =>
    obtain ⟨a,items,rfl,ht,rr⟩:=r
    exact Snd.pure I' (.tup ht rr)
  case lst =>
    obtain ⟨a,items,rfl,ht,f,rr⟩:=r
    exact Snd.pure I' (.lst ht f rr)
  all_goals exact Snd.fail
end
end Mine
end
section
namespace Mine
open PySem PySem.W PyProof.Rows PySem.MeetsSeq
theorem relab_lookup (sc:Sc) (y:Str):∀ names:Sc,(relabelSc sc names).lookup y = (names.lookup y).map fun k=>if (k == NameKind.free && sc.lookup y == some .cell) = true then NameKind.cell else k
  | []=>rfl
  | (m,k) :: r=>by
    have ih:=relab_lookup sc y r
    have e:relabelSc sc ((m,k) :: r) = (m,if (k == NameKind.free && sc.lookup m == some .cell) = true then NameKind.cell else k) :: relabelSc sc r:=by
      show (if (k == NameKind.free && sc.lookup m == some .cell) = true then (m,NameKind.cell) else (m,k)) :: _ = _
      by_cases z:(k == NameKind.free && sc.lookup m == some .cell) = true
      · rw [if_pos z,if_pos z]; rfl
      · rw [if_neg z,if_neg z]; rfl
    rw [e,List.lookup_cons,List.lookup_cons]
    by_cases q:(y == m) = true
    · rw [q,beq_iff_eq.mp q]; rfl
    · rw [(Bool.not_eq_true _).mp q]; exact ih
structure CompSc (sc:Sc) (s:PySem.Scope) (xs:List Str):Prop where
  kind:s.kind = .function
  cell:∀ y ∈ s.names,y.2 ≠ .cell
  free:∀ y ∈ s.names,y.2 = .free -> sc.lookup y.1 = some .cell
  loc:∀ y ∈ s.names,y.2 = .local -> s.names.lookup y.1 = some .local /\ (y.1 = ("\x2e0" : Str) \/ xs.contains y.1 = true)
  has:∀ x ∈ xs,s.names.lookup x = some .local
theorem or_of_ne {α:Type} [BEq α] [LawfulBEq α] {a b:α} {c:Bool} (h:(a != b || c) = true) (e:a = b):c = true:=(Bool.or_eq_true_iff.mp h).resolve_left fun z=>bne_iff_ne.mp z e
theorem compSc {sc:Sc} {s:PySem.Scope} {xs:List Str} (h:compScope sc s xs = true):CompSc sc s xs :=
  have h1:=and2 h
  have h2:=and2 h1.1
  have h3:=fun y hy=>and2 (List.all_eq_true.mp h2.2 y hy)
  ⟨beq_iff_eq.mp h2.1,fun y hy=>bne_iff_ne.mp (and2 (h3 y hy).1).1,fun y hy e=>beq_iff_eq.mp (or_of_ne (and2 (h3 y hy).1).2 e),fun y hy e=>have z:=and2 (or_of_ne (h3 y hy).2 e); ⟨beq_iff_eq.mp z.1,(Bool.or_eq_true_iff.mp z.2).imp_left beq_iff_eq.mp⟩,fun x hx=>beq_iff_eq.mp (List.all_eq_true.mp h1.2 x hx)⟩
set_option tactic.hygienic true in
theorem lookup_mem {y:Str} {k:NameKind}:∀ {l:Sc},l.lookup y = some k -> (y,k) ∈ l
  | (m,j) :: r,h=>by
    rw [List.lookup_cons] at h
    by_cases q:(y == m) = true
    · rw [q] at h
      cases h
      rw [beq_iff_eq.mp q]; exact .head _
    · rw [(Bool.not_eq_true _).mp q] at h
      exact .tail _ (lookup_mem h)
theorem dot0:Str.ofString ".0" = ("\x2e0" : Str):=by decide
section
variable {cx:Cx} {Kf:Frag} {A:Around} {W:Wd} {s:Shared} {n:Nat} {env:PySem.Env} {ρ:Env} {α β γ ζ:Type} {R:Wd -> Heap -> α -> β -> Prop} {R':Wd -> Heap -> γ -> ζ -> Prop} {C:Oracle}
noncomputable def unsets (ρ:Env) (xs:List String):Env:=fun z=>if z ∈ xs then none else ρ z
theorem unsets_some {ρ:Env} {y:String} {V:V} {xs:List String} (h:unsets ρ xs y = some V):ρ y = some V /\ y ∉ xs:=by
  unfold unsets at h
  by_cases q:y ∈ xs
  · rw [if_pos q] at h; exact none_some h
  · rw [if_neg q] at h; exact ⟨h,q⟩
structure Capt (env:PySem.Env) (sc:PySem.Scope) (cs:List (Str × Addr)):Prop where
  eq:closureFor sc env = pure cs
  sub:∀ x c,cs.lookup x = some c -> env.cells.lookup x = some c
  has:∀ x,(x,NameKind.free) ∈ sc.names -> ∃ d,cs.lookup x = some d
noncomputable def compF (env:PySem.Env) (sc:PySem.Scope) (cs:List (Str × Addr)) (C D:Addr) (ρ':Env):FrameI:={ env:=compEnvC sc cs C env,ρ:=ρ',own:=[],real:=false,acc:=[D] }
theorem comp_names {sc:PySem.Scope} {cs:List (Str × Addr)} {C:Addr} (hk:env.scope.kind = .function):(compEnvC sc cs C env).scope.names = relabelSc env.scope.names sc.names:=by
  show (relabel sc env).names = _
  unfold relabel relabelSc
  simp only [hk,beq_self_eq_true,Bool.and_true,kindOf_sc]
structure CompKind (env:PySem.Env) (sc:PySem.Scope) (xs:List String) (y:Str) (k:NameKind):Prop where
  loc:k = .local -> y = ("\x2e0" : Str) \/ ∃ x ∈ xs,y = Str.ofString x
  nfree:k ≠ .free
  cell:k = .cell -> (y,NameKind.free) ∈ sc.names /\ env.kindOf y = some .cell
theorem comp_kinds {sc:PySem.Scope} {cs:List (Str × Addr)} {C:Addr} {xs:List String} (hk:env.scope.kind = .function) (c:CompSc env.scope.names sc (xs.map Str.ofString)) {y:Str} {k:NameKind} (e:(compEnvC sc cs C env).kindOf y = some k):CompKind env sc xs y k:=by
  have e:(compEnvC sc cs C env).scope.names.lookup y = some k:=e
  rw [comp_names hk,relab_lookup] at e
  obtain ⟨k0,h0,e⟩:=Option.map_eq_some_iff.mp e
  have mem:=lookup_mem h0
  by_cases q:(k0 == NameKind.free && env.scope.names.lookup y == some .cell) = true
  · rw [if_pos q] at e
    have q:=and2 q
    exact ⟨fun z=>(nomatch e.trans z),fun z=>(nomatch e.trans z),fun _=>⟨beq_iff_eq.mp q.1 ▸ mem,beq_iff_eq.mp q.2⟩⟩
  · rw [if_neg q] at e
    subst e
    refine ⟨fun z=>(c.loc _ mem z).2.imp_right fun w=>?_,fun z=>q ?_,fun z=>absurd z (c.cell _ mem)⟩
    · obtain ⟨x,hx,e⟩:=List.mem_map.mp (List.contains_iff_mem.mp w)
      exact ⟨x,hx,e.symm⟩
    · rw [c.free _ mem z,show k0 = .free from z]; rfl
theorem comp_frame (I:Inv cx W s.heap) (hh:Here W env ρ) {sc:PySem.Scope} {cs:List (Str × Addr)} {xs:List String} (hs:CompSc env.scope.names sc (xs.map Str.ofString)) (hc:Capt env sc cs) {h':Heap} (k:∀ b o,s.heap.get? b = some o -> h'.get? b = some o)
    {C D:Addr} (hC:s.heap.objs.size <= C) (hD:s.heap.get? D = none /\ ∃ o,h'.get? D = some o) (hn:h'.Ns C fun _=>none) :
    Inv cx (W.under (compF env sc cs C D (unsets ρ xs))) h':=by
  refine cps fun G9 k9=>?_
  obtain ⟨F,r,hK,rfl,rfl⟩:=hh
  have hF:F ∈ W.K:=by rw [hK]; exact .head _
  have FO:=I.frm.mem F hF
  obtain ⟨m,hm,hv⟩:=FO.ns
  have frm:=I.frm
  rw [hK] at frm
  have cellx:∀ y,(compEnvC sc cs C F.env).kindOf y = some .cell -> F.env.kindOf y = some .cell /\ ∃ c,cs.lookup y = some c /\ F.env.cells.lookup y = some c:=fun y e =>
    have z:=(comp_kinds FO.kind hs e).cell rfl
    ⟨z.2,(hc.has y z.1).imp fun d hd=>⟨hd,hc.sub _ _ hd⟩⟩
  refine k9 (I.enter k hC (fun _ q=>absurd q List.not_mem_nil) List.nodup_nil (fun a q=>List.mem_singleton.mp q ▸ hD) ⟨hs.kind,FO.glob,FO.bi,fun q=>no_tf q,⟨_,hn,fun y V hy e=>?_⟩,fun _ _ q=>no_tf q,fun _ q=>absurd q List.not_mem_nil,fun y q=>(cellx y q).2.imp fun c z=>z.1,fun _ _ _ q=>no_tf q⟩ fun y c q=>?_)
  · obtain ⟨e1,e2⟩:=unsets_some e
    refine ⟨fun q=>?_,fun q=>?_⟩
    · rcases (comp_kinds FO.kind hs q).loc rfl with z | ⟨x,hx,z⟩
      · rw [<- dot0] at z; exact absurd (ofString_inj z) hy
      · exact absurd (ofString_inj z ▸ hx) e2
    · have q':=q.resolve_right fun z=>(comp_kinds FO.kind hs z).nfree rfl
      obtain ⟨b1,c,b2,b3⟩:=cellx _ q'
      obtain ⟨c',o,v,a1,a2,a3,a4⟩:=(hv y V hy e1).2 (.inl b1)
      obtain rfl:=Option.some.inj (b3.symm.trans a1)
      refine ⟨c,o,v,b2,k _ _ a2,a3,VRel.mono (φ:=W.φ) (n:=W.z) (n':=(W.under (compF F.env sc cs C D (unsets F.ρ xs))).z) ⟨fun b o' xs' n' e' d' _=>k b o' e',Nat.le_refl _,fun _ _=>rfl,fun i h1 h2=>absurd h2 (Nat.not_lt.mpr h1),fun a z=>?_⟩ a4⟩
      exact (List.mem_cons.mp (show a ∈ D :: W.z.hid from z)).symm.imp (fun z=>z) fun z o' e'=>none_some (hD.1.symm.trans (z ▸ e'))
  · rw [hK]
    exact frm.2.1 y c (hc.sub _ _ q)
theorem closure_ok (I:Inv cx W s.heap) (hh:Here W env ρ) {sc:PySem.Scope} {xs:List Str} (hs:CompSc env.scope.names sc xs):∃ cs,Capt env sc cs:=by
  obtain ⟨F,r,hK,rfl,rfl⟩:=hh
  have FO:=I.frm.mem F (by rw [hK]; exact .head _)
  exact (closure_eq sc fun y hy q=>FO.cellOf y.1 (hs.free y hy q)).imp fun cs z=>⟨z.1,z.2.1,z.2.2⟩
end
end Mine
end
section
namespace Mine
open PySem PySem.W PyProof.Rows PySem.MeetsSeq
section
variable {cx:Cx} {Kf:Frag} {A:Around} {W:Wd} {s:Shared} {n:Nat} {env:PySem.Env} {ρ:Env} {C:Oracle} {cenv:PySem.Env} {D I:Addr} {x:String} {ys:List V}
theorem Ns.some {h:Heap} {a:Addr} {m:Str -> Option Value} (hn:h.Ns a m):∃ o,h.get? a = some o /\ ∃ es ep,o.data = .dict es ep:=hn.elim fun o z=>z.elim fun es z=>z.elim fun ep z=>⟨o,z.1,es,ep,z.2.1⟩
set_option tactic.hygienic true in
theorem Ns.as {h:Heap} {Ca:Addr} {m:Str -> Option Value} (hn:h.Ns Ca m) (nm:¬ Mut W Ca) (hb:cx.base.get? Ca = none):Aside cx W h Ca :=
  (Ns.some hn).elim fun o z=>z.2.elim fun es w=>w.elim fun ep d=>⟨nm,hb,fun o' xs mm e q=>(by cases z.1.symm.trans e; cases d.symm.trans q),fun o' xs mm e q=>(by cases z.1.symm.trans e; cases d.symm.trans q)⟩
structure Fin' (cx:Cx) (W:Wd) (s:Shared) (W':Wd) (s':Shared) (ys:List V) (D Ca:Addr):Prop where
  inv:Inv cx W' s'.heap
  ext:Ext W s W' s'
  K:W'.K = W.K
  rel:VRel cx W'.φ W'.z s'.heap (.lst ys) (.ref D)
  as:Aside cx W' s'.heap Ca
  nC:s.heap.get? Ca = none
  nh:Ca ∉ W'.z.hid
  ns:∃ m,s'.heap.Ns Ca m
set_option tactic.hygienic true in
theorem CS.done {W':Wd} {s':Shared} {ρ1:Env} (I0:Inv cx W s.heap) (c:CS cx cenv W.K D x ρ1 W' s' ys) (X:Ext (W.ph cenv [D,I]) s W' s') (hC:s.heap.get? cenv.locals = none) (hD:s.heap.get? D = none) (hI:s.heap.get? I = none):Fin' cx W s { W' with K:=W.K } s' ys D cenv.locals:=by
  refine cps fun G k=>?_
  obtain ⟨F,hK,f⟩:=c.frame
  have hF:F ∈ W'.K:=by rw [hK]; exact .head _
  obtain ⟨m,hn,hv⟩:=(c.inv.frm.mem F hF).ns
  have ef:=f.env
  subst ef
  obtain ⟨o,g,es,ep,d⟩:=Ns.some hn
  obtain ⟨vals,hp,r⟩:=c.acc
  have nn:∀ {a},s.heap.get? a = none -> a ∉ W.z.hid:=fun e q=>(I0.accL _ q).elim fun o z=>none_some (e.symm.trans z)
  have locN:=c.inv.locN
  rw [hK,List.map_cons,List.nodup_cons] at locN
  refine k ⟨c.inv.leave hK,⟨X.n,X.same,X.new,X.live,fun a q=>.inl q,fun a o e nm=>X.keep a o e fun z=>?_,X.gens,X.os⟩,rfl,⟨D,vals,rfl,hp.isList,⟨fun i hi q=>c.nD (.inl ⟨i,hi,.inl q.symm⟩),nn hD⟩,VRels.mono (φ:=W'.φ) (n:=W'.z) (n':=(⟨W'.φ,W'.δ,W'.σ,W.K⟩:Wd).z) ⟨fun b o xs n e d _=>e,Nat.le_refl _,fun _ _=>rfl,fun i h1 h2=>absurd h2 (Nat.not_lt.mpr h1),fun a q=>.inl ?_⟩ r⟩,
    Ns.as hn ?_ (c.inv.locB F hF).1,hC,nn hC,m,hn⟩
  · rcases mut_ph z with z | rfl | z
    · exact nm z
    · exact none_some (hC.symm.trans e)
    · rcases List.mem_cons.mp z with rfl | z
      · exact none_some (hD.symm.trans e)
      · exact none_some (hI.symm.trans (List.mem_singleton.mp z ▸ e))
  · show a ∈ W'.K.flatMap (·.acc)
    rw [hK]
    exact List.mem_append.mpr (.inr q)
  · rintro (⟨i,hi,q⟩ | ⟨F',hF',q⟩)
    · exact q.elim (c.inv.locφ F hF i hi).1 (c.inv.locφ F hF i hi).2
    · rcases q with q | q
      · exact locN.1 (q ▸ List.mem_map_of_mem (f:=fun G:FrameI=>G.env.locals) hF')
      · obtain ⟨o',v,e',d'⟩:=(c.inv.frm.mem F' (by rw [hK]; exact .tail _ hF')).cellAt _ q
        cases g.symm.trans e'; cases d.symm.trans d'
theorem after_C {W':Wd} {s':Shared} {Ca:Addr} {h':Heap} (I:Inv cx W' s'.heap) (X:Ext W s W' s') (as:Aside cx W' s'.heap Ca) (nC:s.heap.get? Ca = none) (nh:Ca ∉ W'.z.hid) (hs:Heap.SameBut Ca s'.heap h'):Inv cx W' h' /\ Ext W s W' { s' with heap:=h' } /\ Sta W'.φ W'.z s'.heap W'.φ W'.z h' :=
  have hT:∀ b,b = Ca -> Aside cx W' s'.heap b:=fun b q=>q ▸ as
  have k:∀ b o,s'.heap.get? b = some o -> ¬ b = Ca -> h'.get? b = some o:=fun b o e nb=>(hs.2 b nb).trans e
  ⟨I.aside (· = Ca) hT k fun b q z=>absurd (q ▸ z) nh,X.aside (s₂:={ s' with heap:=h' }) (· = Ca) (fun b q=>.inl (q ▸ nC)) k rfl rfl,Sta.aside (· = Ca) hT k⟩
noncomputable def Turns (cx:Cx) (A:Around) (env:PySem.Env) (K:List FrameI) (xs:List String) (x:String) (px:Pos) (ρ1:Env) (f:V -> M (List V)) (elt:PySem.Expr) (gs:List PySem.Comprehension) (sc:PySem.Scope) (pos:Pos):Prop :=
  ∀ (cenv:PySem.Env) (D I:Addr),cenv.scope.names = relabelSc env.scope.names sc.names -> (∀ z ∈ xs,cenv.kindOf (Str.ofString z) = some .local) -> cx.base.get? D = none ->
    ∃ body,TurnEq (.ListComp elt gs sc pos) 0 (.ref I) (.ref D) cenv (.Name (Str.ofString x) px) body /\ Body cx A cenv K D x ρ1 f body
theorem comp_block {px:Pos} {elt iter:PySem.Expr} {ifs:List PySem.Expr} {rest:List PySem.Comprehension} {sc:PySem.Scope} {pos:Pos} {l:List V} {v:Value} {xs:List String} {ρ1:Env} {cs:List (Str × Addr)} {f:V -> M (List V)} {vs:List V} {σe:Store} {E:Value -> Shared -> Prop} {use:Option (Value -> Sem Unit)} {Q:Value -> Shared -> Prop}
    (hA:A.handled = none) (hh:Here W env ρ) (I:Inv cx W s.heap) (hs:CompSc env.scope.names sc (xs.map Str.ofString)) (hcs:Capt env sc cs) (hx:x ∈ xs) (hρ:∀ z V,z ≠ x -> ρ1 z = some V -> unsets ρ xs z = some V) (rit:RIt cx W s.heap l v)
    (hT:Turns cx A env W.K xs x px ρ1 f elt (⟨.Name (Str.ofString x) px,iter,ifs,0⟩ :: rest) sc pos) (hok:flatItems f l W.σ = .ok vs σe) (hlen:vs.length < 100000)
    (hfin:∀ D Ca W' s',W'.σ = σe -> Fin' cx W s W' s' vs D Ca -> compPost cx.m A E use Q (.ref D) Ca (.ok .next) s') :
    wpAny cx.m A (pyIter v) (fun it s₂=>wpAny cx.m A (newList []) (fun acc s₃ =>
      wpAny cx.m A (newFunctionEnv sc env.globals cs [] env.qual none .none (some env)) (fun cenv s₄ =>
        codeAny cx.m A (.compStart (.ListComp elt (⟨.Name (Str.ofString x) px,iter,ifs,0⟩ :: rest) sc pos) 0 it acc { cenv with scope:=relabel sc env }) (compPost cx.m A E use Q acc cenv.locals) s₄) E s₃) E s₂) E s:=by
  refine rit.new hA fun o P St J fp o1 o2 o3 It st j=>?_
  have k1:=push_keeps s.heap o
  refine newList_wp ?_ (by simp)
  have k2:=push_keeps (s.heap.push o) { cls:=.type "list",data:=.seq ([]:List Value).toArray }
  refine wpAny_newFunctionEnv hs.cell (fun y hy=>absurd hy List.not_mem_nil) (fun h₁ hns hsb=>?_) hs.kind
  dsimp only at hns hsb ⊢
  generalize hH:(s.heap.push o).push { cls:=.type "list",data:=.seq ([]:List Value).toArray } = H at hns hsb ⊢
  have zI:(s.heap.push o).objs.size = s.heap.objs.size + 1:=Heap.size_push ..
  have zC:H.objs.size = s.heap.objs.size + 1 + 1:=by rw [<- hH,Heap.size_push,zI]
  have kh:∀ b o,H.get? b = some o -> h₁.get? b = some o:=fun b o e=>(hsb.2 b (Nat.ne_of_lt (Heap.lt_size e))).trans (Heap.get?_push_of_some _ e)
  have kI:∀ b ob,(s.heap.push o).get? b = some ob -> h₁.get? b = some ob:=fun b ob e=>kh b ob (hH ▸ k2 _ _ e)
  have k:∀ b o,s.heap.get? b = some o -> h₁.get? b = some o:=fun b o e=>kI b o (k1 _ _ e)
  have eD':h₁.get? (s.heap.objs.size + 1) = some { cls:=.type "list",data:=.seq #[] }:=kh _ _ (by rw [<- hH,<- zI]; exact Heap.get?_push_size _ rfl)
  have gI:s.heap.get? s.heap.objs.size = none:=gone (Nat.le_refl _)
  have gD:s.heap.get? (s.heap.objs.size + 1) = none:=gone (Nat.le_succ _)
  have hCs:s.heap.objs.size <= H.objs.size:=zC ▸ Nat.le_succ_of_le (Nat.le_succ _)
  have gC:s.heap.get? H.objs.size = none:=gone hCs
  have bn:∀ {a},s.heap.objs.size <= a -> cx.base.get? a = none:=fun ha=>(I.nothing ha).1
  have nn:∀ {a},s.heap.get? a = none -> a ∉ W.z.hid:=fun e q=>(I.accL _ q).elim fun o z=>none_some (e.symm.trans z)
  let cenv:=compEnvC sc cs H.objs.size env
  let W1:=W.under (compF env sc cs H.objs.size (s.heap.objs.size + 1) (unsets ρ xs))
  have nm:∀ {a},s.heap.objs.size <= a -> a ≠ H.objs.size -> ¬ Mut W1 a:=fun ha ne z=>by
    rcases z with z | ⟨F,hF,z⟩
    · exact fresh_nm I ha (.inl z)
    · rcases List.mem_cons.mp hF with rfl | hF
      · exact z.elim ne fun z=>absurd z List.not_mem_nil
      · exact fresh_nm I ha (.inr ⟨F,hF,z⟩)
  have hid:∀ {a},a ∈ W1.z.hid -> a = s.heap.objs.size + 1 \/ a ∈ W.z.hid:=fun q=>List.mem_cons.mp q
  have S1:Sta W.φ W.z (s.heap.push o) W1.φ W1.z h₁:=⟨fun b ob xs n e d _=>kI b ob e,Nat.le_refl _,fun _ _=>rfl,fun i h1 h2=>absurd h2 (Nat.not_lt.mpr h1),fun a q=>(hid q).symm.imp (fun q=>q) fun q ob e=>absurd (Heap.lt_size e) (by rw [zI,q]; exact Nat.lt_irrefl _)⟩
  have hf:env.scope.kind = .function:=by
    obtain ⟨F,r,hK,rfl,rfl⟩:=hh
    exact (I.frm.mem F (by rw [hK]; exact .head _)).kind
  obtain ⟨body,hT,hb⟩:=hT cenv (s.heap.objs.size + 1) s.heap.objs.size (comp_names hf) (fun z hz=>lookup_relabel_local (hs.has _ (List.mem_map_of_mem hz))) (bn (Nat.le_succ _))
  have st1:St 0 h₁:=It.walks.frame _ _ _ st fun b hb ob e=>kI b ob e
  have loop:∀ tk,codeAny cx.m A (.compLoop (.ListComp elt (⟨.Name (Str.ofString x) px,iter,ifs,0⟩ :: rest) sc pos) 0 (.ref s.heap.objs.size) (.ref (s.heap.objs.size + 1)) cenv) (compPost cx.m A E use Q (.ref (s.heap.objs.size + 1)) H.objs.size) { s with heap:=h₁,toks:=tk }:=fun tk =>
    comp_loop (K₀:=W.K) (W₀:=W) (s₀:=s) (ρ:=ρ1) hT It (lookup_relabel_local (hs.has _ (List.mem_map_of_mem hx))) hb (bn (Nat.le_refl _)) gI (Nat.ne_of_lt (Nat.lt_succ_self _)) (fun G hG=>hG) l 0 W1 _ [] vs (fun j=>(Nat.zero_add j).symm ▸ rfl) (Nat.zero_add _)
      ⟨⟨_,rfl,rfl,rfl,rfl,rfl,hρ⟩,comp_frame I hh hs hcs k hCs ⟨gD,_,eD'⟩ hns,⟨#[],⟨0,eD'⟩,VRels.nil⟩,nm (Nat.le_succ _) (by rw [zC]; exact Nat.ne_of_lt (Nat.lt_succ_self _))⟩
      ⟨st1,It.mono _ _ _ _ S1 j,nm (Nat.le_refl _) (by rw [zC]; exact Nat.ne_of_lt (Nat.lt_succ_of_lt (Nat.lt_succ_self _))),fun q=>(hid q).elim (Nat.ne_of_lt (Nat.lt_succ_self _)) (nn gI)⟩
      ⟨Nat.le_refl _,fun _ _=>⟨rfl,rfl⟩,fun i h1 h2=>absurd h2 (Nat.not_lt.mpr h1),live_of k,fun a q=>(hid q).symm.imp (fun q=>q) fun q=>(show a = _ from q) ▸ gD,fun a o e _=>k a o e,rfl,rfl⟩ hok (by rw [List.length_nil,Nat.zero_add]; exact hlen)
      fun W' s' e1 c X=>hfin _ _ { W' with K:=W.K } s' e1 (c.done I X gC gD gI)
  rw [zI]
  exact codeAny_compStart_list (loop _) (It.walks.self 0 _ _ _ st1 (loop _))
end
end Mine
end
section
namespace Mine
open PySem PySem.W PyProof.Rows PySem.MeetsSeq
section
variable {cx:Cx} {Kf:Frag} {A:Around} {W:Wd} {s:Shared} {n:Nat} {env:PySem.Env} {ρ:Env} {α β γ ζ:Type} {R:Wd -> Heap -> α -> β -> Prop} {R':Wd -> Heap -> γ -> ζ -> Prop} {C:Oracle}
theorem folded_plain {e:PySem.Expr} (h:notSet e = true) (x:Value):foldedSetIterable e env x = pure x:=by
  rcases e with _ | _ | _ | _ | _ | _ | _ | _ | _ | _ | _ | _ | _ | _ | _ | _ | _ | _ | _ | _ | _ | _ | _ | _ | _ | _ | _ <;> first | rfl | exact no_tf h
theorem noRaise_ok {x:M α} {σ:Store} (h:noRaise x σ ≠ .fail):∃ a σ',x σ = .ok a σ' /\ noRaise x σ = .ok a σ':=by
  unfold noRaise at h ⊢
  generalize x σ = y at h ⊢
  rcases y with ⟨a,s1⟩ | _ | _
  · exact ⟨a,s1,rfl,rfl⟩
  · exact absurd rfl h
  · exact absurd rfl h
theorem iteM_ok {c:Prop} [Decidable c] {x:M α} {σ:Store} (h:(if c then x else M.fail) σ ≠ .fail):c:=Decidable.byContradiction fun q=>h (by rw [if_neg q]; rfl)
theorem comp_walk {x:String} {px:Pos} {elt iter:PySem.Expr} {ifs:List PySem.Expr} {rest:List PySem.Comprehension} {sc:PySem.Scope} {pos ip:Pos} {xs:List String} {ρ1:Env} {f:V -> M (List V)} {itM:M (List V)} {E:Value -> Shared -> Prop} {use:Option (Value -> Sem Unit)} {Q:Value -> Shared -> Prop}
    (AO:AOk A W.K n) (hh:Here W env ρ) (I:Inv cx W s.heap) (hs:CompSc env.scope.names sc (xs.map Str.ofString)) (hx:x ∈ xs) (hρ:∀ z V,z ≠ x -> ρ1 z = some V -> unsets ρ xs z = some V) (hset:notSet iter = true) (hit:SE cx A n env ρ (RIt cx) (eval iter env) itM)
    (hT:AOk A W.K n -> Turns cx A env W.K xs x px ρ1 f elt (⟨.Name (Str.ofString x) px,iter,ifs,0⟩ :: rest) sc pos) (hf:compG itM (flatItems f) W.σ ≠ .fail)
    (hE:∀ e s' m k c W',compG itM (flatItems f) W.σ = .raise m k c W'.σ -> Inv cx W' s'.heap -> Ext W s W' s' -> W'.K = W.K -> Exc cx s.heap W' s'.heap e m k c -> E e s')
    (hfin:∀ D Ca vs W' s',compG itM (flatItems f) W.σ = .ok (.lst vs) W'.σ -> Fin' cx W s W' s' vs D Ca -> compPost cx.m A E use Q (.ref D) Ca (.ok .next) s') :
    wpAny cx.m A (comprehension (.ListComp elt (⟨.Name (Str.ofString x) px,iter,ifs,0⟩ :: rest) sc pos) sc env ip (newList []) false (eval iter env) use) Q E s:=by
  refine cps fun G k=>?_
  obtain ⟨cs,hcs⟩:=closure_ok I hh hs
  refine k (wpAny_comprehension_free rfl (folded_plain hset) hcs.eq hs.kind (fun y hy q=>(hs.loc y hy q).1) ?_)
  refine hit W s hh AO I _ _ (fun v s1 l W1 e1 I1 X1 k1 rit=>?_) (fun e s' m k c W' e1 I' X' k' ex=>hE e s' m k c W' (M.bind_raise e1) I' X' k' ex) (M.bind_ne hf)
  have eb:compG itM (flatItems f) W.σ = _:=M.bind_ok e1
  rw [eb] at hf hfin
  obtain ⟨vs,σe,h1,h2⟩:=noRaise_ok (M.bind_ne hf)
  have eb2:=M.bind_ok (g:=fun vs=>if vs.length < 100000 then M.ret (V.lst vs) else M.fail) h2
  rw [eb2] at hf hfin
  have hlen:=iteM_ok hf
  rw [if_pos hlen] at hfin
  exact comp_block AO.handled (hh.of k1) I1 hs hcs hx hρ rit (k1 ▸ hT AO) h1 hlen fun D Ca W' s' a1 f=>hfin D Ca vs W' s' (by rw [a1]; rfl) ⟨f.inv,X1.trans' k1 f.ext,f.K.trans k1,f.rel,f.as,X1.live _ f.nC,f.nh,f.ns⟩
theorem append_D {D:Addr} {vals:Array Value} {v:Value} {Q:Value -> Shared -> Prop} {E:Value -> Shared -> Prop} (hl:s.heap.PlainList D vals) (hz:vals.size < 1000000)
    (h:∀ h',h'.PlainList D (vals.push v) -> Heap.SameBut D s.heap h' -> Q .none { s with heap:=h' }):wpAny cx.m A (call (.builtin "list.append") [.ref D,v]) Q E s :=
  wpAny_list_append_plain hl h (by rw [sizeLine_eq]; lia)
noncomputable def emitB (elt:PySem.Expr) (acc:Value) (env:PySem.Env):Sem Unit:=do let _ <- call (.builtin "list.append") [acc,<- eval elt env]
noncomputable def lastB (ifs:List PySem.Expr) (elt:PySem.Expr) (acc:Value) (env:PySem.Env):Sem Unit:=testsT ifs env >>= fun ok=>if ok = true then emitB elt acc env else pure ()
theorem turn_last {elt iter:PySem.Expr} {ifs:List PySem.Expr} {sc:PySem.Scope} {pos:Pos} {x:Str} {px:Pos} {it acc:Value}:TurnEq (.ListComp elt [⟨.Name x px,iter,ifs,0⟩] sc pos) 0 it acc env (.Name x px) (lastB ifs elt acc env):=fun M A Q E s h=>by
  rw [compTurn_list]
  refine wpAny_bind (wpAny_standAt (wpAny_bind (wpAny_mono h (fun r s₁ h₁=>?_) fun _ _ h'=>h')))
  rcases r with _ | v
  · exact wpAny_pure h₁
  · refine wpAny_bind (wpAny_of_eq rfl (wpAny_bind (wpAny_mono h₁ (fun _ s₂ h₂=>?_) fun _ _ h'=>h')))
    have e:=congrArg (fun t=>wpAny M A t Q E s₂) ((congrArg (testsT ifs env >>= ·) (funext fun ok=>(show (if ok = true then emitB elt acc env >>= fun _=>again (.compLoop (.ListComp elt [⟨.Name x px,iter,ifs,0⟩] sc pos) 0 it acc env) else again (.compLoop (.ListComp elt [⟨.Name x px,iter,ifs,0⟩] sc pos) 0 it acc env)) = ((if ok = true then emitB elt acc env else pure ()) >>= fun _=>again (.compLoop (.ListComp elt [⟨.Name x px,iter,ifs,0⟩] sc pos) 0 it acc env)) from by rcases ok with _ | _ <;> rfl))).trans (bind_assoc _ _ _).symm)
    exact e.mpr (wpAny_bind (wpAny_mono h₂ (fun _ s₃ h₃=>wpAny_pure h₃) fun _ _ h'=>h'))
theorem CS.emit {K₀:List FrameI} {cenv:PySem.Env} {D:Addr} {x:String} {ρ1 ρ':Env} {ys:List V} {elt:PySem.Expr} {e:M V} {z:V} {σ':Store} {E:Value -> Shared -> Prop} (c:CS cx cenv K₀ D x ρ1 W s ys) (hh:Here W cenv ρ') (AO:AOk A W.K n) (hb:cx.base.get? D = none) (he:SV cx A n cenv ρ' (eval elt cenv) e) (h:e W.σ = .ok z σ') (hl:ys.length + 1 < 100000) :
    wpAny cx.m A (emitB elt (.ref D) cenv) (fun _ s'=>∃ W',W'.σ = σ' /\ CS cx cenv K₀ D x ρ1 W' s' (ys ++ [z]) /\ Ext (W.ph cenv [D]) s W' s') E s:=by
  refine wpAny_bind ((he W s hh AO c.inv).ok h fun v s1 W1 e1 I1 X1 k1 rz=>?_)
  have c1:=c.step I1 X1 k1
  refine cps fun G k=>?_
  obtain ⟨vals,hp,rr⟩:=c1.acc
  obtain ⟨F,hK,f⟩:=c.frame
  refine k (wpAny_bind (append_D hp (Nat.lt_trans (show vals.toList.length < 100000 from rr.length ▸ Nat.lt_of_succ_lt hl) (by decide)) fun h' hp' hs=>wpAny_pure ⟨W1,e1,?_⟩))
  have k5:∀ b o,s1.heap.get? b = some o -> ¬ b = D -> h'.get? b = some o:=fun b o e nb=>(hs.2 b nb).trans e
  have lv:∃ o,h'.get? D = some o:=hp'.elim fun m e=>⟨_,e⟩
  exact ⟨c1.aside D (c1.asD hb) (fun _=>lv) k5 fun S=>⟨_,hp',by rw [Array.toList_push]; exact VRels.append (VRels.mono S rr) (VRels.cons (VRel.mono S rz) VRels.nil)⟩,
    Ext.aside X1.ph (· = D) (fun b q=>.inr ⟨q ▸ ph_mut (.head _),q ▸ lv⟩) k5 rfl rfl⟩
theorem mapItems_flat {f:V -> M (Option V)}:∀ l,mapItems f l = flatItems (fun v=>M.bind (f v) fun o=>M.ret o.toList) l
  | []=>rfl
  | v :: r=>by
    show M.bind (f v) _ = M.bind (M.bind (f v) _) _
    rw [M.assoc,mapItems_flat r]
    exact congrArg _ (funext fun o=>by rcases o with _ | _ <;> rfl)
set_option tactic.hygienic true in
theorem body_one {C:Oracle} {K₀:List FrameI} {cenv:PySem.Env} {D:Addr} {x:String} {ρ1:Env} {ifs:List PySem.Expr} {elt:PySem.Expr} {ct:V -> M Bool} {et:V -> M V} (AO:AOk A K₀ n) (hb:cx.base.get? D = none)
    (hc:∀ v,SB cx A n cenv (ρ1.set x v) (testsT ifs cenv) (ct v)) (he:∀ v,SV cx A n cenv (ρ1.set x v) (eval elt cenv) (et v)) :
    Body cx A cenv K₀ D x ρ1 (fun v=>M.bind (M.bind (ct v) fun t=>if t = true then M.bind (et v) fun y=>M.ret (some y) else M.ret none) fun o=>M.ret o.toList) (lastB ifs elt (.ref D) cenv):=fun W s y ys zs σ' E c hh hok hl=>by
  refine cps fun G k=>?_
  obtain ⟨o,σ1,h1,h2⟩:=M.bind_eq_ok hok
  obtain ⟨b,σ2,h3,h1⟩:=M.bind_eq_ok h1
  refine k (wpAny_bind ((hc y W s hh (c.ao AO) c.inv).ok h3 fun b' s1 W1 e1 I1 X1 k1 rb=>?_))
  have c1:=c.step I1 X1 k1
  cases (show b = b' from rb)
  cases h2
  rcases b with _ | _
  · cases h1
    exact wpAny_pure ⟨W1,e1,by rw [show (none:Option V).toList = [] from rfl,List.append_nil]; exact c1,X1.ph⟩
  · refine cps fun G k=>?_
    obtain ⟨z,σ3,hz,h1⟩:=M.bind_eq_ok h1
    cases h1
    refine k (wpAny_mono (c1.emit (hh.of k1) (c1.ao AO) hb (he y) (e1 ▸ hz) hl) (fun _ s' q=>q.imp fun W' q=>⟨q.1,q.2.1,?_⟩) fun _ _ q=>q)
    obtain ⟨F,hK,f⟩:=c1.frame
    exact Ext.via (W':=W1) X1.ph q.2.2 (fun a q=>q) hK f.env f.own (fun G hG=>by rw [<- k1,hK]; exact .tail _ hG)
theorem turns_one {xs:List String} {px:Pos} {ip elt:PySem.Expr} {ifs:List PySem.Expr} {sc:PySem.Scope} {pos:Pos} {x:String} {ρ1:Env} {ct:V -> M Bool} {et:V -> M V} (AO:AOk A W.K n)
    (hc:∀ cenv v,cenv.scope.names = relabelSc env.scope.names sc.names -> SB cx A n cenv (ρ1.set x v) (testsT ifs cenv) (ct v)) (he:∀ cenv v,cenv.scope.names = relabelSc env.scope.names sc.names -> SV cx A n cenv (ρ1.set x v) (eval elt cenv) (et v)) :
    Turns cx A env W.K xs x px ρ1 (fun v=>M.bind (M.bind (ct v) fun t=>if t = true then M.bind (et v) fun y=>M.ret (some y) else M.ret none) fun o=>M.ret o.toList) elt [⟨.Name (Str.ofString x) px,ip,ifs,0⟩] sc pos :=
  fun cenv D I hn _ hb=>⟨_,turn_last,body_one (C:=fun _ _=>M.fail) AO hb (fun v=>hc cenv v hn) fun v=>he cenv v hn⟩
theorem unset_le {ρ:Env} {x:String}:∀ z V,z ≠ x -> ρ z = some V -> unsets ρ [x] z = some V:=fun z V q e=>(if_neg fun w=>q (List.mem_singleton.mp w)).trans e
inductive CompIs (cx:Cx) (A:Around) (n:Nat) (env:PySem.Env) (ρ:Env) (elt:PySem.Expr) (sc:PySem.Scope) (pos:Pos):List PySem.Comprehension -> M V -> Prop where
  | mk {x:String} {px:Pos} {iter:PySem.Expr} {ifs:List PySem.Expr} {rest:List PySem.Comprehension} {xs:List String} {ρ1:Env} {f:V -> M (List V)} {itM:M (List V)} (hs:CompSc env.scope.names sc (xs.map Str.ofString)) (hx:x ∈ xs) (hρ:∀ z V,z ≠ x -> ρ1 z = some V -> unsets ρ xs z = some V) (hset:notSet iter = true) (hit:SE cx A n env ρ (RIt cx) (eval iter env) itM)
      (hT:∀ K,AOk A K n -> Turns cx A env K xs x px ρ1 f elt (⟨.Name (Str.ofString x) px,iter,ifs,0⟩ :: rest) sc pos):CompIs cx A n env ρ elt sc pos (⟨.Name (Str.ofString x) px,iter,ifs,0⟩ :: rest) (compG itM (flatItems f))
  | dead {gs:List PySem.Comprehension}:CompIs cx A n env ρ elt sc pos gs M.fail
theorem CompIs.walk {elt:PySem.Expr} {sc:PySem.Scope} {pos ip:Pos} {gs:List PySem.Comprehension} {m:M V} {E:Value -> Shared -> Prop} {use:Option (Value -> Sem Unit)} {Q:Value -> Shared -> Prop} (c:CompIs cx A n env ρ elt sc pos gs m)
    (AO:AOk A W.K n) (hh:Here W env ρ) (I:Inv cx W s.heap) (hf:m W.σ ≠ .fail) (hE:∀ e s' m' k c W',m W.σ = .raise m' k c W'.σ -> Inv cx W' s'.heap -> Ext W s W' s' -> W'.K = W.K -> Exc cx s.heap W' s'.heap e m' k c -> E e s')
    (hfin:∀ D Ca vs W' s',m W.σ = .ok (.lst vs) W'.σ -> Fin' cx W s W' s' vs D Ca -> compPost cx.m A E use Q (.ref D) Ca (.ok .next) s') :
    wpAny cx.m A (comprehension (.ListComp elt gs sc pos) sc env ip (newList []) (firstAsync gs) (firstIter gs env) use) Q E s:=by
  rcases c with ⟨hs,hx,hρ,hset,hit,hT⟩ | _
  · exact comp_walk AO hh I hs hx hρ hset hit (hT _) hf hE hfin
  · exact absurd rfl hf
theorem CompIs.sv {elt:PySem.Expr} {sc:PySem.Scope} {pos:Pos} {gs:List PySem.Comprehension} {m:M V} (c:CompIs cx A n env ρ elt sc pos gs m):SV cx A n env ρ (eval (.ListComp elt gs sc pos) env) m:=fun W s hh AO I Q E hq hE hf=>by
  rw [eval_ListComp]
  exact c.walk (use:=none) AO hh I hf hE fun D Ca vs W' s' e1 f=>f.ns.imp fun m hn=>⟨hn,fun h' hs'=>have z:=after_C f.inv f.ext f.as f.nC f.nh hs'; hq _ _ _ W' e1 z.1 z.2.1 f.K (VRel.mono z.2.2 f.rel)⟩
set_option tactic.hygienic true in
theorem set_var {x:String} {y:V} {v:Value} {F:FrameI} {r:List FrameI} {Q:Unit -> Shared -> Prop} {E:Value -> Shared -> Prop} (hK:W.K = F :: r) (I:Inv cx W s.heap) (hr:F.real = true \/ F.env.kindOf (Str.ofString x) = some .local) (hx:kindVar F.env.scope.names (Str.ofString x) = true) (ry:VRel cx W.φ W.z s.heap y v)
    (h:∀ s',Inv cx (W.top (F.put x y)) s'.heap -> Ext W s (W.top (F.put x y)) s' -> (∀ b,b ≠ F.env.locals -> b ∉ F.own -> ∀ o,s.heap.get? b = some o -> s'.heap.get? b = some o) -> (∀ Ca m,Ca ≠ F.env.locals -> s.heap.Ns Ca m -> s'.heap.Ns Ca m) -> Q () s') :
    wpAny cx.m A (storeName F.env (Str.ofString x) v) Q E s:=by
  have FO:=I.frm.mem F (by rw [hK]; exact .head _)
  obtain ⟨m,hn,hv⟩:=FO.ns
  rcases kindVar_elim hx with q | q
  · refine wpAny_storeName_local q hn (fun h' hn' hs=>?_) (by rw [FO.kind]; rfl)
    refine h _ (I.setLocal hK hv q ry hn' hs) (Ext.topTurn hK rfl (.inl rfl) hs (by obtain ⟨o,_,_,g,_⟩:=hn'; exact ⟨o,g⟩) rfl rfl) (fun b n1 n2 o e=>(hs.2 b n1).trans e) (fun Ca m n1 e=>e.sameBut hs n1)
  · have hr':F.real = true:=hr.resolve_right fun z=>by rw [show F.env.kindOf (Str.ofString x) = F.env.scope.names.lookup (Str.ofString x) from rfl,q] at z; cases z
    obtain ⟨c,hc⟩:=FO.cellOf _ q
    have hcO:=FO.cell _ _ hr' hc
    obtain ⟨o,v0,e0,d0⟩:=FO.cellAt c hcO
    refine wpAny_storeName_cell FO.kind q hc ⟨o,e0,d0⟩ fun h' ⟨o',e',d'⟩ hs=>?_
    refine h _ (I.setCell hK hr' q hc ry e' d' hs) (Ext.topTurn hK rfl (.inr hcO) hs ⟨_,e'⟩ rfl rfl) (fun b n1 n2 o e=>(hs.2 b fun z=>n2 (z ▸ hcO)).trans e) (fun Ca m' n1 e=>e.sameBut hs fun z=>?_)
    obtain ⟨o1,es,ep,g,d,_⟩:=e
    rw [z,e0] at g; cases g; rw [d0] at d; cases d
end
end Mine
end
section
set_option maxHeartbeats 1000000
namespace Mine
open PySem PySem.W PyProof.Rows PySem.MeetsSeq
section
variable {cx:Cx} {Kf:Frag} {A:Around} {W:Wd} {s:Shared} {n:Nat} {env:PySem.Env} {ρ:Env} {C:Oracle} {f:PySem.Expr -> Ex}
theorem snd_range {v:V} {vv:Value} (I:Inv cx W s.heap) (r:RV cx W s.heap v vv):Snd cx (RIt cx) (call (.type "range") [vv]) A W s (rangeOf v):=by
  rcases v with _ | _ | i | _ | _ | _ | _ | _
  case int =>
    obtain ⟨t,rfl⟩:=r
    refine Snd.ite fun hz=>?_
    have hz:=and2 hz
    obtain ⟨k,rfl⟩:=Int.eq_ofNat_of_zero_le (of_decide_eq_true hz.1)
    exact Snd.grow I fun Q E hq=>call_range_1 (hq _ _ (push_keeps _ _) (push_le _ _) rfl rfl (.rng (Heap.get?_push_size _ rfl) (Int.ofNat_lt.mp (of_decide_eq_true hz.2)) rfl))
  all_goals exact Snd.fail
theorem se_range (G:Gx cx Kf) {a:PySem.Expr} {q p:Pos} {x:M V} (hk:isGlob env.scope.names ("range" : Str) = true) (ha:notStar a = true) (h:SV cx A n env ρ (eval a env) x) :
    SE cx A n env ρ (RIt cx) (eval (.Call (.Name ("range" : Str) q) [a] [] p) env) (M.bind x rangeOf):=fun W s hh AO I=>by
  rw [eval_call rfl]
  refine Snd.step (fun Q E h=>wpAny_bind (name_global I hh (isGlob_eq hk) (by decide) (show LoadsG cx.base ("range" : Str) (.type "range") from G.rng) h)) ?_
  have hl:[a].all notStar = true:=by rw [List.all_cons,ha]; rfl
  have h2:SVs cx A n env ρ (spliced (backTo p (starEach [a] env))) (M.bind x fun v=>M.ret [v]):=by
    rw [starEach_plain ha]
    exact SE.bind h fun W s v a hh AO I q=>Snd.step (fun Q E h=>wpAny_bind (wpAny_pure h)) (Snd.step (fun Q E h=>wpAny_bind (wpAny_holding (wpAny_pure h))) (Snd.pure I (VRels.cons q VRels.nil)))
  refine Snd.eqv (x:=M.bind (M.bind x fun v=>M.ret [v]) fun args=>match args with | [v]=>rangeOf v | _=>M.fail) rfl (by rw [M.assoc]; rfl) ?_
  refine se_callWith (first:=[]) hl W s hh AO I (fun W' s' I'=>⟨.machine,.inr (.inl rfl),Looks.of_pure rfl⟩) h2 fun W' s' vs args X AO' I' rs=>?_
  rcases args with _ | ⟨v,_ | _⟩
  · exact Snd.fail
  · obtain ⟨vv,_,rfl,rv,rfl⟩:=rs
    exact snd_range I' rv
  · exact Snd.fail
set_option tactic.hygienic true in
theorem rangeArg_eq {sc:Sc} {it a:PySem.Expr} (h:rangeArg sc it = some a):∃ q p,it = .Call (.Name ("range" : Str) q) [a] [] p /\ isGlob sc ("range" : Str) = true /\ notStar a = true:=by
  refine cps fun G k=>?_
  rcases it with _ | _ | _ | _ | _ | _ | _ | _ | _ | _ | _ | _ | _ | _ | _ | _ | _ | _ | _ | _ | _ | _ | _ | _ | _ | _ | _ <;> first | exact none_some h | skip
  rename_i g l ks p
  rcases g with _ | _ | _ | _ | _ | _ | _ | _ | _ | _ | _ | _ | _ | _ | _ | _ | _ | _ | _ | _ | _ | _ | _ | _ | _ | _ | _ <;> first | exact none_some h | skip
  rename_i r q
  rcases l with _ | ⟨a',_ | _⟩ <;> first | exact none_some h | skip
  rcases ks with _ | _ <;> first | exact none_some h | skip
  have h:(if (r == ("range" : Str) && isGlob sc r && notStar a') = true then some a' else none) = some a:=h
  by_cases z:(r == ("range" : Str) && isGlob sc r && notStar a') = true
  · rw [if_pos z] at h
    obtain rfl:=Option.some.inj h
    have z:=and2 z
    have y:=and2 z.1
    obtain rfl:=beq_iff_eq.mp y.1
    exact k ⟨q,p,rfl,y.2,z.2⟩
  · rw [if_neg z] at h; exact none_some h
theorem se_it (G:Gx cx Kf) {it:PySem.Expr} (H:∀ e,SV cx A n env ρ (eval e env) (ev C ρ (f e))) (F:Bool -> Ex -> Ex):∃ b i,trIt env.scope.names f it F = F b i /\ SE cx A n env ρ (RIt cx) (eval it env) (M.bind (ev C ρ i) fun a=>if b = true then rangeOf a else itemsOf a):=by
  unfold trIt
  generalize e:rangeArg env.scope.names it = o
  rcases o with _ | a
  · exact ⟨false,_,rfl,se_items (H it)⟩
  · obtain ⟨q,p,rfl,h1,h2⟩:=rangeArg_eq e
    exact ⟨true,_,rfl,se_range G h1 h2 (H a)⟩
theorem se_pairs (H:∀ e,SV cx A n env ρ (eval e env) (ev C ρ (f e))) (pos:Pos):∀ (ks:List (Option PySem.Expr)) (vs:List PySem.Expr),ks.all (·.isSome) = true -> ks.length = vs.length -> SE cx A n env ρ (PVRel cx) (evalPairs (pairTrees ks vs env pos)) (evp C ρ (trPairs f ks vs))
  | [],[],_,_=>fun W s hh AO I=>Snd.pure I rfl
  | [],_ :: _,_,h=>nomatch h
  | _ :: _,[],_,h=>nomatch h
  | none :: ks,v :: vs,h,_=>no_tf (and2 h).1
  | some k :: ks,v :: vs,h,hl=>fun W s hh AO I=>by
    unfold pairTrees
    rw [evalPairs]
    refine Snd.bind (H k W s hh AO I) fun kv s1 a W1 I1 X1 k1 r1=>?_
    have h2':Snd cx (RV cx) (eval v env >>= fun x=>standAt pos >>= fun _=>pure x) A W1 s1 (ev C ρ (f v)) :=
      Snd.eqv (x:=M.bind (ev C ρ (f v)) M.ret) rfl M.bind_ret.symm (Snd.bind (H v W1 s1 (hh.of k1) (AO.of k1) I1) fun vv s2 b W2 I2 X2 k2 r2=>Snd.stand (Snd.pure I2 r2))
    refine Snd.bind (Snd.hold h2') fun vv s2 b W2 I2 X2 k2 r2=>?_
    exact Snd.bind (Snd.hold (se_pairs H pos ks vs (and2 h).2 (Nat.succ.inj hl) W2 s2 ((hh.of k1).of k2) ((AO.of k1).of k2) I2)) fun vs' s3 ps W3 I3 X3 k3 r3=>Snd.pure I3 ⟨kv,vv,vs',rfl,VRel.ext I2 X3 (VRel.ext I1 X2 r1),VRel.ext I2 X3 r2,r3⟩
theorem se_dict (H:∀ e,SV cx A n env ρ (eval e env) (ev C ρ (f e))) {ks:List (Option PySem.Expr)} {vs:List PySem.Expr} {pos:Pos}:SV cx A n env ρ (eval (.Dict ks vs pos) env) (ev C ρ (grd (ks.all (·.isSome) && ks.length == vs.length && decide (ks.length < 15)) (.dictE (trPairs f ks vs)))):=SE.grd fun h=>by
  have h1:=and2 h
  have h2:=and2 h1.1
  have hl:=beq_iff_eq.mp h2.2
  rcases ks with _ | ⟨k,ks⟩
  · rcases vs with _ | _
    · exact fun W s hh AO I=>snd_dict_nil I
    · exact nomatch hl
  · exact fun W s hh AO I=>snd_dict AO I h2.1 hl nofun (Nat.le_of_lt (of_decide_eq_true h1.2)) fun s' e I'=>se_pairs H pos _ _ h2.1 hl W s' hh AO I'
theorem se_tests {f:PySem.Expr -> Ex} (H:Both cx A n env ρ C f):∀ ifs,SB cx A n env ρ (testsT ifs env) (condO C ρ (trCond f ifs))
  | []=>fun W s hh AO I=>Snd.pure I rfl
  | [c]=>fun W s hh AO I=>((H c).2 W s hh AO I).step fun Q E z=>wpAny_tests_one z
  | _ :: _ :: _=>fun W s hh AO I=>Snd.fail
theorem ev_comp {elt it:Ex} {x:String} {b:Bool} {c:Option Ex}:ev C ρ (.comp elt x b it c) = compG (M.bind (ev C ρ it) fun a=>if b = true then rangeOf a else itemsOf a) (flatItems fun v=>M.bind (M.bind (condO C (ρ.set x v) c) fun t=>if t = true then M.bind (ev C (ρ.set x v) elt) fun y=>M.ret (some y) else M.ret none) fun o=>M.ret o.toList):=by
  rcases c with _ | c <;> exact congrArg (compG _) (funext mapItems_flat)
set_option tactic.hygienic true in
theorem comp_tr (G:Gx cx Kf) {r:Sc -> PySem.Expr -> Ex} (H:∀ sc env ρ,env.scope.names = sc -> Both cx A n env ρ C (r sc)) {elt:PySem.Expr} {gs:List PySem.Comprehension} {sc:PySem.Scope} {pos:Pos}:CompIs cx A n env ρ elt sc pos gs (ev C ρ (trComp r env.scope.names elt sc gs)):=by
  rcases gs with _ | ⟨⟨t,it,ifs,a0⟩,_ | _⟩
  · exact .dead
  · rcases t with _ | _ | _ | _ | _ | _ | _ | _ | _ | _ | _ | _ | _ | _ | _ | _ | _ | _ | _ | _ | _ | _ | _ | _ | _ | _ | _ <;> try exact .dead
    rename_i x px
    show CompIs _ _ _ _ _ _ _ _ _ (ev C ρ (grd _ _))
    by_cases h:(a0 == 0 && okN x && compScope env.scope.names sc [x] && notSet it) = true
    · rw [h]
      have h1:=and2 h
      have h2:=and2 h1.1
      have h3:=and2 h2.1
      obtain rfl:=beq_iff_eq.mp h3.1
      have e:=okN_eq h3.2
      obtain ⟨b,i,ei,hi⟩:=se_it G (fun e=>(H env.scope.names env ρ rfl e).1) (it:=it) fun b i=>.comp (r (relabelSc env.scope.names sc.names) elt) (toS x) b i (trCond (r (relabelSc env.scope.names sc.names)) ifs)
      rw [ei,show grd true = fun e=>e from rfl,ev_comp]
      have hset:=h1.2
      clear h h1 h3 ei
      generalize toS x = y at e ⊢
      subst e
      exact .mk (xs:=[y]) (ρ1:=ρ) (compSc h2.2) (.head _) unset_le hset hi fun K AO=>turns_one (W:=⟨fun _=>0,fun _=>0,⟨0,fun _=>.list []⟩,K⟩) AO (fun cenv v hn=>se_tests (H _ cenv _ hn) ifs) fun cenv v hn=>(H _ cenv _ hn elt).1
    · rw [(Bool.not_eq_true _).mp h]
      exact .dead
  · rcases t with _ | _ | _ | _ | _ | _ | _ | _ | _ | _ | _ | _ | _ | _ | _ | _ | _ | _ | _ | _ | _ | _ | _ | _ | _ | _ | _ <;> exact .dead
end
end Mine
end
section
set_option maxHeartbeats 1000000
namespace Mine
open PySem PySem.W PyProof.Rows PySem.MeetsSeq
set_option tactic.hygienic true in
theorem cInt_eq {e:PySem.Expr} {i:Int} (h:cInt e = some i):∃ k p,e = .Constant (.int i) k p:=by
  rcases e with _ | _ | _ | _ | _ | _ | _ | _ | _ | _ | _ | _ | _ | _ | _ | _ | _ | _ | _ | _ | _ | _ | _ | _ | _ | _ | _ <;> first | exact none_some h | skip
  rename_i c k p
  rcases c with _ | _ | _ | _ | _ | _ | _ | _ <;> first | exact none_some h | skip
  cases h
  exact ⟨k,p,rfl⟩
set_option tactic.hygienic true in
theorem isM1_eq {e:PySem.Expr} (h:isM1 e = true):∃ k p p2,e = .UnaryOp .USub (.Constant (.int 1) k p) p2:=by
  rcases e with _ | _ | _ | _ | _ | _ | _ | _ | _ | _ | _ | _ | _ | _ | _ | _ | _ | _ | _ | _ | _ | _ | _ | _ | _ | _ | _ <;> first | exact no_tf h | skip
  rename_i o x p2
  rcases o with _ | _ | _ | _ <;> first | exact no_tf h | skip
  obtain ⟨k,p,rfl⟩:=cInt_eq (beq_iff_eq.mp h)
  exact ⟨k,p,p2,rfl⟩
section
variable {cx:Cx} {Kf:Frag} {A:Around} {W:Wd} {s:Shared} {n:Nat} {env:PySem.Env} {ρ:Env} {C:Oracle} {f:PySem.Expr -> Ex}
theorem st_dead {e:PySem.Expr}:ST cx A n env ρ e (M.bind (ev C ρ .dead) truth):=fun W s hh AO I=>Snd.fail
theorem SB.grd {e:Ex} {c:Bool} {e':PySem.Expr} (h:c = true -> ST cx A n env ρ e' (M.bind (ev C ρ e) truth)):ST cx A n env ρ e' (M.bind (ev C ρ (grd c e)) truth):=by
  rcases c with _ | _
  · exact st_dead
  · exact h rfl
theorem SB.opt {β:Type} {o:Option β} {f:β -> Ex} {e:PySem.Expr} (h:∀ c,o = some c -> ST cx A n env ρ e (M.bind (ev C ρ (f c)) truth)):ST cx A n env ρ e (M.bind (ev C ρ (optE o f)) truth):=by
  rcases o with _ | c
  · exact st_dead
  · exact h c rfl
theorem se_un (H:Both cx A n env ρ C f) {o:UnaryOp} {x:PySem.Expr} {p:Pos}:SV cx A n env ρ (eval (.UnaryOp o x p) env) (ev C ρ (trUn f x o)):=by
  rcases o with _ | _ | _ | _
  · exact sv_dead
  · exact se_not (H x).1
  · exact sv_dead
  · refine cps fun G k=>?_
    unfold trUn at k
    generalize e:cInt x = o at k
    rcases o with _ | i | i
    · exact k sv_dead
    · obtain ⟨q,p',rfl⟩:=cInt_eq e
      exact k fun W s hh AO I=>snd_neg I
    · exact k sv_dead
theorem se_slice {e:PySem.Expr} {x:Ex} (H:∀ e,SV cx A n env ρ (eval e env) (ev C ρ (f e))) (h1:SV cx A n env ρ (eval e env) (ev C ρ x)) {a b c:Option PySem.Expr} {p3 p4:Pos}:SV cx A n env ρ (eval (.Subscript e (.Slice a b c p3) p4) env) (ev C ρ (trSlice f x a b c)):=by
  rcases a with _ | a <;> rcases b with _ | b <;> rcases c with _ | c <;> first | exact sv_dead | skip
  · refine SE.grd fun h=>?_
    obtain ⟨k,p,p2,rfl⟩:=isM1_eq h
    exact se_rev h1
  · exact se_upto h1 (H b)
  · exact se_from h1 (H a)
theorem se_sub (G:Gx cx Kf) {e i:PySem.Expr} (H:∀ e,SV cx A n env ρ (eval e env) (ev C ρ (f e))) {p:Pos}:SV cx A n env ρ (eval (.Subscript e i p) env) (ev C ρ (trSub f (f e) i)):=by
  rcases i with _ | _ | _ | _ | _ | _ | _ | _ | _ | _ | _ | _ | _ | _ | _ | _ | _ | _ | _ | _ | _ | _ | _ | _ | _ | _ | _ <;> first | exact se_slice H (H e) | exact se_idx G (H e) (H _)
set_option tactic.hygienic true in
theorem se_trX (G:Gx cx Kf) (S:SC cx C n) {r:Sc -> Nat -> PySem.Expr -> Ex} (H:∀ sc m env ρ,env.scope.names = sc -> Both cx A n env ρ C (r sc m)) (m:Nat) (e:PySem.Expr):SV cx A n env ρ (eval e env) (ev C ρ (trX r env.scope.names m e)):=by
  have H':=fun m=>H env.scope.names m env ρ rfl
  have Hv:=fun e=>(H' m e).1
  rcases e with _ | _ | _ | _ | _ | _ | _ | _ | _ | _ | _ | _ | _ | _ | _ | _ | _ | _ | _ | _ | _ | _ | _ | _ | _ | _ | _
  case Constant=>exact se_const
  case Name=>exact se_name G
  case Attribute=>exact SE.grd fun h=>se_attr G (and2 h).1 (and2 h).2 (Hv _)
  case BinOp=>exact se_bin (Hv _) (Hv _)
  case UnaryOp=>exact se_un (H' m)
  case Compare l ops cs p =>
    rcases ops with _ | ⟨o,_ | _⟩
    · exact sv_dead
    · rcases cs with _ | ⟨c,_ | _⟩
      · exact sv_dead
      · exact SE.grd fun h=>SE.opt fun c e=>se_cmp G e h (Hv _) (H' 0 _).1
      · exact sv_dead
    · exact sv_dead
  case BoolOp o l p =>
    rcases o with _ | _
    · exact se_and (H' m) p l
    · exact se_or (H' m) p l
  case IfExp=>exact se_ite (H' m _).2 (Hv _) (Hv _)
  case Subscript=>exact se_sub G Hv
  case Tuple=>exact se_tup (H' m)
  case List=>exact se_lst (H' m)
  case Dict=>exact se_dict Hv
  case ListComp=>exact (comp_tr G (fun sc env ρ e=>H sc m env ρ e)).sv
  case Call f l ks p =>
    rcases ks with _ | _
    · exact SE.grd fun h=>se_trCall G S (H' m) (and2 (and2 h).1).2 (of_decide_eq_true (and2 h).2)
    · exact sv_dead
  all_goals exact sv_dead
set_option tactic.hygienic true in
theorem both_trX (G:Gx cx Kf) (S:SC cx C n) {r:Sc -> Nat -> PySem.Expr -> Ex} (H:∀ sc m env ρ,env.scope.names = sc -> Both cx A n env ρ C (r sc m)) (m:Nat):Both cx A n env ρ C (trX r env.scope.names m):=fun e=>by
  have H':=fun m=>H env.scope.names m env ρ rfl
  have h:=se_trX (env:=env) (ρ:=ρ) G S H m e
  refine ⟨h,?_⟩
  rcases e with _ | _ | _ | _ | _ | _ | _ | _ | _ | _ | _ | _ | _ | _ | _ | _ | _ | _ | _ | _ | _ | _ | _ | _ | _ | _ | _
  case UnaryOp o x p =>
    rcases o with _ | _ | _ | _
    · exact se_tplain h rfl
    · exact se_tnot (H' m x).2
    · exact se_tplain h rfl
    · exact se_tplain h rfl
  case Compare l ops cs p =>
    rcases ops with _ | ⟨o,_ | _⟩
    · exact st_dead
    · rcases cs with _ | ⟨c,_ | _⟩
      · exact st_dead
      · exact SB.grd fun h=>SB.opt fun c e=>se_tcmp G e h (H' m _).1 (H' 0 _).1
      · exact st_dead
    · exact st_dead
  case BoolOp o l p =>
    rcases o with _ | _
    · exact se_tand (H' m) l
    · exact se_tor (H' m) l
  case IfExp=>exact se_tite (H' m _).2 (H' m _).2 (H' m _).2
  all_goals exact se_tplain h rfl
theorem both (G:Gx cx Kf) (S:SC cx C n):∀ (k:Nat) (sc:Sc) (m:Nat) (env:PySem.Env) (ρ:Env),env.scope.names = sc -> Both cx A n env ρ C (trE k sc m)
  | 0,_,_,_,_,_=>fun e=>⟨sv_dead,st_dead⟩
  | k + 1,_,m,_,_,e=>e ▸ both_trX G S (both G S k) m
end
end Mine
end
section
set_option maxHeartbeats 1000000
namespace Mine
open PySem PySem.W PyProof.Rows PySem.MeetsSeq
section
variable {cx:Cx} {Kf:Frag} {A:Around} {W W₀:Wd} {s s₀:Shared} {n:Nat} {env:PySem.Env} {ρ ρ₀:Env} {α β γ ζ:Type} {R:Wd -> Heap -> α -> β -> Prop} {C:Oracle} {F:FrameI} {r:List FrameI}
noncomputable def RFl (cx:Cx) (W:Wd) (h:Heap):Flow -> PySem.Flow -> Prop
  | .next,f=>f = .next
  | .cont,f=>f = .cont
  | .ret v,f=>∃ u,f = .ret u /\ VRel cx W.φ W.z h v u
noncomputable def FrameI.at (F:FrameI) (ρ:Env):FrameI:={ F with ρ:=ρ }
structure SPost (cx:Cx) (F:FrameI) (r:List FrameI) (W:Wd) (s:Shared) (x:Res (Flow × Env)) (Q:PySem.Flow -> Shared -> Prop) (E:Value -> Shared -> Prop):Prop where
  ok:∀ f s' fl ρ' W',x = .ok (fl,ρ') W'.σ -> Inv cx W' s'.heap -> Ext W s W' s' -> W'.K = F.at ρ' :: r -> RFl cx W' s'.heap fl f -> Q f s'
  raise:∀ e s' m k c W' ρ',x = .raise m k c W'.σ -> Inv cx W' s'.heap -> Ext W s W' s' -> W'.K = F.at ρ' :: r -> Exc cx s.heap W' s'.heap e m k c -> E e s'
  nf:x ≠ .fail
noncomputable def SndS (cx:Cx) (A:Around) (F:FrameI) (r:List FrameI) (t:Sem PySem.Flow) (W:Wd) (s:Shared) (x:M (Flow × Env)):Prop :=
  ∀ (Q:PySem.Flow -> Shared -> Prop) (E:Value -> Shared -> Prop),SPost cx F r W s (x W.σ) Q E -> wpAny cx.m A t Q E s
noncomputable def SES (cx:Cx) (A:Around) (n:Nat) (F:FrameI) (r:List FrameI) (t:Sem PySem.Flow) (x:Env -> M (Flow × Env)):Prop :=
  ∀ W s ρ,W.K = F.at ρ :: r -> AOk A W.K n -> Inv cx W s.heap -> SndS cx A F r t W s (x ρ)
theorem here_at (h:W.K = F.at ρ :: r):Here W F.env ρ:=⟨_,r,h,rfl,rfl⟩
theorem reals_at {ρ':Env}:reals (F.at ρ :: r) = reals (F.at ρ' :: r):=by
  unfold reals
  rw [List.filter_cons,List.filter_cons,show (F.at ρ').real = (F.at ρ).real from rfl]
  cases (F.at ρ).real <;> rfl
theorem AOk.at {ρ':Env} {K K':List FrameI} (h:AOk A K n) (e:K = F.at ρ :: r) (e':K' = F.at ρ' :: r):AOk A K' n :=
  ⟨h.handled,h.frames.trans (by rw [e,e',reals_at]),h.depth,h.units⟩
theorem Ext.at {W' W'':Wd} {s' s'':Shared} {ρ':Env} (x:Ext W s W' s') (e:W.K = F.at ρ :: r) (e':W'.K = F.at ρ' :: r) (y:Ext W' s' W'' s''):Ext W s W'' s'':=by
  refine x.trans (fun a _ q=>?_) y
  refine q.elim fun G q=>?_
  rw [e'] at q
  rw [e]
  rcases List.mem_cons.mp q.1 with z | z
  · exact ⟨_,.head _,by rw [z] at q; exact q.2⟩
  · exact ⟨G,.tail _ z,q.2⟩
theorem Snd.useE {t:Sem β} {x:M α} {f:α -> M (Flow × Env)} {Q:PySem.Flow -> Shared -> Prop} {Q':β -> Shared -> Prop} {E E':Value -> Shared -> Prop} (h:Snd cx R t A W s x) (X:Ext W₀ s₀ W s) (K0:W₀.K = F.at ρ₀ :: r) (K1:W.K = F.at ρ :: r) (p:SPost cx F r W₀ s₀ (M.bind x f W.σ) Q E)
    (he:∀ e s' m k c W',Inv cx W' s'.heap -> Ext W₀ s₀ W' s' -> W'.K = W.K -> Exc cx s₀.heap W' s'.heap e m k c -> SPost cx F r W₀ s₀ (.raise m k c W'.σ) Q E -> E' e s')
    (hq:∀ v s' a W',Inv cx W' s'.heap -> Ext W s W' s' -> W'.K = W.K -> R W' s'.heap a v -> SPost cx F r W₀ s₀ (f a W'.σ) Q E -> Q' v s'):wpAny cx.m A t Q' E' s :=
  h _ _ (fun v s' a W' e I X' k r=>hq v s' a W' I X' k r (M.bind_ok (g:=f) e ▸ p)) (fun ev s' m k c W' e I X' hk ex=>he ev s' m k c W' I (X.at K0 K1 X') hk (ex.back X) (M.bind_raise (g:=f) e ▸ p)) (M.bind_ne p.nf)
theorem Snd.use {t:Sem β} {x:M α} {f:α -> M (Flow × Env)} {Q:PySem.Flow -> Shared -> Prop} {Q':β -> Shared -> Prop} {E:Value -> Shared -> Prop} (h:Snd cx R t A W s x) (K1:W.K = F.at ρ :: r) (p:SPost cx F r W s (M.bind x f W.σ) Q E)
    (hq:∀ v s' a W',Inv cx W' s'.heap -> Ext W s W' s' -> W'.K = W.K -> R W' s'.heap a v -> SPost cx F r W s (f a W'.σ) Q E -> Q' v s'):wpAny cx.m A t Q' E s :=
  h.useE (Ext.refl W s) K1 K1 p (fun e s' m k c W' I X hk ex p=>p.raise e s' m k c W' ρ rfl I X (hk.trans K1) ex) hq
theorem SPost.go {x:Res (Flow × Env)} {Q:PySem.Flow -> Shared -> Prop} {E:Value -> Shared -> Prop} (p:SPost cx F r W₀ s₀ x Q E) (X:Ext W₀ s₀ W s) (K0:W₀.K = F.at ρ₀ :: r) (K1:W.K = F.at ρ :: r):SPost cx F r W s x Q E :=
  ⟨fun f s' fl ρ' W' e I X' k rf=>p.ok f s' fl ρ' W' e I (X.at K0 K1 X') k rf,fun e s' m k c W' ρ' e1 I X' kk ex=>p.raise e s' m k c W' ρ' e1 I (X.at K0 K1 X') kk (ex.back X),p.nf⟩
theorem SndS.useE {t:Sem PySem.Flow} {x:M (Flow × Env)} {f:Flow × Env -> M (Flow × Env)} {Q Q':PySem.Flow -> Shared -> Prop} {E E':Value -> Shared -> Prop} (h:SndS cx A F r t W s x) (X:Ext W₀ s₀ W s) (K0:W₀.K = F.at ρ₀ :: r) (K1:W.K = F.at ρ :: r) (p:SPost cx F r W₀ s₀ (M.bind x f W.σ) Q E)
    (he:∀ e s' m k c W' ρ',Inv cx W' s'.heap -> Ext W₀ s₀ W' s' -> W'.K = F.at ρ' :: r -> Exc cx s₀.heap W' s'.heap e m k c -> SPost cx F r W₀ s₀ (.raise m k c W'.σ) Q E -> E' e s')
    (hq:∀ fl s' fl' ρ' W',Inv cx W' s'.heap -> Ext W s W' s' -> W'.K = F.at ρ' :: r -> RFl cx W' s'.heap fl' fl -> SPost cx F r W₀ s₀ (f (fl',ρ') W'.σ) Q E -> Q' fl s'):wpAny cx.m A t Q' E' s :=
  h _ _ ⟨fun fl s' fl' ρ' W' e I X' k rf=>hq fl s' fl' ρ' W' I X' k rf (M.bind_ok (g:=f) e ▸ p),fun ev s' m k c W' ρ' e I X' kk ex=>he ev s' m k c W' ρ' I (X.at K0 K1 X') kk (ex.back X) (M.bind_raise (g:=f) e ▸ p),M.bind_ne p.nf⟩
theorem SndS.of {t:Sem β} {g:β -> Sem PySem.Flow} {x:M α} {f:α -> M (Flow × Env)} (hK:W.K = F.at ρ :: r) (h:Snd cx R t A W s x)
    (h':∀ v s' a W',Inv cx W' s'.heap -> Ext W s W' s' -> W'.K = W.K -> R W' s'.heap a v -> SndS cx A F r (g v) W' s' (f a)):SndS cx A F r (t >>= g) W s (M.bind x f):=fun Q E p =>
  wpAny_bind (h.use hK p fun v s' a W' I X k r p'=>h' v s' a W' I X k r Q E (p'.go X hK (k.trans hK)))
theorem SndS.ret {fl:Flow} {f:PySem.Flow} (hK:W.K = F.at ρ :: r) (I:Inv cx W s.heap) (h:RFl cx W s.heap fl f):SndS cx A F r (pure f) W s (M.ret (fl,ρ)):=fun Q E p=>wpAny_pure (p.ok f s fl ρ W rfl I (Ext.refl _ _) hK h)
theorem SndS.step {t t':Sem PySem.Flow} {x:M (Flow × Env)} (h:∀ Q E,wpAny cx.m A t Q E s -> wpAny cx.m A t' Q E s) (y:SndS cx A F r t W s x):SndS cx A F r t' W s x:=fun Q E p=>h Q E (y Q E p)
theorem SndS.fail {t:Sem PySem.Flow}:SndS cx A F r t W s (M.fail:M (Flow × Env)):=fun Q E p=>absurd rfl p.nf
theorem ses_fail {t:Sem PySem.Flow}:SES cx A n F r t (fun _=>M.fail):=fun W s ρ hK AO I=>SndS.fail
theorem SES.grd {c:Bool} {e:St} {t:Sem PySem.Flow} (h:c = true -> SES cx A n F r t (ex1 C e)):SES cx A n F r t (ex1 C (grdS c e)):=by
  rcases c with _ | _
  · exact ses_fail
  · exact h rfl
theorem ses_nil:SES cx A n F r (execs [] F.env) (fun ρ=>M.ret (.next,ρ)):=fun W s ρ hK AO I=>by
  rw [arm_execs_nil]; exact SndS.ret hK I rfl
set_option tactic.hygienic true in
theorem ses_seq {c:PySem.Stmt} {b:List PySem.Stmt} {x:Env -> M (Flow × Env)} {y:Env -> M (Flow × Env)} (h1:SES cx A n F r (exec c F.env) x) (h2:SES cx A n F r (execs b F.env) y) :
    SES cx A n F r (execs (c :: b) F.env) (fun ρ=>M.bind (x ρ) (nextS y)):=fun W s ρ hK AO I Q E p=>by
  rw [arm_execs_cons]
  refine wpAny_bind ((h1 W s ρ hK AO I).useE (Ext.refl _ _) hK hK p (fun e s' m k c W' ρ' I X hk ex p=>p.raise e s' m k c W' ρ' rfl I X hk ex) fun fl s' fl' ρ' W' I' X k rf p'=>?_)
  rcases fl' with _ | _ | v
  · cases (show fl = .next from rf)
    exact h2 W' s' ρ' k (AO.at hK k) I' Q E (p'.go X hK k)
  · cases (show fl = .cont from rf)
    exact wpAny_pure (p'.ok _ s' .cont ρ' W' rfl I' X k rfl)
  · exact rf.elim fun u rf=>by
      rw [rf.1]
      exact wpAny_pure (p'.ok _ s' (.ret v) ρ' W' rfl I' X k ⟨u,rfl,rf.2⟩)
theorem ses_ret {e:PySem.Expr} {p:Pos} {x:Env -> M V} (h:∀ ρ,SV cx A n F.env ρ (eval e F.env) (x ρ)):SES cx A n F r (exec (.Return (some e) p) F.env) (fun ρ=>M.bind (x ρ) fun v=>M.ret (.ret v,ρ)):=fun W s ρ hK AO I=>by
  rw [exec_Return_some]
  exact SndS.step (fun Q E h=>wpAny_bind (wpAny_standAt h)) (SndS.of hK (h ρ W s (here_at hK) AO I) fun v s' a W' I' X k r=>SndS.ret (k.trans hK) I' ⟨v,rfl,r⟩)
theorem ses_retN {p:Pos}:SES cx A n F r (exec (.Return none p) F.env) (fun ρ=>M.ret (.ret .none,ρ)):=fun W s ρ hK AO I=>by
  rw [exec_Return_none]
  exact SndS.step (fun Q E h=>wpAny_bind (wpAny_standAt h)) (SndS.ret hK I ⟨.none,rfl,rfl⟩)
theorem ses_cont {p:Pos}:SES cx A n F r (exec (.Continue p) F.env) (fun ρ=>M.ret (.cont,ρ)):=fun W s ρ hK AO I Q E p =>
  wpAny_Continue (p.ok .cont s .cont ρ W rfl I (Ext.refl _ _) hK rfl)
theorem ses_if {c:PySem.Expr} {a b:List PySem.Stmt} {p:Pos} {x:Env -> M Bool} {ya yb:Env -> M (Flow × Env)} (h:∀ ρ,ST cx A n F.env ρ c (x ρ)) (ha:SES cx A n F r (execs a F.env) ya) (hb:SES cx A n F r (execs b F.env) yb) :
    SES cx A n F r (exec (.If c a b p) F.env) (fun ρ=>M.bind (x ρ) fun b=>if b = true then ya ρ else yb ρ):=fun W s ρ hK AO I=>by
  rw [exec_If]
  refine SndS.step (fun Q E h=>wpAny_bind (wpAny_standAt h)) (SndS.of hK (h ρ W s (here_at hK) AO I) fun v s' q W' I' X k e=>?_)
  cases (show q = v from e)
  rcases v with _ | _
  · exact hb W' s' ρ (k.trans hK) (AO.of k) I'
  · exact ha W' s' ρ (k.trans hK) (AO.of k) I'
theorem at_kind (I:Inv cx W s.heap) (hK:W.K = F.at ρ :: r):F.env.scope.kind = .function:=(I.frm.mem (F.at ρ) (by rw [hK]; exact .head _)).kind
set_option tactic.hygienic true in
theorem isCall_eq {e:PySem.Expr} (h:isCall e = true):∃ f l ks q,e = .Call f l ks q:=by
  cases e <;> first | exact ⟨_,_,_,_,rfl⟩ | exact no_tf h
theorem swaps_call0 {e:PySem.Expr} {l:Nat} {env:PySem.Env} (h:isCall e = true):swapsWith e none l env = pure false:=by
  obtain ⟨_,_,_,_,rfl⟩:=isCall_eq h; rfl
theorem swaps_call1 {e:PySem.Expr} {l:Nat} {env:PySem.Env} {y:Str} {p:Pos} (h:isCall e = true):swapsWith e (some (.Name y p)) l env = pure false:=by
  obtain ⟨_,_,_,_,rfl⟩:=isCall_eq h; rfl
set_option tactic.hygienic true in
theorem ses_ex {e:PySem.Expr} {p:Pos} {x:Env -> M V} (he:isCall e = true) (h:∀ ρ,SV cx A n F.env ρ (eval e F.env) (x ρ)):SES cx A n F r (exec (.Expr e p) F.env) (fun ρ=>M.bind (x ρ) fun _=>M.ret (.next,ρ)):=fun W s ρ hK AO I=>by
  have hi:interactive F.env = false:=by unfold interactive; rw [at_kind I hK]; rfl
  have hs:=swaps_call0 (env:=F.env) (l:=p.line) he
  rw [exec_Expr F.env e p hi hs]
  refine SndS.step (fun Q E h=>wpAny_bind (wpAny_standAt h)) ?_
  exact SndS.of hK (h ρ W s (here_at hK) AO I) fun v s' a W' I' X k r=>fun Q E p=>wpAny_dropValue (p.ok .next s' .next ρ W' rfl I' (Ext.refl _ _) (k.trans hK) rfl)
theorem swaps_attr {e o:PySem.Expr} {b:Str} {q:Pos} {l:Nat}:swapsWith e (some (.Attribute o b q)) l env = pure false:=by rcases e with _ | _ | _ | _ | _ | _ | _ | _ | _ | _ | _ | _ | _ | _ | _ | _ | _ | _ | _ | _ | _ | _ | _ | _ | _ | _ | _ <;> rfl
theorem swaps_sub {e o i:PySem.Expr} {q:Pos} {l:Nat}:swapsWith e (some (.Subscript o i q)) l env = pure false:=by rcases e with _ | _ | _ | _ | _ | _ | _ | _ | _ | _ | _ | _ | _ | _ | _ | _ | _ | _ | _ | _ | _ | _ | _ | _ | _ | _ | _ <;> rfl
theorem swaps_tup {e:PySem.Expr} {ts:List PySem.Expr} {k:Nat} {q:Pos} {l:Nat}:swapsWith e (some (.Tuple ts k q)) l env = pure false:=by rcases e with _ | _ | _ | _ | _ | _ | _ | _ | _ | _ | _ | _ | _ | _ | _ | _ | _ | _ | _ | _ | _ | _ | _ | _ | _ | _ | _ <;> rfl
theorem SndS.unit {t:Sem Unit} {x:M Unit} (hK:W.K = F.at ρ :: r) (h:Snd cx (RU (α:=Unit)) t A W s x):SndS cx A F r (t >>= fun _=>pure .next) W s (M.bind x fun _=>M.ret (.next,ρ)) :=
  SndS.of hK h fun _ s3 _ W3 I3 X3 k3 _=>SndS.ret (k3.trans hK) I3 rfl
theorem ses_setA (G:Gx cx Kf) {o e:PySem.Expr} {b:Str} {p q:Pos} {x y:Env -> M V} (ha:okS b = true) (h1:∀ ρ,SV cx A n F.env ρ (eval e F.env) (x ρ)) (h2:∀ ρ,SV cx A n F.env ρ (eval o F.env) (y ρ)) :
    SES cx A n F r (exec (.Assign [.Attribute o b p] e q) F.env) (fun ρ=>M.bind (x ρ) fun v=>M.bind (y ρ) fun ob=>M.bind (doSetA ob (toS b) v) fun _=>M.ret (.next,ρ)):=fun W s ρ hK AO I=>by
  have e:=okS_eq ha
  generalize toS b = a at e ⊢
  subst e
  rw [plainObj_exec_Assign_Attribute _ _ _ _ _ swaps_attr]
  refine SndS.step (fun Q E h=>wpAny_bind (wpAny_standAt h)) (SndS.of hK (h1 ρ W s (here_at hK) AO I) fun v s1 av W1 I1 X1 k1 r1=>?_)
  rw [arm_assign_Attribute,<- M.assoc]
  exact SndS.unit (k1.trans hK) (Snd.bind (Snd.hold (h2 ρ W1 s1 (here_at (k1.trans hK)) (AO.of k1) I1)) fun ov s2 ao W2 I2 X2 k2 r2=>Snd.stand ((Snd.hold (snd_doSetA G I2 r2 (VRel.ext I1 X2 r1))).step fun Q E h=>wpAny_bind (wpAny_mono h (fun _ s3 h3=>wpAny_release h3) fun _ _ x=>x)))
theorem snd_doSetI {o i y:V} {vo vi vy:Value} (I:Inv cx W s.heap) (ro:RV cx W s.heap o vo) (ri:RV cx W s.heap i vi) (ry:RV cx W s.heap y vy):Snd cx (RU (α:=Unit)) (setItem vo vi vy) A W s (doSetI o i y) :=
  Snd.asObj ro fun j e hj=>e ▸ Snd.get hj fun ob e=>by
    rcases ob with l | l | _
    · rcases i with _ | _ | k | _ | _ | _ | _ | _
      case int =>
        obtain ⟨t,rfl⟩:=ri
        exact (LObj.of I hj e).elim fun items L=>snd_list_put I hj L ry
      all_goals exact Snd.fail
    · exact snd_dict_put I ri hj e ry
    · exact Snd.fail
theorem ses_setI {o i e:PySem.Expr} {p q:Pos} {x y z:Env -> M V} (h1:∀ ρ,SV cx A n F.env ρ (eval e F.env) (x ρ)) (h2:∀ ρ,SV cx A n F.env ρ (eval o F.env) (y ρ)) (h3:∀ ρ,SV cx A n F.env ρ (eval i F.env) (z ρ)) :
    SES cx A n F r (exec (.Assign [.Subscript o i p] e q) F.env) (fun ρ=>M.bind (x ρ) fun v=>M.bind (y ρ) fun ob=>M.bind (z ρ) fun j=>M.bind (doSetI ob j v) fun _=>M.ret (.next,ρ)):=fun W s ρ hK AO I=>by
  rw [exec_Assign_Subscript _ _ _ _ _ swaps_sub]
  refine SndS.step (fun Q E h=>wpAny_bind (wpAny_standAt h)) (SndS.of hK (h1 ρ W s (here_at hK) AO I) fun v s1 av W1 I1 X1 k1 r1=>?_)
  rw [arm_assign_Subscript,show (fun ob=>M.bind (z ρ) fun j=>M.bind (doSetI ob j av) fun _=>M.ret (Flow.next,ρ)) = fun ob=>M.bind (M.bind (z ρ) fun j=>doSetI ob j av) fun _=>M.ret (Flow.next,ρ) from funext fun _=>M.assoc.symm,<- M.assoc]
  refine SndS.unit (k1.trans hK) (Snd.bind (Snd.hold (h2 ρ W1 s1 (here_at (k1.trans hK)) (AO.of k1) I1)) fun ov s2 ao W2 I2 X2 k2 r2=>?_)
  exact Snd.bind (Snd.hold (h3 ρ W2 s2 (here_at (k2.trans (k1.trans hK))) ((AO.of k1).of k2) I2)) fun iv s3 ai W3 I3 X3 k3 r3=>Snd.stand ((Snd.hold (snd_doSetI I3 (VRel.ext I2 X3 r2) r3 (VRel.ext I2 X3 (VRel.ext I1 X2 r1)))).step fun Q E h=>wpAny_bind (wpAny_mono h (fun _ s3 h3=>wpAny_release h3) fun _ _ x=>x))
theorem top_at {W:Wd} {x:String} {y:V} (hK:W.K = F.at ρ :: r):(W.top ((F.at ρ).put x y)).K = F.at (ρ.set x y) :: r:=by unfold Wd.top; rw [hK]; rfl
set_option tactic.hygienic true in
theorem ses_asg {y:Str} {e:PySem.Expr} {p q:Pos} {m:Env -> M V} (hx:okN y = true) (hk:kindVar F.env.scope.names y = true) (hr:F.real = true) (hs:swapsWith e (some (.Name y p)) q.line F.env = pure false) (h1:∀ ρ,SV cx A n F.env ρ (eval e F.env) (m ρ)) :
    SES cx A n F r (exec (.Assign [.Name y p] e q) F.env) (fun ρ=>M.bind (m ρ) fun v=>M.ret (.next,ρ.set (toS y) v)):=fun W s ρ hK AO I Q E p=>by
  have e:=okN_eq hx
  generalize toS y = x at e p
  subst e
  refine wpAny_Assign_Name ((h1 ρ W s (here_at hK) AO I).use hK p fun v s1 a W1 I1 X1 k1 r1 p1=>?_) hs
  exact set_var (F:=F.at ρ) (k1.trans hK) I1 (.inl hr) hk r1 fun s2 I2 X2 _ _=>p1.ok .next s2 .next (ρ.set x a) (W1.top ((F.at ρ).put x a)) rfl I2 (X1.at hK (k1.trans hK) X2) (top_at (k1.trans hK)) rfl
end
end Mine
end
section
set_option maxHeartbeats 1000000
namespace Mine
open PySem PySem.W PyProof.Rows PySem.MeetsSeq
section
variable {cx:Cx} {Kf:Frag} {A:Around} {W:Wd} {s:Shared} {n:Nat} {env:PySem.Env} {ρ:Env} {C:Oracle} {F:FrameI} {r:List FrameI}
set_option tactic.hygienic true in
theorem ses_asgC {y:Str} {p q:Pos} {elt:PySem.Expr} {gs:List PySem.Comprehension} {sc:PySem.Scope} {pos:Pos} {m:Env -> M V} (hr:F.real = true) (hy:okN y = true) (hl:lcOk F.env.scope.names y p (.ListComp elt gs sc pos) = true) (hc:∀ ρ,CompIs cx A n F.env ρ elt sc pos gs (m ρ)) :
    SES cx A n F r (exec (.Assign [.Name y p] (.ListComp elt gs sc pos) q) F.env) (fun ρ=>M.bind (m ρ) fun v=>M.ret (.next,ρ.set (toS y) v)):=fun W s ρ hK AO I Q E pp=>by
  have h1:=and2 hl
  have h2:=and2 h1.1
  have hk:=isLoc_eq h2.2
  have hsw:swapsWith (.ListComp elt gs sc pos) (some (.Name y p)) q.line F.env = pure true:=by
    have hb:F.env.blockKind = .function:=by unfold Env.blockKind; rw [at_kind I hK]; rfl
    have h3:(sc.names.any fun (n,k)=>n == y && (k == .local || k == .cell)) = false:=(Bool.not_eq_true' _).mp h1.2
    have h4:p.line = pos.line:=beq_iff_eq.mp h2.1
    unfold swapsWith
    simp only [hb,show F.env.kindOf y = some .local from hk,show (PySem.Expr.ListComp elt gs sc pos).pos = pos from rfl,h4,h3]
    simp
  have e:=okN_eq hy
  rw [exec_Assign_Name_used _ _ _ _ hsw]
  refine wpAny_bind (wpAny_standAt (wpAny_bind ?_))
  show wpAny _ A (do let _ <- comprehension (.ListComp elt gs sc pos) sc F.env _ (newList []) (firstAsync gs) (firstIter gs F.env) (some (assign (.Name y p) F.env))) _ _ s
  clear hsw hl h1 h2
  generalize toS y = z at e pp
  subst e
  refine wpAny_bind (wpAny_mono ((hc ρ).walk (use:=some (assign (.Name (Str.ofString z) p) F.env)) (Q:=fun _ s'=>Q .next s') (E:=E) AO (here_at hK) I (M.bind_ne pp.nf) (fun e s' m k c W' e1 I' X' k' ex=>pp.raise e s' m k c W' ρ (M.bind_raise e1) I' X' (k'.trans hK) ex) fun D Ca vs W' s' e1 f=>?_) (fun _ s' h=>wpAny_pure (wpAny_pure h)) fun _ _ x=>x)
  have hK':=f.K.trans hK
  refine f.ns.elim fun m hm=>?_
  show wpAny _ A (assign (.Name (Str.ofString z) p) F.env (.ref D)) _ _ _
  have nC:Ca ≠ F.env.locals:=fun q=>f.as.nm (.inr ⟨F.at ρ,by rw [hK']; exact .head _,.inl q⟩)
  refine wpAny_assign_Name (set_var (F:=F.at ρ) hK' f.inv (.inl hr) (by unfold kindVar; rw [show (F.at ρ).env = F.env from rfl,hk]) f.rel fun s2 I2 X2 kp ns=>⟨m,ns Ca m nC hm,fun h' hs'=>?_⟩)
  have w:=after_C I2 (f.ext.at hK hK' X2) (Ns.as (ns Ca m nC hm) (fun u=>f.as.nm (mut_top (F2:=(F.at ρ).put z (.lst vs)) hK' rfl rfl u)) f.as.base) f.nC (by rw [top_z (F':=(F.at ρ).put z (.lst vs)) hK' rfl]; exact f.nh) hs'
  exact pp.ok .next _ .next (ρ.set z (.lst vs)) (W'.top ((F.at ρ).put z (.lst vs))) (M.bind_ok e1) w.1 w.2.1 (top_at hK') rfl
end
end Mine
end
section
set_option maxHeartbeats 1000000
namespace Mine
open PySem PySem.W PyProof.Rows PySem.MeetsSeq
section
variable {cx:Cx} {Kf:Frag} {A:Around} {W W₀:Wd} {s s₀:Shared} {n:Nat}
theorem reals_f {F:FrameI} {r:List FrameI} (h:F.real = false):reals (F :: r) = reals r:=by unfold reals; rw [List.filter_cons,h]; rfl
theorem reals_t {F:FrameI} {r:List FrameI} (h:F.real = true):reals (F :: r) = F.env :: reals r:=by unfold reals; rw [List.filter_cons,h]; rfl
set_option tactic.hygienic true in
theorem funs {W:Wd} {h:Heap}:∀ {K:List FrameI},FsOk cx W h K -> (∀ F ∈ K,cx.base.get? F.env.locals = none) -> h.FunFrames cx.base (reals K)
  | [],_,_=>trivial
  | F :: r,x,y=>by
    have ih:=funs x.2.2 fun G hG=>y G (.tail _ hG)
    cases hr:F.real with
    | false=>rw [reals_f hr]; exact ih
    | true =>
      rw [reals_t hr]
      refine cps fun G9 k9=>?_
      obtain ⟨m,⟨o,es,ep,g,d,_⟩,_⟩:=x.1.ns
      refine k9 ?_
      exact ⟨by rw [x.1.kind]; decide,⟨F.env.locals,o,x.1.fr hr,y F (.head _),g,fun vs=>by rw [d]; simp⟩,ih⟩
theorem Inv.funs {h:Heap} (I:Inv cx W h):h.FunFrames cx.base (reals W.K):=Mine.funs I.frm fun F hF=>(I.locB F hF).1
set_option tactic.hygienic true in
theorem reals_locals {W:Wd} {h:Heap}:∀ {K:List FrameI},FsOk cx W h K -> ∀ b ∈ (reals K).filterMap (·.frame),∃ F ∈ K,b = F.env.locals
  | [],_,_,hb=>by simp [reals] at hb
  | F :: r,x,b,hb=>by
    cases hr:F.real with
    | false =>
      rw [reals_f hr] at hb
      obtain ⟨G,hG,e⟩:=reals_locals x.2.2 b hb
      exact ⟨G,.tail _ hG,e⟩
    | true =>
      rw [reals_t hr,List.filterMap_cons,x.1.fr hr] at hb
      cases hb with
      | head=>exact ⟨F,.head _,rfl⟩
      | tail _ hb =>
        obtain ⟨G,hG,e⟩:=reals_locals x.2.2 b hb
        exact ⟨G,.tail _ hG,e⟩
theorem FsOk.map {W W':Wd} {h h':Heap}:∀ {K:List FrameI},(∀ F ∈ K,FOk cx W h F -> FOk cx W' h' F) -> FsOk cx W h K -> FsOk cx W' h' K
  | [],_,_=>trivial
  | F :: r,f,x=>⟨f F (.head _) x.1,x.2.1,FsOk.map (fun G hG=>f G (.tail _ hG)) x.2.2⟩
theorem slots_ns {S:List Addr} {h h':Heap} {a:Addr} {m:Str -> Option Value} (x:Heap.SlotsOnly S h h') (hn:h.Ns a m):h'.Ns a m:=by
  refine cps fun G9 k9=>?_
  obtain ⟨o,es,ep,ho,hd,r⟩:=hn
  obtain ⟨sl,hs⟩:=x.2.2 a o ho
  refine k9 ?_
  exact ⟨_,es,ep,hs,hd,r⟩
set_option tactic.hygienic true in
theorem Inv.slots {S:List Addr} {h h':Heap} (I:Inv cx W h) (hS:∀ b ∈ S,∃ F ∈ W.K,b = F.env.locals) (x:Heap.SlotsOnly S h h'):Inv cx W h':=by
  have nd:∀ b o,h.get? b = some o -> (∀ es ep,o.data ≠ .dict es ep) -> h'.get? b = some o:=fun b o e q=>by
    refine (x.2.1 b fun hb=>?_).trans e
    obtain ⟨F,hF,rfl⟩:=hS b hb
    obtain ⟨m,hn,_⟩:=(I.frm.mem F hF).ns
    obtain ⟨es,ep,d⟩:=Ns.notSeq hn e
    exact q es ep d
  have St:Sta W.φ W.z h W.φ W.z h':=⟨fun a o xs m e d _=>nd a o e fun es ep q=>(by rw [d] at q; cases q),Nat.le_refl _,fun _ _=>rfl,fun i h1 h2=>absurd h2 (Nat.not_lt.mpr h1),fun _ q=>.inl q⟩
  have nS:∀ i,i < W.σ.n -> W.φ i ∉ S /\ W.δ i ∉ S:=fun i hi=>by
    refine ⟨fun q=>?_,fun q=>?_⟩
    · obtain ⟨F,hF,e⟩:=hS _ q; exact (I.locφ F hF i hi).1 e.symm
    · obtain ⟨F,hF,e⟩:=hS _ q; exact (I.locφ F hF i hi).2 e.symm
  refine ⟨fun b o e=>(x.2.1 b fun q=>?_).trans (I.base b o e),fun i hi=>(I.obj i hi).mono St rfl rfl (fun o e=>(x.2.1 _ (nS i hi).1).trans e) (fun o e=>(x.2.1 _ (nS i hi).2).trans e),I.inj,I.fresh,I.frm.map fun F hF FO=>?_,I.locφ,I.locB,I.locN,I.celN,fun a q=>?_⟩
  · obtain ⟨F,hF,rfl⟩:=hS b q
    rw [(I.locB F hF).1] at e; cases e
  · obtain ⟨m,hn,hv⟩:=FO.ns
    refine ⟨FO.kind,FO.glob,FO.bi,FO.fr,⟨m,slots_ns x hn,fun y V hy e=>(hv y V hy e).mono St fun c o v e1 e2 e3=>nd c o e2 fun es ep q=>(by rw [e3] at q; cases q)⟩,FO.cell,fun c hc=>?_,FO.cellOf,FO.cellInj⟩
    obtain ⟨o,v,e,d⟩:=FO.cellAt c hc
    exact ⟨o,v,nd c o e fun es ep q=>(by rw [d] at q; cases q),d⟩
  · obtain ⟨o,e⟩:=I.accL a q
    obtain ⟨sl,e'⟩:=x.2.2 a o e
    exact ⟨_,e'⟩
structure EX (cx:Cx) (W₀:Wd) (s₀:Shared) (W:Wd) (s:Shared) (a:Addr) (oe:Obj) (vs:Array Value) (m:String) (k:Int) (c:Bool):Prop where
  I:Inv cx W s.heap
  X:Ext W₀ s₀ W s
  x:Exc0 cx s₀.heap W s.heap a oe vs m k c
  fr:∀ F ∈ W.K,Mut W₀ F.env.locals \/ s₀.heap.get? F.env.locals = none
variable {a:Addr} {oe:Obj} {vs:Array Value} {m:String} {k:Int} {c:Bool}
set_option tactic.hygienic true in
theorem fields_nMut {h:Heap} (I:Inv cx W h) {b:Addr} {o:Obj} {ts:Array Value} (e:h.get? b = some o) (d:o.data = .fields ts):¬ Mut W b:=by
  rintro (⟨i,hi,q⟩ | ⟨F,hF,q | q⟩)
  · have no:∀ {ao:AO},ORel cx W h i ao -> False:=fun {ao} x=>by
      rcases ao with _ | _ | ⟨_,_⟩
      case list l =>
        obtain ⟨e0,items,⟨k,g⟩,_⟩:=x
        have:b = W.φ i:=q.elim id fun z=>z.trans e0
        rw [<- this,e] at g; cases g; cases d
      case dict l =>
        obtain ⟨e0,⟨ob,es,ep,g,_,d'⟩,_⟩:=x
        have:b = W.φ i:=q.elim id fun z=>z.trans e0
        rw [<- this,e] at g; cases g; rw [d] at d'; cases d'
      case inst c l =>
        obtain ⟨C,mm,x⟩:=x
        have g:=x.get
        obtain ⟨ob,g',es,ep,d'⟩:=Ns.some x.ns.ns
        rcases q with q | q
        · rw [<- q,e] at g; cases g; cases d
        · rw [<- q,e] at g'; cases g'; rw [d] at d'; cases d'
    exact no (I.obj i hi)
  · obtain ⟨mm,hn,_⟩:=(I.frm.mem F hF).ns
    rw [<- q] at hn
    obtain ⟨_,_,z⟩:=Ns.notSeq hn e
    rw [d] at z; cases z
  · obtain ⟨ob,v,e',d'⟩:=(I.frm.mem F hF).cellAt b q
    rw [e] at e'; cases e'; rw [d] at d'; cases d'
set_option tactic.hygienic true in
theorem fields_aside {h:Heap} (I:Inv cx W h) {b:Addr} {o:Obj} {ts:Array Value} (e:h.get? b = some o) (d:o.data = .fields ts) (hb:cx.base.get? b = none):Aside cx W h b :=
  ⟨fields_nMut I e d,hb,fun o' xs mm e' q=>(by cases e.symm.trans e'; cases d.symm.trans q),fun o' xs mm e' q=>(by cases e.symm.trans e'; cases d.symm.trans q)⟩
set_option tactic.hygienic true in
theorem EX.slots {S:List Addr} {h':Heap} (y:EX cx W₀ s₀ W s a oe vs m k c) (hS:∀ b ∈ S,∃ F ∈ W.K,b = F.env.locals) (x:Heap.SlotsOnly S s.heap h'):EX cx W₀ s₀ W { s with heap:=h' } a oe vs m k c:=by
  have a1:=y.x
  refine ⟨y.I.slots hS x,⟨y.X.n,y.X.same,y.X.new,fun b e=>y.X.live b ?_,y.X.hid,fun b o e nm=>(x.2.1 b fun q=>?_).trans (y.X.keep b o e nm),y.X.gens,y.X.os⟩,⟨(x.2.1 a fun q=>?_).trans a1.get,a1.cls,a1.data,a1.size,a1.ctx,?_,a1.base,a1.nm,a1.new⟩,y.fr⟩
  · cases z:s.heap.get? b with
    | none=>rfl
    | some o=>obtain ⟨sl,q⟩:=x.2.2 b o z; rw [show h'.get? b = none from e] at q; cases q
  · obtain ⟨F,hF,rfl⟩:=hS b q
    rcases y.fr F hF with z | z
    · exact nm z
    · rw [z] at e; cases e
  · obtain ⟨F,hF,rfl⟩:=hS a q
    exact a1.nm (.inr ⟨F,hF,.inl rfl⟩)
  · obtain ⟨dx,mm,d1,d2,r⟩:=a1.dict
    exact ⟨dx,mm,d1,slots_ns x d2,r⟩
theorem EX.keeps {h':Heap} (y:EX cx W₀ s₀ W s a oe vs m k c) (kp:∀ b o,s.heap.get? b = some o -> h'.get? b = some o):EX cx W₀ s₀ W { s with heap:=h' } a oe vs m k c:=by
  have a1:=y.x
  refine ⟨y.I.keeps kp,⟨y.X.n,y.X.same,y.X.new,fun b e=>y.X.live b (live_of kp b e),y.X.hid,fun b o e nm=>kp b o (y.X.keep b o e nm),y.X.gens,y.X.os⟩,⟨kp _ _ a1.get,a1.cls,a1.data,a1.size,a1.ctx,?_,a1.base,a1.nm,a1.new⟩,y.fr⟩
  refine cps fun G9 k9=>?_
  obtain ⟨dx,mm,d1,⟨o,es,ep,g,z⟩,r⟩:=a1.dict
  refine k9 ?_
  exact ⟨dx,mm,d1,⟨o,es,ep,kp _ _ g,z⟩,r⟩
set_option tactic.hygienic true in
theorem EX.but {h':Heap} {T:Addr} {oT oT':Obj} {ts:Array Value} (y:EX cx W₀ s₀ W s a oe vs m k c) (g:s.heap.get? T = some oT) (d:oT.data = .fields ts) (hb:cx.base.get? T = none) (h0:s₀.heap.get? T = none) (ne:T ≠ a)
    (hs:Heap.SameBut T s.heap h') (g':h'.get? T = some oT'):EX cx W₀ s₀ W { s with heap:=h' } a oe vs m k c:=by
  have a1:=y.x
  have as:=fields_aside y.I g d hb
  have kp:∀ b o,s.heap.get? b = some o -> ¬ b = T -> h'.get? b = some o:=fun b o e nb=>(hs.2 b nb).trans e
  refine ⟨y.I.aside (· = T) (fun b q=>q ▸ as) kp (fun b q _=>q ▸ ⟨_,g'⟩),y.X.aside (s₂:={ s with heap:=h' }) (· = T) (fun b q=>.inl (q ▸ h0)) kp rfl rfl,⟨kp _ _ a1.get (Ne.symm ne),a1.cls,a1.data,a1.size,a1.ctx,?_,a1.base,a1.nm,a1.new⟩,y.fr⟩
  refine cps fun G9 k9=>?_
  obtain ⟨dx,mm,d1,d2,r⟩:=a1.dict
  refine k9 ?_
  refine ⟨dx,mm,d1,d2.sameBut hs fun q=>?_,r⟩
  rw [q] at d2
  refine cps fun G9 k9=>?_
  obtain ⟨_,_,z⟩:=Ns.notSeq d2 g
  refine k9 ?_
  rw [d] at z; cases z
set_option tactic.hygienic true in
theorem EX.own {h':Heap} {oe':Obj} {i:Nat} {v:Value} (y:EX cx W₀ s₀ W s a oe vs m k c) (hi:i ≠ 2)
    (hs:Heap.SameBut a s.heap h') (g':h'.get? a = some oe') (e1:oe'.cls = oe.cls) (e2:oe'.dict = oe.dict) (e3:oe'.data = .fields (vs.setIfInBounds i v)):EX cx W₀ s₀ W { s with heap:=h' } a oe' (vs.setIfInBounds i v) m k c:=by
  have a1:=y.x
  have as:=fields_aside y.I a1.get a1.data a1.base
  have kp:∀ b o,s.heap.get? b = some o -> ¬ b = a -> h'.get? b = some o:=fun b o e nb=>(hs.2 b nb).trans e
  refine ⟨y.I.aside (· = a) (fun b q=>q ▸ as) kp (fun b q _=>q ▸ ⟨_,g'⟩),y.X.aside (s₂:={ s with heap:=h' }) (· = a) (fun b q=>.inl (q ▸ a1.new)) kp rfl rfl,⟨g',by rw [e1]; exact a1.cls,e3,by simp [a1.size],fun q=>?_,?_,a1.base,a1.nm,a1.new⟩,y.fr⟩
  · rw [Array.getElem?_setIfInBounds_ne hi]; exact a1.ctx q
  · obtain ⟨dx,mm,d1,d2,r⟩:=a1.dict
    refine ⟨dx,mm,e2.trans d1,d2.sameBut hs fun q=>?_,r⟩
    rw [q] at d2
    obtain ⟨_,_,z⟩:=Ns.notSeq d2 a1.get
    rw [a1.data] at z; cases z
end
end Mine
end
section
set_option maxHeartbeats 1000000
namespace Mine
open PySem PySem.W PyProof.Rows PySem.MeetsSeq
section
variable {cx:Cx} {Kf:Frag} {A:Around} {W W₀:Wd} {s s₀:Shared} {n:Nat} {a:Addr} {oe:Obj} {vs:Array Value} {m:String} {k:Int} {c:Bool}
theorem dict_mapF {o:Obj} {vs:Array Value} {f:Array Value -> Array Value} (h:o.data = .fields vs):(Obj.mapFields f o).dict = o.dict:=by
  obtain ⟨c1,d1,dt,sl⟩:=o
  cases (show dt = _ from h)
  rfl
set_option tactic.hygienic true in
theorem exc_entry {F:FrameI} {r:List FrameI} {head:Value} {hadNext:Bool} {L:Addr} {Q:Unit -> Shared -> Prop} {E:Value -> Shared -> Prop} (hfr:A.frames = some (reals W.K)) (hK:W.K = F :: r) (hr:F.real = true) (hL:F.env.frame = some L) (y:EX cx W₀ s₀ W s a oe vs m k c)
    (h:∀ h' oe' vs',EX cx W₀ s₀ W { s with heap:=h' } a oe' vs' m k c -> TbOk cx s₀.heap h' a vs' (rawInt L) -> Q () { s with heap:=h' }) :
    wpAny cx.m A (do let a' <- frameOf F.env; let pl <- entryPlaceOf L hadNext; let b <- EntryCells.newEntry head a' .none (rawInt L) .none pl; setField (.ref a) 1 b) Q E s:=by
  have er:reals W.K = F.env :: reals r:=by rw [hK]; exact reals_t hr
  have hl:=y.I.funs
  rw [er] at hl hfr
  refine wpAny_bind (wpAny_frameOf_fun hfr hl hL fun h₁ hs₁=>?_)
  have y1:=y.slots (fun b hb=>reals_locals y.I.frm b (by rw [er]; exact hb)) hs₁
  refine wpAny_bind (wpAny_entryPlaceOf fun pl hpl=>?_)
  unfold EntryCells.newEntry newFields
  refine wpAny_bind (wpAny_newObj_type ?_ (hpl.sizeOk5 _ _ _ _ _))
  generalize hot:({ cls:=.type "traceback",dict:=none,data:=.fields ([head,.ref L,.none,rawInt L,.none] ++ (if pl.isEmpty then List.replicate 6 Value.none else pl)).toArray }:Obj) = ot
  have kp:∀ b o,h₁.get? b = some o -> (h₁.push ot).get? b = some o:=fun b o e=>Heap.get?_push_of_some _ e
  have y2:=y1.keeps (h':=h₁.push ot) kp
  have he₂:=y2.x.get
  refine wpAny_setField he₂ y2.x.data (by rw [y2.x.size]; decide) ?_
  have fo:ot.isFreed = false:=by rw [<- hot]; rfl
  have hT0:(h₁.push ot).get? h₁.objs.size = some ot:=Heap.get?_push_size _ fo
  have hTe:h₁.objs.size ≠ a:=Nat.ne_of_gt (Heap.lt_size (show h₁.get? a = some oe from y1.x.get))
  have hd₃:=Obj.data_mapFields y2.x.data (·.setIfInBounds 1 (Value.ref h₁.objs.size))
  have he₃:=Heap.get?_update_self (Obj.mapFields (·.setIfInBounds 1 (Value.ref h₁.objs.size))) he₂ (Obj.isFreed_of_fields hd₃)
  have y3:=y2.own (i:=1) (v:=.ref h₁.objs.size) (by decide) (Heap.SameBut.update ..) he₃ (Obj.cls_mapFields _ _) (dict_mapF y2.x.data) hd₃
  have none₁:∀ b,b = h₁.objs.size -> h₁.get? b = none:=fun b q=>gone (Nat.le_of_eq q.symm)
  have old:∀ {h0:Heap},(∀ b,h₁.get? b = none -> h0.get? b = none) -> h0.get? h₁.objs.size = none:=fun z=>z _ (none₁ _ rfl)
  refine h _ _ _ y3 ⟨h₁.objs.size,ot,_,by simp [y2.x.size],?_,by rw [<- hot],by simp,?_,hTe,?_⟩
  · exact (Heap.get?_update_other _ _ (Ne.symm hTe)).trans hT0
  · cases q:cx.base.get? h₁.objs.size with
    | none=>rfl
    | some o=>have e:h₁.get? h₁.objs.size = some o:=y1.I.base _ _ q; exact absurd (e.symm.trans (none₁ _ rfl)) (by simp)
  · exact y1.X.live _ (none₁ _ rfl)
theorem tb_upd {T:Addr} {oT:Obj} {ts:Array Value} {fl:Value} (hT:s.heap.get? T = some oT) (hdT:oT.data = .fields ts):∃ oT',(s.heap.update T (Obj.mapFields (·.setIfInBounds 3 fl))).get? T = some oT' /\ oT'.data = .fields (ts.setIfInBounds 3 fl) :=
  ⟨_,Heap.get?_update_self _ hT (Obj.isFreed_of_fields (Obj.data_mapFields hdT _)),Obj.data_mapFields hdT _⟩
theorem EX.flight {T:Addr} {oT:Obj} {ts:Array Value} {fl fl':Value} (y:EX cx W₀ s₀ W s a oe vs m k c) (h1:vs[1]? = some (.ref T)) (hT:s.heap.get? T = some oT) (hdT:oT.data = .fields ts) (h3:ts[3]? = some fl) (hb:cx.base.get? T = none) (hTe:T ≠ a) (h0:s₀.heap.get? T = none) :
    EX cx W₀ s₀ W { s with heap:=s.heap.update T (Obj.mapFields (·.setIfInBounds 3 fl')) } a oe vs m k c /\ TbOk cx s₀.heap (s.heap.update T (Obj.mapFields (·.setIfInBounds 3 fl'))) a vs fl':=by
  refine cps fun G9 k9=>?_
  obtain ⟨oT',g,d⟩:=tb_upd (fl:=fl') hT hdT
  refine k9 ?_
  refine ⟨y.but hT hdT hb h0 hTe (Heap.SameBut.update ..) g,T,oT',_,h1,g,d,?_,hb,hTe,h0⟩
  have:=(Array.getElem?_eq_some_iff.mp h3).1
  simp [this]
theorem exc_note {F:FrameI} {r:List FrameI} {L:Addr} {Q:Unit -> Shared -> Prop} {E:Value -> Shared -> Prop} (hfr:A.frames = some (reals W.K)) (hK:W.K = F :: r) (hr:F.real = true) (hL:F.env.frame = some L) (y:EX cx W₀ s₀ W s a oe vs m k c)
    (t:vs[1]? = some .none \/ ∃ fl,TbOk cx s₀.heap s.heap a vs fl /\ (fl = .none \/ fl = rawInt L))
    (h:∀ h' oe' vs',EX cx W₀ s₀ W { s with heap:=h' } a oe' vs' m k c -> TbOk cx s₀.heap h' a vs' (rawInt L) -> Q () { s with heap:=h' }):wpAny cx.m A (noteFrame (.ref a) F.env) Q E s:=by
  unfold noteFrame
  simp only [hL]
  rcases t with h1 | ⟨fl,⟨T,oT,ts,h1,hT,hdT,h3,hb,hTe,h0⟩,rfl | rfl⟩
  · refine wpAny_bind (wpAny_field y.x.get y.x.data h1 ?_)
    rw [if_neg (by decide)]
    exact exc_entry hfr hK hr hL y h
  · refine wpAny_bind (wpAny_field y.x.get y.x.data h1 ?_)
    rw [if_pos (show (Value.ref T != Value.none) = true from by simp)]
    refine wpAny_bind (wpAny_field hT hdT h3 ?_)
    rw [if_neg (show ¬ ((Value.none == rawInt L) = true) from by simp [rawInt])]
    refine wpAny_bind (wpAny_setField hT hdT (Array.getElem?_eq_some_iff.mp h3).1 ?_)
    exact exc_entry hfr hK hr hL (y.flight h1 hT hdT h3 hb hTe h0).1 h
  · refine wpAny_bind (wpAny_field y.x.get y.x.data h1 ?_)
    rw [if_pos (show (Value.ref T != Value.none) = true from by simp)]
    refine wpAny_bind (wpAny_field hT hdT h3 ?_)
    rw [if_pos (show (rawInt L == rawInt L) = true from by simp)]
    exact wpAny_pure (h s.heap oe vs y ⟨T,oT,ts,h1,hT,hdT,h3,hb,hTe,h0⟩)
theorem exc_flight {fr:Option Addr} {Q:Unit -> Shared -> Prop} {E:Value -> Shared -> Prop} {fl:Value} (y:EX cx W₀ s₀ W s a oe vs m k c) (t:TbOk cx s₀.heap s.heap a vs fl)
    (h:∀ h',EX cx W₀ s₀ W { s with heap:=h' } a oe vs m k c -> TbOk cx s₀.heap h' a vs (fr.elim .none fun f=>rawInt f) -> Q () { s with heap:=h' }):wpAny cx.m A (setFlight (.ref a) fr) Q E s:=by
  refine cps fun G9 k9=>?_
  obtain ⟨T,oT,ts,h1,hT,hdT,h3,hb,hTe,h0⟩:=t
  refine k9 ?_
  unfold setFlight
  refine wpAny_bind (wpAny_field y.x.get y.x.data h1 ?_)
  rw [if_pos (show (Value.ref T != Value.none) = true from by simp)]
  refine wpAny_setField hT hdT (Array.getElem?_eq_some_iff.mp h3).1 ?_
  have:=y.flight (fl':=fr.elim .none fun f=>rawInt f) h1 hT hdT h3 hb hTe h0
  exact h _ this.1 this.2
theorem TbOk.ne {h₀ h:Heap} {fl:Value} (t:TbOk cx h₀ h a vs fl):∃ T,vs[1]? = some (.ref T):=let ⟨T,_,_,h1,_⟩:=t; ⟨T,h1⟩
theorem exc_came {env:PySem.Env} {Q:Value -> Shared -> Prop} {fl:Value} (y:EX cx W₀ s₀ W s a oe vs m k c) (t:TbOk cx s₀.heap s.heap a vs fl)
    (h:∀ h',EX cx W₀ s₀ W { s with heap:=h' } a oe vs m k c -> TbOk cx s₀.heap h' a vs (env.frame.elim .none fun f=>rawInt f) -> Q (.ref a) { s with heap:=h' }):cameBackBy cx.m A env Q (.ref a) s:=by
  unfold cameBackBy
  obtain ⟨T,h1⟩:=t.ne
  refine wpAny_bind (wpAny_field y.x.get y.x.data h1 ?_)
  rw [if_neg (show ¬ ((Value.ref T == Value.none) = true) from by simp)]
  exact exc_flight y t h
theorem exc_leave {F:FrameI} {r:List FrameI} {L:Addr} {Q:Unit -> Shared -> Prop} {E:Value -> Shared -> Prop} (hfr:A.frames = some (reals W.K)) (hK:W.K = F :: r) (hr:F.real = true) (hL:F.env.frame = some L) (y:EX cx W₀ s₀ W s a oe vs m k c)
    (t:vs[1]? = some .none \/ ∃ fl,TbOk cx s₀.heap s.heap a vs fl /\ (fl = .none \/ fl = rawInt L))
    (h:∀ h' oe' vs',EX cx W₀ s₀ W { s with heap:=h' } a oe' vs' m k c -> TbOk cx s₀.heap h' a vs' .none -> Q () { s with heap:=h' }):wpAny cx.m A (leaving F.env (.ref a)) Q E s:=by
  unfold leaving
  refine wpAny_bind (exc_note hfr hK hr hL y t fun h' oe' vs' y' t'=>?_)
  exact exc_flight y' t' fun h'' y'' t''=>h h'' oe' vs' y'' t''
end
end Mine
end
section
set_option maxHeartbeats 1000000
namespace Mine
open PySem PySem.W PyProof.Rows PySem.MeetsSeq
theorem Env.set_comm {ρ:Env} {x y:String} {a b:V} (h:x ≠ y):(ρ.set x a).set y b = (ρ.set y b).set x a:=by
  funext z
  unfold Env.set
  by_cases q:z = y
  · rw [if_pos q,if_neg fun w=>h (w.symm.trans q),if_pos q]
  · rw [if_neg q,if_neg q]
theorem sets_comm {x:String} {v:V}:∀ {xs:List String} {l:List V} {ρ:Env},x ∉ xs -> (ρ.set x v).sets xs l = (ρ.sets xs l).set x v
  | [],_,_,_=>rfl
  | _ :: _,[],_,_=>rfl
  | y :: xs,w :: l,ρ,h=>by
    show ((ρ.set x v).set y w).sets xs l = ((ρ.set y w).sets xs l).set x v
    rw [Env.set_comm (x:=x) (y:=y) fun e=>h (e ▸ .head _)]
    exact sets_comm fun q=>h (.tail _ q)
theorem sets_app {x:String} {v:V}:∀ {xs:List String} {l:List V} {ρ:Env},l.length = xs.length -> ρ.sets (xs ++ [x]) (l ++ [v]) = (ρ.sets xs l).set x v
  | [],[],_,_=>rfl
  | _ :: _,[],_,h=>nomatch h
  | [],_ :: _,_,h=>nomatch h
  | y :: xs,w :: l,ρ,h=>sets_app (xs:=xs) (Nat.succ.inj h)
theorem sets_rev {ρ:Env}:∀ {xs:List String} {l:List V},l.length = xs.length -> xs.Nodup -> ρ.sets xs.reverse l.reverse = ρ.sets xs l
  | [],[],_,_=>rfl
  | _ :: _,[],h,_=>nomatch h
  | [],_ :: _,h,_=>nomatch h
  | x :: xs,v :: l,h,hn=>by
    rw [List.nodup_cons] at hn
    rw [List.reverse_cons,List.reverse_cons,sets_app (by rw [List.length_reverse,List.length_reverse]; exact Nat.succ.inj h),sets_rev (Nat.succ.inj h) hn.2]
    exact (sets_comm hn.1).symm
theorem ofString_nodup:∀ {xs:List String},xs.Nodup -> (xs.map Str.ofString).Nodup
  | [],_=>List.nodup_nil
  | x :: xs,h=>by
    rw [List.nodup_cons] at h
    rw [List.map_cons,List.nodup_cons]
    exact ⟨fun q=>(List.mem_map.mp q).elim fun y z=>h.1 (ofString_inj z.2 ▸ z.1),ofString_nodup h.2⟩
theorem dups_nodup:∀ {l:List Str},l.Nodup -> l.eraseDups = l
  | [],_=>rfl
  | x :: xs,h=>by
    rw [List.nodup_cons] at h
    rw [List.eraseDups_cons,List.filter_eq_self.mpr fun y hy=>(Bool.not_eq_true' _).mpr (beq_eq_false_iff_ne.mpr fun (e:y = x)=>h.1 (e ▸ hy)),dups_nodup h.2]
section
variable {cx:Cx} {Kf:Frag} {A:Around} {W W₀:Wd} {s s₀:Shared} {n:Nat} {env:PySem.Env} {ρ ρ₀:Env} {C:Oracle} {F:FrameI} {r:List FrameI}
inductive Stores (cx:Cx) (A:Around) (env:PySem.Env):List (Value -> Sem Unit) -> List String -> Prop where
  | nil:Stores cx A env [] []
  | cons {t:Value -> Sem Unit} {x:String} {ts xs} (hx:kindVar env.scope.names (Str.ofString x) = true) (ht:∀ v Q E s,wpAny cx.m A (storeName env (Str.ofString x) v) Q E s -> wpAny cx.m A (t v) Q E s) (r:Stores cx A env ts xs):Stores cx A env (t :: ts) (x :: xs)
theorem store_all (hr:F.real = true) {xs:List String} {ts:List (Value -> Sem Unit)} (st:Stores cx A F.env ts xs):∀ {l:List V} {vs:List Value} {W:Wd} {s:Shared} {ρ:Env} {Q:Unit -> Shared -> Prop} {E:Value -> Shared -> Prop},W.K = F.at ρ :: r -> Inv cx W s.heap -> VRels cx W.φ W.z s.heap l vs -> l.length = xs.length ->
    (∀ s' W',W'.σ = W.σ -> Inv cx W' s'.heap -> Ext W s W' s' -> W'.K = F.at (ρ.sets xs l) :: r -> Q () s') -> wpAny cx.m A (assignInOrder ts vs) Q E s:=by
  induction st with
  | nil =>
    intro l vs W s ρ Q E hK I rv hl h
    rcases l with _ | _
    · cases (show vs = [] from rv)
      exact wpAny_pure (h s W rfl I (Ext.refl _ _) hK)
    · exact nomatch hl
  | cons hx ht st ih =>
    intro l vs W s ρ Q E hK I rv hl h
    rcases l with _ | ⟨y,l⟩
    · exact nomatch hl
    · refine cps fun G k=>?_
      obtain ⟨v,vr,rfl,rv,rvs⟩:=rv
      refine k (wpAny_bind (wpAny_holding (ht v _ _ _ (set_var (F:=F.at ρ) hK I (.inl hr) hx rv fun s2 I2 X2 _ _=>?_))))
      exact ih (top_at hK) I2 (VRels.ext I X2 rvs) (Nat.succ.inj hl) fun s3 W3 e3 I3 X3 k3=>h s3 W3 e3 I3 (X2.at hK (top_at hK) X3) k3
structure Names (cx:Cx) (A:Around) (env:PySem.Env) (ts:List PySem.Expr) (xs:List String):Prop where
  st:Stores cx A env ((assignEach ts env).map (·.2)) xs
  len:(assignEach ts env).length = ts.length
  star:(assignEach ts env).findIdx? (·.1) = none
  same:ts.length = xs.length
  map:∀ {f:PySem.Expr -> Option Str} {line:Nat},(∀ id pos,f (.Name id pos) = if (env.kindOf id == some .local && pos.line == line) = true then some id else none) -> (∀ t ∈ ts,t.pos.line = line) -> (∀ x ∈ xs,env.scope.names.lookup (Str.ofString x) = some .local) -> ts.filterMap f = xs.map Str.ofString
set_option tactic.hygienic true in
theorem names {ts:List PySem.Expr} {xs:List String} (h:trNames env.scope.names ts = some xs):Names cx A env ts xs:=by
  induction ts generalizing xs with
  | nil=>cases h; exact ⟨.nil,rfl,rfl,rfl,fun _ _ _=>rfl⟩
  | cons t r ih =>
    refine cps fun G k=>?_
    rcases t with _ | _ | _ | _ | _ | _ | _ | _ | _ | _ | _ | _ | _ | _ | _ | _ | _ | _ | _ | _ | _ | _ | _ | _ | _ | _ | _ <;> first | exact none_some h | skip
    rename_i y p
    have h:(if (okN y && kindVar env.scope.names y) = true then (trNames env.scope.names r).map (toS y :: ·) else none) = some xs:=h
    by_cases q:(okN y && kindVar env.scope.names y) = true
    · rw [if_pos q] at h
      obtain ⟨xs',h1,rfl⟩:=Option.map_eq_some_iff.mp h
      have q:=and2 q
      have e:=okN_eq q.1
      have ih:=ih h1
      refine k ⟨.cons (by rw [e]; exact q.2) (fun v Q E s z=>wpAny_assign_Name (e ▸ z)) ih.st,congrArg (· + 1) ih.len,?_,congrArg (· + 1) ih.same,fun hf hl hx=>?_⟩
      · show ((false,_) :: assignEach r env).findIdx? (·.1) = none
        rw [List.findIdx?_cons,if_neg Bool.false_ne_true,ih.star]; rfl
      · have c1:env.kindOf y = some .local:=e ▸ hx _ (.head _)
        have c2:p.line = _:=hl _ (.head _)
        rw [List.filterMap_cons,hf,c1,c2,if_pos (by rw [beq_self_eq_true,beq_self_eq_true]; rfl),ih.map hf (fun t ht=>hl t (.tail _ ht)) fun z hz=>hx z (.tail _ hz),List.map_cons,e]
    · rw [if_neg q] at h; exact none_some h
theorem ext_keeps {h':Heap} (e:Heap.ExtBut s.heap.objs.size s.heap h'):∀ b o,s.heap.get? b = some o -> h'.get? b = some o:=fun b o g=>e b o (Nat.ne_of_lt (Heap.lt_size g)) g
theorem unpack_val {a:V} {v:Value} {xs:List String} {Q:PySem.Flow -> Shared -> Prop} {Q':List Value -> Shared -> Prop} {E E':Value -> Shared -> Prop} (hh:A.handled = none) (I:Inv cx W s.heap) (ra:RV cx W s.heap a v) (p:SPost cx F r W₀ s₀ (M.bind (itemsOf a) (putS ρ xs) W.σ) Q E)
    (h:∀ s' l vs,Inv cx W s'.heap -> Ext W s W s' -> VRels cx W.φ W.z s'.heap l vs -> l.length = xs.length -> SPost cx F r W₀ s₀ (.ok (.next,ρ.sets xs l) W.σ) Q E -> Q' vs s'):wpAny cx.m A (unpackItems v xs.length none) Q' E' s:=by
  have go:∀ (l:List V),SPost cx F r W₀ s₀ (putS ρ xs l W.σ) Q E -> l.length = xs.length /\ SPost cx F r W₀ s₀ (.ok (.next,ρ.sets xs l) W.σ) Q E:=fun l p=>by
    have hl:=iteM_ok p.nf
    unfold putS at p
    rw [if_pos hl] at p
    exact ⟨hl,p⟩
  refine cps fun G k=>?_
  rcases a with _ | _ | _ | _ | l | l | _ | _ <;> try exact absurd rfl p.nf
  · obtain ⟨b,items,rfl,ht,rr⟩:=ra
    have g:=go l p
    rw [<- g.1,<- rr.size] at k
    exact k (unpackItems_tuple hh ht fun h' he=>h _ l _ (I.keeps (ext_keeps he)) (Ext.keeps (ext_keeps he) rfl rfl) (VRels.mono (Sta.of_keeps (ext_keeps he)) rr) g.1 g.2)
  · obtain ⟨b,items,rfl,ht,_,rr⟩:=ra
    have g:=go l p
    rw [<- g.1,<- rr.size] at k
    exact k (kun_itemsOf hh ht fun h' he=>h _ l _ (I.keeps (ext_keeps he)) (Ext.keeps (ext_keeps he) rfl rfl) (VRels.mono (Sta.of_keeps (ext_keeps he)) rr) g.1 g.2)
theorem swapped_none {ts:List PySem.Expr} {k:Nat} {p:Pos} {e:PySem.Expr} (h:notTup e = true):swappedStores [.Tuple ts k p] e env = pure none:=by
  rcases e with _ | _ | _ | _ | _ | _ | _ | _ | _ | _ | _ | _ | _ | _ | _ | _ | _ | _ | _ | _ | _ | _ | _ | _ | _ | _ | _ <;> first | rfl | exact no_tf h
set_option tactic.hygienic true in
theorem ses_unpk {ts:List PySem.Expr} {k:Nat} {p q:Pos} {xs:List String} {e:PySem.Expr} {x:Env -> M V} (hn:trNames F.env.scope.names ts = some xs) (ht:notTup e = true) (hr:F.real = true) (h1:∀ ρ,SV cx A n F.env ρ (eval e F.env) (x ρ)) :
    SES cx A n F r (exec (.Assign [.Tuple ts k p] e q) F.env) (fun ρ=>M.bind (x ρ) fun a=>M.bind (itemsOf a) (putS ρ xs)):=fun W s ρ hK AO I Q E pp=>by
  have N:=names (cx:=cx) (A:=A) hn
  refine Assign_Tuple ((h1 ρ W s (here_at hK) AO I).use hK pp fun v s1 a W1 I1 X1 k1 r1 p1=>?_) (show swapsWith e (some (.Tuple ts k p)) q.line F.env = pure false from swaps_tup) (swapped_none ht)
  rw [assign_Tuple]
  refine wpAny_bind (wpAny_standAt ?_)
  unfold unpack
  rw [N.star,N.len,N.same]
  refine wpAny_bind (wpAny_holding (unpack_val AO.handled I1 r1 p1 fun s2 l vs I2 X2 rv hl p2=>?_))
  exact store_all hr N.st (k1.trans hK) I2 rv hl fun s3 W3 e3 I3 X3 k3=>p2.ok .next s3 .next (ρ.sets xs l) W3 (by rw [e3]) I3 (X1.at hK (k1.trans hK) (X2.at (k1.trans hK) (k1.trans hK) X3)) k3 rfl
theorem lineOk_eq {sc:Sc} {ts:List PySem.Expr} {xs:List String} (h:lineOk sc ts xs = true):(∀ t ∈ ts,t.pos.line = (ts.head?.map (·.pos.line)).getD 0) /\ ∀ x ∈ xs,sc.lookup (Str.ofString x) = some .local :=
  ⟨fun t ht=>beq_iff_eq.mp (List.all_eq_true.mp (and2 h).1 t ht),fun x hx=>isLoc_eq (List.all_eq_true.mp (and2 h).2 x hx)⟩
theorem noStar_any {f:PySem.Expr -> Bool} (hf:∀ e,notStar e = true -> f e = false):∀ {l:List PySem.Expr},l.all notStar = true -> l.any f = false
  | [],_=>rfl
  | e :: r,h=>by rw [List.any_cons,hf e (and2 h).1,noStar_any hf (and2 h).2]; rfl
theorem swapped_some {ts es:List PySem.Expr} {k k2:Nat} {p p2:Pos} {xs:List String} (hb:env.blockKind = .function) (N:Names cx A env ts xs) (h2:es.all notStar = true) (h3:(xs.length == 2 || xs.length == 3) = true) (h4:es.length = xs.length)
    (h6:xs.Nodup) (h7:es.all (foldedForSure 8) = false) (h8:es.all (constantsAlone 8) = false) (h9:lineOk env.scope.names ts xs = true) :
    swappedStores [.Tuple ts k p] (.Tuple es k2 p2) env = pure (some (xs.map Str.ofString)):=by
  have L:=lineOk_eq h9
  have hd:=dups_nodup (ofString_nodup h6)
  unfold swappedStores
  dsimp only
  rw [noStar_any (by intro e he; rcases e with _ | _ | _ | _ | _ | _ | _ | _ | _ | _ | _ | _ | _ | _ | _ | _ | _ | _ | _ | _ | _ | _ | _ | _ | _ | _ | _ <;> first | rfl | exact no_tf he) h2,N.map (fun _ _=>rfl) L.1 L.2,hd,List.length_map,h4,N.same,hb,h3,h7,h8]
  simp
set_option tactic.hygienic true in
theorem ses_asg2 {ts es:List PySem.Expr} {k k2:Nat} {p p2 q:Pos} {f:PySem.Expr -> Ex} {xs:List String} (hn:trNames F.env.scope.names ts = some xs) (hr:F.real = true) (H:∀ ρ,Both cx A n F.env ρ C f) :
    SES cx A n F r (exec (.Assign [.Tuple ts k p] (.Tuple es k2 p2) q) F.env) (ex1 C (grdS (es.all notStar && (xs.length == 2 || xs.length == 3) && es.length == xs.length && decide xs.Nodup && !(es.all (foldedForSure 8)) && !(es.all (constantsAlone 8)) && lineOk F.env.scope.names ts xs) (.asg2 xs (es.map f)))):=SES.grd fun h W s ρ hK AO I Q E pp=>by
  have a1:=and2 h
  have a2:=and2 a1.1
  have a3:=and2 a2.1
  have a4:=and2 a3.1
  have a5:=and2 a4.1
  have a6:=and2 a5.1
  have nd:=of_decide_eq_true a4.2
  have e4:es.length = xs.length:=beq_iff_eq.mp a5.2
  have N:=names (cx:=cx) (A:=A) hn
  have hb:F.env.blockKind = .function:=by unfold Env.blockKind; rw [at_kind I hK]; rfl
  have hz:(es.all notStar && decide (es.length < 1000)) = true:=by
    rw [a6.1,e4]
    rcases Bool.or_eq_true_iff.mp a6.2 with z | z <;> rw [beq_iff_eq.mp z] <;> rfl
  have T:Snd cx (RV cx) (eval (.Tuple es k2 p2) F.env) A W s (M.bind (evs C ρ (es.map f)) fun vs=>M.ret (.tup vs)):=by
    have:=se_tup (H ρ) (p:=p2) (l:=es) (k:=k2) W s (here_at hK) AO I
    rw [hz] at this
    exact this
  refine Assign_Tuple_swapped (T.use hK (f:=fun a=>M.bind (itemsOf a) (putS ρ xs)) (by rw [M.assoc]; exact pp) fun v s1 a W1 I1 X1 k1 r1 p1=>?_) (show swapsWith (.Tuple es k2 p2) (some (.Tuple ts k p)) q.line F.env = pure false from swaps_tup) (swapped_some hb N a6.1 a6.2 e4 nd ((Bool.not_eq_true' _).mp a3.2) ((Bool.not_eq_true' _).mp a2.2) a1.2)
  rw [List.length_map]
  refine unpack_val AO.handled I1 r1 p1 fun s2 l vs I2 X2 rv hl p2=>?_
  have st:∀ {xs:List String},(∀ x ∈ xs,F.env.scope.names.lookup (Str.ofString x) = some .local) -> Stores cx A F.env ((xs.map Str.ofString).map fun n=>bindName F.env n) xs:=fun {xs} h=>by
    induction xs with
    | nil=>exact .nil
    | cons x xs ih=>exact .cons (by unfold kindVar; rw [h x (.head _)]) (fun v Q E s z=>wpAny_bindName z) (ih fun y hy=>h y (.tail _ hy))
  rw [<- List.map_reverse]
  refine store_all hr (st fun x hx=>(lineOk_eq a1.2).2 x (List.mem_reverse.mp hx)) (k1.trans hK) I2 (VRels.reverse rv) (by rw [List.length_reverse,List.length_reverse]; exact hl) fun s3 W3 e3 I3 X3 k3=>?_
  rw [sets_rev hl nd] at k3
  exact p2.ok .next s3 .next (ρ.sets xs l) W3 (by rw [e3]) I3 (X1.at hK (k1.trans hK) (X2.at (k1.trans hK) (k1.trans hK) X3)) k3 rfl
end
end Mine
end
section
set_option maxHeartbeats 1000000
namespace Mine
open PySem PySem.W PyProof.Rows PySem.MeetsSeq
section
variable {cx:Cx} {Kf:Frag} {A:Around} {W W₀:Wd} {s s₀:Shared} {n:Nat} {env:PySem.Env} {ρ ρ₀:Env} {C:Oracle} {F:FrameI} {r:List FrameI} {e:Value} {m:String} {k:Int} {c:Bool}
theorem Exc.ex (x:Exc cx s₀.heap W s.heap e m k c) (I:Inv cx W s.heap) (X:Ext W₀ s₀ W s) (fr:∀ F ∈ W.K,Mut W₀ F.env.locals \/ s₀.heap.get? F.env.locals = none) :
    ∃ a oe vs,e = .ref a /\ EX cx W₀ s₀ W s a oe vs m k c /\ (vs[1]? = some .none \/ ∃ fl,TbOk cx s₀.heap s.heap a vs fl /\ (fl = .none \/ ∃ L,flightAt W.K = some L /\ fl = rawInt L)):=by
  refine cps fun G9 k9=>?_
  obtain ⟨a,oe,vs,e1,x0,t⟩:=x
  refine k9 ?_
  exact ⟨a,oe,vs,e1,⟨I,X,x0,fr⟩,t⟩
theorem flight_top (hK:W.K = F.at ρ :: r) {L:Addr} (hL:F.env.frame = some L):flightAt W.K = some L:=by rw [hK]; exact hL
set_option tactic.hygienic true in
theorem tb_top {a:Addr} {vs:Array Value} (hK:W.K = F.at ρ :: r) {L:Addr} (hL:F.env.frame = some L)
    (t:vs[1]? = some .none \/ ∃ fl,TbOk cx s₀.heap s.heap a vs fl /\ (fl = .none \/ ∃ L,flightAt W.K = some L /\ fl = rawInt L)):vs[1]? = some .none \/ ∃ fl,TbOk cx s₀.heap s.heap a vs fl /\ (fl = .none \/ fl = rawInt L):=by
  refine t.imp id fun ⟨fl,t,q⟩=>⟨fl,t,q.imp id fun ⟨L',e1,e2⟩=>?_⟩
  rw [flight_top hK hL] at e1; cases e1; exact e2
theorem frame_of (I:Inv cx W s.heap) (hK:W.K = F.at ρ :: r) (hr:F.real = true):F.env.frame = some F.env.locals:=(I.frm.mem (F.at ρ) (by rw [hK]; exact .head _)).fr hr
theorem locals_fr {ρ':Env} (hK:W₀.K = F.at ρ :: r) (hK':W.K = F.at ρ' :: r):∀ G ∈ W.K,Mut W₀ G.env.locals \/ s₀.heap.get? G.env.locals = none:=fun G hG=>by
  rw [hK'] at hG
  refine .inl (.inr ?_)
  rw [hK]
  rcases List.mem_cons.mp hG with rfl | hG
  · exact ⟨_,.head _,.inl rfl⟩
  · exact ⟨G,.tail _ hG,.inl rfl⟩
theorem SPost.err {Q:PySem.Flow -> Shared -> Prop} {E:Value -> Shared -> Prop} (p:SPost cx F r W₀ s₀ (.raise m k c W.σ) Q E) (AO:AOk A W₀.K n) (K0:W₀.K = F.at ρ₀ :: r) (hK:W.K = F.at ρ :: r) (hr:F.real = true) (I:Inv cx W s.heap) (X:Ext W₀ s₀ W s) (x:Exc cx s₀.heap W s.heap e m k c) :
    notedBy cx.m A F.env (fun e s'=>cameBackBy cx.m A F.env E e s') e s:=by
  refine cps fun G9 k9=>?_
  obtain ⟨a,oe,vs,rfl,y,t⟩:=x.ex I X (locals_fr K0 hK)
  have hL:=frame_of I hK hr
  refine k9 (exc_note (F:=F.at ρ) ((AO.at K0 hK).frames) hK hr hL y (tb_top hK hL t) fun h' oe' vs' y' t'=>?_)
  exact exc_came y' t' fun h'' y'' t''=>p.raise _ _ _ _ _ W ρ rfl y''.I y''.X hK ⟨a,oe',vs',rfl,y''.x,.inr ⟨_,t'',.inr ⟨F.env.locals,flight_top hK hL,by rw [hL]; rfl⟩⟩⟩
set_option tactic.hygienic true in
theorem ses_whl {t:PySem.Expr} {b:List PySem.Stmt} {p:Pos} {x:Env -> M Bool} {y:Env -> M (Flow × Env)} {N:Nat} (hr:F.real = true) (h:∀ ρ,ST cx A n F.env ρ t (x ρ)) (hb:SES cx A n F r (execs b F.env) y) :
    SES cx A n F r (exec (.While t b [] p) F.env) (fun ρ=>whileT x y N ρ):=fun W s ρ hK AO I Q E pp=>by
  refine wpAny_While (codeAny_whileLoop (fun j s'=>∃ W' ρ',W'.K = F.at ρ' :: r /\ Inv cx W' s'.heap /\ Ext W s W' s' /\ SPost cx F r W s (whileT x y j ρ' W'.σ) Q E) ?_ N ⟨W,ρ,hK,I,Ext.refl _ _,pp⟩)
  rintro j s' ⟨W',ρ',hK',I',X',p1⟩
  rcases j with _ | j
  · exact absurd rfl p1.nf
  have AO':=AO.at hK hK'
  refine (h ρ' W' s' (here_at hK') AO' I').useE X' hK hK' p1 (fun e s1 m k c W1 I1 X1 k1 ex p=>p.err AO hK (k1.trans hK') hr I1 X1 ex) fun v s1 bb W1 I1 X1 k1 rb p2=>?_
  cases (show bb = v from rb)
  have K1:=k1.trans hK'
  have X01:=X'.at hK hK' X1
  rcases v with _ | _
  · exact wpAny_execs_nil (p2.ok .next s1 .next ρ' W1 rfl I1 X01 K1 rfl)
  · refine (hb W1 s1 ρ' K1 (AO'.of k1) I1).useE X01 hK K1 p2 (fun e s1 m k c W1 ρ1 I1 X1 k1 ex p=>p.err AO hK k1 hr I1 X1 ex) fun f s2 fl ρ2 W2 I2 X2 k2 rf p3=>?_
    have X02:=X01.at hK K1 X2
    rcases fl with _ | _ | v
    · cases (show f = .next from rf)
      exact ⟨j,Nat.lt_succ_self _,W2,ρ2,k2,I2,X02,p3⟩
    · cases (show f = .cont from rf)
      exact ⟨j,Nat.lt_succ_self _,W2,ρ2,k2,I2,X02,p3⟩
    · exact rf.elim fun u rf=>rf.1 ▸ p3.ok _ s2 (.ret v) ρ2 W2 rfl I2 X02 k2 ⟨u,rfl,rf.2⟩
end
end Mine
end
section
set_option maxHeartbeats 1000000
namespace Mine
open PySem PySem.W PyProof.Rows PySem.MeetsSeq
section
variable {cx:Cx} {Kf:Frag} {A:Around} {W W₀:Wd} {s s₀:Shared} {n:Nat} {env:PySem.Env} {ρ ρ₀:Env} {C:Oracle} {F:FrameI} {r:List FrameI} {I:Addr} {St:Nat -> Heap -> Prop} {J:Wd -> Heap -> Prop}
theorem Mut.stepAt {W W':Wd} {s s':Shared} {b:Addr} {ρ ρ':Env} (X:Ext W s W' s') (k:W.K = F.at ρ :: r) (k':W'.K = F.at ρ' :: r) (lv:∃ o,s.heap.get? b = some o) (nm:¬ Mut W b):¬ Mut W' b:=by
  refine cps fun G k9=>?_
  obtain ⟨o,e⟩:=lv
  refine k9 ?_
  rintro (⟨i,hi,q⟩ | ⟨G,hG,q⟩)
  · rcases Nat.lt_or_ge i W.σ.n with z | z
    · rw [(X.same i z).1,(X.same i z).2] at q
      exact nm (.inl ⟨i,z,q⟩)
    · have:=X.new i z hi
      exact q.elim (fun q=>none_some ((q ▸ this.1).symm.trans e)) fun q=>none_some ((q ▸ this.2).symm.trans e)
  · refine nm (.inr ?_)
    rw [k]
    rw [k'] at hG
    rcases List.mem_cons.mp hG with rfl | hG
    · exact ⟨_,.head _,q⟩
    · exact ⟨G,.tail _ hG,q⟩
theorem hid_at {W W':Wd} {ρ ρ':Env} (k:W.K = F.at ρ :: r) (k':W'.K = F.at ρ' :: r):W'.z.hid = W.z.hid:=by
  show W'.K.flatMap (·.acc) = W.K.flatMap (·.acc)
  rw [k,k']; rfl
structure Lasts (I:Addr) (St:Nat -> Heap -> Prop) (J:Wd -> Heap -> Prop):Prop where
  live:∀ i h,St i h -> ∃ o,h.get? I = some o /\ o.cls ≠ .type "tuple" /\ o.cls ≠ .type "list"
  mono:∀ (W:Wd) (h:Heap) (W':Wd) (h':Heap),Sta W.φ W.z h W'.φ W'.z h' -> J W h -> J W' h'
  to:∀ i (W:Wd) (h:Heap) (W':Wd) (h':Heap),St i h -> J W h -> Sta W.φ W.z h W'.φ W'.z h' -> (∀ o,h.get? I = some o -> h'.get? I = some o) -> St i h'
theorem IterD.lasts {l:List V} {P fp} (It:IterD cx A I l P St J fp):Lasts I St J :=
  ⟨It.live,It.mono,fun i W h W' h' st j S kI=>It.walks.frame i h h' st fun b hb o e=>(It.fix b hb).elim (fun q=>q ▸ kI o (q ▸ e)) fun z=>z W h W' h' j S o e⟩
structure ForI (cx:Cx) (F:FrameI) (r:List FrameI) (I:Addr) (St:Nat -> Heap -> Prop) (J:Wd -> Heap -> Prop) (W₀:Wd) (s₀:Shared) (i:Nat) (W:Wd) (s:Shared) (ρ:Env):Prop where
  K:W.K = F.at ρ :: r
  inv:Inv cx W s.heap
  ext:Ext W₀ s₀ W s
  it:ItOk cx I St J i W s.heap
variable {i:Nat} (Ls:Lasts I St J) (h0:W₀.K = F.at ρ₀ :: r) (L:ForI cx F r I St J W₀ s₀ i W s ρ)
include Ls h0 L
theorem ForI.step {W':Wd} {s':Shared} {ρ':Env} (I':Inv cx W' s'.heap) (X:Ext W s W' s') (k':W'.K = F.at ρ' :: r):ForI cx F r I St J W₀ s₀ i W' s' ρ' :=
  have S:=X.sta L.inv
  ⟨k',I',L.ext.at h0 L.K X,Ls.to i _ _ _ _ L.it.st L.it.j S fun o e=>X.keep _ _ e L.it.nm,Ls.mono _ _ _ _ S L.it.j,Mut.stepAt X L.K k' ((Ls.live _ _ L.it.st).imp fun o z=>z.1) L.it.nm,hid_at L.K k' ▸ L.it.nh⟩
omit h0
theorem ForI.next {h':Heap} {tk:Nat} (hb:cx.base.get? I = none) (hI:s₀.heap.get? I = none) (kk:∀ b o,b ≠ I -> s.heap.get? b = some o -> h'.get? b = some o):Inv cx W h' /\ Ext W₀ s₀ W { s with heap:=h',toks:=tk } /\ Sta W.φ W.z s.heap W.φ W.z h':=by
  have hT:∀ b,b = I -> Aside cx W s.heap b:=fun b q=>q ▸ by
    obtain ⟨o,e,n1,n2⟩:=Ls.live _ _ L.it.st
    exact ⟨L.it.nm,hb,fun o' _ _ e' _=>Option.some.inj (e.symm.trans e') ▸ n1,fun o' _ _ e' _ q=>absurd (Option.some.inj (e.symm.trans e') ▸ q) n2⟩
  exact ⟨L.inv.aside (· = I) hT (fun b o e nb=>kk b o nb e) fun b q z=>absurd (q ▸ z) L.it.nh,L.ext.aside (s₂:={ s with heap:=h',toks:=tk }) (· = I) (fun b q=>.inl (q ▸ hI)) (fun b o e nb=>kk b o nb e) rfl rfl,Sta.aside (· = I) hT fun b o e nb=>kk b o nb e⟩
include h0
set_option tactic.hygienic true in
theorem ForI.turn {x:String} {px:Pos} {b:List PySem.Stmt} {y rest:Env -> M (Flow × Env)} {u:V} {v:Value} {Q Q':PySem.Flow -> Shared -> Prop} {E:Value -> Shared -> Prop} (AO:AOk A W₀.K n) (hr:F.real = true) (hx:F.env.scope.names.lookup (Str.ofString x) = some .local) (hb:SES cx A n F r (execs b F.env) y) (ry:VRel cx W.φ W.z s.heap u v)
    (p:SPost cx F r W₀ s₀ (M.bind (y (ρ.set x u)) (turned rest) W.σ) Q E) (h1:∀ s' W' ρ',ForI cx F r I St J W₀ s₀ i W' s' ρ' -> SPost cx F r W₀ s₀ (rest ρ' W'.σ) Q E -> Q' .next s' /\ Q' .cont s') (h2:∀ u s',Q (.ret u) s' -> Q' (.ret u) s') :
    wpAny cx.m A (assign (.Name (Str.ofString x) px) F.env v) (fun _ s3=>wpAny cx.m A (execs b F.env) Q' (notedBy cx.m A F.env fun e s'=>cameBackBy cx.m A F.env E e s') s3) (notedBy cx.m A F.env fun e s'=>cameBackBy cx.m A F.env E e s') s:=by
  refine wpAny_assign_Name (set_var (F:=F.at ρ) L.K L.inv (.inl hr) (by unfold kindVar; rw [show (F.at ρ).env = F.env from rfl,hx]) ry fun s2 I2 X2 _ _=>?_)
  have k2:=top_at (x:=x) (y:=u) L.K
  have L2:=L.step Ls h0 I2 X2 k2
  refine (hb _ s2 (ρ.set x u) k2 (AO.at h0 k2) I2).useE L2.ext h0 k2 p (fun e s1 m k c W1 ρ1 I1 X1 k1 ex p=>p.err AO h0 k1 hr I1 X1 ex) fun f s3 fl ρ3 W3 I3 X3 k3 rf p3=>?_
  have L3:=L2.step Ls h0 I3 X3 k3
  rcases fl with _ | _ | v
  · cases (show f = .next from rf)
    exact (h1 s3 W3 ρ3 L3 p3).1
  · cases (show f = .cont from rf)
    exact (h1 s3 W3 ρ3 L3 p3).2
  · exact rf.elim fun u rf=>rf.1 ▸ h2 u s3 (p3.ok _ s3 (.ret v) ρ3 W3 rfl I3 L3.ext k3 ⟨u,rfl,rf.2⟩)
omit Ls h0 L
theorem ForI.new (hK:W.K = F.at ρ :: r) (I:Inv cx W s.heap) {o:Obj} (st:St 0 (s.heap.push o)) (j:J W (s.heap.push o)):ForI cx F r s.heap.objs.size St J W s 0 W { s with heap:=s.heap.push o } ρ :=
  have kp:=push_keeps s.heap o
  ⟨hK,I.keeps kp,Ext.keeps kp rfl rfl,st,j,fresh_nm I (Nat.le_refl _),fun q=>(I.accL _ q).elim fun o' e=>absurd (Heap.lt_size e) (Nat.lt_irrefl _)⟩
noncomputable def ForT (cx:Cx) (A:Around) (F:FrameI) (r:List FrameI) (target:PySem.Expr) (b:List PySem.Stmt) (v:Value) (W:Wd) (s:Shared) (x:M (Flow × Env)):Prop :=
  ∀ (Q:PySem.Flow -> Shared -> Prop) (E:Value -> Shared -> Prop),SPost cx F r W s (x W.σ) Q E -> wpAny cx.m A (pyIter v) (fun it s₂=>codeAny cx.m A (.forLoop target it b [] F.env) (fun r s'=>match r with | .ok f=>Q f s' | .error e=>cameBackBy cx.m A F.env E e s') s₂) E s
set_option tactic.hygienic true in
theorem for_frozen {x:String} {px:Pos} {b:List PySem.Stmt} {y:Env -> M (Flow × Env)} {l:List V} {v:Value} (hr:F.real = true) (hx:F.env.scope.names.lookup (Str.ofString x) = some .local)
    (hb:SES cx A n F r (execs b F.env) y) (K1:W.K = F.at ρ :: r) (AO:AOk A W.K n) (I1:Inv cx W s.heap) (rit:RIt cx W s.heap l v) :
    ForT cx A F r (.Name (Str.ofString x) px) b v W s (forItems (fun v ρ=>y (ρ.set x v)) l ρ):=fun Q E p=>by
  refine rit.new AO.handled fun o P St J fp _ _ _ It st j=>?_
  have gI:s.heap.get? s.heap.objs.size = none:=gone (Nat.le_refl _)
  have bI:=(I1.nothing (Nat.le_refl s.heap.objs.size)).1
  refine codeAny_forLoop (fun k s'=>∃ W' ρ' i rest,k = rest.length /\ (∀ j,rest[j]? = l[i + j]?) /\ i + rest.length = l.length /\ ForI cx F r s.heap.objs.size St J W s i W' s' ρ' /\ SPost cx F r W s (forItems (fun v ρ=>y (ρ.set x v)) rest ρ' W'.σ) Q E) ?_ l.length ⟨W,ρ,0,l,rfl,fun j=>congrArg (l[·]?) (Nat.zero_add j).symm,Nat.zero_add _,.new K1 I1 st j,p⟩
  rintro k s' ⟨W',ρ',i,rest,rfl,hrest,hi,L,p⟩
  rcases rest with _ | ⟨u,rest⟩
  · obtain rfl:i = l.length:=hi
    refine It.walks.done s' _ _ L.it.st fun h' tk kk=>?_
    have z:=L.next It.lasts (tk:=tk) bI gI fun b o nb e=>kk b o (fun q=>nb (List.mem_singleton.mp q)) e
    exact wpAny_execs_nil (p.ok .next _ .next ρ' W' rfl z.1 z.2.1 L.K rfl)
  · have hi':i + 1 + rest.length = l.length:=(Nat.succ_add_eq_add_succ i rest.length).trans hi
    refine It.walks.item i s' _ _ (hi' ▸ Nat.le_add_right _ _) L.it.st fun v h' tk hP st' kk=>?_
    have z:=L.next It.lasts (tk:=tk) bI gI fun b o nb e=>kk b o (fun q=>nb (List.mem_singleton.mp q)) e
    have j':=It.mono _ _ _ _ z.2.2 L.it.j
    have L':ForI cx F r s.heap.objs.size St J W s (i + 1) W' { s' with heap:=h',toks:=tk } ρ':=⟨L.K,z.1,z.2.1,st',j',L.it.nm,L.it.nh⟩
    have go:∀ s4 W4 ρ4,ForI cx F r s.heap.objs.size St J W s (i + 1) W4 s4 ρ4 -> SPost cx F r W s (forItems (fun v ρ=>y (ρ.set x v)) rest ρ4 W4.σ) Q E -> ∃ m,m < (u :: rest).length /\ ∃ W' ρ' i rest,m = rest.length /\ (∀ j,rest[j]? = l[i + j]?) /\ i + rest.length = l.length /\ ForI cx F r s.heap.objs.size St J W s i W' s4 ρ' /\ SPost cx F r W s (forItems (fun v ρ=>y (ρ.set x v)) rest ρ' W'.σ) Q E:=fun s4 W4 ρ4 L4 p4 =>
      ⟨rest.length,Nat.lt_succ_self _,W4,ρ4,i + 1,rest,rfl,fun j=>(hrest (j + 1)).trans (congrArg (l[·]?) (Nat.succ_add_eq_add_succ i j).symm),hi',L4,p4⟩
    exact L'.turn It.lasts K1 AO hr hx hb (It.rel _ _ _ _ _ j' hP (hrest 0).symm) p (fun s4 W4 ρ4 L4 p4=>⟨go s4 W4 ρ4 L4 p4,go s4 W4 ρ4 L4 p4⟩) fun u s' q=>q
theorem listIter_lasts {a:Addr}:Lasts I (fun i h=>h.IsListIter I a i) fun _ _=>True :=
  ⟨fun i h st=>st.imp fun o z=>⟨z.1,by rw [z.2.1]; decide,by rw [z.2.1]; decide⟩,fun _ _ _ _ _ _=>trivial,fun i W h W' h' st _ _ kI=>st.imp fun o z=>⟨kI o z.1,z.2⟩⟩
set_option tactic.hygienic true in
theorem for_obj {x:String} {px:Pos} {b:List PySem.Stmt} {y:Env -> M (Flow × Env)} {j N:Nat} {v:Value} (hr:F.real = true) (hx:F.env.scope.names.lookup (Str.ofString x) = some .local)
    (hb:SES cx A n F r (execs b F.env) y) (K1:W.K = F.at ρ :: r) (AO:AOk A W.K n) (I1:Inv cx W s.heap) (rv:RV cx W s.heap (.obj j) v) :
    ForT cx A F r (.Name (Str.ofString x) px) b v W s (forObj (fun v ρ=>y (ρ.set x v)) j N 0 ρ):=fun Q E p=>by
  obtain ⟨hj,rfl⟩:=(show j < W.σ.n /\ v = .ref (W.φ j) from rv)
  have at_:∀ {W':Wd} {s':Shared} {k i:Nat} {ρ':Env},Ext W s W' s' -> Inv cx W' s'.heap -> SPost cx F r W s (forObj (fun v ρ=>y (ρ.set x v)) j (k + 1) i ρ' W'.σ) Q E -> ∃ l items,s'.heap.PlainList (W.φ j) items /\ VRels cx W'.φ W'.z s'.heap l items.toList /\ SPost cx F r W s (atOpt l[i]? (M.ret (.next,ρ')) (fun v=>M.bind (y (ρ'.set x v)) (turned (forObj (fun v ρ=>y (ρ.set x v)) j k (i + 1)))) W'.σ) Q E:=fun {W' s' k i ρ'} X I' p=>by
    have hj':j < W'.σ.n:=Nat.lt_of_lt_of_le hj X.n
    have p:SPost cx F r W s (listAt j (fun l=>atOpt l[i]? (M.ret (.next,ρ')) (fun v=>M.bind (y (ρ'.set x v)) (turned (forObj (fun v ρ=>y (ρ.set x v)) j k (i + 1))))) W'.σ) Q E:=p
    have e:=M.bind_ok (x:=mget j) (g:=fun o=>match o with | .list l=>(fun l=>atOpt l[i]? (M.ret (Flow.next,ρ')) (fun v=>M.bind (y (ρ'.set x v)) (turned (forObj (fun v ρ=>y (ρ.set x v)) j k (i + 1))))) l | _=>M.fail) (show mget j W'.σ = .ok (W'.σ.get j) W'.σ from if_pos hj')
    have p:=(show listAt j _ W'.σ = _ from e) ▸ p
    generalize ho:W'.σ.get j = ob at p
    rcases ob with l | _ | _
    · obtain ⟨items,L⟩:=LObj.of I' hj' ho
      exact ⟨l,items,(X.same j hj).1 ▸ L.at_,L.rel,p⟩
    · exact absurd rfl p.nf
    · exact absurd rfl p.nf
  have hp:∃ items,s.heap.PlainList (W.φ j) items:=by
    rcases N with _ | N
    · exact absurd rfl p.nf
    · exact (at_ (Ext.refl W s) I1 p).elim fun _ z=>z.imp fun _ z=>z.1
  refine hp.elim fun items hp=>wpAny_pyIter_list hp.isList ?_
  have gI:s.heap.get? s.heap.objs.size = none:=gone (Nat.le_refl _)
  have bI:=(I1.nothing (Nat.le_refl s.heap.objs.size)).1
  refine codeAny_forLoop (fun k s'=>∃ W' ρ' i,ForI cx F r s.heap.objs.size (fun i h=>h.IsListIter s.heap.objs.size (W.φ j) i) (fun _ _=>True) W s i W' s' ρ' /\ SPost cx F r W s (forObj (fun v ρ=>y (ρ.set x v)) j k i ρ' W'.σ) Q E) ?_ N ⟨W,ρ,0,.new K1 I1 ⟨_,Heap.get?_push_size _ rfl,rfl,rfl⟩ trivial,p⟩
  rintro k s' ⟨W',ρ',i,L,p⟩
  rcases k with _ | k
  · exact absurd rfl p.nf
  refine (at_ L.ext L.inv p).elim fun l z=>z.elim fun items' z=>?_
  have rr:=z.2.1
  have p:=z.2.2
  generalize hli:l[i]? = o at p
  rcases o with _ | u
  · refine wpAny_pyNext_list_end AO.handled L.it.st z.1.isList (Array.getElem?_eq_none_iff.mpr (rr.size ▸ List.getElem?_eq_none_iff.mp hli)) fun h' he'=>?_
    have z:=L.next listIter_lasts (tk:=s'.toks) bI gI fun b o nb e=>he' b o nb e
    exact wpAny_execs_nil (p.ok .next _ .next ρ' W' rfl z.1 z.2.1 L.K rfl)
  · refine (rr.get hli).elim fun vv g=>wpAny_pyNext_list_item L.it.st z.1.isList (Array.getElem?_toList.symm.trans g.1) fun h' hit' hs'=>?_
    have z:=L.next listIter_lasts (tk:=s'.toks) bI gI fun b o nb e=>(hs'.2 b nb).trans e
    have L':ForI cx F r s.heap.objs.size (fun i h=>h.IsListIter s.heap.objs.size (W.φ j) i) (fun _ _=>True) W s (i + 1) W' { s' with heap:=h' } ρ':=⟨L.K,z.1,z.2.1,hit',trivial,L.it.nm,L.it.nh⟩
    exact L'.turn listIter_lasts K1 AO hr hx hb (VRel.mono z.2.2 g.2) p (fun s4 W4 ρ4 L4 p4=>⟨⟨k,Nat.lt_succ_self _,W4,ρ4,i + 1,L4,p4⟩,k,Nat.lt_succ_self _,W4,ρ4,i + 1,L4,p4⟩) fun u s' q=>q
theorem ses_forG {α:Type} {R:Wd -> Heap -> α -> Value -> Prop} {x:String} {px p:Pos} {it:PySem.Expr} {b:List PySem.Stmt} {itM:Env -> M α} {g:Env -> α -> M (Flow × Env)} (hset:notSet it = true)
    (hit:∀ ρ,SE cx A n F.env ρ R (eval it F.env) (itM ρ)) (hg:∀ W s ρ v a,W.K = F.at ρ :: r -> AOk A W.K n -> Inv cx W s.heap -> R W s.heap a v -> ForT cx A F r (.Name (Str.ofString x) px) b v W s (g ρ a)) :
    SES cx A n F r (exec (.For (.Name (Str.ofString x) px) it b [] p) F.env) (fun ρ=>M.bind (itM ρ) (g ρ)):=fun W s ρ hK AO I Q E p =>
  wpAny_For ((hit ρ W s (here_at hK) AO I).use hK p fun v s1 a W1 I1 X1 k1 ra p1=>hg W1 s1 ρ v a (k1.trans hK) (AO.of k1) I1 ra Q E (p1.go X1 hK (k1.trans hK))) (folded_plain hset)
end
end Mine
end
section
set_option maxHeartbeats 1000000
set_option maxRecDepth 20000
namespace Mine
open PySem PySem.W PyProof.Rows PySem.MeetsSeq
inductive ExcO (TF D:Addr):Obj -> Prop where
  | mk {nm q N bs sn sub ab col dd k0 k1 k2 k3 k5}:ExcO TF D (excClassObj nm q TF N bs [.ref D,.type "Exception",.type "BaseException",.type "object"] true sn sub ab col dd k0 k1 k2 k3 k5 "Exception.__new__")
structure TFo (cx:Cx) (Kf:Frag) (TF D:Addr):Prop where
  glb:cx.glb "TypeFault" = some (.ref TF)
  load:LoadsG cx.base (Str.ofString "TypeFault") (.ref TF)
  obj:∃ o,Kf.lookup TF = some o /\ ExcO TF D o
section
variable {cx:Cx} {Kf:Frag} {A:Around} {W W₀:Wd} {s s₀:Shared} {n:Nat} {env:PySem.Env} {ρ:Env} {C:Oracle} {F:FrameI} {r:List FrameI} {TF D:Addr}
noncomputable def RX (cx:Cx) (h₀:Heap) (W:Wd) (h:Heap) (p:String × Int) (v:Value):Prop :=
  ∃ a oe vs,v = .ref a /\ Exc0 cx h₀ W h a oe vs p.1 p.2 false /\ vs[1]? = some .none
noncomputable def MakesTF (cx:Cx) (TF:Addr) (n:Nat):Prop:=∀ A W s (args:List V) (vs:List Value) (t:String) (i:Int),A.frames = some (reals W.K) -> A.depth + 3 * n <= 610 -> A.units + 60 * n <= 9300 -> Inv cx W s.heap -> RVs cx W s.heap args vs -> (args = [.str t] /\ i = 0 \/ args = [.str t,.int i]) ->
  ∀ (Q:Value -> Shared -> Prop) (E:Value -> Shared -> Prop),(∀ v s',Inv cx W s'.heap -> Ext W s W s' -> RX cx s.heap W s'.heap (t,i) v -> Q v s') -> wpAny cx.m A (call (.ref TF) vs) Q E s
theorem RX.back {W':Wd} {s':Shared} {h:Heap} {W'':Wd} {p:String × Int} {v:Value} (X:Ext W s W' s') (x:RX cx s'.heap W'' h p v):RX cx s.heap W'' h p v:=by
  refine cps fun G9 k9=>?_
  obtain ⟨a,oe,vs,e,x,q⟩:=x
  refine k9 ?_
  exact ⟨a,oe,vs,e,⟨x.get,x.cls,x.data,x.size,x.ctx,x.dict,x.base,x.nm,X.live _ x.new⟩,q⟩
theorem raise_tail {oc:Obj} (ho:ExcO TF D oc) {x:Sem Value} {Q:PySem.Flow -> Shared -> Prop} {E:Value -> Shared -> Prop} {M:Model} (hh:A.handled = none)
    (h:wpAny M A x (fun v s₁=>∃ a oe vs,v = .ref a /\ s₁.heap.get? TF = some oc /\
      s₁.heap.get? a = some oe /\ oe.cls = .ref TF /\ oe.data = .fields vs /\ vs[1]? = some .none /\ E (.ref a) s₁) E s) :
    wpAny M A (raiseStmt env (some x) none) Q E s:=by
  refine cps fun G9 k9=>?_
  obtain ⟨⟩:=ho
  refine k9 ?_
  have hcB:(Value.ref TF :: [.ref D,.type "Exception",.type "BaseException",.type "object"]).contains (.type "BaseException") = true:=rfl
  unfold raiseStmt
  refine wpAny_bind (wpAny_mono h (fun v s₁ h₁=>?_) fun _ _ x=>x)
  refine cps fun G9 k9=>?_
  obtain ⟨a,oe,vs,rfl,hC,he,hcl,hd,h1,hE⟩:=h₁
  obtain ⟨hp,g,d,tk,os⟩:=s₁
  refine k9 ?_
  dsimp only at hC he hd
  repeat (first | (with_reducible refine wpAny_loadPart_at he ?_; rw [hcl]) | with_reducible refine wpAny_loadPart_at hC ?_ | (with_reducible refine wpAny_isSubtype_exc hC ?_; rw [hcB]) | with_reducible refine wpAny_field he hd h1 ?_ | wp_step)
  exact wpAny_raiseNew_none hh hE
theorem se_mkTF (G:Gx cx Kf) (T:TFo cx Kf TF D) (MK:MakesTF cx TF n) {f:PySem.Expr -> Ex} (H:Both cx A n env ρ C f) {as:List PySem.Expr} {pf pc:Pos} (hk:isGlob env.scope.names ("TypeFault" : Str) = true) (ha:as.all notStar = true) (W:Wd) (s:Shared) (hh:Here W env ρ) (AO:AOk A W.K n) (I:Inv cx W s.heap) :
    Snd cx (RX cx s.heap) (eval (.Call (.Name ("TypeFault" : Str) pf) as [] pc) env) A W s (M.bind (evs C ρ (as.map f)) mkTF):=by
  rw [eval_call rfl]
  refine Snd.step (fun Q E h=>wpAny_bind (name_global I hh (isGlob_eq hk) (by decide) (show LoadsG cx.base ("TypeFault" : Str) (.ref TF) from T.load) h)) ?_
  refine se_callWith (first:=[]) ha W s hh AO I (fun W' s' I'=>⟨.machine,.inr (.inl rfl),fun A' Q E s2 k q=>?_⟩) (se_evs H pc as ha) fun W' s' vs args X AO' I' rs=>?_
  · refine cps fun G9 k9=>?_
    obtain ⟨oc,ho,⟨⟩⟩:=T.obj
    refine k9 ?_
    obtain ⟨hp,g,d,t,os⟩:=s2
    exact wpAny_keeperOf_exc (k _ _ (G.In I' _ _ ho)) q
  · have key:∀ t i,(args = [.str t] /\ i = 0 \/ args = [.str t,.int i]) -> Snd cx (RX cx s.heap) (call (.ref TF) ([] ++ vs)) A W' s' (M.ret (t,i)):=fun t i ha Q E hq he hf=>by
      refine MK A W' s' args vs t i AO'.frames (Nat.le_trans AO'.depth (by decide)) (Nat.le_trans AO'.units (by decide)) I' rs ha Q E fun v s2 I2 X2 rx=>?_
      exact hq v s2 (t,i) W' rfl I2 X2 rfl (RX.back X rx)
    rcases args with _ | ⟨a,l⟩
    · exact Snd.fail
    · rcases a with _ | _ | _ | t | _ | _ | _ | _
      case str =>
        rcases l with _ | ⟨b,_ | _⟩
        · exact key t 0 (.inl ⟨rfl,rfl⟩)
        · rcases b with _ | _ | i | _ | _ | _ | _ | _
          case int=>exact key t i (.inr rfl)
          all_goals exact Snd.fail
        · exact Snd.fail
      all_goals exact Snd.fail
set_option tactic.hygienic true in
theorem ses_raise (G:Gx cx Kf) (T:TFo cx Kf TF D) (MK:MakesTF cx TF n) {f:PySem.Expr -> Ex} (H:∀ ρ,Both cx A n F.env ρ C f) {as:List PySem.Expr} {pf pc p:Pos} (hk:isGlob F.env.scope.names ("TypeFault" : Str) = true) (ha:as.all notStar = true) :
    SES cx A n F r (exec (.Raise (some (.Call (.Name ("TypeFault" : Str) pf) as [] pc)) none p) F.env) (fun ρ=>M.bind (M.bind (evs C ρ (as.map f)) mkTF) (raiseM false)):=fun W s ρ hK AO I Q E pp=>by
  rw [arm_exec_Raise]
  refine cps fun G9 k9=>?_
  obtain ⟨oc,hoc,ho⟩:=T.obj
  refine k9 (wpAny_bind (wpAny_standAt (raise_tail ho AO.handled (wpAny_bind ((se_mkTF G T MK (H ρ) hk ha W s (here_at hK) AO I).use hK pp fun v s1 tp W1 I1 X1 k1 rx p1=>wpAny_bind (wpAny_standAt (wpAny_pure ?_)))))))
  refine cps fun G9 k9=>?_
  obtain ⟨a,oe,vs,rfl,x,hv⟩:=rx
  obtain ⟨TF',g1,g2⟩:=x.cls
  obtain rfl:TF' = TF:=by cases g1.symm.trans T.glb; rfl
  refine k9 ⟨a,oe,vs,rfl,G.In I1 _ _ hoc,x.get,g2,x.data,hv,?_⟩
  exact p1.raise _ s1 tp.1 tp.2 false W1 ρ rfl I1 X1 (k1.trans hK) ⟨a,oe,vs,rfl,x,.inl hv⟩
end
end Mine
end
section
set_option maxHeartbeats 1000000
namespace Mine
open PySem PySem.W PyProof.Rows PySem.MeetsSeq
section
variable {cx:Cx} {Kf:Frag} {A:Around} {W W₀:Wd} {s s₀:Shared} {n:Nat} {env:PySem.Env} {ρ:Env} {C:Oracle} {F:FrameI} {r:List FrameI} {TF D:Addr}
theorem swaps_noLC {sc:Sc} {e:PySem.Expr} {y:Str} {p:Pos} {l:Nat} (h:isLC e = false) (h2:lcOk sc y p e = true):swapsWith e (some (.Name y p)) l env = pure false:=by
  rcases e with _ | _ | _ | _ | _ | _ | _ | _ | _ | _ | _ | _ | _ | _ | _ | _ | _ | _ | _ | _ | _ | _ | _ | _ | _ | _ | _ <;> first | rfl | exact no_tf h2 | exact no_tf h.symm
theorem isLC_eq {e:PySem.Expr} (h:isLC e = true):∃ elt gs s q,e = .ListComp elt gs s q:=by
  rcases e with _ | _ | _ | _ | _ | _ | _ | _ | _ | _ | _ | _ | _ | _ | _ | _ | _ | _ | _ | _ | _ | _ | _ | _ | _ | _ | _ <;> first | exact no_tf h | exact ⟨_,_,_,_,rfl⟩
theorem ses_asgA (G:Gx cx Kf) (S:SC cx C n) (hr:F.real = true) {y:Str} {p q:Pos} {e:PySem.Expr} {k m:Nat} (h1:okN y = true) (h2:kindVar F.env.scope.names y = true) (h3:lcOk F.env.scope.names y p e = true):SES cx A n F r (exec (.Assign [.Name y p] e q) F.env) (ex1 C (.asg (toS y) (trE (k + 1) F.env.scope.names m e))):=by
  by_cases hl:isLC e = true
  · obtain ⟨elt,gs,s,q',rfl⟩:=isLC_eq hl
    exact ses_asgC hr h1 h3 fun ρ=>comp_tr G fun sc env ρ e=>both G S k sc m env ρ e
  · exact ses_asg h1 h2 hr (swaps_noLC ((Bool.not_eq_true _).mp hl) h3) fun ρ=>(both G S (k + 1) _ m F.env ρ rfl e).1
theorem ses_tup (hr:F.real = true) {f:PySem.Expr -> Ex} (H:∀ ρ,Both cx A n F.env ρ C f) {ts:List PySem.Expr} {k:Nat} {p q:Pos} {e:PySem.Expr} {xs:List String} (hn:trNames F.env.scope.names ts = some xs):SES cx A n F r (exec (.Assign [.Tuple ts k p] e q) F.env) (ex1 C (trTup f F.env.scope.names ts e xs)):=by
  rcases e with _ | _ | _ | _ | _ | _ | _ | _ | _ | _ | _ | _ | _ | _ | _ | _ | _ | _ | _ | _ | _ | _ | _ | _ | _ | _ | _ <;> first | exact SES.grd fun _=>ses_unpk hn rfl hr fun ρ=>(H ρ _).1 | exact ses_asg2 hn hr H
set_option tactic.hygienic true in
theorem ses_for (G:Gx cx Kf) (hr:F.real = true) {f:PySem.Expr -> Ex} (H:∀ ρ,Both cx A n F.env ρ C f) {t it:PySem.Expr} {x:List PySem.Stmt} {b:List St} {p:Pos} (hb:SES cx A n F r (execs x F.env) (exs C b)):SES cx A n F r (exec (.For t it x [] p) F.env) (ex1 C (trFor f F.env.scope.names it b t)):=by
  rcases t with _ | _ | _ | _ | _ | _ | _ | _ | _ | _ | _ | _ | _ | _ | _ | _ | _ | _ | _ | _ | _ | _ | _ | _ | _ | _ | _ <;> first | exact ses_fail | skip
  rename_i y py
  refine SES.grd fun h=>?_
  have h1:=and2 h
  have h2:=and2 h1.1
  have e:=okN_eq h2.1
  have hk:=isLoc_eq h2.2
  generalize toS y = z at e ⊢
  subst e
  refine cps fun G9 k9=>?_
  generalize ea:rangeArg F.env.scope.names it = o at k9
  rcases o with _ | a
  · refine k9 (ses_forG (itM:=fun ρ=>ev C ρ (f it)) (g:=fun ρ=>forV (exs C b) z ρ) h1.2 (fun ρ=>(H ρ it).1) fun W s ρ v a hK AO I ra=>?_)
    rcases a with _ | _ | _ | _ | l | l | j | _
    case obj=>exact for_obj hr hk hb hK AO I ra
    case tup =>
      obtain ⟨a,items,rfl,ht,rr⟩:=ra
      exact for_frozen hr hk hb hK AO I (.tup ht rr)
    case lst =>
      obtain ⟨a,items,rfl,ht,f,rr⟩:=ra
      exact for_frozen hr hk hb hK AO I (.lst ht f rr)
    all_goals exact fun Q E p=>absurd rfl p.nf
  · obtain ⟨q,p,rfl,c1,c2⟩:=rangeArg_eq ea
    have:=ses_forG (r:=r) (p:=p) (px:=py) (itM:=fun ρ=>M.bind (ev C ρ (f a)) rangeOf) (g:=fun ρ l=>forItems (fun v ρ=>exs C b (ρ.set z v)) l ρ) h1.2 (fun ρ=>se_range G c1 c2 (H ρ a).1) fun W s ρ v l hK AO I rit=>for_frozen hr hk hb hK AO I rit
    exact k9 ((show _ = ex1 C (.forS z true (f a) b) from funext fun ρ=>M.assoc) ▸ this)
set_option tactic.hygienic true in
theorem ses_raiseT (G:Gx cx Kf) (T:TFo cx Kf TF D) (MK:MakesTF cx TF n) {f:PySem.Expr -> Ex} (H:∀ ρ,Both cx A n F.env ρ C f) {e:PySem.Expr} {p:Pos}:SES cx A n F r (exec (.Raise (some e) none p) F.env) (ex1 C (trRaise f F.env.scope.names e)):=by
  rcases e with _ | _ | _ | _ | _ | _ | _ | _ | _ | _ | _ | _ | _ | _ | _ | _ | _ | _ | _ | _ | _ | _ | _ | _ | _ | _ | _ <;> first | exact ses_fail | skip
  rename_i g as ks pc
  rcases g with _ | _ | _ | _ | _ | _ | _ | _ | _ | _ | _ | _ | _ | _ | _ | _ | _ | _ | _ | _ | _ | _ | _ | _ | _ | _ | _ <;> first | exact ses_fail | skip
  rename_i t pf
  rcases ks with _ | _ <;> first | exact ses_fail | skip
  refine SES.grd fun h=>?_
  have h1:=and2 h
  have h2:=and2 h1.1
  obtain rfl:=beq_iff_eq.mp h2.1
  have z:=ses_raise (F:=F) (r:=r) (pf:=pf) (pc:=pc) (p:=p) G T MK H h2.2 h1.2
  rcases as with _ | ⟨m,_ | ⟨k,_ | _⟩⟩
  · exact ses_fail
  · exact z
  · exact z
  · exact ses_fail
theorem ses_list {b:PySem.Stmt -> St} (h:∀ c,SES cx A n F r (exec c F.env) (ex1 C (b c))):∀ l:List PySem.Stmt,SES cx A n F r (execs l F.env) (exs C (l.map b))
  | []=>ses_nil
  | c :: l=>ses_seq (h c) (ses_list h l)
set_option tactic.hygienic true in
theorem ses_trY (G:Gx cx Kf) (S:SC cx C n) (T:TFo cx Kf TF D) (MK:MakesTF cx TF n) (hr:F.real = true) {k m:Nat} {b:PySem.Stmt -> St} (h:∀ c,SES cx A n F r (exec c F.env) (ex1 C (b c))) (c:PySem.Stmt):SES cx A n F r (exec c F.env) (ex1 C (trY (trE (k + 1) F.env.scope.names m) b F.env.scope.names c)):=by
  have H:=fun ρ=>both (cx:=cx) (A:=A) (n:=n) (C:=C) G S (k + 1) F.env.scope.names m F.env ρ rfl
  rcases c with _ | _ | _ | _ | _ | _ | _ | _ | _ | _ | _ | _ | _ | _ | _ | _ | _ | _ | _ | _ | _ | _ | _ | _ | _ | _ | _ | _
  case Assign ts e q =>
    rcases ts with _ | ⟨t,_ | _⟩
    · exact ses_fail
    · rcases t with _ | _ | _ | _ | _ | _ | _ | _ | _ | _ | _ | _ | _ | _ | _ | _ | _ | _ | _ | _ | _ | _ | _ | _ | _ | _ | _ <;> first | exact ses_fail | skip
      case Name y p=>exact SES.grd fun h=>ses_asgA G S hr (and2 (and2 h).1).1 (and2 (and2 h).1).2 (and2 h).2
      case Tuple ts kk p =>
        show SES cx A n F r _ (ex1 C (optS (trNames F.env.scope.names ts) (trTup (trE (k + 1) F.env.scope.names m) F.env.scope.names ts e)))
        generalize eo:trNames F.env.scope.names ts = o
        rcases o with _ | xs
        · exact ses_fail
        · exact ses_tup hr H eo
      case Attribute=>exact SES.grd fun h=>ses_setA G h (fun ρ=>(H ρ _).1) fun ρ=>(H ρ _).1
      case Subscript=>exact ses_setI (fun ρ=>(H ρ _).1) (fun ρ=>(H ρ _).1) fun ρ=>(H ρ _).1
    · rcases t with _ | _ | _ | _ | _ | _ | _ | _ | _ | _ | _ | _ | _ | _ | _ | _ | _ | _ | _ | _ | _ | _ | _ | _ | _ | _ | _ <;> exact ses_fail
  case Expr=>exact SES.grd fun h=>ses_ex h fun ρ=>(H ρ _).1
  case Return e q =>
    rcases e with _ | e
    · exact ses_retN
    · exact ses_ret fun ρ=>(H ρ _).1
  case If=>exact ses_if (fun ρ=>(H ρ _).2) (ses_list h _) (ses_list h _)
  case While c x e p =>
    rcases e with _ | _
    · exact ses_whl hr (fun ρ=>(H ρ _).2) (ses_list h _)
    · exact ses_fail
  case For t it x e p =>
    rcases e with _ | _
    · exact ses_for G hr H (ses_list h _)
    · exact ses_fail
  case Continue=>exact ses_cont
  case Raise x y p =>
    rcases x with _ | x
    · exact ses_fail
    · rcases y with _ | y
      · exact ses_raiseT G T MK H
      · exact ses_fail
  all_goals exact ses_fail
theorem ses_trS (G:Gx cx Kf) (S:SC cx C n) (T:TFo cx Kf TF D) (MK:MakesTF cx TF n) (hr:F.real = true) {m:Nat}:∀ (k:Nat) (c:PySem.Stmt),SES cx A n F r (exec c F.env) (ex1 C (trS k F.env.scope.names m c))
  | 0,_=>ses_fail
  | k + 1,c=>ses_trY G S T MK hr (k:=29) (ses_trS G S T MK hr k) c
end
end Mine
end
section
set_option maxHeartbeats 1000000
set_option maxRecDepth 20000
namespace Mine
open PySem PySem.W PyProof.Rows PySem.MeetsSeq
section
variable {cx:Cx} {Kf:Frag} {A:Around} {W W₀:Wd} {s s₀:Shared} {n:Nat} {env:PySem.Env} {ρ:Env} {C:Oracle} {F:FrameI} {r:List FrameI} {TF D:Addr}
theorem exc_matches {oc:Obj} (ho:ExcO TF D oc) {a:Addr} {oe:Obj} {Q:Bool -> Shared -> Prop} {E:Value -> Shared -> Prop} {M:Model}
    (hC:s.heap.get? TF = some oc) (he:s.heap.get? a = some oe) (hcl:oe.cls = .ref TF) (h:Q true s):wpAny M A (excMatches (.ref a) (.ref TF)) Q E s:=by
  refine cps fun G9 k9=>?_
  obtain ⟨⟩:=ho
  refine k9 ?_
  have hcB:(Value.ref TF :: [.ref D,.type "Exception",.type "BaseException",.type "object"]).contains (.type "BaseException") = true:=rfl
  have hcC:(Value.ref TF :: [.ref D,.type "Exception",.type "BaseException",.type "object"]).contains (.ref TF) = true:=by simp
  have f1:=tc_notTuple
  obtain ⟨hp,g,d,tk,os⟩:=s
  dsimp only at hC he
  unfold excMatches
  repeat (first | (with_reducible refine wpAny_loadPart_at he ?_; rw [hcl]) | with_reducible refine wpAny_loadPart_at hC ?_ | (with_reducible refine wpAny_isSubtype_exc hC ?_; first | rw [hcB] | rw [hcC]) | wp_step)
  exact h
noncomputable def tryShape (y:Str) (e:PySem.Expr) (v:Str) (kk:Nat) (p:Nat -> Pos):PySem.Stmt :=
  .Try [.Assign [.Name y (p 0)] e (p 1)] [.ExceptHandler (some (.Name ("TypeFault" : Str) (p 2))) none [.Return (some (.Constant (.str v) kk (p 3))) (p 4)] (p 5)] [] [] (p 6)
theorem catch_eq {α:Type} {x:M V} {y v:String} {W:Wd} (h:catchM x y v ρ W.σ ≠ .fail):x W.σ ≠ .fail:=fun e=>h (by unfold catchM; rw [e])
set_option tactic.hygienic true in
theorem ses_try (G:Gx cx Kf) (T:TFo cx Kf TF D) (hr:F.real = true) {f:PySem.Expr -> Ex} (H:∀ ρ,Both cx A n F.env ρ C f) {y v:Str} {e:PySem.Expr} {kk:Nat} {p:Nat -> Pos} (hy:okN y = true) (hl:isLoc F.env.scope.names y = true) (hc:isCall e = true) (hk:isGlob F.env.scope.names ("TypeFault" : Str) = true) (hv:okS v = true) :
    SES cx A n F r (exec (tryShape y e v kk p) F.env) (ex1 C (.tryRet (toS y) (f e) (toS v))):=fun W s ρ hK AO I Q E pp=>by
  have ey:=okN_eq hy
  have ev':=okS_eq hv
  have h2:=isLoc_eq hl
  clear hy hv hl
  generalize toS y = x at ey pp
  generalize toS v = u at ev' pp
  subst ey ev'
  have hs:=swaps_call1 (env:=F.env) (l:=(p 1).line) (y:=Str.ofString x) (p:=p 0) hc
  have pp:SPost cx F r W s (catchM (ev C ρ (f e)) x u ρ W.σ) Q E:=pp
  refine wpAny_Try_except (wpAny_execs_cons (wpAny_Assign_Name ((H ρ e).1 W s (here_at hK) AO I _ _ (fun vv s1 a W1 e1 I1 X1 k1 r1=>?_) (fun ev s1 mm k c W1 e1 I1 X1 k1 ex=>?_) (catch_eq (α:=V) pp.nf)) hs))
  · refine set_var (F:=F.at ρ) (k1.trans hK) I1 (.inl hr) (by unfold kindVar; rw [show (F.at ρ).env = F.env from rfl,h2]) r1 fun s2 I2 X2 _ _=>?_
    exact wpAny_execs_nil (wpAny_execs_nil (pp.ok .next s2 .next (ρ.set x a) (W1.top ((F.at ρ).put x a)) (by unfold catchM; rw [e1]; rfl) I2 (X1.at hK (k1.trans hK) X2) (top_at (k1.trans hK)) rfl))
  · have K1:=k1.trans hK
    have hL:=frame_of I1 K1 hr
    refine cps fun G9 k9=>?_
    obtain ⟨a,oe,vs,rfl,yx,t⟩:=ex.ex I1 X1 (locals_fr hK K1)
    refine k9 (exc_note (F:=F.at ρ) (AO.of k1).frames K1 hr hL yx (tb_top K1 hL t) fun h2' oe2 vs2 y2 t2=>exc_flight y2 t2 fun h3' y3 t3=>?_)
    refine wpAny_handleBy_cons (codeAny_handlers_test ?_) (by intro q; cases q)
    refine name_global (W:=W1) (ρ:=ρ) y3.I (here_at K1) (isGlob_eq hk) (by decide) (show LoadsG cx.base ("TypeFault" : Str) (.ref TF) from T.load) ?_
    refine cps fun G9 k9=>?_
    obtain ⟨oc,hoc,ho⟩:=T.obj
    obtain ⟨TF',g1,g2⟩:=y3.x.cls
    obtain rfl:TF' = TF:=by cases g1.symm.trans T.glb; rfl
    refine k9 (exc_matches ho (G.In y3.I _ _ hoc) y3.x.get g2 ?_)
    show codeAny _ _ _ _ _
    refine codeAny_handlers_suite (exc_flight y3 t3 fun h4' y4 t4=>wpAny_execs_cons (wpAny_Return_some (Calls.Constant_str ?_)))
    exact pp.ok _ _ (.ret (.str u)) ρ W1 (by unfold catchM; rw [e1]) y4.I ⟨y4.X.n,y4.X.same,y4.X.new,y4.X.live,y4.X.hid,y4.X.keep,y4.X.gens,y4.X.os⟩ K1 ⟨_,rfl,_,rfl⟩
end
end Mine
end
section
set_option maxHeartbeats 1000000
set_option maxRecDepth 20000
namespace Mine
open PySem PySem.W PyProof.Rows PySem.MeetsSeq
section
variable {cx:Cx} {A:Around} {E:Value -> Shared -> Prop} {s:Shared} {K:Frag} {x C:Addr} {ox:Obj} {od:Option Obj} {name:Str} {expr:Bool} {Q:Value -> Shared -> Prop}
theorem bga_bind (self:Value):bindSpecial (.builtin "BaseException.__getattribute__") self = pure (.builtin "BaseException.__getattribute__",[self]):=(PySem.F.attr_Exception).ga.bind self
set_option tactic.hygienic true in
theorem exc_getAttr {v:Value} (X:K.In s.heap) (I:InstAt s.heap x ox C od) (hga:findIn K (.ref C) "__getattribute__" = some (some (.builtin "BaseException.__getattribute__"))) (hgt:findIn K (.ref C) "__getattr__" = some none) (hb:mroIn K C (.type "BaseException") = some true)
    (hf:findObj K C od name = some (.value v)) (hh:handedIn v = true) (h:Q v { s with toks:=s.toks + 1 }):wpAny cx.m A (getAttr (.ref x) name expr) Q E s:=by
  obtain ⟨hp,g,d,t,os⟩:=s
  have L0:=I.type (M:=cx.m)
  have L1:=looks_findIn (M:=cx.m) X hga
  have L2:=looks_findIn (M:=cx.m) X hgt
  have L3:=looks_find (M:=cx.m) X I hf
  have L4:Looks cx.m hp (isInstance (.ref x) (.type "BaseException")) true:=L0.andThen (looks_mroIn X hb)
  unfold getAttr getAttrBy
  refine wpAny_bind (wpAny_mkText (wpAny_holding (wpAny_bind (L0.at (wpAny_bind (L1.at ?_))))))
  have hx2:(Value.builtin "BaseException.__getattribute__" == Value.builtin "object.__getattribute__") = false:=by decide +kernel
  simp only [hx2,Bool.and_false,Bool.false_eq_true,if_false]
  unfold getAttrByItsOwn hookBefore
  have hot:onTheHeap (.ref C) = true:=rfl
  simp only [hot,if_true]
  refine wpAny_bind (L2.at ?_)
  refine wpAny_bind (wpAny_attempt (wpAny_holding ?_))
  unfold callGetattribute
  have hx0:(expr && onTheHeap (Value.builtin "BaseException.__getattribute__")) = false:=by cases expr <;> rfl
  simp only [hx0,Bool.false_eq_true,if_false]
  unfold boundAndCalled
  rw [bga_bind]
  refine wpAny_bind (wpAny_pure ?_)
  refine wpAny_call (codeAny_call_builtin (PySem.F.attr_Exception).ga.plain F.entry_bexc_ga ?_)
  have hk:builtinKind "BaseException.__getattribute__" = some .slot:=by decide +kernel
  have hsplit:splitId "BaseException.__getattribute__" = some ("BaseException","__getattribute__"):=by decide +kernel
  refine @check_slot cx.m _ _ _ "BaseException.__getattribute__" "BaseException" "__getattribute__" (.ref x) [.str name t] [] _ hk hsplit L4 (F.args_bexc_ga _ _) ?_
  unfold Builtin.«object.__getattribute__»
  refine wpAny_bind (wpAny_pure (wpAny_bind (wpAny_pure (wpAny_bind (L0.at (wpAny_bind (L3.at ?_)))))))
  refine wpAny_pure ?_
  show wpAny _ _ (handedOut v) _ _ _
  rw [handedOut_of hh]; exact wpAny_pure h
noncomputable def isRefV:Value -> Bool
  | .ref _=>true
  | _=>false
noncomputable def overExc:List Value -> Bool
  | []=>false
  | v :: r=>if isRefV v = true then overExc r else v :: r == [.type "Exception",.type "BaseException",.type "object"]
theorem isRefV_eq {v:Value} (h:isRefV v = true):∃ c,v = .ref c:=by
  rcases v with _ | _ | _ | _ | _ | _ | _ | _ | _ | _ | _ | _ <;> first | exact no_tf h | exact ⟨_,rfl⟩
theorem refuse_exc (self:Value):∀ {l:List Value},overExc l = true -> refuseLoop self "__setattr__" l = pure ()
  | [],e=>no_tf e
  | v :: r,e=>by
    unfold overExc at e
    by_cases q:isRefV v = true
    · rw [if_pos q] at e
      obtain ⟨c,rfl⟩:=isRefV_eq q
      rw [refuseLoop_ref]; exact refuse_exc self e
    · rw [if_neg q] at e
      rw [beq_iff_eq.mp e]
      exact PySem.F.store_Exception.passes self
theorem exc_has:∀ {l:List Value},overExc l = true -> l.contains (.type "object") = true
  | [],e=>no_tf e
  | v :: r,e=>by
    unfold overExc at e
    by_cases q:isRefV v = true
    · rw [if_pos q] at e
      rw [List.contains_cons,exc_has e,Bool.or_true]
    · rw [if_neg q] at e
      rw [beq_iff_eq.mp e]
      decide +kernel
noncomputable def plainExc (K:Frag) (C:Addr):Bool:=(clsIn K C).any fun cd=>overExc cd.mro
open PySem.Builtin PySem.Builtin.ObjectAttr in
set_option tactic.hygienic true in
theorem osa_exc {R:PySem.Result -> Shared -> Prop} {tk:Tok} {v:Value} {r:Option Value} (X:K.In s.heap) (I:InstAt s.heap x ox C od) (hp:plainExc K C = true) (ht:takerIn K C name = some r)
    (h:∀ b,wpAny cx.m A.in1 (match r with | some a=>setByDescriptor a (.ref x) v | none=>storeInOwnDict (.ref x) (.ref C) (.str name tk) name v b)
      (fun fin s'=>match fin with | .done f=>R (.ok f) s' | .again c'=>c'.quiet = true /\ codeAny cx.m A c' R s') (fun e s'=>R (.error e) s') s) :
    codeAny cx.m A (.call (.builtin "object.__setattr__") ⟨[.ref x,.str name tk,v],[]⟩) R s:=by
  have SF:=PySem.F.store_object
  obtain ⟨cd,hc,ho⟩:=any_some hp
  have ne:cd.mro.isEmpty = false:=by cases q:cd.mro with | nil=>rw [q] at ho; cases ho | cons _ _=>rfl
  have sub:Looks cx.m s.heap (isInstance (.ref x) (.type "object")) true:=I.type.andThen (looks_mroIn X (by unfold mroIn; rw [hc,Option.bind_some,if_neg (by rw [ne]; decide),exc_has ho]))
  refine codeAny_call_builtin SF.slot.plain SF.entry (@check_slot cx.m _ _ s "object.__setattr__" "object" "__setattr__" (.ref x) [.str name tk,v] [] _ SF.kind SF.split sub (SF.args (.ref x) (.str name tk) v) ?_)
  obtain ⟨attr,ha,hr⟩:=Option.bind_eq_some_iff.mp ht
  have hm:Looks cx.m s.heap (mroOf (.ref C)) cd.mro:=(looks_clsIn X hc).andThen .now
  have L3:Looks cx.m s.heap (storeTaker? attr) r:=by
    cases attr with
    | none=>cases hr; exact .now
    | some a =>
      obtain ⟨b,hb,rfl⟩:=Option.map_eq_some_iff.mp hr
      refine (looks_takesIn X hb).andThen ?_
      cases b <;> exact .now
  rw [osa_eq,refuse_eq]
  refine wpAny_bind (wpAny_bind (I.type.here (wpAny_bind (hm.here ?_))))
  rw [refuse_exc _ ho]
  refine wpAny_pure (wpAny_bind (I.type.here (wpAny_bind ((looks_findIn X ha).here (wpAny_bind (L3.here ?_))))))
  exact h _
theorem exc_set1 {v:Value} {dx:Addr} {m:Str -> Option Value} {l:List Str} {U:Unit -> Shared -> Prop} (X:K.In s.heap) (I:InstAt s.heap x ox C od) (hd:ox.dict = some dx) (hsa:findIn K (.ref C) "__setattr__" = some (some (.builtin "object.__setattr__"))) (ho:plainExc K C = true) (ha:findIn K (.ref C) name = some none) (hc:(clsIn K C).any (·.hasDict) = true)
    (hn:s.heap.Ns1 dx m) (hw:PySem.Within m l) (hl:l.length <= 20) (hm:name ∈ l)
    (h:∀ h',h'.Ns1 dx (fun z=>if z = name then some v else m z) -> Heap.SameBut dx s.heap h' -> U () { s with heap:=h',toks:=s.toks + 1 + 1 }):wpAny cx.m A (setAttr (.ref x) name v) U E s:=by
  refine set_plain X I hsa ?_
  refine osa_exc (s:={ s with toks:=s.toks + 1 }) X I ho (r:=none) (by unfold takerIn; rw [ha]; rfl) fun b=>?_
  refine cps fun G9 k9=>?_
  obtain ⟨cd,hcc,hd'⟩:=any_some hc
  obtain ⟨hx,hcls,-,-⟩:=I
  obtain ⟨oc,odi,oda,osl⟩:=ox
  refine k9 ?_
  dsimp only at hcls hd
  subst hcls hd
  refine wpAny_bind (wpAny_pure (wpAny_bind (wpAny_bind (wpAny_loadPart (s:={ s with toks:=s.toks + 1 }) hx (wpAny_bind (Looks.here (s:={ s with toks:=s.toks + 1 }) (looks_clsIn X hcc) ?_))))))
  rw [hd']
  refine wpAny_pure (a:=some dx) (wpAny_bind (wpAny_pure (wpAny_bind ?_)))
  refine wpAny_nsSet1 (s:={ s with toks:=s.toks + 1 }) hn fun h' hn' hs=>?_
  have hw':PySem.Within (fun z=>if z = name then some v else m z) l:=fun z hz=>by
    by_cases q:z = name
    · rw [q]; exact hm
    · exact hw z (by dsimp only at hz; rwa [if_neg q] at hz)
  refine cps fun G9 k9=>?_
  obtain ⟨oD,esD,epD,hoD,hdD,hcD⟩:=hn'.count hw'
  refine k9 ?_
  refine wpAny_bind (wpAny_lookBehind hoD (by rw [hdD]; exact pastItsLine_dict (by rw [sizeLine_eq]; lia)) ?_)
  refine wpAny_pure ?_
  exact h _ hn' hs
theorem exc_set0 {v:Value} {l:List Str} {vs:Array Value} {U:Unit -> Shared -> Prop} (X:K.In s.heap) (I:InstAt s.heap x ox C none) (hd:ox.dict = none) (hda:ox.data = .fields vs) (hsa:findIn K (.ref C) "__setattr__" = some (some (.builtin "object.__setattr__"))) (ho:plainExc K C = true) (ha:findIn K (.ref C) name = some none) (hc:(clsIn K C).any (·.hasDict) = true)
    (hl:l.length <= 20) (hm:name ∈ l)
    (h:∀ h',h'.Ns1 s.heap.objs.size (fun z=>if z = name then some v else none) -> h'.get? x = some { ox with dict:=some s.heap.objs.size } -> (∀ b o,b ≠ x -> s.heap.get? b = some o -> h'.get? b = some o) -> U () { s with heap:=h',toks:=s.toks + 1 + 1 }):wpAny cx.m A (setAttr (.ref x) name v) U E s:=by
  refine set_plain X I hsa ?_
  refine osa_exc (s:={ s with toks:=s.toks + 1 }) X I ho (r:=none) (by unfold takerIn; rw [ha]; rfl) fun b=>?_
  refine cps fun G9 k9=>?_
  obtain ⟨cd,hcc,hd'⟩:=any_some hc
  obtain ⟨hx,hcls,hno,-⟩:=I
  obtain ⟨oc,odi,oda,osl⟩:=ox
  refine k9 ?_
  dsimp only at hcls hd hda
  subst hcls hd hda
  have hxl:=Heap.lt_size hx
  refine wpAny_bind (wpAny_pure (wpAny_bind (wpAny_bind (wpAny_loadPart (s:={ s with toks:=s.toks + 1 }) hx (wpAny_bind (Looks.here (s:={ s with toks:=s.toks + 1 }) (looks_clsIn X hcc) ?_))))))
  rw [hd']
  refine wpAny_bind (wpAny_alloc ?_)
  have hx1:=Heap.get?_push_of_some { cls:=.type "dict",data:=.dict #[] } hx
  refine wpAny_bind (wpAny_update (s:={ s with heap:=s.heap.push { cls:=.type "dict",data:=.dict #[] },toks:=s.toks + 1 }) hx1 (wpAny_pure ?_))
  have hsz:s.heap.objs.size ≠ x:=Nat.ne_of_gt hxl
  have hd1:((s.heap.push { cls:=.type "dict",data:=.dict #[] }).update x fun o=>{ o with dict:=some s.heap.objs.size }).get? s.heap.objs.size = some { cls:=.type "dict",data:=.dict #[] } :=
    (Heap.get?_update_other _ _ (Ne.symm hsz)).trans (Heap.get?_push_size _ rfl)
  have hn1:((s.heap.push { cls:=.type "dict",data:=.dict #[] }).update x fun o=>{ o with dict:=some s.heap.objs.size }).Ns1 s.heap.objs.size fun _=>none :=
    Heap.Ns1.of_empty ⟨_,#[],_,hd1,rfl,fun e he=>absurd he (by simp),fun _=>rfl⟩
  refine wpAny_bind (wpAny_pure (wpAny_bind ?_))
  refine wpAny_nsSet1 (s:={ s with heap:=((s.heap.push { cls:=.type "dict",data:=.dict #[] }).update x fun o=>{ o with dict:=some s.heap.objs.size }),toks:=s.toks + 1 }) hn1 fun h' hn' hs=>?_
  have hw':PySem.Within (fun z=>if z = name then some v else (none:Option Value)) l:=fun z hz=>by
    by_cases q:z = name
    · rw [q]; exact hm
    · dsimp only at hz; rw [if_neg q] at hz; exact absurd rfl hz
  refine cps fun G9 k9=>?_
  obtain ⟨oD,esD,epD,hoD,hdD,hcD⟩:=hn'.count hw'
  refine k9 ?_
  refine wpAny_bind (wpAny_lookBehind hoD (by rw [hdD]; exact pastItsLine_dict (by rw [sizeLine_eq]; lia)) ?_)
  refine wpAny_pure ?_
  refine h _ hn' ?_ fun b o nb e=>?_
  · refine (hs.2 _ (Ne.symm hsz)).trans ?_
    exact Heap.get?_update_self _ hx1 rfl
  · refine (hs.2 _ (Nat.ne_of_lt (Heap.lt_size e))).trans ?_
    show ((s.heap.push _).update x _).get? b = _
    rw [Heap.get?_update_other _ _ (Ne.symm nb)]
    exact Heap.get?_push_of_some _ e
end
end Mine
end
section
set_option maxHeartbeats 2000000
set_option maxRecDepth 100000
namespace Mine
open PySem PySem.W PyProof.Rows PySem.MeetsSeq
abbrev bmT (D:Addr):List Value:=[.ref D,.type "Exception",.type "BaseException",.type "object"]
abbrev excT (nm q:Str) (C D N:Addr) (bs:List Value) (sn:List Str) (sub:List Value) (ab:Bool) (col:Option Bool) (dd:Option Addr) (k0 k1 k2 k3 k5:Option Value):Obj :=
  excClassObj nm q C N bs (bmT D) true sn sub ab col dd k0 k1 k2 k3 k5 "Exception.__new__"
abbrev excNew (C t:Addr):Obj:={ cls:=.ref C,data:=.fields #[.ref t,.none,.none,.none,.bool false,.none] }
section
variable {cx:Cx} {A:Around} {R:Result -> Shared -> Prop} {E:Value -> Shared -> Prop} {h:Heap} {g:Array GenState} {d:Drawn} {t:Nat} {os:OsState}
variable {nm q:Str} {C D N:Addr} {bs:List Value} {sn:List Str} {sub:List Value} {ab:Bool} {col:Option Bool} {dd:Option Addr} {k0 k1 k2 k3 k5:Option Value}
theorem T_sub {b:Value} {r:Bool} {Q:Bool -> Shared -> Prop} {M:Model} (hC:h.get? C = some (excT nm q C D N bs sn sub ab col dd k0 k1 k2 k3 k5)) (e:(Value.ref C :: bmT D).contains b = r) (hq:Q r ⟨h,g,d,t,os⟩):wpAny M A (isSubtype (.ref C) b) Q E ⟨h,g,d,t,os⟩ :=
  wpAny_isSubtype_exc hC (e ▸ hq)
theorem T_check_new {rest:List Value} {Q:Unit -> Shared -> Prop} {M:Model} (hC:h.get? C = some (excT nm q C D N bs sn sub ab col dd k0 k1 k2 k3 k5)) (hq:Q () ⟨h,g,d,t,os⟩) :
    wpAny M A (checkBuiltinCall "Exception.__new__" ⟨.ref C :: rest,[]⟩) Q E ⟨h,g,d,t,os⟩:=by
  have F:=PySem.F.excBase_Exception
  have e1:(Value.ref C :: bmT D).contains (.type "Exception") = true:=rfl
  have hstar:=F.noStar
  unfold checkBuiltinCall
  rw [F.newKind,F.newSplit,F.newRow]
  dsimp only
  repeat (first | refine wpAny_loadPart_at hC ?_ | refine T_sub hC e1 ?_ | refine wpAny_staticBase_exc hC ?_ | refine wpAny_madeBy_exc hC ?_ | simp only [bne_self_eq_false,Bool.false_eq_true,if_false] | wp_step)
  exact hq
theorem T_new {rest:List Value} (hC:h.get? C = some (excT nm q C D N bs sn sub ab col dd k0 k1 k2 k3 k5)) (hrest:rest.length <= sizeLine)
    (hq:R (.ok (.ret (.ref (h.objs.size + 1)))) ⟨(h.push { cls:=.type "tuple",data:=.seq rest.toArray }).push (excNew C h.objs.size),g,d,t,os⟩) :
    codeAny cx.m A (.builtin "Exception.__new__" ⟨.ref C :: rest,[]⟩) R ⟨h,g,d,t,os⟩:=by
  have F:=PySem.F.excBase_Exception
  have hends:=F.ends
  have e1:(Value.ref C :: bmT D).contains (.type "Exception") = true:=rfl
  have e2:(Value.ref C :: bmT D).contains (.type "AttributeError") = false:=rfl
  have e3:(Value.ref C :: bmT D).contains (.type "NameError") = false:=rfl
  refine codeAny_builtinAt F.entry ?_
  unfold Builtin.«BaseException.__new__»
  refine PySem.wpAt_bind ?_
  show PySem.wpAt _ _ _ (stack >>= _) _ _ _
  refine PySem.wpAt_bind (PySem.wpAt_stack fun p below=>PySem.wpAt_of_wpAny ?_)
  wp_walk
  refine PySem.wpAt_of_wpAny ?_
  rw [F.owner]
  repeat (first | with_reducible refine wpAny_madeHere_exc F.canon hC ?_ | with_reducible refine wpAny_loadPart_at hC ?_ | (with_reducible refine wpAny_isSubtype_exc hC ?_; first | rw [e1] | rw [e2] | rw [e3]) | wp_step)
  show R _ _
  rw [Heap.size_push]
  exact hq
theorem T_call {rest:List Value} {f:Addr} {Q:Value -> Shared -> Prop} (hC:h.get? C = some (excT nm q C D N bs sn sub ab col dd k0 k1 k2 k3 k5)) (hrest:rest.length <= sizeLine)
    (hi:Looks cx.m h (typeLookup (.ref C) "__init__") (some (.ref f))) (hb:∀ self,Looks cx.m h (bindSpecial (.ref f) self) (.ref f,[self]))
    (hq:codeAny cx.m (A.under (.builtin "type.__call__" ⟨.ref C :: rest,[]⟩)) (.call (.ref f) ⟨.ref (h.objs.size + 1) :: rest,[]⟩) (fun r s'=>match r with | .ok (.ret v)=>v = .none /\ Q (.ref (h.objs.size + 1)) s' | .ok _=>False | .error e=>E e s')
      ⟨(h.push { cls:=.type "tuple",data:=.seq rest.toArray }).push (excNew C h.objs.size),g,d,t,os⟩) :
    wpAny cx.m A (call (.ref C) rest) Q E ⟨h,g,d,t,os⟩:=by
  have F:=PySem.F.excBase_Exception
  have f1:=tc_lookup
  have f2:=tc_bind (.ref C)
  have hT:(⟨h,g,d,t,os⟩:Shared).TypeIs (.ref C) "type" := ⟨_,hC,rfl⟩
  refine wpAny_call (codeAny_of_tree ?_)
  show wpAny _ _ (callAny (.ref C) _) _ _ _
  repeat (any_goals (first | assumption | with_reducible refine wpAny_loadPart_at hC ?_ | wp_step))
  refine ⟨rfl,?_⟩
  refine codeAny_call_builtin_at (Code.quiet_builtin _ (by decide +kernel)) entry_typeCall (wpAny_check_type_call_sub hC ?_)
  repeat (first | with_reducible refine wpAny_loadPart_at hC ?_ | with_reducible refine wpAny_madeBy_exc hC ?_ | wp_step)
  refine codeAny_call_builtin_code (Code.quiet_builtin _ F.quiet) (T_check_new hC ?_)
  refine T_new hC hrest ?_
  show wpAny _ _ _ _ _ _
  have k:∀ b o,h.get? b = some o -> ((h.push { cls:=.type "tuple",data:=.seq rest.toArray }).push (excNew C h.objs.size)).get? b = some o:=fun b o e=>Heap.get?_push_of_some _ (Heap.get?_push_of_some _ e)
  have hC₁:=k _ _ hC
  have hget:((h.push { cls:=.type "tuple",data:=.seq rest.toArray }).push (excNew C h.objs.size)).get? (h.objs.size + 1) = some (excNew C h.objs.size):=by heap_get
  have t1:Looks cx.m ((h.push { cls:=.type "tuple",data:=.seq rest.toArray }).push (excNew C h.objs.size)) (typeOf (.ref (h.objs.size + 1))) (.ref C):=(Looks.ld hget).andThen .now
  have s1:Looks cx.m ((h.push { cls:=.type "tuple",data:=.seq rest.toArray }).push (excNew C h.objs.size)) (isSubtype (.ref C) (.ref C)) true:=fun A' Q' E' s' k' q'=>by
    obtain ⟨h',g',d',t',os'⟩:=s'
    exact T_sub (k' _ _ hC₁) (by simp) q'
  have i1:=hi.keeps k
  have b1:=(hb (.ref (h.objs.size + 1))).keeps k
  unfold isInstance callSpecial? specialOf
  simp only [List.append_eq,List.nil_append]
  repeat (first | with_reducible refine wpAny_call ?_ | lk)
  refine codeAny_mono hq fun r s' z=>?_
  rcases r with e | (v | _ | _ | _) <;> first | exact z | exact z.elim | skip
  obtain ⟨rfl,z⟩:=z
  exact wpAny_pure (wpAny_pure z)
end
end Mine
end
section
set_option maxHeartbeats 2000000
set_option maxRecDepth 100000
namespace Mine
open PySem PySem.W PyProof.Rows PySem.MeetsSeq
section
variable {cx:Cx} {A:Around} {R:Result -> Shared -> Prop} {E:Value -> Shared -> Prop} {h:Heap} {g:Array GenState} {d:Drawn} {t:Nat} {os:OsState}
variable {nm q:Str} {C D N:Addr} {bs:List Value} {sn:List Str} {sub:List Value} {ab:Bool} {col:Option Bool} {dd:Option Addr} {k0 k1 k2 k3 k5:Option Value}
theorem T_check_init {M:Model} {e:Addr} {oe:Obj} {rest:List Value} {Q:Unit -> Shared -> Prop} (hC:h.get? C = some (excT nm q C D N bs sn sub ab col dd k0 k1 k2 k3 k5)) (he:h.get? e = some oe) (hcls:oe.cls = .ref C) (hq:Q () ⟨h,g,d,t,os⟩) :
    wpAny M A (checkBuiltinCall "Exception.__init__" ⟨.ref e :: rest,[]⟩) Q E ⟨h,g,d,t,os⟩:=by
  have F:=PySem.F.excBase_Exception
  have e1:(Value.ref C :: bmT D).contains (.type "Exception") = true:=rfl
  have hshort:=F.noStar
  simp only [checkBuiltinCall,F.initKind,F.initSplit,F.initRow]
  repeat (first | (with_reducible refine wpAny_loadPart_at he ?_; rw [hcls]) | with_reducible refine wpAny_loadPart_at hC ?_ | (with_reducible refine wpAny_isSubtype_exc hC ?_; rw [e1]) | wp_step)
  refine wpAny_onRaise ?_
  rw [show ∀ (a b:String) (n:Nat),Bind.check ⟨.positional,"*","Exception",.self,[⟨"args",.varPos,false⟩]⟩ a b n (List.map (fun x=>x.fst) ({ pos:=Value.ref e :: rest }:Args).kw) = pure () from
    fun a b n=>check_star_args _ _ _ _ _ _]
  exact wpAny_pure hq
theorem T_init {e:Addr} {oe:Obj} {vs:Array Value} {v:Value} {Q:Value -> Shared -> Prop} (hC:h.get? C = some (excT nm q C D N bs sn sub ab col dd k0 k1 k2 k3 k5)) (he:h.get? e = some oe) (hcls:oe.cls = .ref C) (hd:oe.data = .fields vs) {t0:Addr} (h0:vs[0]? = some (.ref t0))
    (hq:Q .none ⟨(h.push { cls:=.type "tuple",data:=.seq #[v] }).update e (Obj.mapFields (·.setIfInBounds 0 (.ref h.objs.size))),g,d,t,os⟩) :
    wpAny cx.m A (call (.builtin "Exception.__init__") [.ref e,v]) Q E ⟨h,g,d,t,os⟩:=by
  have F:=PySem.F.excBase_Exception
  refine wpAny_call (codeAny_call_builtin F.init.plain F.initEntry (T_check_init hC he hcls ?_))
  unfold Builtin.«BaseException.__init__»
  have he1:(h.push { cls:=.type "tuple",data:=.seq #[v] }).get? e = some oe:=Heap.get?_push_of_some _ he
  wp_walk
  rw [hd]
  refine wpAny_pure ?_
  dsimp only
  rw [h0]
  refine wpAny_pure ?_
  refine wpAny_bind (wpAny_setField he1 hd (Array.getElem?_eq_some_iff.mp h0).1 ?_)
  wp_walk
  exact hq
end
noncomputable def leBody (p:Nat -> Pos) (k:Nat -> Nat):List PySem.Stmt :=
  [.Expr (.Call (.Attribute (.Name "Exception" (p 0)) "__init__" (p 1)) [.Name "self" (p 2),.Name "message" (p 3)] [] (p 4)) (p 5),
   .Assign [.Attribute (.Name "self" (p 6)) "message" (p 7)] (.Name "message" (p 8)) (p 9),
   .Assign [.Attribute (.Name "self" (p 10)) "spot" (p 11)] (.Name "spot" (p 12)) (p 13)]
structure LEo (cx:Cx) (Kf:Frag) (TF:Addr):Prop where
  exn:LoadsG cx.base ("Exception" : Str) (.type "Exception")
  sa:findIn Kf (.ref TF) "__setattr__" = some (some (.builtin "object.__setattr__"))
  over:plainExc Kf TF = true
  dict:(clsIn Kf TF).any (·.hasDict) = true
  msg:findIn Kf (.ref TF) "message" = some none
  spot:findIn Kf (.ref TF) "spot" = some none
  ty:typeOf (.type "Exception") = pure (.type "type")
  stub:Manifest.isStub "Exception" = false
  init:findCls Kf (.type "Exception") (.type "type") "__init__" = some (.val (.builtin "Exception.__init__"))
section
variable {cx:Cx} {Kf:Frag} {A:Around} {E:Value -> Shared -> Prop} {s:Shared} {TF D:Addr} {env:PySem.Env} {h₀:Heap} {m:Str -> Option Value}
theorem ld_local {x:Str} {v:Value} {p:Pos} {Q:Value -> Shared -> Prop} (hk:env.scope.kind = .function) (hx:env.scope.names.lookup x = some .local) (hn:s.heap.Ns env.locals m) (hv:m x = some v) (hd:(x == ("__debug__" : Str)) = false) (h:Q v s):wpAny cx.m A (eval (.Name x p) env) Q E s :=
  wpAny_Name (wpAny_loadName_local hk hx hn hv h) hd
theorem ld_glob {x:Str} {v:Value} {p:Pos} {Q:Value -> Shared -> Prop} (hk:env.scope.kind = .function) (hg:env.globals = mainGlobals) (hb:env.builtins = builtinsNs) (hx:env.scope.names.lookup x = some .globalImplicit) (B:cx.base.StaysIn s.heap) (L:LoadsG cx.base x v) (hd:(x == ("__debug__" : Str)) = false) (h:Q v s) :
    wpAny cx.m A (eval (.Name x p) env) Q E s:=by
  have st:∀ a m,cx.base.Ns a m -> s.heap.Ns a m:=fun a m ⟨o,es,ep,e,r⟩=>⟨o,es,ep,B _ _ e,r⟩
  refine Calls.Name_function_global hk hx ?_ hd
  rcases L with ⟨mg,h1,h2⟩ | ⟨mg,mb,h1,h2,h3,h4⟩
  · exact Calls.loadGlobal_global (by rw [hg]; exact st _ _ h1) h2 h
  · exact Calls.loadGlobal_builtin (by rw [hg]; exact st _ _ h1) h2 (by rw [hb]; exact st _ _ h3) h4 h
set_option tactic.hygienic true in
theorem le_walk (G:Gx cx Kf) (T:TFo cx Kf TF D) (Y:LEo cx Kf TF) (hB:cx.base.StaysIn h₀) {p:Nat -> Pos} {kk:Nat -> Nat} {e t0:Addr} {vm vi:Value} {Q:PySem.Flow -> Shared -> Prop}
    (hline:((p 1).endLine == (p 4).line) = true) (hk:env.scope.kind = .function) (hg:env.globals = mainGlobals) (hb:env.builtins = builtinsNs) (n1:env.scope.names.lookup ("self" : Str) = some .local) (n2:env.scope.names.lookup ("message" : Str) = some .local) (n3:env.scope.names.lookup ("spot" : Str) = some .local) (n4:env.scope.names.lookup ("Exception" : Str) = some .globalImplicit)
    (F:Fr h₀ env.locals s.heap m) (v1:m ("self" : Str) = some (.ref e)) (v2:m ("message" : Str) = some vm) (v3:m ("spot" : Str) = some vi) (he:s.heap.get? e = some (excNew TF t0)) (h0:h₀.get? e = none)
    (h:∀ h' tk oe vs dx mm,(∀ b o,h₀.get? b = some o -> h'.get? b = some o) -> h'.get? e = some oe -> oe.cls = .ref TF -> oe.dict = some dx -> oe.data = .fields vs -> vs.size = 6 -> vs[1]? = some .none -> vs[2]? = some .none -> h'.Ns dx mm -> mm ("message" : Str) = some vm -> mm ("spot" : Str) = some vi -> h₀.get? dx = none -> Q .next { s with heap:=h',toks:=tk }) :
    wpAny cx.m A (execs (leBody p kk) env) Q E s:=by
  have inB:∀ {h:Heap},(∀ b o,h₀.get? b = some o -> h.get? b = some o) -> cx.base.StaysIn h:=fun k b o q=>k b o (hB b o q)
  have inK:∀ {h:Heap},(∀ b o,h₀.get? b = some o -> h.get? b = some o) -> Kf.In h:=fun k a o q=>k a o (hB a o (G.gd.X a o q))
  refine cps fun G9 k9=>?_
  obtain ⟨oc,ho,⟨⟩⟩:=T.obj
  refine k9 ?_
  have gone0:∀ b,h₀.objs.size <= b -> h₀.get? b = none:=fun b hb=>gone hb
  have hLe:env.locals ≠ e:=fun z=>by
    refine cps fun G9 k9=>?_
    obtain ⟨_,_,zz⟩:=Ns.notSeq F.ns (z ▸ he)
    refine k9 ?_
    cases zz
  have eb:0 < s.heap.objs.size:=Nat.lt_of_le_of_lt (Nat.zero_le _) F.ns.lt
  unfold leBody
  have hi:interactive env = false:=by unfold interactive; rw [hk]; rfl
  refine wpAny_execs_cons ?_
  rw [exec_Expr env _ _ hi (by rfl)]
  refine wpAny_bind (wpAny_standAt (wpAny_bind ?_))
  rw [arm_eval_Call,base_plain rfl]
  refine wpAny_bind (ld_glob hk hg hb n4 (inB F.keep) Y.exn (by decide) (wpAny_bind (wpAny_standAt ?_)))
  unfold methodCall
  rw [form_ok (by rfl) (by simp)]
  have hpos:methodCallPos true (.Name "Exception" (p 0)) env (p 1) (p 4) = pure (p 4):=by unfold methodCallPos; simp [hline]
  rw [hpos]
  refine wpAny_bind (wpAny_holding (method_type F (fun a o z=>hB a o (G.gd.X a o z)) Y.ty Y.stub Y.init (by decide +kernel) (wpAny_bind (wpAny_pure ?_))))
  rw [kw_nil]
  have hsx:=any_star (env:=env) (p:=p 4) (l:=[.Name "self" (p 2),.Name "message" (p 3)]) rfl
  refine callWith_of (P:=fun hp=>∃ k,(k = Keeper.frame \/ k = Keeper.machine \/ k = Keeper.boundFrame) /\ Looks cx.m hp (keeperOf (.builtin "Exception.__init__")) k) (by rw [hsx.1]; rfl) (fun _ z=>z) (evalArgs_any hsx.1 ?_)
  rw [starEach_plain rfl,starEach_plain rfl]
  unfold spliced
  refine wpAny_bind (ld_local (m:=m) hk n1 F.ns v1 (by decide) (wpAny_bind (wpAny_pure (wpAny_bind (wpAny_holding ?_)))))
  unfold spliced
  refine wpAny_bind (ld_local (m:=m) hk n2 F.ns v2 (by decide) (wpAny_bind (wpAny_pure (wpAny_bind (wpAny_holding (wpAny_pure (wpAny_pure (wpAny_pure ?_))))))))
  refine ⟨⟨.machine,.inr (.inl rfl),Looks.of_pure rfl⟩,?_⟩
  show wpAny _ _ (call (.builtin "Exception.__init__") [.ref e,vm]) _ _ _
  refine T_init (inK F.keep _ _ ho) he rfl rfl (t0:=t0) rfl ?_
  generalize hH1:(s.heap.push { cls:=.type "tuple",data:=.seq #[vm] }).update e (Obj.mapFields (·.setIfInBounds 0 (.ref s.heap.objs.size))) = H1
  have he1:H1.get? e = some (excNew TF s.heap.objs.size):=by
    rw [<- hH1]
    exact Heap.get?_update_self _ (Heap.get?_push_of_some _ he) rfl
  have kp1:∀ b o,b ≠ e -> s.heap.get? b = some o -> H1.get? b = some o:=fun b o nb z=>by
    rw [<- hH1,Heap.get?_update_other _ _ (Ne.symm nb)]
    exact Heap.get?_push_of_some _ z
  have k01:∀ b o,h₀.get? b = some o -> H1.get? b = some o:=fun b o z=>kp1 b o (fun q=>by rw [q,h0] at z; cases z) (F.keep b o z)
  have ns1:H1.Ns env.locals m:=by
    refine cps fun G9 k9=>?_
    obtain ⟨o,es,ep,g,z⟩:=F.ns
    refine k9 ?_
    exact ⟨o,es,ep,kp1 _ _ hLe g,z⟩
  refine wpAny_dropValue ?_
  refine wpAny_execs_cons ?_
  rw [plainObj_exec_Assign_Attribute _ _ _ _ _ swaps_attr]
  refine wpAny_bind (wpAny_standAt (wpAny_bind (ld_local (m:=m) hk n2 ns1 v2 (by decide) (wpAny_bind ?_))))
  rw [arm_assign_Attribute]
  refine wpAny_bind (wpAny_holding (ld_local (m:=m) hk n1 ns1 v1 (by decide) (wpAny_bind (wpAny_standAt (wpAny_bind (wpAny_holding ?_))))))
  refine exc_set0 (K:=Kf) (C:=TF) (ox:=excNew TF s.heap.objs.size) (vs:=#[.ref s.heap.objs.size,.none,.none,.none,.bool false,.none]) (l:=["message","spot"]) (inK k01) ⟨he1,rfl,rfl,trivial⟩ rfl rfl Y.sa Y.over Y.msg Y.dict (by simp) (by simp) fun H2 hn2 he2 kp2=>?_
  dsimp only at hn2 he2 kp2
  refine wpAny_release (wpAny_pure ?_)
  have k02:∀ b o,h₀.get? b = some o -> H2.get? b = some o:=fun b o z=>kp2 b o (fun q=>by rw [q,h0] at z; cases z) (k01 b o z)
  have ns2:H2.Ns env.locals m:=by
    refine cps fun G9 k9=>?_
    obtain ⟨o,es,ep,g,z⟩:=ns1
    refine k9 ?_
    exact ⟨o,es,ep,kp2 _ _ hLe g,z⟩
  have hdx:h₀.get? H1.objs.size = none:=by
    cases z:h₀.get? H1.objs.size with
    | none=>rfl
    | some o=>exact absurd (Heap.lt_size (k01 _ _ z)) (Nat.lt_irrefl _)
  have hdxe:H1.objs.size ≠ e:=Nat.ne_of_gt (Heap.lt_size he1)
  have hdxL:H1.objs.size ≠ env.locals:=Nat.ne_of_gt ns1.lt
  refine wpAny_execs_cons ?_
  rw [plainObj_exec_Assign_Attribute _ _ _ _ _ swaps_attr]
  refine wpAny_bind (wpAny_standAt (wpAny_bind (ld_local (m:=m) hk n3 ns2 v3 (by decide) (wpAny_bind ?_))))
  rw [arm_assign_Attribute]
  refine wpAny_bind (wpAny_holding (ld_local (m:=m) hk n1 ns2 v1 (by decide) (wpAny_bind (wpAny_standAt (wpAny_bind (wpAny_holding ?_))))))
  refine cps fun G9 k9=>?_
  obtain ⟨od,_,_,god,_⟩:=id hn2
  refine k9 ?_
  refine exc_set1 (K:=Kf) (C:=TF) (dx:=H1.objs.size) (od:=some od) (l:=["message","spot"]) (inK k02) ⟨he2,rfl,rfl,god⟩ rfl Y.sa Y.over Y.spot Y.dict hn2 (fun z hz=>?_) (by simp) (by simp) fun H3 hn3 hs3=>?_
  · by_cases q:z = ("message" : Str)
    · rw [q]; simp
    · rw [if_neg q] at hz; exact absurd rfl hz
  dsimp only at hn3 hs3
  refine wpAny_release (wpAny_pure ?_)
  refine wpAny_execs_nil (h H3 _ _ _ _ _ (fun b o z=>(hs3.2 b fun q=>by rw [q,hdx] at z; cases z).trans (k02 b o z)) ((hs3.2 e (Ne.symm hdxe)).trans he2) rfl rfl rfl rfl rfl rfl hn3.ns ?_ ?_ hdx)
  · rw [if_neg (by decide),if_pos rfl]
  · rw [if_pos rfl]
end
end Mine
end
section
set_option maxHeartbeats 1000000
set_option maxRecDepth 20000
namespace Mine
open PySem PySem.W PyProof.Rows PySem.MeetsSeq
set_option tactic.hygienic true in
theorem lookup_zip_get {α:Type}:∀ {N:List Str} {L:List α} {i:Nat} {n:Str},N.Nodup -> N[i]? = some n -> (N.zip L).lookup n = L[i]?
  | [],_,_,_,_,h=>none_some h
  | m :: N,[],_,_,_,_=>List.getElem?_nil.symm
  | m :: N,v :: L,0,n,_,h=>by
    cases h
    rw [List.zip_cons_cons,List.lookup_cons,beq_self_eq_true]; rfl
  | m :: N,v :: L,i + 1,n,hn,h=>by
    rw [List.nodup_cons] at hn
    have h:N[i]? = some n:=h
    rw [List.zip_cons_cons,List.lookup_cons,beq_eq_false_iff_ne.mpr fun (e:n = m)=>hn.1 (e ▸ List.mem_of_getElem? h)]
    exact lookup_zip_get hn.2 h
noncomputable def slotIn (acc:List (Str × Value)) (x:Str × Value):List (Str × Value):=if (acc.lookup x.1).isNone = true then acc ++ [x] else acc
set_option tactic.hygienic true in
theorem lookup_slot {acc:List (Str × Value)} {x:Str × Value} {n:Str}:(slotIn acc x).lookup n = (acc.lookup n).or (if (n == x.1) = true then some x.2 else none):=by
  unfold slotIn
  by_cases q:(acc.lookup x.1).isNone = true
  · rw [if_pos q,List.lookup_append,List.lookup_cons]
    by_cases z:(n == x.1) = true
    · rw [z,if_pos rfl]
    · rw [(Bool.not_eq_true _).mp z,if_neg Bool.false_ne_true]; rfl
  · rw [if_neg q]
    by_cases z:(n == x.1) = true
    · rw [beq_iff_eq.mp z]
      cases e:acc.lookup x.1 with
      | none=>rw [e] at q; exact absurd rfl q
      | some v=>rfl
    · rw [if_neg z,Option.or_none]
theorem fold_lookup {n:Str}:∀ (l acc:List (Str × Value)),(l.foldl slotIn acc).lookup n = (acc.lookup n).or (l.lookup n)
  | [],acc=>by rw [List.lookup_nil,Option.or_none]; rfl
  | x :: r,acc=>by
    rw [List.foldl_cons,fold_lookup r,lookup_slot,Option.or_assoc,List.lookup_cons]
    by_cases z:(n == x.1) = true
    · rw [if_pos z,z]; rfl
    · rw [if_neg z,(Bool.not_eq_true _).mp z]; rfl
theorem zip_back {f:Str -> Option Value}:∀ {N:List Str} {L:List Value},(∀ (i:Nat) (n:Str),N[i]? = some n -> f n = L[i]?) -> L.length = N.length -> N.filterMap (fun n=>(f n).map fun v=>(n,v)) = N.zip L
  | [],_,_,_=>rfl
  | m :: N,[],_,hl=>nomatch hl
  | m :: N,v :: L,hM,hl=>by
    rw [List.filterMap_cons,hM 0 m rfl,List.zip_cons_cons,<- zip_back (f:=f) (N:=N) (L:=L) (fun i n e=>hM (i + 1) n e) (Nat.succ.inj hl)]
    rfl
theorem fold_forIn:∀ (l acc:List (Str × Value)),(forIn (m:=Sem) l acc fun x r=>if (List.lookup x.fst r).isNone = true then pure (ForInStep.yield (r ++ [(x.fst,x.snd)])) else pure (ForInStep.yield r)) = pure (l.foldl slotIn acc)
  | [],acc=>rfl
  | a :: r,acc=>by
    rw [List.forIn_cons,List.foldl_cons]
    unfold slotIn
    by_cases q:(acc.lookup a.1).isNone = true
    · rw [if_pos q,if_pos q,pure_bind]; exact fold_forIn r _
    · rw [if_neg q,if_neg q,pure_bind]; exact fold_forIn r _
theorem slots_eq {N:List Str} {vals ds:List Value} (nd:N.Nodup) (h1:vals.length <= N.length) (h2:ds.length <= N.length) (h3:N.length <= vals.length + ds.length) :
    N.filterMap (fun n=>((((N.drop (N.length - ds.length)).zip ds).foldl slotIn (N.zip vals)).lookup n).map fun v=>(n,v)) = N.zip (vals ++ ds.drop (vals.length + ds.length - N.length)):=by
  have nd2:(N.drop (N.length - ds.length)).Nodup:=nd.sublist (List.drop_sublist _ _)
  refine zip_back (fun i n e=>?_) (by rw [List.length_append,List.length_drop]; lia)
  rw [fold_lookup,lookup_zip_get nd e,List.getElem?_append]
  by_cases q:i < vals.length
  · rw [if_pos q,List.getElem?_eq_getElem q]; rfl
  · rw [if_neg q,List.getElem?_eq_none (Nat.le_of_not_lt q),Option.none_or,lookup_zip_get (i:=i - (N.length - ds.length)) nd2 (by rw [List.getElem?_drop,show N.length - ds.length + (i - (N.length - ds.length)) = i from by lia]; exact e),List.getElem?_drop]
    exact congrArg (ds[·]?) (by lia)
theorem none_missing {N:List Str} {vals ds:List Value} (nd:N.Nodup) (h3:N.length <= vals.length + ds.length):(N.take (N.length - ds.length)).filter (fun n=>((N.zip vals).lookup n).isNone) = []:=by
  rw [List.filter_eq_nil_iff]
  intro n hn
  obtain ⟨i,hi⟩:=List.getElem?_of_mem hn
  have hl:=(List.getElem?_eq_some_iff.mp hi).1
  rw [List.length_take] at hl
  rw [List.getElem?_take_of_lt (by lia)] at hi
  rw [lookup_zip_get nd hi,List.getElem?_eq_getElem (by lia)]
  exact Bool.false_ne_true
theorem bind_tree (nm qn:Str) (ar:List PySem.Arg) (kd:List (Option PySem.Expr)) (df:List PySem.Expr) (body:FuncBody) (scope:PySem.Scope) (gl:Addr) (cl:List (Str × Addr)) (dflts kwd doc pm:Value) (ann:Option Addr) (code ct:Value) (bi:Addr) (vals:List Value):∃ X Y:Option (Array Value) -> Sem (List (Str × Value)),
    bindArgs ⟨nm,qn,⟨[],ar,none,[],kd,none,df⟩,body,scope,gl,cl,dflts,kwd,doc,pm,ann,code,ct,bi⟩ ⟨vals,[]⟩ = (seqItems? dflts >>= fun r =>
      if (decide (vals.length > (ar.map fun x:PySem.Arg=>x.arg).length) && (none:Option PySem.Arg).isNone) = true then X r else
      if (!(((ar.map fun x:PySem.Arg=>x.arg).take ((ar.map fun x:PySem.Arg=>x.arg).length - ((r.getD #[]).toList.drop ((r.getD #[]).toList.length - (ar.map fun x:PySem.Arg=>x.arg).length)).length)).filter fun n=>(((ar.map fun x:PySem.Arg=>x.arg).zip vals).lookup n).isNone).isEmpty) = true then Y r else
      (forIn (m:=Sem) (((ar.map fun x:PySem.Arg=>x.arg).drop ((ar.map fun x:PySem.Arg=>x.arg).length - ((r.getD #[]).toList.drop ((r.getD #[]).toList.length - (ar.map fun x:PySem.Arg=>x.arg).length)).length)).zip ((r.getD #[]).toList.drop ((r.getD #[]).toList.length - (ar.map fun x:PySem.Arg=>x.arg).length))) ((ar.map fun x:PySem.Arg=>x.arg).zip vals) fun x r=>if (List.lookup x.fst r).isNone = true then pure (ForInStep.yield (r ++ [(x.fst,x.snd)])) else pure (ForInStep.yield r)) >>= fun slots =>
      pure (((ar.map fun x:PySem.Arg=>x.arg) ++ []).filterMap fun n=>(slots.lookup n).map fun v=>(n,v))):=⟨_,_,rfl⟩
theorem bind_gen {fd:FuncData} {s:Shared} {N:List Str} {vals ds:List Value} (hp:fd.params.posonlyargs = []) (hk:fd.params.kwonlyargs = []) (hv:fd.params.vararg = none) (hkw:fd.params.kwarg = none) (hn:fd.params.args.map (·.arg) = N) (nd:N.Nodup)
    (hd:∀ (M:Model) (A:Around) (E:Value -> Shared -> Prop) (Q:Option (Array Value) -> Shared -> Prop),(∀ r,(r.getD #[]).toList = ds -> Q r s) -> wpAny M A (seqItems? fd.defaults) Q E s) (h1:vals.length <= N.length) (h2:ds.length <= N.length) (h3:N.length <= vals.length + ds.length):BindsTo s fd ⟨vals,[]⟩ (N.zip (vals ++ ds.drop (vals.length + ds.length - N.length))):=by
  intro M A E Q hq
  refine cps fun G k=>?_
  obtain ⟨nm,qn,⟨po,ar,va,ko,kd,kw,df⟩,body,scope,gl,cl,dflts,kwd,doc,pm,ann,code,ct,bi⟩:=fd
  dsimp only at hp hk hv hkw hn hd
  subst hp hk hv hkw
  obtain ⟨X,Y,e⟩:=bind_tree nm qn ar kd df body scope gl cl dflts kwd doc pm ann code ct bi vals
  rw [e,hn] at k
  refine k (wpAny_bind (hd _ _ _ _ fun r er=>?_))
  rw [er,show ds.length - N.length = 0 from Nat.sub_eq_zero_of_le h2,List.drop_zero,none_missing nd h3,if_neg (by rw [decide_eq_false (Nat.not_lt.mpr h1)]; exact Bool.false_ne_true),if_neg (show ¬ (!([]:List Str).isEmpty) = true from Bool.false_ne_true),fold_forIn,pure_bind,List.append_nil,slots_eq nd h1 h2 h3]
  exact wpAny_pure hq
end Mine
end
section
set_option maxHeartbeats 1000000
set_option maxRecDepth 20000
namespace Mine
open PySem PySem.W PyProof.Rows PySem.MeetsSeq
theorem bindL_other {kindOf:Str -> Option NameKind} {n:Str}:∀ {l:List (Str × Value)} {m:Str -> Option Value},n ∉ l.map (·.1) -> bindL kindOf l m n = m n
  | [],_,_=>rfl
  | (k,v) :: r,m,h=>(bindL_other (l:=r) fun z=>h (.tail _ z)).trans (by
    by_cases q:kindOf k = some .local
    · rw [if_pos q]; exact if_neg fun (e:n = k)=>h (e ▸ .head _)
    · rw [if_neg q])
theorem bindC_other {kindOf:Str -> Option NameKind} {n:Str}:∀ {l:List (Str × Value)} {m:Str -> Option Value},n ∉ l.map (·.1) -> bindC kindOf l m n = m n
  | [],_,_=>rfl
  | (k,v) :: r,m,h=>(bindC_other (l:=r) fun z=>h (.tail _ z)).trans (by
    by_cases q:kindOf k = some .local
    · rw [if_pos q]
    · rw [if_neg q]; exact if_neg fun (e:n = k)=>h (e ▸ .head _))
theorem bindL_get {kindOf:Str -> Option NameKind} {n:Str} {v:Value} (hk:kindOf n = some .local):∀ {l:List (Str × Value)} {m:Str -> Option Value},(l.map (·.1)).Nodup -> l.lookup n = some v -> bindL kindOf l m n = some v
  | [],_,_,h=>none_some h
  | (k,u) :: r,m,hn,h=>by
    rw [List.map_cons,List.nodup_cons] at hn
    rw [List.lookup_cons] at h
    by_cases q:(n == k) = true
    · rw [q] at h
      obtain rfl:=beq_iff_eq.mp q
      exact (bindL_other hn.1).trans ((congrFun (if_pos hk) n).trans ((if_pos rfl).trans h))
    · rw [(Bool.not_eq_true _).mp q] at h
      exact bindL_get (l:=r) hk hn.2 h
theorem bindC_get {kindOf:Str -> Option NameKind} {n:Str} {v:Value} (hk:kindOf n ≠ some .local):∀ {l:List (Str × Value)} {m:Str -> Option Value},(l.map (·.1)).Nodup -> l.lookup n = some v -> bindC kindOf l m n = some v
  | [],_,_,h=>none_some h
  | (k,u) :: r,m,hn,h=>by
    rw [List.map_cons,List.nodup_cons] at hn
    rw [List.lookup_cons] at h
    by_cases q:(n == k) = true
    · rw [q] at h
      obtain rfl:=beq_iff_eq.mp q
      exact (bindC_other hn.1).trans ((congrFun (if_neg hk) n).trans ((if_pos rfl).trans h))
    · rw [(Bool.not_eq_true _).mp q] at h
      exact bindC_get (l:=r) hk hn.2 h
structure Binds (cx:Cx) (W:Wd) (s:Shared) (fd:FuncData) (vals:List Value) (ρ:Env) (binds:List (Str × Value)):Prop where
  to:BindsTo s fd ⟨vals,[]⟩ binds
  rel:∀ x V,ρ x = some V -> ∃ v,binds.lookup (Str.ofString x) = some v /\ VRel cx W.φ W.z s.heap V v
  nd:(binds.map (·.1)).Nodup
  kind:∀ y ∈ binds,fd.scope.names.lookup y.1 = some .local \/ fd.scope.names.lookup y.1 = some .cell
theorem sets_rel {cx:Cx} {φ n h}:∀ {ps:List String} {L:List V} {vs:List Value} {ρ:Env},ps.Nodup -> L.length = ps.length -> VRels cx φ n h L vs -> ∀ x V,(ρ.sets ps L) x = some V -> (∃ v,((ps.map Str.ofString).zip vs).lookup (Str.ofString x) = some v /\ VRel cx φ n h V v) \/ ρ x = some V
  | [],[],_,_,_,_,_,x,V,e=>.inr e
  | [],_ :: _,_,_,_,h,_,_,_,_=>nomatch h
  | _ :: _,[],_,_,_,h,_,_,_,_=>nomatch h
  | p :: ps,l :: L,_,ρ,hn,hl,r,x,V,e=>by
    rw [List.nodup_cons] at hn
    refine cps fun G k=>?_
    obtain ⟨u,us,rfl,r1,r2⟩:=r
    have e:((ρ.set p l).sets ps L) x = some V:=e
    rw [sets_comm hn.1] at e
    rw [List.map_cons,List.zip_cons_cons,List.lookup_cons] at k
    by_cases q:x = p
    · rw [q,beq_self_eq_true] at k
      exact k (.inl ⟨u,rfl,Option.some.inj ((if_pos q).symm.trans e) ▸ r1⟩)
    · rw [beq_eq_false_iff_ne.mpr fun z=>q (ofString_inj z)] at k
      exact k (sets_rel hn.2 (Nat.succ.inj hl) r2 x V ((if_neg q).symm.trans e))
structure FnBase (cx:Cx) (Kf:Frag) (a:Addr) (fd:FuncData) (N:List Str) (ds:List Value):Prop where
  look:∃ o,Kf.lookup a = some o /\ o.data = .func fd
  kind:fd.scope.kind = .function
  co:fd.scope.isCoroutine = false
  gen:fd.scope.isGenerator = false
  clo:fd.closure = []
  glob:fd.globals = mainGlobals
  bi:fd.builtins = builtinsNs
  code:cx.base.CodeRec fd.code fd.qualname
  pos:fd.params.posonlyargs = []
  kwo:fd.params.kwonlyargs = []
  vararg:fd.params.vararg = none
  kwarg:fd.params.kwarg = none
  args:fd.params.args.map (·.arg) = N
  nd:N.Nodup
  names:∀ x ∈ N,fd.scope.names.lookup x = some .local \/ fd.scope.names.lookup x = some .cell
  dflt:∀ (s:Shared),Kf.In s.heap -> ∀ (M:Model) (A:Around) (E:Value -> Shared -> Prop) (Q:Option (Array Value) -> Shared -> Prop),(∀ r,(r.getD #[]).toList = ds -> Q r s) -> wpAny M A (seqItems? fd.defaults) Q E s
  dlen:ds.length <= N.length
structure FnOk (cx:Cx) (Kf:Frag) (a:Addr) (fn:Fn) (fd:FuncData) (ds:List Value):Prop where
  base:FnBase cx Kf a fd (fn.params.map Str.ofString) ds
  nd:fn.params.Nodup
  dflts:∀ φ n h,VRels cx φ n h fn.dflts ds
  cells:((cellsFrom 0 fd.scope.names []).map (·.1)).Nodup
theorem FnOk.binds {cx:Cx} {Kf:Frag} {a:Addr} {fn:Fn} {fd:FuncData} {ds:List Value} (F:FnOk cx Kf a fn fd ds) {W:Wd} {s:Shared} {args:List V} {vals:List Value} {ρ:Env} (X:Kf.In s.heap) (r:VRels cx W.φ W.z s.heap args vals) (e:bindTo fn.params args fn.dflts = some ρ):∃ binds,Binds cx W s fd vals ρ binds:=by
  have hl:=r.length
  have hd:=(F.dflts W.φ W.z s.heap).length
  unfold bindTo at e
  by_cases q:args.length <= fn.params.length /\ (args ++ fn.dflts.drop (args.length + fn.dflts.length - fn.params.length)).length = fn.params.length
  · rw [if_pos q,hl,hd] at e
    have q2:=q.2
    rw [hl,hd] at q2
    have hN:(fn.params.map Str.ofString).length = fn.params.length:=List.length_map ..
    have rr:=VRels.append r (VRels.drop (vals.length + ds.length - fn.params.length) (F.dflts W.φ W.z s.heap))
    have hlen:(vals ++ ds.drop (vals.length + ds.length - fn.params.length)).length = fn.params.length:=rr.length.symm.trans q2
    have h3:fn.params.length <= vals.length + ds.length:=by
      rw [List.length_append,List.length_drop] at hlen
      exact hlen ▸ Nat.add_le_add_left (Nat.sub_le _ _) _
    have B:=bind_gen (s:=s) F.base.pos F.base.kwo F.base.vararg F.base.kwarg F.base.args F.base.nd (F.base.dflt s X) (hN ▸ hl ▸ q.1) F.base.dlen (hN ▸ h3)
    rw [hN] at B
    refine ⟨_,B,fun x V hx=>(sets_rel F.nd q2 rr x V (Option.some.inj e ▸ hx)).resolve_right fun z=>none_some z,?_,fun y hy=>F.base.names _ (List.of_mem_zip (a:=y.1) (b:=y.2) hy).1⟩
    rw [List.map_fst_zip (by rw [hlen,hN]; exact Nat.le_refl _)]
    exact F.base.nd
  · rw [if_neg q] at e; exact none_some e
section
variable {cx:Cx} {Kf:Frag} {A:Around} {W W₀:Wd} {s s₀:Shared} {n:Nat} {env:PySem.Env} {ρ:Env} {C:Oracle} {F:FrameI} {r:List FrameI}
set_option tactic.hygienic true in
theorem enter_call (I:Inv cx W s.heap) {scope:PySem.Scope} {qual:Str} {fa:Addr} {code:Value} {binds:List (Str × Value)} {env:PySem.Env} {s':Shared} (hk:scope.kind = .function) (hnd:((cellsFrom 0 scope.names []).map (·.1)).Nodup)
    (he:env = newEnv scope s.heap.objs.size mainGlobals (cellsFrom (s.heap.objs.size + 1) scope.names []) qual (some fa) code none builtinsNs)
    (x:InCallC s env.locals (bindL env.kindOf binds fun _=>none) env.cells (bindC env.kindOf binds fun _=>none) s') (hr:∀ x V,ρ x = some V -> ∃ v,binds.lookup (Str.ofString x) = some v /\ VRel cx W.φ W.z s.heap V v) (hn:(binds.map (·.1)).Nodup)
    (hkd:∀ y ∈ binds,scope.names.lookup y.1 = some .local \/ scope.names.lookup y.1 = some .cell) :
    Inv cx (W.under { env:=env,ρ:=ρ,own:=env.cells.map (·.2),real:=true }) s'.heap /\ Ext W s (W.under { env:=env,ρ:=ρ,own:=env.cells.map (·.2),real:=true }) s' /\ env.scope = scope:=by
  have ek:env.scope = scope:=by rw [he]; rfl
  have el:env.locals = s.heap.objs.size:=by rw [he]; rfl
  have ec:env.cells = cellsFrom (s.heap.objs.size + 1) scope.names []:=by rw [he]; rfl
  obtain ⟨h₁,tk,hs',k⟩:=x.done
  subst hs'
  have St:Sta W.φ W.z s.heap (W.under { env:=env,ρ:=ρ,own:=env.cells.map (·.2),real:=true }).φ (W.under { env:=env,ρ:=ρ,own:=env.cells.map (·.2),real:=true }).z h₁:=by
    have:=Sta.of_keeps (W:=W) k
    simpa [Wd.under,Wd.z] using this
  refine ⟨?_,?_,ek⟩
  · refine I.enter k (Nat.le_of_eq el.symm) (fun c hc=>?_) ?_ (fun a ha=>by cases ha) ?_ (fun y c hc=>?_)
    · obtain ⟨y,hy,rfl⟩:=List.mem_map.mp hc
      have:=x.above y.1 y.2 hy
      rw [el] at this
      exact Nat.le_of_lt this
    · show (env.cells.map (·.2)).Nodup
      have:=x.apart
      rw [List.Nodup,List.pairwise_map]
      exact this
    · refine ⟨by rw [ek]; exact hk,by rw [he]; rfl,by rw [he]; rfl,fun _=>by rw [he]; rfl,⟨_,x.toInCall.ns,fun y V hy e=>?_⟩,fun y c _ hc=>?_,fun c hc=>?_,fun y hy=>?_,fun y z c _ h1 h2=>?_⟩
      · obtain ⟨v,h1,h2⟩:=hr y V e
        have r2:=VRel.mono (cx:=cx) St h2
        have km:=hkd _ (mem_of_lookup h1)
        refine ⟨fun q=>⟨v,bindL_get q hn h1,r2⟩,fun q=>?_⟩
        have kc:env.kindOf (Str.ofString y) = some .cell:=by
          show env.scope.names.lookup _ = _
          rw [ek]
          rcases km with z | z
          · exfalso
            rcases q with q | q
            · rw [show env.kindOf (Str.ofString y) = env.scope.names.lookup (Str.ofString y) from rfl,ek,z] at q; cases q
            · rw [show env.kindOf (Str.ofString y) = env.scope.names.lookup (Str.ofString y) from rfl,ek,z] at q; cases q
          · exact z
        obtain ⟨c,hc⟩:=Option.isSome_iff_exists.mp (cellsFrom_some (x:=Str.ofString y) scope.names (s.heap.objs.size + 1) [] (.inl (by rw [<- ek]; exact kc)))
        rw [<- ec] at hc
        obtain ⟨o,g,d⟩:=x.cell _ _ hc
        refine ⟨c,o,v,hc,g,?_,r2⟩
        rw [d,bindC_get (by rw [kc]; decide) hn h1]
      · exact List.mem_map.mpr ⟨(y,c),mem_of_lookup hc,rfl⟩
      · obtain ⟨y,hy,rfl⟩:=List.mem_map.mp hc
        have hm:env.cells.lookup y.1 = some y.2:=by
          rw [ec]
          refine lookup_of_mem_nodup ?_ (by rw [<- ec]; exact hy)
          rw [cellsFrom_names scope.names 0 (s.heap.objs.size + 1) [] [] rfl] at hnd
          exact hnd
        obtain ⟨o,g,d⟩:=x.cell _ _ hm
        exact ⟨o,_,g,d⟩
      · obtain ⟨c,hc⟩:=Option.isSome_iff_exists.mp (cellsFrom_some (x:=y) scope.names (s.heap.objs.size + 1) [] (.inl (by rw [<- ek]; exact hy)))
        exact ⟨c,by rw [ec]; exact hc⟩
      · exact name_of_addr x.apart (mem_of_lookup h1) (mem_of_lookup h2)
    · show c ∈ owned ({ env:=env,ρ:=ρ,own:=env.cells.map (·.2),real:=true } :: W.K)
      exact List.mem_flatMap.mpr ⟨_,.head _,List.mem_map.mpr ⟨(y,c),mem_of_lookup hc,rfl⟩⟩
  · refine ⟨Nat.le_refl _,fun _ _=>⟨rfl,rfl⟩,fun i h1 h2=>absurd h2 (Nat.not_lt.mpr h1),live_of k,fun a q=>.inl (by simpa [Wd.under,Wd.z] using q),fun a o e _=>k a o e,rfl,rfl⟩
end
end Mine
end
section
set_option maxHeartbeats 1000000
set_option maxRecDepth 20000
namespace Mine
open PySem PySem.W PyProof.Rows PySem.MeetsSeq
section
variable {cx:Cx} {Kf:Frag} {A:Around} {W W₀:Wd} {s s₀:Shared} {n:Nat} {env:PySem.Env} {ρ:Env} {C:Oracle} {F:FrameI} {r:List FrameI}
theorem back_to {W':Wd} {s1 s':Shared} {ρ':Env} (X1:Ext W s (W.under F) s1) (K:W'.K = F.at ρ' :: W.K) (X:Ext (W.under F) s1 W' s') (hl:s.heap.objs.size <= F.env.locals) (ho:∀ c ∈ F.own,s.heap.objs.size <= c):Ext W s { W' with K:=W.K } s':=by
  have X2:Ext W s W' s':=X1.trans (fun a ha q=>by
    refine q.elim fun G q=>?_
    rcases List.mem_cons.mp q.1 with rfl | hG
    · exact q.2.elim (fun z=>absurd (z ▸ ha) (Nat.not_lt.mpr hl)) fun z=>absurd ha (Nat.not_lt.mpr (ho a z))
    · exact ⟨G,hG,q.2⟩) X
  exact ⟨X2.n,X2.same,X2.new,X2.live,fun a q=>.inl q,X2.keep,X2.gens,X2.os⟩
theorem z_back {W':Wd} {ρ':Env} (K:W'.K = F.at ρ' :: W.K) (hacc:F.acc = []):({ W' with K:=W.K }:Wd).z = W'.z:=by
  show (⟨_,W.K.flatMap (·.acc)⟩:Sz) = ⟨_,W'.K.flatMap (·.acc)⟩
  rw [K,List.flatMap_cons,show (F.at ρ').acc = [] from hacc]; rfl
theorem sc_zero {tab:String -> Option Fn}:SC cx (callF tab 0) 0:=fun f a args vs A W s _ _ _ _ Q E _ _ hf=>absurd rfl hf
noncomputable def BodyS (cx:Cx) (sc:Sc) (body:List PySem.Stmt) (b:List St):Prop:=∀ (C:Oracle) (A:Around) (n:Nat) (F:FrameI) (r:List FrameI),SC cx C n -> F.real = true -> F.env.scope.names = sc -> SES cx A n F r (execs body F.env) (exs C b)
noncomputable def FnSee (cx:Cx) (Kf:Frag) (a:Addr) (fn:Fn):Prop:=∃ fd ds body,FnOk cx Kf a fn fd ds /\ fd.body = .stmts body /\ BodyS cx fd.scope.names body fn.body
theorem callF_some {tab:String -> Option Fn} {f:String} {fn:Fn} {args:List V} (h1:tab f = some fn) (h2:bindTo fn.params args fn.dflts = some ρ):callF tab (n + 1) f args = M.bind (exs (callF tab n) fn.body ρ) retOf:=by
  show (match (tab f).bind fun fn=>(bindTo fn.params args fn.dflts).map fun ρ=>(fn,ρ) with | some p=>M.bind (exs (callF tab n) p.1.body p.2) retOf | none=>M.fail) = _
  rw [h1,Option.bind_some,h2]; rfl
theorem callF_none {tab:String -> Option Fn} {f:String} {args:List V} (h:∀ fn ρ,tab f = some fn -> bindTo fn.params args fn.dflts = some ρ -> False):callF tab (n + 1) f args = M.fail:=by
  show (match (tab f).bind fun fn=>(bindTo fn.params args fn.dflts).map fun ρ=>(fn,ρ) with | some p=>M.bind (exs (callF tab n) p.1.body p.2) retOf | none=>M.fail) = _
  generalize e:tab f = o
  rcases o with _ | fn
  · rfl
  · rw [Option.bind_some]
    generalize e':bindTo fn.params args fn.dflts = o
    rcases o with _ | ρ
    · rfl
    · exact (h fn ρ e e').elim
set_option tactic.hygienic true in
theorem sc_step (G:Gx cx Kf) {tab:String -> Option Fn} (H:∀ f fn a,tab f = some fn -> cx.fn f = some a -> FnSee cx Kf a fn) (S:SC cx (callF tab n) n):SC cx (callF tab (n + 1)) (n + 1):=by
  intro f a args vs A W s hfa AO I rs Q E hq he hf
  refine Classical.byContradiction fun no=>hf ?_
  rw [callF_none fun fn ρ h1 h2=>no ?_]; rfl
  clear no
  rw [callF_some h1 h2] at hq he hf
  refine cps fun G9 k9=>?_
  obtain ⟨fd,ds,body,B,hbody,hB⟩:=H f fn a h1 hfa
  obtain ⟨binds,c⟩:=B.binds (G.In I) rs h2
  obtain ⟨o,ho,hd⟩:=B.base.look
  refine k9 ?_
  have hroom:A.depth < recursionLimit:=Nat.lt_of_le_of_lt (Nat.le_trans (Nat.le_add_right _ _) AO.depth) (by decide)
  refine codeAny_call_function hroom (G.In I _ _ ho) hd B.base.co B.base.gen hbody (B.base.code.keeps I.base) (c.to _ _ _ _ ?_)
  rw [B.base.clo,B.base.glob,B.base.bi]
  refine wpAny_newFunctionEnv_cells B.base.kind (fun y hy=>(c.kind y hy).imp id fun z=>⟨z,cellsFrom_some fd.scope.names _ [] (.inl z)⟩) fun env he' s1 x=>?_
  have el:env.locals = s.heap.objs.size:=by rw [he']; rfl
  have z:=enter_call (cx:=cx) (ρ:=ρ) I B.base.kind B.cells he' x c.rel c.nd c.kind
  have I1:=z.1
  have X1:=z.2.1
  have ek:=z.2.2
  clear z
  refine ⟨G.gd.nolimit.keeps I1.base,codeAny_func ?_⟩
  have e5:∀ c ∈ env.cells.map (·.2),s.heap.objs.size <= c:=fun c hc=>(List.mem_map.mp hc).elim fun y q=>q.2 ▸ Nat.le_of_lt (el ▸ x.above y.1 y.2 q.1)
  have hl:s.heap.objs.size <= env.locals:=Nat.le_of_eq el.symm
  clear x
  generalize hF:({ env:=env,ρ:=ρ,own:=env.cells.map (·.2),real:=true }:FrameI) = F at I1 X1
  have e1:F.env = env:=by rw [<- hF]
  have e2:F.real = true:=by rw [<- hF]
  have e3:F.acc = []:=by rw [<- hF]
  have e4:F.at ρ = F:=by rw [<- hF]; rfl
  have e6:F.own = env.cells.map (·.2):=by rw [<- hF]
  clear hF
  rw [<- e6] at e5
  rw [<- e1] at hl
  have K1:(W.under F).K = F.at ρ :: W.K:=by rw [e4]; rfl
  have AO1:AOk (A.deeper env) (W.under F).K n:=by
    refine ⟨AO.handled,?_,?_,?_⟩
    · show A.frames.map (env :: ·) = _
      rw [AO.frames,show (W.under F).K = F :: W.K from rfl,reals_t e2,e1]; rfl
    · have:=AO.depth; show A.depth + 1 + 3 * n <= 600; lia
    · have:=AO.units; show A.units + 3 + 60 * n <= 9000; lia
  have R:=hB (callF tab n) (A.deeper env) n F W.K S e2 (by rw [e1,ek]) (W.under F) s1 ρ K1 AO1 I1
  rw [e1] at R
  refine R _ _ ⟨fun fl s2 fl' ρ' W2 e I2 X2 K2 rf=>?_,fun ev s2 m k c W2 ρ' e I2 X2 K2 ex=>?_,M.bind_ne hf⟩
  · have eb:M.bind (exs (callF tab n) fn.body ρ) retOf W.σ = _:=M.bind_ok (g:=retOf) e
    have ez:=z_back (W:=W) K2 e3
    have I3:=I2.leave K2
    have X3:=back_to X1 K2 X2 hl e5
    rcases fl' with _ | _ | v
    · cases (show fl = .next from rf)
      exact hq .none s2 .none { W2 with K:=W.K } eb I3 X3 rfl rfl
    · exact absurd eb hf
    · exact rf.elim fun u rf=>rf.1 ▸ hq u s2 v { W2 with K:=W.K } eb I3 X3 rfl (by show VRel cx W2.φ ({ W2 with K:=W.K }:Wd).z s2.heap v u; rw [ez]; exact rf.2)
  · have eb:M.bind (exs (callF tab n) fn.body ρ) retOf W.σ = _:=M.bind_raise (g:=retOf) e
    have hL:F.env.frame = some F.env.locals:=frame_of I2 K2 e2
    have X3:=back_to X1 K2 X2 hl e5
    have X2':Ext W s W2 s2:=⟨X3.n,X3.same,X3.new,X3.live,fun a q=>.inl (by rw [<- z_back (W:=W) K2 e3] at q; exact q),X3.keep,X3.gens,X3.os⟩
    refine cps fun G9 k9=>?_
    obtain ⟨ea,oe,evs,rfl,yx,t⟩:=(ex.back X1).ex I2 X2' (fun G hG=>by
      rw [K2] at hG
      exact (List.mem_cons.mp hG).elim (fun z=>.inr (z ▸ gone hl)) fun hG=>.inl (.inr ⟨G,hG,.inl rfl⟩))
    refine k9 ?_
    have hfr:(A.deeper env).frames = some (reals W2.K):=AO1.frames.trans (by rw [K1,K2,reals_at])
    have L:=exc_leave (F:=F.at ρ') (Q:=fun _ s3=>Back Q E (.error (.ref ea)) s3) (E:=fun e' s3=>Back Q E (.error e') s3) hfr K2 e2 hL yx (tb_top K2 hL t) fun h' oe' vs' y' t'=>?_
    · rw [show (F.at ρ').env = env from e1] at L
      exact L
    · have x':=y'.x
      have X4:=y'.X
      have nm:∀ b,¬ Mut W2 b -> ¬ Mut { W2 with K:=W.K } b:=fun b h z=>h (z.imp_right fun z=>z.imp fun G q=>⟨by rw [K2]; exact .tail _ q.1,q.2⟩)
      exact he (.ref ea) _ m k c { W2 with K:=W.K } eb (y'.I.leave K2) ⟨X4.n,X4.same,X4.new,X4.live,fun a q=>.inl q,X4.keep,X4.gens,X4.os⟩ rfl ⟨ea,oe',vs',rfl,⟨x'.get,x'.cls,x'.data,x'.size,x'.ctx,x'.dict.imp fun dx z=>z.imp fun mm z=>⟨z.1,z.2.1,z.2.2.1,z.2.2.2.1,z.2.2.2.2.1,nm _ z.2.2.2.2.2⟩,x'.base,nm _ x'.nm,x'.new⟩,.inr ⟨_,t',.inl rfl⟩⟩
theorem sc_all (G:Gx cx Kf) {tab:String -> Option Fn} (H:∀ f fn a,tab f = some fn -> cx.fn f = some a -> FnSee cx Kf a fn):∀ n,SC cx (callF tab n) n
  | 0=>sc_zero
  | n + 1=>sc_step G H (sc_all G H n)
end
end Mine
end
section
set_option maxHeartbeats 2000000
set_option maxRecDepth 100000
namespace Mine
open PySem PySem.W PyProof.Rows PySem.MeetsSeq
structure LEg (cx:Cx) (Kf:Frag) (f:Addr) (fd:FuncData) (p:Nat -> Pos) (kk:Nat -> Nat) (tk:Tok):Prop where
  base:FnBase cx Kf f fd [("self" : Str),"message","spot"] [.int 0 tk]
  body:fd.body = .stmts (leBody p kk)
  line:((p 1).endLine == (p 4).line) = true
  ncell:∀ x ∈ fd.scope.names,x.2 ≠ .cell
  n1:fd.scope.names.lookup ("self" : Str) = some .local
  n2:fd.scope.names.lookup ("message" : Str) = some .local
  n3:fd.scope.names.lookup ("spot" : Str) = some .local
  n4:fd.scope.names.lookup ("Exception" : Str) = some .globalImplicit
structure LEf (cx:Cx) (Kf:Frag) (TF f:Addr):Prop where
  find:findIn Kf (.ref TF) "__init__" = some (some (.ref f))
  ty:typeIn Kf (.ref f) = some (.type "function")
  ok:∃ fd p kk tk,LEg cx Kf f fd p kk tk
section
variable {cx:Cx} {Kf:Frag} {A:Around} {E:Value -> Shared -> Prop} {W:Wd} {s:Shared} {TF D f:Addr} {n:Nat}
set_option tactic.hygienic true in
theorem dead_nm (I:Inv cx W s.heap) {b:Addr} (hb:s.heap.get? b = none):¬ Mut W b:=by
  rintro (⟨i,hi,q⟩ | ⟨F,hF,q | q⟩)
  · obtain ⟨⟨o1,g1,_⟩,o2,g2,_⟩:=(I.obj i hi).noCell
    exact q.elim (fun q=>none_some ((q ▸ hb).symm.trans g1)) fun q=>none_some ((q ▸ hb).symm.trans g2)
  · obtain ⟨m,⟨o,es,ep,g,_⟩,_⟩:=(I.frm.mem F hF).ns
    rw [q,g] at hb; cases hb
  · obtain ⟨o,v,g,_⟩:=(I.frm.mem F hF).cellAt b q
    rw [g] at hb; cases hb
theorem LEg.bind2 {fd:FuncData} {p:Nat -> Pos} {kk:Nat -> Nat} {tk:Tok} (Z:LEg cx Kf f fd p kk tk) (X:Kf.In s.heap) (v u:Value):BindsTo s fd ⟨[v,u],[]⟩ [("self",v),("message",u),("spot",.int 0 tk)] :=
  bind_gen (vals:=[v,u]) Z.base.pos Z.base.kwo Z.base.vararg Z.base.kwarg Z.base.args Z.base.nd (Z.base.dflt s X) (Nat.le_succ 2) Z.base.dlen (Nat.le_refl 3)
theorem LEg.bind3 {fd:FuncData} {p:Nat -> Pos} {kk:Nat -> Nat} {tk:Tok} (Z:LEg cx Kf f fd p kk tk) (X:Kf.In s.heap) (v u x:Value):BindsTo s fd ⟨[v,u,x],[]⟩ [("self",v),("message",u),("spot",x)] :=
  bind_gen (vals:=[v,u,x]) Z.base.pos Z.base.kwo Z.base.vararg Z.base.kwarg Z.base.args Z.base.nd (Z.base.dflt s X) (Nat.le_refl 3) Z.base.dlen (Nat.le_succ 3)
theorem tf_args {fd:FuncData} {p:Nat -> Pos} {kk:Nat -> Nat} {tk:Tok} (z:LEg cx Kf f fd p kk tk) {args:List V} {vs:List Value} {t:String} {i:Int} (ha:args = [.str t] /\ i = 0 \/ args = [.str t,.int i]) (rs:RVs cx W s.heap args vs) {P:Prop}
    (k:∀ vm vi,(∃ t',vm = .str (Str.ofString t) t') -> (∃ t',vi = .int i t') -> vs.length <= 2 ->
      (∀ A Q E (s:Shared) v,Kf.In s.heap -> Q [("self",v),("message",vm),("spot",vi)] s -> wpAny cx.m A (bindArgs fd ⟨v :: vs,[]⟩) Q E s) -> P):P:=by
  rcases ha with ⟨rfl,rfl⟩ | rfl
  · obtain ⟨u,_,rfl,ru,rfl⟩:=rs
    exact k u (.int 0 tk) ru ⟨tk,rfl⟩ (Nat.le_succ _) fun A Q E s v k q=>z.bind2 k v u _ _ _ _ q
  · obtain ⟨u,_,rfl,ru,x,_,rfl,rx,rfl⟩:=rs
    exact k u x ru rx (Nat.le_refl _) fun A Q E s v k q=>z.bind3 k v u x _ _ _ _ q
set_option tactic.hygienic true in
theorem makes_TF (G:Gx cx Kf) (T:TFo cx Kf TF D) (Y:LEo cx Kf TF) (Z:LEf cx Kf TF f):MakesTF cx TF n:=by
  intro A W s args vs t i hfr hdep hun I rs ha Q E hq
  refine cps fun G9 k9=>?_
  obtain ⟨oc,ho,⟨⟩⟩:=T.obj
  obtain ⟨fd,p,kk,tk,z⟩:=Z.ok
  obtain ⟨o,z1,z2⟩:=z.base.look
  refine k9 ?_
  have X:=G.In I
  refine tf_args z ha rs fun vm vi hm hi hvs hbind=>?_
  obtain ⟨hp,g,d,tks,os⟩:=s
  dsimp only at X I
  refine T_call (X _ _ ho) (by rw [sizeLine_eq]; lia) (looks_findIn X Z.find) (fun self=>bind_fn X self Z.ty) ?_
  generalize hH:(hp.push { cls:=.type "tuple",data:=.seq vs.toArray }).push (excNew TF hp.objs.size) = H
  have kH:∀ b o,hp.get? b = some o -> H.get? b = some o:=fun b o e=>by rw [<- hH]; exact Heap.get?_push_of_some _ (Heap.get?_push_of_some _ e)
  have he:H.get? (hp.objs.size + 1) = some (excNew TF hp.objs.size):=by rw [<- hH]; heap_get
  have he0:hp.get? (hp.objs.size + 1) = none:=gone (Nat.le_succ _)
  have hsz:H.objs.size = hp.objs.size + 1 + 1:=by rw [<- hH,Heap.size_push,Heap.size_push]
  have XH:Kf.In H:=fun a o e=>kH a o (X a o e)
  refine codeAny_call_function (by show A.depth + 1 < 1000; lia) (XH _ _ z1) z2 z.base.co z.base.gen z.body ((z.base.code.keeps I.base).keeps kH) ?_
  refine hbind _ _ _ _ _ XH ?_
  rw [z.base.clo,z.base.glob,z.base.bi]
  refine wpAny_newFunctionEnv z.ncell (fun y hy=>?_) (fun h' hn' hs'=>?_) z.base.kind
  · simp only [List.mem_cons,List.not_mem_nil,or_false] at hy
    rcases hy with rfl | rfl | rfl
    · exact z.n1
    · exact z.n2
    · exact z.n3
  dsimp only at hn' hs'
  have kh':∀ b o,H.get? b = some o -> h'.get? b = some o:=fun b o e=>(hs'.2 b (Nat.ne_of_lt (Heap.lt_size e))).trans (Heap.get?_push_of_some _ e)
  have k0':∀ b o,hp.get? b = some o -> h'.get? b = some o:=fun b o e=>kh' b o (kH b o e)
  refine ⟨G.gd.nolimit.keeps fun b o e=>k0' b o (I.base b o e),codeAny_func ?_⟩
  refine le_walk (h₀:=hp) G T Y I.base (e:=hp.objs.size + 1) (t0:=hp.objs.size) (vm:=vm) (vi:=vi) (m:=fun x=>([(("self" : Str),Value.ref (hp.objs.size + 1)),(("message" : Str),vm),(("spot" : Str),vi)]:List (Str × Value)).reverse.lookup x) z.line z.base.kind rfl rfl z.n1 z.n2 z.n3 z.n4 ⟨hn',k0',by show hp.objs.size <= H.objs.size; rw [hsz]; lia⟩ rfl rfl rfl (kh' _ _ he) he0 ?_
  intro h2 tk2 oe evs dx mm a1 a2 a3 a4 a5 a6 a7 a8 a9 a10 a11 a12
  refine ⟨rfl,?_⟩
  refine hq (.ref (hp.objs.size + 1)) _ (I.keeps a1) (Ext.keeps (s:=⟨hp,g,d,tks,os⟩) a1 rfl rfl) ⟨hp.objs.size + 1,oe,evs,rfl,⟨a2,⟨TF,T.glb,a3⟩,a5,a6,fun _=>a8,?_,?_,?_,he0⟩,a7⟩
  · refine ⟨dx,mm,a4,a9,?_,?_,?_,?_⟩
    · obtain ⟨t',rfl⟩:=hm; exact ⟨t',a10⟩
    · obtain ⟨t',rfl⟩:=hi; exact ⟨t',a11⟩
    · cases z:cx.base.get? dx with
      | none=>rfl
      | some ob=>have:=I.base _ _ z; rw [a12] at this; cases this
    · exact dead_nm (s:=⟨hp,g,d,tks,os⟩) I a12
  · cases z:cx.base.get? (hp.objs.size + 1) with
    | none=>rfl
    | some ob=>have:=I.base _ _ z; rw [he0] at this; cases this
  · exact dead_nm (s:=⟨hp,g,d,tks,os⟩) I he0
end
end Mine
end
section
set_option maxHeartbeats 2000000
set_option maxRecDepth 100000
namespace Mine
open PySem PySem.W PyProof.Rows PySem.MeetsSeq
theorem entry_unchain:entryFor table "proto.unchain" = some Builtin.«proto.unchain» := entryFor_of_tree (by kernel_rfl)
section
variable {cx:Cx} {Kf:Frag} {A:Around} {W W₀:Wd} {s s₀:Shared} {n:Nat} {env:PySem.Env} {ρ:Env} {C:Oracle} {F:FrameI} {r:List FrameI} {TF D:Addr} {a:Addr} {oe:Obj} {vs:Array Value} {m:String} {k:Int} {c:Bool}
set_option tactic.hygienic true in
theorem get_ne {h:Heap} {a b:Addr} {o o':Obj} {vs:Array Value} (x:h.get? b = some o) (y:h.get? a = some o') (d:o'.data = .fields vs) (q:(match o.data with | .fields _=>true | _=>false) = false):b ≠ a:=fun z=>by
  rw [z,y] at x
  cases x
  rw [d] at q
  cases q
set_option tactic.hygienic true in
theorem EX.put (i:Nat) (v:Value) (y:EX cx W₀ s₀ W s a oe vs m k true) :
    ∃ oe',EX cx W₀ s₀ W { s with heap:=s.heap.update a (Obj.mapFields (·.setIfInBounds i v)) } a oe' (vs.setIfInBounds i v) m k true /\ Heap.SameBut a s.heap (s.heap.update a (Obj.mapFields (·.setIfInBounds i v))) /\ oe'.cls = oe.cls:=by
  have hd₃:=Obj.data_mapFields y.x.data (·.setIfInBounds i v)
  have he₃:=Heap.get?_update_self (Obj.mapFields (·.setIfInBounds i v)) y.x.get (Obj.isFreed_of_fields hd₃)
  have hs:=Heap.SameBut.update s.heap a (Obj.mapFields (·.setIfInBounds i v))
  have a1:=y.x
  have as:=fields_aside y.I a1.get a1.data a1.base
  have kp:∀ b o,s.heap.get? b = some o -> ¬ b = a -> (s.heap.update a (Obj.mapFields (·.setIfInBounds i v))).get? b = some o:=fun b o e nb=>(hs.2 b nb).trans e
  refine ⟨_,⟨y.I.aside (· = a) (fun b q=>q ▸ as) kp (fun b q _=>by subst q; exact ⟨_,he₃⟩),y.X.aside (s₂:={ s with heap:=s.heap.update a (Obj.mapFields (·.setIfInBounds i v)) }) (· = a) (fun b q=>.inl (q ▸ a1.new)) kp rfl rfl,
    ⟨he₃,by rw [Obj.cls_mapFields]; exact a1.cls,hd₃,by simp [a1.size],(fun q=>by cases q),?_,a1.base,a1.nm,a1.new⟩,y.fr⟩,hs,Obj.cls_mapFields _ _⟩
  obtain ⟨dx,mm,d1,d2,r⟩:=a1.dict
  refine ⟨dx,mm,?_,d2.sameBut hs fun q=>?_,r⟩
  · exact (dict_mapF y.x.data).trans d1
  · rw [q] at d2
    obtain ⟨_,_,z⟩:=Ns.notSeq d2 a1.get
    rw [a1.data] at z; cases z
set_option tactic.hygienic true in
theorem EX.weaken (y:EX cx W₀ s₀ W s a oe vs m k c):EX cx W₀ s₀ W s a oe vs m k true :=
  ⟨y.I,y.X,⟨y.x.get,y.x.cls,y.x.data,y.x.size,(fun q=>by cases q),y.x.dict,y.x.base,y.x.nm,y.x.new⟩,y.fr⟩
theorem raise_from {oc:Obj} (ho:ExcO TF D oc) {x cz:Sem Value} {Q:PySem.Flow -> Shared -> Prop} {E:Value -> Shared -> Prop} {b:Addr} (hh:A.handled = some (.ref b)) (hcz:∀ (Q:Value -> Shared -> Prop) E s,Q .none s -> wpAny cx.m A cz Q E s)
    (h:wpAny cx.m A x (fun v s₁=>∃ a oe vs ob bvs,v = .ref a /\ a ≠ b /\ s₁.heap.get? TF = some oc /\ oe.cls = .ref TF /\ vs[1]? = some .none /\ EX cx W₀ s₀ W s₁ a oe vs m k true /\
      s₁.heap.get? b = some ob /\ ob.data = .fields bvs /\ bvs[2]? = some .none /\ ∀ h' oe' vs',EX cx W₀ s₀ W { s₁ with heap:=h' } a oe' vs' m k true -> vs'[1]? = some .none -> E (.ref a) { s₁ with heap:=h' }) E s) :
    wpAny cx.m A (raiseStmt env (some x) (some cz)) Q E s:=by
  refine cps fun G9 k9=>?_
  obtain ⟨⟩:=ho
  refine k9 ?_
  have hcB:(Value.ref TF :: bmT D).contains (.type "BaseException") = true:=rfl
  unfold raiseStmt
  refine wpAny_bind (wpAny_mono h (fun v s₁ h₁=>?_) fun _ _ x=>x)
  refine cps fun G9 k9=>?_
  obtain ⟨a,oe,vs,ob,bvs,rfl,nab,hC,hcl,h1,y,hb,hbd,hb2,hE⟩:=h₁
  obtain ⟨hp,g,d,tk,os⟩:=s₁
  refine k9 ?_
  have he:=y.x.get
  have hd:=y.x.data
  dsimp only at hC he hb
  refine wpAny_bind (wpAny_holding (hcz _ _ _ (wpAny_bind (wpAny_pure ?_))))
  repeat (first | (with_reducible refine wpAny_loadPart_at he ?_; rw [hcl]) | with_reducible refine wpAny_loadPart_at hC ?_ | (with_reducible refine wpAny_isSubtype_exc hC ?_; rw [hcB]) | wp_step)
  rw [hd]
  refine wpAny_mono (Q:=fun _ s'=>_) (E:=E) (show wpAny _ _ (if 3 < vs.size then _ else _) _ _ _ from ?_) (fun _ _ z=>z) fun _ _ z=>z
  rw [if_pos (by rw [y.x.size]; decide)]
  refine wpAny_update he ?_
  refine cps fun G9 k9=>?_
  obtain ⟨oe1,y1,hs1,hc1⟩:=y.put 3 .none
  refine k9 ?_
  generalize hp.update a (Obj.mapFields (·.setIfInBounds 3 .none)) = h1' at y1 hs1
  refine wpAny_bind (wpAny_setField y1.x.get y1.x.data (by rw [y1.x.size]; decide) ?_)
  refine cps fun G9 k9=>?_
  obtain ⟨oe2,y2,hs2,hc2⟩:=y1.put 4 (.bool true)
  refine k9 ?_
  generalize h1'.update a (Obj.mapFields (·.setIfInBounds 4 (.bool true))) = h2' at y2 hs2
  have he2:=y2.x.get
  have hd2:=y2.x.data
  have hcl2:oe2.cls = .ref TF:=hc2.trans (hc1.trans hcl)
  have nTF:TF ≠ a:=get_ne hC he hd rfl
  have hC2:h2'.get? TF = _:=(hs2.2 _ nTF).trans ((hs1.2 _ nTF).trans hC)
  have h12:((vs.setIfInBounds 3 .none).setIfInBounds 4 (.bool true))[1]? = some .none:=by
    rw [Array.getElem?_setIfInBounds_ne (by decide),Array.getElem?_setIfInBounds_ne (by decide)]; exact h1
  have hb':h2'.get? b = some ob:=(hs2.2 _ (Ne.symm nab)).trans ((hs1.2 _ (Ne.symm nab)).trans hb)
  dsimp only at he2 hC2
  repeat (first | (with_reducible refine wpAny_loadPart_at he2 ?_; rw [hcl2]) | with_reducible refine wpAny_loadPart_at hC2 ?_ | (with_reducible refine wpAny_isSubtype_exc hC2 ?_; rw [hcB]) | with_reducible refine wpAny_field he2 hd2 h12 ?_ | wp_step)
  unfold raiseNew
  refine wpAny_bind (wpAny_handled ?_)
  rw [hh]
  have hne:(Value.ref b != Value.ref a) = true:=bne_iff_ne.mpr fun z=>nab (Value.ref.inj z).symm
  simp only [hne,if_true]
  refine wpAny_bind (wpAny_holding (wpAny_runValue (codeAny_builtin entry_unchain ?_)))
  unfold Builtin.«proto.unchain»
  refine wpAny_bind (wpAny_field hb' hbd hb2 ?_)
  refine wpAny_pure ?_
  show wpAny _ _ (updateField a 2 (.ref b) >>= _) _ _ _
  unfold updateField
  refine wpAny_bind (wpAny_bind (wpAny_load he2 ?_))
  rw [hd2]
  refine wpAny_mono (Q:=fun _ s'=>_) (E:=E) (show wpAny _ _ (if 2 < ((vs.setIfInBounds 3 .none).setIfInBounds 4 (.bool true)).size then _ else _) _ _ _ from ?_) (fun _ _ z=>z) fun _ _ z=>z
  rw [if_pos (by rw [y2.x.size]; decide)]
  refine wpAny_update he2 ?_
  refine cps fun G9 k9=>?_
  obtain ⟨oe3,y3,hs3,hc3⟩:=y2.put 2 (.ref b)
  refine k9 ?_
  refine wpAny_throw (hE _ oe3 _ y3 ?_)
  rw [Array.getElem?_setIfInBounds_ne (by decide)]; exact h12
end
end Mine
end
section
set_option maxHeartbeats 2000000
set_option maxRecDepth 20000
namespace Mine
open PySem PySem.W PyProof.Rows PySem.MeetsSeq
section
variable {cx:Cx} {Kf:Frag} {A:Around} {W W₀:Wd} {s s₀:Shared} {n:Nat} {env:PySem.Env} {ρ:Env} {C:Oracle} {F:FrameI} {r:List FrameI} {TF D:Addr} {a:Addr} {oe:Obj} {vs:Array Value} {m:String} {k:Int} {c:Bool}
set_option tactic.hygienic true in
theorem Inv.topLocal {h h':Heap} {ρ':Env} {m':Str -> Option Value} (I:Inv cx W h) (hK:W.K = F.at ρ :: r) (hn:h'.Ns F.env.locals m') (hs:Heap.SameBut F.env.locals h h')
    (hv:Sta W.φ W.z h W.φ W.z h' -> ∀ x V,x ≠ ".0" -> ρ' x = some V -> VarAt cx W h' F.env m' x V):Inv cx (W.top (F.at ρ')) h':=by
  have FO:=I.frm.mem (F.at ρ) (by rw [hK]; exact .head _)
  obtain ⟨m0,hn0,_⟩:=FO.ns
  have cne:∀ {c:Addr} {o:Obj} {v},h.get? c = some o -> o.data = .cell v -> c ≠ F.env.locals:=fun e d q=>by
    rw [q] at e
    obtain ⟨_,_,z⟩:=Ns.notSeq hn0 e
    rw [d] at z; cases z
  refine I.topTurn (F':=F.at ρ') hK (.inl rfl) hs rfl rfl rfl fun S=>?_
  have hz:(W.top (F.at ρ')).z = W.z:=top_z hK rfl
  refine ⟨FO.kind,FO.glob,FO.bi,FO.fr,⟨m',hn,fun x V hx e=>?_⟩,FO.cell,fun c hc=>?_,FO.cellOf,FO.cellInj⟩
  · have S':Sta W.φ W.z h W.φ W.z h':=by rw [hz] at S; exact S
    have:=hv S' x V hx e
    unfold VarAt at this ⊢
    rw [hz]
    exact this
  · obtain ⟨o,v,e,d⟩:=FO.cellAt c hc
    exact ⟨o,v,(hs.2 c (cne e d)).trans e,d⟩
theorem EX.topLocal {h':Heap} {tk:Nat} {ρ₀ ρ':Env} {m':Str -> Option Value} (y:EX cx W₀ s₀ W s a oe vs m k c) (h0:W₀.K = F.at ρ₀ :: r) (hK:W.K = F.at ρ :: r) (hn:h'.Ns F.env.locals m') (hs:Heap.SameBut F.env.locals s.heap h')
    (hv:Sta W.φ W.z s.heap W.φ W.z h' -> ∀ x V,x ≠ ".0" -> ρ' x = some V -> VarAt cx W h' F.env m' x V):EX cx W₀ s₀ (W.top (F.at ρ')) { s with heap:=h',toks:=tk } a oe vs m k c:=by
  have I2:=y.I.topLocal hK hn hs hv
  have k2:(W.top (F.at ρ')).K = F.at ρ' :: r:=by unfold Wd.top; rw [hK]; rfl
  have mutI:∀ b,Mut W b ↔ Mut (W.top (F.at ρ')) b:=fun b=>by
    unfold Mut
    rw [hK,k2]
    simp only [List.mem_cons,exists_eq_or_imp]
    exact Iff.rfl
  have nl:∀ b,¬ Mut W b -> b ≠ F.env.locals:=fun b z q=>z (.inr ⟨F.at ρ,by rw [hK]; exact .head _,.inl q⟩)
  refine cps fun G9 k9=>?_
  obtain ⟨o',_,_,g',_⟩:=id hn
  refine k9 ?_
  have X2:Ext W s (W.top (F.at ρ')) { s with heap:=h',toks:=tk }:=Ext.topTurn (F:=F.at ρ) (F':=F.at ρ') hK rfl (.inl rfl) hs ⟨o',g'⟩ rfl rfl
  have a1:=y.x
  refine ⟨I2,y.X.at h0 hK X2,⟨(hs.2 _ (nl _ a1.nm)).trans a1.get,a1.cls,a1.data,a1.size,a1.ctx,?_,a1.base,fun z=>a1.nm ((mutI _).mpr z),a1.new⟩,fun G hG=>?_⟩
  · obtain ⟨dx,mm,d1,d2,d3,d4,d5,d6⟩:=a1.dict
    exact ⟨dx,mm,d1,d2.sameBut hs (nl _ d6),d3,d4,d5,fun z=>d6 ((mutI _).mpr z)⟩
  · exact locals_fr h0 k2 G hG
end
end Mine
end
section
set_option maxHeartbeats 4000000
set_option maxRecDepth 20000
namespace Mine
open PySem PySem.W PyProof.Rows PySem.MeetsSeq
structure TFg (Kf:Frag) (TF:Addr):Prop where
  ga:findIn Kf (.ref TF) "__getattribute__" = some (some (.builtin "BaseException.__getattribute__"))
  gt:findIn Kf (.ref TF) "__getattr__" = some none
  base:mroIn Kf TF (.type "BaseException") = some true
section
variable {cx:Cx} {Kf:Frag} {A:Around} {W W₀:Wd} {s s₀:Shared} {n:Nat} {env:PySem.Env} {ρ:Env} {C:Oracle} {F:FrameI} {r:List FrameI} {TF D:Addr} {a:Addr} {oe:Obj} {vs:Array Value} {m:String} {k:Int} {c:Bool}
theorem exc_message (G:Gx cx Kf) (Y:LEo cx Kf TF) (Z:TFg Kf TF) {Q:Value -> Shared -> Prop} {E:Value -> Shared -> Prop} {expr:Bool} (y:EX cx W₀ s₀ W s a oe vs m k c) (hcl:oe.cls = .ref TF)
    (h:∀ t,Q (.str (Str.ofString m) t) { s with toks:=s.toks + 1 }):wpAny cx.m A (getAttr (.ref a) ("message" : Str) expr) Q E s:=by
  have X:=G.In y.I
  refine cps fun G9 k9=>?_
  obtain ⟨dx,mm,d1,d2,⟨t,d3⟩,d4⟩:=y.x.dict
  obtain ⟨od,ho,hl⟩:=lookIn_ns d2
  refine k9 ?_
  have IA:InstAt s.heap a oe TF (some od):=by
    refine ⟨y.x.get,hcl,?_,?_⟩
    · unfold notCls; rw [y.x.data]
    · rw [d1]; exact ho
  refine exc_getAttr X IA Z.ga Z.gt Z.base ?_ rfl (h t)
  refine cps fun G9 k9=>?_
  obtain ⟨cd,hc,hd⟩:=any_some Y.dict
  refine k9 ?_
  unfold findObj
  rw [hc,show findIn Kf (.ref TF) ("message" : Str) = some none from Y.msg]
  simp only [Option.bind_some,PySem.W.ownOf,hd,if_true,(hl _).trans (congrArg some d3)]
theorem passOn_ok {what:String} {Q:PySem.Flow -> Shared -> Prop} {E:Value -> Shared -> Prop} {env:PySem.Env} {fl:Value} (y:EX cx W₀ s₀ W s a oe vs m k c) (t:TbOk cx s₀.heap s.heap a vs fl)
    (h:∀ h',EX cx W₀ s₀ W { s with heap:=h' } a oe vs m k c -> TbOk cx s₀.heap h' a vs (env.frame.elim .none fun f=>rawInt f) -> E (.ref a) { s with heap:=h' }):wpAny cx.m A (PySem.passOn what (.ref a) env:Sem PySem.Flow) Q E s:=by
  unfold PySem.passOn
  obtain ⟨T,h1⟩:=t.ne
  refine wpAny_bind (wpAny_field y.x.get y.x.data h1 ?_)
  rw [if_neg (show ¬ ((Value.ref T == Value.none) = true) from by simp)]
  refine wpAny_bind (exc_flight y t fun h' y' t'=>wpAny_throw (h h' y' t'))
theorem EX.tok {tk:Nat} (y:EX cx W₀ s₀ W s a oe vs m k c):EX cx W₀ s₀ W { s with toks:=tk } a oe vs m k c :=
  ⟨y.I,⟨y.X.n,y.X.same,y.X.new,y.X.live,y.X.hid,y.X.keep,y.X.gens,y.X.os⟩,y.x,y.fr⟩
set_option tactic.hygienic true in
theorem TbOk.sameBut {h₀ h h':Heap} {L:Addr} {fl:Value} {mm:Str -> Option Value} (t:TbOk cx h₀ h a vs fl) (hn:h.Ns L mm) (hs:Heap.SameBut L h h'):TbOk cx h₀ h' a vs fl:=by
  refine cps fun G9 k9=>?_
  obtain ⟨T,oT,ts,h1,hT,hd,h3,z⟩:=t
  refine k9 ?_
  refine ⟨T,oT,ts,h1,(hs.2 T fun q=>?_).trans hT,hd,h3,z⟩
  rw [q] at hT
  refine cps fun G9 k9=>?_
  obtain ⟨_,_,zz⟩:=Ns.notSeq hn hT
  refine k9 ?_
  rw [hd] at zz; cases zz
theorem note_s {r:List FrameI} {L:Addr} {Q:Unit -> Shared -> Prop} {E:Value -> Shared -> Prop} (hfr:A.frames = some (reals W.K)) (hK:W.K = F :: r) (hr:F.real = true) (hL:F.env.frame = some L) (y:EX cx W₀ s₀ W s a oe vs m k c)
    (t:vs[1]? = some .none \/ ∃ fl,TbOk cx s₀.heap s.heap a vs fl /\ (fl = .none \/ fl = rawInt L))
    (h:∀ s' oe' vs',EX cx W₀ s₀ W s' a oe' vs' m k c -> TbOk cx s₀.heap s'.heap a vs' (rawInt L) -> Q () s'):wpAny cx.m A (noteFrame (.ref a) F.env) Q E s :=
  exc_note hfr hK hr hL y t fun _ oe' vs' y' t'=>h _ oe' vs' y' t'
theorem flight_s {fr:Option Addr} {Q:Unit -> Shared -> Prop} {E:Value -> Shared -> Prop} {fl:Value} (y:EX cx W₀ s₀ W s a oe vs m k c) (t:TbOk cx s₀.heap s.heap a vs fl)
    (h:∀ s',EX cx W₀ s₀ W s' a oe vs m k c -> TbOk cx s₀.heap s'.heap a vs (fr.elim .none fun f=>rawInt f) -> Q () s'):wpAny cx.m A (setFlight (.ref a) fr) Q E s :=
  exc_flight y t fun _ y' t'=>h _ y' t'
noncomputable def reShape (c:PySem.Expr) (fn y:Str) (kk:Nat) (p:Nat -> Pos):PySem.Stmt :=
  .Try [.Expr c (p 1)] [.ExceptHandler (some (.Name ("TypeFault" : Str) (p 3))) (some fn) [.Raise (some (.Call (.Name ("TypeFault" : Str) (p 5)) [.Attribute (.Name fn (p 6)) ("message" : Str) (p 7),.Name y (p 8)] [] (p 9))) (some (.Constant .none kk (p 10))) (p 11)] (p 12)] [] [] (p 13)
set_option tactic.hygienic true in
theorem ses_rethrow (G:Gx cx Kf) (T:TFo cx Kf TF D) (MK:MakesTF cx TF n) (Y:LEo cx Kf TF) (Z:TFg Kf TF) (hr:F.real = true) {o:Ex} {m:String} {l:List Ex} {c:PySem.Expr} {fn yy:Str} {kk:Nat} {p:Nat -> Pos} (hc:isCall c = true) (h1:∀ ρ,SV cx A n F.env ρ (eval c F.env) (ev C ρ (.meth o m l)))
    (h4:isGlob F.env.scope.names ("TypeFault" : Str) = true) (h7':isLoc F.env.scope.names fn = true) (h11:(fn == ("__debug__" : Str)) = false) (hy:okN yy = true) (hky:kindVar F.env.scope.names yy = true) (hne:yy ≠ fn):SES cx A n F r (exec (reShape c fn yy kk p) F.env) (ex1 C (.rethrow o m l (toS yy))):=by
  intro W s ρ hK AO I Q E pp
  have ey:=okN_eq hy
  have g0:=okN_0 hy
  have gd:=okN_d hy
  have h7:=isLoc_eq h7'
  clear hy h7'
  generalize toS yy = y at ey g0 pp
  subst ey
  have g4:=hky
  have h12:=hne
  have hkf:F.env.scope.kind = .function:=at_kind I hK
  have hi:interactive F.env = false:=by unfold interactive; rw [hkf]; rfl
  have hs:=swaps_call0 (env:=F.env) (l:=(p 1).line) hc
  have pp:SPost cx F r W s (M.bind (ofOpt (ρ y)) (fun i=>reTry (ev C ρ (.meth o m l)) i ρ) W.σ) Q E:=pp
  refine cps fun GG kk9=>?_
  obtain ⟨i,ei⟩:∃ i,ρ y = some i:=by
    generalize ρ y = oo at pp
    rcases oo with _ | i
    · exact absurd rfl pp.nf
    · exact ⟨i,rfl⟩
  rw [ei] at pp
  have pp:SPost cx F r W s (reTry (ev C ρ (.meth o m l)) i ρ W.σ) Q E:=pp
  refine kk9 (wpAny_Try_except (wpAny_execs_cons ?_))
  rw [exec_Expr F.env _ (p 1) hi hs]
  refine wpAny_bind (wpAny_standAt (wpAny_bind (h1 ρ W s (here_at hK) AO I _ _ (fun vv s1 a W1 e1 I1 X1 k1 r1=>?_) (fun ev s1 mm kk2 c W1 e1 I1 X1 k1 ex=>?_) fun e=>pp.nf (by unfold reTry; rw [e]))))
  · refine wpAny_dropValue (wpAny_execs_nil (wpAny_execs_nil ?_))
    exact pp.ok .next s1 .next ρ W1 (by unfold reTry; rw [e1]) I1 X1 (k1.trans hK) rfl
  · unfold reTry at pp
    rw [e1] at pp
    rcases c with _ | _
    case true=>exact absurd rfl pp.nf
    obtain ⟨j,rfl⟩:∃ j,i = .int j:=by
      have q:=pp.nf
      clear pp ei
      rcases i with _ | _ | j | _ | _ | _ | _ | _ <;> first | exact ⟨_,rfl⟩ | exact absurd rfl q
    have ey:ρ y = some (.int j):=ei
    obtain ⟨oc,ho,ho'⟩:=T.obj
    have K1:=k1.trans hK
    have hL:=frame_of I1 K1 hr
    obtain ⟨a,oe,vs,rfl,yx,tb⟩:=ex.ex I1 X1 (locals_fr hK K1)
    refine note_s (F:=F.at ρ) (AO.of k1).frames K1 hr hL yx (tb_top K1 hL tb) fun s2 oe2 vs2 y2 t2=>?_
    refine flight_s y2 t2 fun s3 y3 t3=>?_
    obtain ⟨TF',g1,g2⟩:=y3.x.cls
    obtain rfl:TF = TF':=by cases g1.symm.trans T.glb; rfl
    refine wpAny_handleBy_cons (codeAny_handlers_test ?_) (by intro q; cases q)
    refine name_global (W:=W1) (ρ:=ρ) y3.I (here_at K1) (isGlob_eq h4) (by decide) (show LoadsG cx.base ("TypeFault" : Str) (.ref TF) from T.load) ?_
    refine exc_matches ho' (G.In y3.I _ _ ho) y3.x.get g2 ?_
    show codeAny _ _ _ _ _
    refine codeAny_handlers_suite_as (flight_s y3 t3 fun s4 y4 t4=>?_)
    obtain ⟨mF,hn,hv⟩:=(y4.I.frm.mem (F.at ρ) (by rw [K1]; exact .head _)).ns
    refine wpAny_storeName_local h7 hn (fun h5' hn5 hs5=>?_) (by rw [hkf]; rfl)
    generalize hρ:(fun z=>if Str.ofString z = fn then none else ρ z:Env) = ρ2
    have y5:=y4.topLocal (tk:=s4.toks + 1) (ρ':=ρ2) hK K1 hn5 hs5 (fun S x V hx e=>by
      rw [<- hρ] at e
      dsimp only at e
      by_cases q:Str.ofString x = fn
      · rw [if_pos q] at e; cases e
      · rw [if_neg q] at e
        have old:=hv x V hx e
        have cne:∀ {c:Addr} {o:Obj} {v},s4.heap.get? c = some o -> o.data = .cell v -> c ≠ F.env.locals:=fun e d q=>by
          rw [q] at e
          obtain ⟨_,_,z⟩:=Ns.notSeq hn e
          rw [d] at z; cases z
        refine ⟨fun kd=>?_,fun kd=>?_⟩
        · obtain ⟨v,e1,e2⟩:=old.1 kd
          exact ⟨v,(if_neg q).trans e1,VRel.mono S e2⟩
        · obtain ⟨c,o,v,e1,e2,e3,e4⟩:=old.2 kd
          exact ⟨c,o,v,e1,(hs5.2 c (cne e2 e3)).trans e2,e3,VRel.mono S e4⟩)
    generalize hW2:W1.top (F.at ρ2) = W2 at y5
    have K2:W2.K = F.at ρ2 :: r:=by rw [<- hW2]; simp [Wd.top,K1]
    have eσ:W2.σ = W1.σ:=by rw [<- hW2]; rfl
    have hfr2:(A.mark (some (.ref a))).frames = some (reals W2.K):=by
      show A.frames = _
      rw [AO.frames,hK,K2,reals_at]
    refine wpAny_execs_cons ?_
    rw [arm_exec_Raise]
    refine wpAny_bind (wpAny_standAt ?_)
    refine raise_from (W₀:=W) (s₀:=s) (W:=W2) (m:=mm) (k:=j) (b:=a) ho' rfl (fun Q E s h=>wpAny_bind (wpAny_pure (wpAny_bind (wpAny_standAt (wpAny_pure h))))) ?_
    refine wpAny_bind ?_
    rw [eval_call rfl]
    refine wpAny_bind (name_global (W:=W2) (ρ:=ρ2) y5.I (here_at K2) (isGlob_eq h4) (by decide) (show LoadsG cx.base ("TypeFault" : Str) (.ref TF) from T.load) ?_)
    have hsx:=any_star (env:=F.env) (p:=p 9) (l:=[.Attribute (.Name fn (p 6)) "message" (p 7),.Name (Str.ofString y) (p 8)]) rfl
    refine callWith_of (P:=fun hp=>∃ k,(k = Keeper.frame \/ k = Keeper.machine \/ k = Keeper.boundFrame) /\ Looks cx.m hp (keeperOf (.ref TF)) k) (by rw [hsx.1]; rfl) (fun _ z=>z) (evalArgs_any hsx.1 ?_)
    rw [starEach_plain rfl,starEach_plain rfl]
    unfold spliced
    rw [arm_eval_Attribute,base_plain rfl]
    refine wpAny_bind (wpAny_bind (ld_local hkf h7 hn5 (if_pos rfl) h11 (wpAny_bind (wpAny_standAt (wpAny_bind (wpAny_holding (exc_message G Y Z y5 g2 fun t1=>wpAny_bind (wpAny_letTemporaryGo (wpAny_pure ?_)))))))))
    refine wpAny_bind (wpAny_pure (wpAny_bind (wpAny_holding ?_)))
    unfold spliced
    have y6:=y5.tok (tk:=s4.toks + 1 + 1)
    have ey2:ρ2 y = some (.int j):=by rw [<- hρ]; dsimp only; rw [if_neg h12]; exact ey
    refine wpAny_bind (load_var (W:=W2) (ρ:=ρ2) y6.I (here_at K2) g0 gd g4 ey2 fun v2 rv2=>wpAny_bind (wpAny_pure (wpAny_bind (wpAny_holding (wpAny_pure (wpAny_pure (wpAny_pure ?_)))))))
    refine ⟨⟨.machine,.inr (.inl rfl),fun A' Q' E' s2 k3 q3=>?_⟩,?_⟩
    · obtain ⟨hp,g,d,t,os⟩:=s2
      obtain ⟨⟩:=ho'
      exact wpAny_keeperOf_exc (k3 _ _ (G.In y6.I _ _ ho)) q3
    have rs:RVs cx W2 h5' [.str mm,.int j] [.str (Str.ofString mm) t1,v2]:=VRels.cons (show ∃ _,_ from ⟨t1,rfl⟩) (VRels.cons rv2 VRels.nil)
    refine MK (A.mark (some (.ref a))) W2 _ [.str mm,.int j] [.str (Str.ofString mm) t1,v2] mm j hfr2 (Nat.le_trans AO.depth (by decide)) (Nat.le_trans AO.units (by decide)) y6.I rs (.inr rfl) _ _ fun v7 s7 I7 X7 rx=>wpAny_bind (wpAny_standAt (wpAny_pure ?_))
    obtain ⟨b,ob,bvs,rfl,x0,hbv⟩:=rx
    obtain ⟨TF2,u1,u2⟩:=x0.cls
    obtain rfl:TF = TF2:=by cases u1.symm.trans T.glb; rfl
    have nba:b ≠ a:=fun z=>by have:=x0.new; rw [z,y6.x.get] at this; cases this
    refine ⟨b,ob,bvs,oe2,vs2,rfl,nba,G.In I7 _ _ ho,u2,hbv,?_,X7.keep _ _ y6.x.get y6.x.nm,y6.x.data,y6.x.ctx rfl,fun h8 ob8 bvs8 yb hb1=>?_⟩
    · exact ⟨I7,y6.X.at hK K2 X7,⟨x0.get,x0.cls,x0.data,x0.size,(fun z=>by cases z),x0.dict,x0.base,x0.nm,y6.X.live _ x0.new⟩,locals_fr hK K2⟩
    have hL2:(F.at ρ2).env.frame = some F.env.locals:=hL
    refine note_s (F:=F.at ρ2) hfr2 K2 hr hL2 yb (.inl hb1) fun s9 ob9 bvs9 y9 t9=>?_
    obtain ⟨m9,hn9,_⟩:=(y9.I.frm.mem (F.at ρ2) (by rw [K2]; exact .head _)).ns
    refine wpAny_nameGoes h7 hn9 (by rw [hkf]; rfl) fun h10' m10 hn10 hs10=>?_
    have y10:=y9.topLocal (tk:=s9.toks + 1) (ρ':=fun _=>none) hK K2 hn10 hs10 (fun S x V hx e=>by cases e)
    have t10:=t9.sameBut hn9 hs10
    have K3:(W2.top (F.at fun _=>none)).K = F.at (fun _=>none) :: r:=by unfold Wd.top; rw [K2]; rfl
    refine passOn_ok y10 t10 fun h11' y11 t11=>?_
    unfold notedBy
    have hfr3:(A.mark (some (.ref a))).frames = some (reals (W2.top (F.at fun _=>none)).K):=by rw [hfr2,K2,K3,reals_at]
    refine note_s (F:=F.at fun _=>none) hfr3 K3 hr hL2 y11 (.inr ⟨_,t11,.inr (by rw [hL]; rfl)⟩) fun s12 ob12 bvs12 y12 t12=>?_
    refine exc_came y12 t12 fun h13' y13 t13=>?_
    exact pp.raise (.ref b) _ mm j true (W2.top (F.at fun _=>none)) (fun _=>none) (by rw [show (W2.top (F.at fun _=>none)).σ = W1.σ from eσ]; rfl) y13.I y13.X K3 ⟨b,ob12,bvs12,rfl,y13.x,.inr ⟨_,t13,.inr ⟨F.env.locals,flight_top K3 hL,by rw [hL]; rfl⟩⟩⟩
end
end Mine
end
section
set_option maxHeartbeats 1000000
set_option maxRecDepth 20000
namespace Mine
open PySem PySem.W PyProof.Rows PySem.MeetsSeq
section
variable {cx:Cx} {A:Around} {E:Value -> Shared -> Prop} {R:Result -> Shared -> Prop} {s:Shared}
theorem start_inner {elt t0 i0 c0 target iter:PySem.Expr} {scope:PySem.Scope} {pos:Pos} {it acc:Value} {env:PySem.Env}
    (h0:codeAny cx.m A (.compLoop (.ListComp elt [⟨t0,i0,[c0],0⟩,⟨target,iter,[],0⟩] scope pos) 1 it acc env) R s)
    (h:wpAny cx.m A (pyIter it) (fun it' s'=>codeAny cx.m A (.compLoop (.ListComp elt [⟨t0,i0,[c0],0⟩,⟨target,iter,[],0⟩] scope pos) 1 it' acc env) R s') (notedBy cx.m A env fun x s'=>R (.error x) s') s) :
    codeAny cx.m A (.compStart (.ListComp elt [⟨t0,i0,[c0],0⟩,⟨target,iter,[],0⟩] scope pos) 1 it acc env) R s:=by
  refine codeAny_of_tree ?_
  show wpAny _ A ((compStart (.ListComp elt [⟨t0,i0,[c0],0⟩,⟨target,iter,[],0⟩] scope pos) 1 it acc env).onRaise (fun x=>do noteFrame x env; standAt theWindowsPlace)) _ _ s
  refine wpAny_notedAt ?_
  unfold compStart
  show wpAny _ _ (ask >>= _) _ _ s
  refine wpAny_bind (wpAny_askSetting (wpAny_ite ?_))
  split
  · first
      | exact wpAny_bind (wpAny_pure (wpAny_pure (And.intro rfl h0)))
      | exact wpAny_pure (And.intro rfl h0)
  · refine wpAny_bind (wpAny_rule ?_)
    show wpAny _ _ (standAt iter.pos >>= _) _ _ s
    exact wpAny_bind (wpAny_standAt (wpAny_bind (wpAny_mono h (fun it' s' h'=>wpAny_pure (And.intro rfl h')) fun _ _ x=>x)))
theorem turn_gen {e:PySem.Expr} {d:Nat} {it acc:Value} {env:PySem.Env} {x:Str} {px p:Pos} {ifs:List PySem.Expr} {rest:Sem Unit}
    (h:compTurn e d it acc env = (standAt p >>= fun _=>pyNext it >>= fun r=>match r with
      | none=>pure (.done .next)
      | some v=>letOwnedTupleGo (.Name x px) it v >>= fun _=>assign (.Name x px) env v >>= fun _=>testsT ifs env >>= fun ok=>if ok = true then (rest >>= fun _=>again (.compLoop e d it acc env)) else again (.compLoop e d it acc env))) :
    TurnEq e d it acc env (.Name x px) (testsT ifs env >>= fun ok=>if ok = true then rest else pure ()):=fun M A Q E s hq=>by
  rw [h]
  refine wpAny_bind (wpAny_standAt (wpAny_bind (wpAny_mono hq (fun r s₁ h₁=>?_) fun _ _ h'=>h')))
  rcases r with _ | v
  · exact wpAny_pure h₁
  · refine wpAny_bind (wpAny_of_eq rfl (wpAny_bind (wpAny_mono h₁ (fun _ s₂ h₂=>?_) fun _ _ h'=>h')))
    have e1:=congrArg (fun t=>wpAny M A t Q E s₂) ((congrArg (testsT ifs env >>= ·) (funext fun ok=>(show (if ok = true then rest >>= fun _=>again (.compLoop e d it acc env) else again (.compLoop e d it acc env)) = ((if ok = true then rest else pure ()) >>= fun _=>again (.compLoop e d it acc env)) from by rcases ok with _ | _ <;> rfl))).trans (bind_assoc _ _ _).symm)
    exact e1.mpr (wpAny_bind (wpAny_mono h₂ (fun _ s₃ h₃=>wpAny_pure h₃) fun _ _ h'=>h'))
end
noncomputable def innerB (e it2:PySem.Expr) (acc:Value) (env:PySem.Env):Sem Unit:=eval it2 env >>= fun x=>standAt it2.pos >>= fun _=>foldedSetIterable it2 env x >>= fun x=>holding [x] (pyIter x) >>= fun it1=>runOwn (.compStart e 1 it1 acc env) env >>= fun _=>pure ()
section
variable {cx:Cx} {Kf:Frag} {A:Around} {W W':Wd} {s s':Shared} {n:Nat} {env cenv:PySem.Env} {ρ:Env} {C:Oracle} {K₀:List FrameI} {D I:Addr} {ys:List V}
theorem Ext.drop (X:Ext (W.ph cenv [D,I]) s W' s') (hI:s.heap.get? I = none):Ext (W.ph cenv [D]) s W' s' :=
  ⟨X.n,X.same,X.new,X.live,X.hid,fun a o e nm=>X.keep a o e fun z=>nm (by
    rcases mut_ph z with z | z | z
    · exact z.imp_right fun z=>z.imp fun G q=>⟨.tail _ q.1,q.2⟩
    · exact .inr ⟨_,.head _,.inl z⟩
    · rcases List.mem_cons.mp z with z | z
      · exact ph_mut (List.mem_singleton.mpr z)
      · exact none_some (hI.symm.trans (List.mem_singleton.mp z ▸ e))),X.gens,X.os⟩
set_option tactic.hygienic true in
theorem body_two {x y:String} {px py:Pos} {elt i0 c0 it2:PySem.Expr} {sc:PySem.Scope} {pos:Pos} {f:PySem.Expr -> Ex} (AO:AOk A K₀ n) (hb:cx.base.get? D = none) (hy:cenv.kindOf (Str.ofString y) = some .local) (hset:notSet it2 = true) (H:∀ ρ,Both cx A n cenv ρ C f) :
    Body cx A cenv K₀ D x (ρ.unset y) (turnG C ρ x (f c0) y (f it2) (f elt)) (testsT [c0] cenv >>= fun ok=>if ok = true then innerB (.ListComp elt [⟨.Name (Str.ofString x) px,i0,[c0],0⟩,⟨.Name (Str.ofString y) py,it2,[],0⟩] sc pos) it2 (.ref D) cenv else pure ()):=fun W s v ys zs σ' E c hh hok hl=>by
  refine cps fun G k=>?_
  obtain ⟨b,σ2,h3,h1⟩:=M.bind_eq_ok hok
  refine k (wpAny_bind ((se_tests (H _) [c0] W s hh (c.ao AO) c.inv).ok h3 fun b' s1 W1 e1 I1 X1 k1 rb=>?_))
  have c1:=c.step I1 X1 k1
  cases (show b = b' from rb)
  rcases b with _ | _
  · cases h1
    exact wpAny_pure ⟨W1,e1,by rw [List.append_nil]; exact c1,X1.ph⟩
  refine cps fun G k=>?_
  obtain ⟨l2,σ3,h2,h4⟩:=M.bind_eq_ok h1
  have hh1:=hh.of k1
  refine k (wpAny_bind ((se_items (H _ it2).1 W1 s1 hh1 (c1.ao AO) I1).ok (e1 ▸ h2) fun vx s4 W4 e4 I4 X4 k4 rit=>?_))
  have c4:=c1.step I4 X4 k4
  have hh4:=hh1.of k4
  refine wpAny_bind (wpAny_standAt (wpAny_bind (wpAny_of_eq (folded_plain hset _) (wpAny_bind (wpAny_holding (rit.new AO.handled fun o P1 St1 J1 fp1 _ _ _ It1 st1 j1=>?_))))))
  have kp:=push_keeps s4.heap o
  have g4:s4.heap.get? s4.heap.objs.size = none:=gone (Nat.le_refl _)
  refine cps fun G k=>?_
  obtain ⟨F,hK,fc⟩:=c4.frame
  obtain ⟨F',r',hK',e5,e6⟩:=hh4
  obtain ⟨rfl,rfl⟩:=List.cons.inj (hK.symm.trans hK')
  obtain ⟨vals,⟨mD,eD⟩,rr⟩:=c4.acc
  refine k ?_
  have nh:s4.heap.objs.size ∉ W4.z.hid:=fun q=>(I4.accL _ q).elim fun o' e'=>none_some (g4.symm.trans e')
  have cy:CS cx cenv K₀ D y ((ρ.unset y).set x v) W4 { s4 with heap:=s4.heap.push o } ys :=
    ⟨⟨F,hK,fc.env,fc.real,fc.own,fc.acc,fun z V _ e=>by rw [e6]; exact e⟩,I4.keeps kp,⟨vals,⟨mD,kp _ _ eD⟩,VRels.mono (Sta.of_keeps kp) rr⟩,c4.nD⟩
  have hW:∀ G ∈ K₀,G ∈ W4.K:=fun G hG=>by rw [hK]; exact .tail _ hG
  rw [mapItems_flat] at h4
  have go:∀ RR:Result -> Shared -> Prop,(∀ W' s',W'.σ = σ' -> CS cx cenv K₀ D y ((ρ.unset y).set x v) W' s' (ys ++ zs) -> Ext (W4.ph cenv [D,s4.heap.objs.size]) s4 W' s' -> RR (.ok .next) s') -> codeAny cx.m A (.compLoop (.ListComp elt [⟨.Name (Str.ofString x) px,i0,[c0],0⟩,⟨.Name (Str.ofString y) py,it2,[],0⟩] sc pos) 1 (.ref s4.heap.objs.size) (.ref D) cenv) RR { s4 with heap:=s4.heap.push o }:=fun RR hR =>
    comp_loop (W₀:=W4) (s₀:=s4) (turn_gen (p:=it2.pos) (ifs:=[]) (rest:=emitB elt (.ref D) cenv) rfl) It1 hy (body_one (C:=C) (ct:=fun _=>M.ret true) (et:=fun u=>ev C (((ρ.unset y).set x v).set y u) (f elt)) AO hb (fun u W s hh AO I=>Snd.pure I rfl) fun u=>(H _ elt).1) (I4.nothing (Nat.le_refl _)).1 g4 (fun q=>none_some (g4.symm.trans (q ▸ eD))) hW l2 0 W4 _ ys zs (fun j=>(Nat.zero_add j).symm ▸ rfl) (Nat.zero_add _) cy
      ⟨st1,j1,fresh_nm I4 (Nat.le_refl _),nh⟩ (Ext.keeps (W:=W4) (s:=s4) (s':={ s4 with heap:=s4.heap.push o }) kp rfl rfl).ph (e4 ▸ h4) hl hR
  have fin:∀ W' s',W'.σ = σ' -> CS cx cenv K₀ D y ((ρ.unset y).set x v) W' s' (ys ++ zs) -> Ext (W4.ph cenv [D,s4.heap.objs.size]) s4 W' s' -> ∃ W',W'.σ = σ' /\ CS cx cenv K₀ D x (ρ.unset y) W' s' (ys ++ zs) /\ Ext (W.ph cenv [D]) s W' s':=fun W' s' e' c' X'=>by
    refine ⟨W',e',⟨c'.frame.imp fun F7 q=>⟨q.1,q.2.env,q.2.real,q.2.own,q.2.acc,fun z V hz e=>?_⟩,c'.inv,c'.acc,c'.nD⟩,?_⟩
    · by_cases w:z = y
      · exact none_some ((if_pos w).symm.trans e)
      · exact q.2.le z V w ((if_neg hz).trans e)
    · have X14:=X1.trans' k1 X4
      exact X14.ph.via (X'.drop g4) (fun a q=>q) hK fc.env fc.own fun G hG=>by rw [<- k1,<- k4]; exact hW G hG
  refine wpAny_bind (wpAny_runOwn (h:=none) (codeAny_mono (show codeAny cx.m (A.mark none) _ _ _ from start_inner (go (fun r s6=>match r with | .ok _=>∃ W',W'.σ = σ' /\ CS cx cenv K₀ D x (ρ.unset y) W' s6 (ys ++ zs) /\ Ext (W.ph cenv [D]) s W' s6 | .error e=>cameBackBy cx.m A cenv E e s6) fin) (It1.walks.self 0 _ _ _ st1 (go _ fin))) fun r s₆ h₆=>?_))
  rcases r with e | f
  · exact h₆
  · exact wpAny_pure h₆
end
end Mine
end
section
set_option maxHeartbeats 1000000
namespace Mine
open PySem PySem.W PyProof.Rows PySem.MeetsSeq
noncomputable def twoGs (x y:Str) (i0 c0 it2:PySem.Expr) (p:Nat -> Pos):List PySem.Comprehension:=[⟨.Name x (p 0),i0,[c0],0⟩,⟨.Name y (p 1),it2,[],0⟩]
noncomputable def twoShape (z x y:Str) (elt i0 c0 it2:PySem.Expr) (s:PySem.Scope) (p:Nat -> Pos):PySem.Stmt:=.Assign [.Name z (p 3)] (.ListComp elt (twoGs x y i0 c0 it2 p) s (p 2)) (p 4)
inductive StOk (sc:Sc) (m:Nat):PySem.Stmt -> St -> Prop where
  | tr (c:PySem.Stmt):StOk sc m c (trS 8 sc m c)
  | tryRet {y v:Str} {e:PySem.Expr} {kk:Nat} {p:Nat -> Pos} (h:(okN y && isLoc sc y && isCall e && isGlob sc ("TypeFault" : Str) && okS v) = true):StOk sc m (tryShape y e v kk p) (.tryRet (toS y) (trE 30 sc m e) (toS v))
  | re {c:PySem.Expr} {fn y:Str} {kk:Nat} {p:Nat -> Pos} {o:Ex} {a:String} {l:List Ex} (h:(isCall c && isGlob sc ("TypeFault" : Str) && isLoc sc fn && !(fn == ("__debug__" : Str)) && okN y && kindVar sc y && !(y == fn)) = true) (e:trE 30 sc m c = .meth o a l):StOk sc m (reShape c fn y kk p) (.rethrow o a l (toS y))
  | two {z x y:Str} {elt i0 c0 it2:PySem.Expr} {s:PySem.Scope} {p:Nat -> Pos} (h:(okN z && lcOk sc z (p 3) (.ListComp elt (twoGs x y i0 c0 it2 p) s (p 2)) && okN x && okN y && compScope sc s [x,y] && notSet i0 && notSet it2) = true) :
      StOk sc m (twoShape z x y elt i0 c0 it2 s p) (.asgF (toS z) (trE 30 (relabelSc sc s.names) m elt) (toS x) (trE 30 sc m i0) (trE 30 (relabelSc sc s.names) m c0) (toS y) (trE 30 (relabelSc sc s.names) m it2))
inductive BlOk (sc:Sc) (m:Nat):List PySem.Stmt -> List St -> Prop where
  | nil:BlOk sc m [] []
  | cons {c b d e} (h:StOk sc m c d) (r:BlOk sc m b e):BlOk sc m (c :: b) (d :: e)
theorem BlOk.map {sc:Sc} {m:Nat}:∀ b:List PySem.Stmt,BlOk sc m b (b.map (trS 8 sc m))
  | []=>.nil
  | c :: b=>.cons (.tr c) (BlOk.map b)
section
variable {cx:Cx} {Kf:Frag} {A:Around} {W W':Wd} {s s':Shared} {n:Nat} {env:PySem.Env} {ρ:Env} {C:Oracle} {F:FrameI} {r:List FrameI} {TF D f:Addr}
theorem turn_outer {elt i0 c0 it2:PySem.Expr} {x y:Str} {px py:Pos} {sc:PySem.Scope} {pos:Pos} {it acc:Value}:TurnEq (.ListComp elt [⟨.Name x px,i0,[c0],0⟩,⟨.Name y py,it2,[],0⟩] sc pos) 0 it acc env (.Name x px) (testsT [c0] env >>= fun ok=>if ok = true then innerB (.ListComp elt [⟨.Name x px,i0,[c0],0⟩,⟨.Name y py,it2,[],0⟩] sc pos) it2 acc env else pure ()):=by
  refine turn_gen (p:=i0.pos) ?_
  unfold innerB
  simp only [bind_assoc,pure_bind]
  rfl
theorem comp_two {x y:Str} {elt i0 c0 it2:PySem.Expr} {sc:PySem.Scope} {p:Nat -> Pos} {f g:PySem.Expr -> Ex} (hx:okN x = true) (hy:okN y = true) (hs:compScope env.scope.names sc [x,y] = true) (h1:notSet i0 = true) (h2:notSet it2 = true) (Hf:∀ ρ,Both cx A n env ρ C f) (Hg:∀ (cenv:PySem.Env) ρ,cenv.scope.names = relabelSc env.scope.names sc.names -> Both cx A n cenv ρ C g) :
    CompIs cx A n env ρ elt sc (p 2) (twoGs x y i0 c0 it2 p) (compG (M.bind (ev C ρ (f i0)) itemsOf) (flatItems (turnG C ρ (toS x) (g c0) (toS y) (g it2) (g elt)))):=by
  have ex:=okN_eq hx
  have ey:=okN_eq hy
  clear hx hy
  generalize toS x = x' at ex
  generalize toS y = y' at ey
  subst ex ey
  refine .mk (xs:=[x',y']) (ρ1:=ρ.unset y') (compSc hs) (.head _) (fun z V q e=>?_) h1 (se_items (Hf ρ i0).1) fun K AO cenv D I hn hk hb=>⟨_,turn_outer,body_two AO hb (hk y' (.tail _ (.head _))) h2 fun ρ=>Hg cenv ρ hn⟩
  by_cases w:z = y'
  · exact none_some ((if_pos w).symm.trans e)
  · exact (if_neg fun u=>(List.mem_cons.mp u).elim q fun u=>w (List.mem_singleton.mp u)).trans ((if_neg w).symm.trans e)
variable (G:Gx cx Kf) (S:SC cx C n) (T:TFo cx Kf TF D) (Y:LEo cx Kf TF) (Z:TFg Kf TF) (L:LEf cx Kf TF f) (hr:F.real = true)
include G S T Y Z L hr
theorem ses_stOk {m:Nat} {c:PySem.Stmt} {d:St} (h:StOk F.env.scope.names m c d):SES cx A n F r (exec c F.env) (ex1 C d):=by
  have MK:=makes_TF (n:=n) G T Y L
  have H:=fun ρ=>both (cx:=cx) (A:=A) (n:=n) (C:=C) G S 30 F.env.scope.names m F.env ρ rfl
  rcases h with _ | h | ⟨h,ee⟩ | h
  · exact ses_trS G S T MK hr 8 c
  · have h1:=and2 h
    have h2:=and2 h1.1
    have h3:=and2 h2.1
    have h4:=and2 h3.1
    exact ses_try G T hr H h4.1 h4.2 h3.2 h2.2 h1.2
  · have h1:=and2 h
    have h2:=and2 h1.1
    have h3:=and2 h2.1
    have h4:=and2 h3.1
    have h5:=and2 h4.1
    have h6:=and2 h5.1
    exact ses_rethrow G T MK Y Z hr h6.1 (fun ρ=>ee ▸ (H ρ _).1) h6.2 h5.2 ((Bool.not_eq_true' _).mp h4.2) h3.2 h2.2 fun e=>by rw [e,beq_self_eq_true] at h1; exact no_tf h1.2
  · have h1:=and2 h
    have h2:=and2 h1.1
    have h3:=and2 h2.1
    have h4:=and2 h3.1
    have h5:=and2 h4.1
    have h6:=and2 h5.1
    exact ses_asgC hr h6.1 h6.2 fun ρ=>comp_two h5.2 h4.2 h3.2 h2.2 h1.2 H fun cenv ρ hn=>both G S 30 _ m cenv ρ hn
theorem ses_blOk {m:Nat} {b:List PySem.Stmt} {d:List St} (h:BlOk F.env.scope.names m b d):SES cx A n F r (execs b F.env) (exs C d):=by
  induction h with
  | nil=>exact ses_nil
  | cons h _ ih=>exact ses_seq (ses_stOk G S T Y Z L hr h) ih
omit S hr
theorem body_ok {sc:Sc} {m:Nat} {b:List PySem.Stmt} {d:List St} (h:BlOk sc m b d):BodyS cx sc b d:=fun C A n F r S hr e=>ses_blOk G S T Y Z L hr (by rw [e]; exact h)
end
end Mine
end
section
set_option maxHeartbeats 1000000
set_option maxRecDepth 20000
namespace Mine
open PySem PySem.W PyProof.Rows PySem.MeetsSeq
noncomputable def clsL:List (String × Addr):=[("World",801),("Checker",753),("Infer",491),("Loop",585)]
noncomputable def fnL:List (String × Addr):=[("parts_of",108),("rebuilt",115),("type_text",151),("is_never",331),("read_int",343),("read_bool",350),("read_if",357),("read_loop",364),("left_loop",371),("read_while",378),("read_break",385),("read_continue",392),("read_return",399),("read_block",413),
  ("Infer.__init__",427),("Infer.fresh",434),("Infer.shallow",448),("Infer.resolved",453),("Infer.occurs",460),("Infer.bind",467),("Infer.are_alike",474),("Infer.unify",481),("Loop.__init__",582),
  ("Checker.__init__",603),("Checker.expr",610),("Checker.fault",617),("Checker.fresh",624),("Checker.resolved",631),("Checker.unify",638),("Checker.open",652),("Checker.close",659),("Checker.enter",729),("Checker.loop_of",736),("Checker.coerce",743),("World.__init__",791),
  ("_law_pool",812),("_law_take",819),("_law_one",826),("_law_goal",831),("_law_ring",838),("_law_plans",843),("_law_value",850),("_law_plan",857),("_law_tree",862),("_law_home",869),("_law_kind",876),("_law_join",883),("_law_gather",890),("_law_handed",897),("_law_is_never",904),("_law_due",909),("_law_read",916),("_law_rings",921),("_law_told",926),("law",933)]
noncomputable def glbL:List (String × Value):=("TypeFault",.ref 76) :: clsL.map (fun p=>(p.1,.ref p.2)) ++ fnL.map (fun p=>(p.1,.ref p.2)) ++ builtins.map (fun x=>(x,biVal x))
noncomputable def cxOf (prog:Program) (w:World) (base:Heap):Cx:=⟨prog,w,base,fun x=>glbL.lookup x,fun x=>clsL.lookup x,fun x=>fnL.lookup x⟩
set_option tactic.hygienic true in
theorem lookup_memS {α:Type} {x:String} {v:α}:∀ {l:List (String × α)},l.lookup x = some v -> (x,v) ∈ l
  | (k,u) :: r,h=>by
    rw [List.lookup_cons] at h
    by_cases q:(x == k) = true
    · rw [q] at h
      cases h
      rw [beq_iff_eq.mp q]; exact .head _
    · rw [(Bool.not_eq_true _).mp q] at h
      exact .tail _ (lookup_memS h)
theorem or_of {a b:Bool} (h:(!a || b) = true) (ha:a = true):b = true:=by rw [ha] at h; exact h
noncomputable def tokOf:Value -> Tok
  | .str _ t=>t
  | .int _ t=>t
  | _=>0
noncomputable def seqD:Data -> Option (List Value)
  | .seq xs _=>some xs.toList
  | _=>none
noncomputable def funD:Data -> Option FuncData
  | .func fd=>some fd
  | _=>none
set_option tactic.hygienic true in
theorem seqD_eq {d:Data} {l:List Value} (h:seqD d = some l):∃ m,d = .seq l.toArray m:=by
  rcases d with _ | _ | ⟨xs,m⟩ | _ | _ | _ | _ | _ | _ | _ | _ <;> first | exact none_some h | skip
  cases h
  exact ⟨m,rfl⟩
set_option tactic.hygienic true in
theorem funD_eq {d:Data} {fd:FuncData} (h:funD d = some fd):d = .func fd:=by
  rcases d with _ | _ | _ | _ | _ | _ | _ | f | _ | _ | _ <;> first | exact none_some h | skip
  cases h
  rfl
noncomputable def tupIn (K:Frag) (a:Addr):Option (List Value):=(K.lookup a).bind fun o=>if (o.cls == .type "tuple") = true then seqD o.data else none
noncomputable def fdOf (K:Frag) (a:Addr):FuncData:=((K.lookup a).bind fun o=>funD o.data).getD default
noncomputable def isFd (K:Frag) (a:Addr):Bool:=((K.lookup a).bind fun o=>funD o.data).isSome
section
variable {K:Frag} {base:Heap} {mg mb:Str -> Option Value} {prog:Program} {w:World}
theorem tup_at {a:Addr} {l:List Value} (h:tupIn K a = some l):∃ o m,K.lookup a = some o /\ o.cls = .type "tuple" /\ o.data = .seq l.toArray m:=by
  obtain ⟨o,e,h⟩:=Option.bind_eq_some_iff.mp h
  by_cases q:(o.cls == .type "tuple") = true
  · rw [if_pos q] at h
    exact (seqD_eq h).elim fun m z=>⟨o,m,e,beq_iff_eq.mp q,z⟩
  · rw [if_neg q] at h; exact none_some h
theorem tup_of (X:K.In base) {a:Addr} {l:List Value} (h:tupIn K a = some l) {h':Heap} (st:base.StaysIn h'):IsTup h' a l.toArray :=
  (tup_at h).elim fun o z=>z.elim fun m z=>⟨o,st _ _ (X _ _ z.1),z.2.1,m,z.2.2⟩
theorem fd_at {a:Addr} (h:isFd K a = true):∃ o,K.lookup a = some o /\ o.data = .func (fdOf K a):=by
  unfold isFd at h
  obtain ⟨fd,e⟩:=Option.isSome_iff_exists.mp h
  obtain ⟨o,e1,e2⟩:=Option.bind_eq_some_iff.mp e
  refine ⟨o,e1,?_⟩
  unfold fdOf
  rw [e]
  exact funD_eq e2
noncomputable def clsChk (K:Frag) (c:String) (C:Addr):Bool :=
  findIn K (.ref C) "__getattribute__" == some (some (.builtin "object.__getattribute__")) && findIn K (.ref C) "__getattr__" == some none && findIn K (.ref C) "__setattr__" == some (some (.builtin "object.__setattr__")) && plainOver K C && makesIn K C && (clsIn K C).any (·.hasDict) &&
    (attrsOf c).all (fun a=>findIn K (.ref C) (Str.ofString a) == some none) && classes.contains c
theorem clsOk_of {c:String} {C:Addr} (h:clsChk K c C = true):ClsOk K c C :=
  have h1:=and2 h
  have h2:=and2 h1.1
  have h3:=and2 h2.1
  have h4:=and2 h3.1
  have h5:=and2 h4.1
  have h6:=and2 h5.1
  have h7:=and2 h6.1
  ⟨beq_iff_eq.mp h7.1,beq_iff_eq.mp h7.2,beq_iff_eq.mp h6.2,h5.2,h4.2,h3.2,fun a ha=>beq_iff_eq.mp (List.all_eq_true.mp h2.2 a (List.contains_iff_mem.mp ha)),List.contains_iff_mem.mp h1.2⟩
noncomputable def stripC:List Char -> List Char -> Option (List Char)
  | [],r=>some r
  | a :: p,r=>match r with
    | []=>none
    | b :: r=>if (a == b) = true then stripC p r else none
theorem stripC_app:∀ (p r:List Char),stripC p (p ++ r) = some r
  | [],r=>rfl
  | a :: p,r=>(if_pos (beq_self_eq_true a)).trans (stripC_app p r)
noncomputable def methChk (K:Frag):Bool:=fnL.all fun p=>clsL.all fun q=>(stripC (q.1 ++ ".").toList p.1.toList).all fun r=>findIn K (.ref q.2) (Str.ofString (String.ofList r)) == some (some (.ref p.2)) && typeIn K (.ref p.2) == some (.type "function")
theorem meth_of (h:methChk K = true) (c:String) (C:Addr) (m:String) (f:Addr) (hc:clsL.lookup c = some C) (hf:fnL.lookup (c ++ "." ++ m) = some f):findIn K (.ref C) (Str.ofString m) = some (some (.ref f)) /\ typeIn K (.ref f) = some (.type "function"):=by
  have:=List.all_eq_true.mp (List.all_eq_true.mp h _ (lookup_memS hf)) _ (lookup_memS hc)
  dsimp only at this
  rw [String.toList_append (s:=c ++ "."),stripC_app,Option.all_some,String.ofList_toList] at this
  exact ⟨beq_iff_eq.mp (and2 this).1,beq_iff_eq.mp (and2 this).2⟩
noncomputable def globChk (K:Frag) (x:String):Bool:=(glbL.lookup x).any fun v=>nsIn K mainGlobals (Str.ofString x) == some (some v) || (nsIn K mainGlobals (Str.ofString x) == some none && bootBuiltins (Str.ofString x) == some v && !(Str.ofString x == ("__name__" : Str)))
theorem glob_of (X:K.In base) (g:base.Ns mainGlobals mg) (b:base.Ns builtinsNs mb) (hb:∀ x:Str,x ≠ "__name__" -> mb x = bootBuiltins x) {x:String} (h:globChk K x = true):∃ v,(cxOf prog w base).glb x = some v /\ LoadsG base (Str.ofString x) v:=by
  obtain ⟨v,e,h⟩:=any_some h
  refine ⟨v,e,(Bool.or_eq_true_iff.mp h).imp (fun h=>⟨mg,g,mg_of X g (beq_iff_eq.mp h)⟩) fun h=>?_⟩
  have h1:=and2 h
  have h2:=and2 h1.1
  exact ⟨mg,mb,g,mg_none_of X g (beq_iff_eq.mp h2.1),b,(hb _ fun q=>by rw [q,beq_self_eq_true] at h1; exact no_tf h1.2).trans (beq_iff_eq.mp h2.2)⟩
noncomputable def gName:V -> String
  | .g x=>x
  | _ => ""
theorem gName_eq {v:V} {x:String} (h:(gName v == x && x != "") = true):v = .g x:=by
  have h:=and2 h
  have e:=beq_iff_eq.mp h.1
  have n:=bne_iff_ne.mp h.2
  rcases v with _ | _ | _ | _ | _ | _ | _ | y
  case g=>exact congrArg _ e
  all_goals exact absurd e.symm n
noncomputable def dataNames:List String:=["UNIT","NEVER","BOOL","MOST_PARTS","MOST_DEEP"]
noncomputable def namesChk (K:Frag):Bool:=globNames.all fun x=>dataNames.contains x || ((gName (gval x) == x && x != "") && globChk K x)
noncomputable def tok1 (K:Frag) (a:Addr):Tok:=tokOf (((tupIn K a).getD []).headD .none)
noncomputable def intAt (K:Frag) (x:String):Tok:=tokOf (((nsIn K mainGlobals (Str.ofString x)).getD none).getD .none)
noncomputable def dataChk (K:Frag):List Bool:=[tupIn K 99 == some [.str ("tuple" : Str) (tok1 K 99),.ref 98],tupIn K 98 == some [],tupIn K 100 == some [.str ("never" : Str) (tok1 K 100)],tupIn K 101 == some [.str ("bool" : Str) (tok1 K 101)],
  nsIn K mainGlobals (Str.ofString "UNIT") == some (some (.ref 99)),nsIn K mainGlobals (Str.ofString "NEVER") == some (some (.ref 100)),nsIn K mainGlobals (Str.ofString "BOOL") == some (some (.ref 101)),nsIn K mainGlobals (Str.ofString "MOST_PARTS") == some (some (.int 4000 (intAt K "MOST_PARTS"))),nsIn K mainGlobals (Str.ofString "MOST_DEEP") == some (some (.int 100 (intAt K "MOST_DEEP")))]
theorem hd1 {a b:Bool} {l m:List Bool} (e:a :: l = b :: m):a = b:=(List.cons.inj e).1
theorem tl1 {a b:Bool} {l m:List Bool} (e:a :: l = b :: m):l = m:=(List.cons.inj e).2
abbrev T9:List Bool:=[true,true,true,true,true,true,true,true,true]
theorem one_of (X:K.In base) (g:base.Ns mainGlobals mg) {a:Addr} {x t:String} (h:(tupIn K a == some [.str (Str.ofString t) (tok1 K a)]) = true) (h2:(nsIn K mainGlobals (Str.ofString x) == some (some (.ref a))) = true) {cx:Cx}:∃ v,LoadsG base (Str.ofString x) v /\ ∀ φ n h,base.StaysIn h -> VRel cx φ n h (.tup [.str t]) v :=
  ⟨.ref a,.inl ⟨mg,g,mg_of X g (beq_iff_eq.mp h2)⟩,fun φ n h' st=>⟨a,_,rfl,tup_of X (beq_iff_eq.mp h) st,_,_,rfl,⟨_,rfl⟩,rfl⟩⟩
theorem int_of (X:K.In base) (g:base.Ns mainGlobals mg) {x:String} {i:Int} (h2:(nsIn K mainGlobals (Str.ofString x) == some (some (.int i (intAt K x)))) = true) {cx:Cx}:∃ v,LoadsG base (Str.ofString x) v /\ ∀ φ n h,base.StaysIn h -> VRel cx φ n h (.int i) v :=
  ⟨.int i _,.inl ⟨mg,g,mg_of X g (beq_iff_eq.mp h2)⟩,fun φ n h' st=>⟨_,rfl⟩⟩
theorem gd_of (X:K.In base) (g:base.Ns mainGlobals mg) (b:base.Ns builtinsNs mb) (hb:∀ x:Str,x ≠ "__name__" -> mb x = bootBuiltins x) (nl:base.NoLimit) (sm:∃ o,base.get? sysModules = some o) (h1:namesChk K = true) (h2:dataChk K = T9):Gd (cxOf prog w base) K:=by
  refine ⟨X,nl,sm,fun x hx=>?_⟩
  rcases Bool.or_eq_true_iff.mp (List.all_eq_true.mp h1 x hx) with q | q
  · have d1:=tl1 h2
    have d2:=tl1 d1
    have d3:=tl1 d2
    have d4:=tl1 d3
    have d5:=tl1 d4
    have d6:=tl1 d5
    have d7:=tl1 d6
    rcases List.mem_cons.mp (List.contains_iff_mem.mp q) with rfl | q
    · exact ⟨.ref 99,.inl ⟨mg,g,mg_of X g (beq_iff_eq.mp (hd1 d4))⟩,fun φ n h' st=>⟨99,_,rfl,tup_of X (beq_iff_eq.mp (hd1 h2)) st,_,_,rfl,⟨_,rfl⟩,_,_,rfl,⟨98,_,rfl,tup_of X (beq_iff_eq.mp (hd1 d1)) st,rfl⟩,rfl⟩⟩
    rcases List.mem_cons.mp q with rfl | q
    · exact one_of X g (hd1 d2) (hd1 d5)
    rcases List.mem_cons.mp q with rfl | q
    · exact one_of X g (hd1 d3) (hd1 d6)
    rcases List.mem_cons.mp q with rfl | q
    · exact int_of X g (hd1 d7)
    obtain rfl:=List.mem_singleton.mp q
    exact int_of X g (hd1 (tl1 d7))
  · obtain ⟨v,e,l⟩:=glob_of (prog:=prog) (w:=w) X g b hb (and2 q).2
    exact ⟨v,l,fun φ n h' st=>by rw [gName_eq (and2 q).1]; exact e⟩
noncomputable def handChk:List Bool:=[glbL.all (fun p=>handedIn p.2),glbL.all (fun p=>!(classes.contains p.1) || ((clsL.lookup p.1).map Value.ref == some p.2)),glbL.all (fun p=>(fnL.lookup p.1).all fun f=>p.2 == .ref f),glbL.all fun p=>!(builtins.contains p.1) || p.2 == biVal p.1]
theorem hand_ok:handChk = [true,true,true,true]:=by kernel_rfl
noncomputable def fnAtChk (K:Frag):Bool:=fnNames.all fun x=>(fnL.lookup x).any (fnIn K)
theorem gx_of (X:K.In base) (g:base.Ns mainGlobals mg) (b:base.Ns builtinsNs mb) (hb:∀ x:Str,x ≠ "__name__" -> mb x = bootBuiltins x) (nl:base.NoLimit) (sm:∃ o,base.get? sysModules = some o) (h1:namesChk K = true) (h2:dataChk K = T9)
    (h3:(nsIn K mainGlobals "TypeFault" == some (some (.ref 76))) = true) (h4:(nsIn K mainGlobals "range" == some none) = true) (h5:clsL.all (fun p=>clsChk K p.1 p.2) = true) (h6:methChk K = true) (h7:fnAtChk K = true):Gx (cxOf prog w base) K :=
  have c1:=tl1 hand_ok
  have c2:=tl1 c1
  have at_:∀ {f:String × Value -> Bool} {x v},(glbL.all f = true) -> (cxOf prog w base).glb x = some v -> f (x,v) = true:=fun h e=>List.all_eq_true.mp h _ (lookup_memS e)
  { gd:=gd_of X g b hb nl sm h1 h2
    hand:=fun x v e=>at_ (f:=fun p=>handedIn p.2) (hd1 hand_ok) e
    tf:=⟨76,by kernel_rfl,.inl ⟨mg,g,mg_of X g (beq_iff_eq.mp h3)⟩⟩
    rng:=.inr ⟨mg,mb,g,mg_none_of X g (beq_iff_eq.mp h4),b,(hb _ (by decide +kernel)).trans (by kernel_rfl)⟩
    cls:=fun c C e=>clsOk_of (List.all_eq_true.mp h5 _ (lookup_memS e))
    gcls:=fun c' v hm e=>(Option.map_eq_some_iff.mp (beq_iff_eq.mp (or_of (at_ (f:=fun p=>!(classes.contains p.1) || ((clsL.lookup p.1).map Value.ref == some p.2)) (hd1 c1) e) (List.contains_iff_mem.mpr hm)))).imp fun C z=>⟨z.2.symm,z.1⟩
    meth:=meth_of h6
    fnG:=fun x v f e1 e2=>by
      have:=at_ (f:=fun p=>(fnL.lookup p.1).all fun f=>p.2 == .ref f) (hd1 c2) e2
      rw [show fnL.lookup x = some f from e1] at this
      exact beq_iff_eq.mp this
    fnAt:=fun x hx=>any_some (List.all_eq_true.mp h7 x (List.contains_iff_mem.mp hx))
    bi:=fun x v hx e=>beq_iff_eq.mp (or_of (at_ (f:=fun p=>!(builtins.contains p.1) || p.2 == biVal p.1) (hd1 (tl1 c2)) e) (List.contains_iff_mem.mpr hx)) }
end
end Mine
end
section
set_option maxHeartbeats 0
set_option maxRecDepth 100000
namespace Mine
open PySem PySem.W PyProof.Rows PySem.MeetsSeq
noncomputable def modeL:List (String × Nat):=[("Infer.__init__",1),("Loop.__init__",1),("Checker.__init__",1),("World.__init__",1),("Infer.occurs",1),("Infer.unify",1),("_law_pool",1),("read_block",1),("_law_due",2),("law",3),("Infer.resolved",4)]
noncomputable def modeOf (f:String):Nat:=(modeL.lookup f).getD 0
noncomputable def stB:FuncBody -> Option (List PySem.Stmt)
  | .stmts b=>some b
  | _=>none
theorem stB_eq {d:FuncBody} (h:(stB d).isSome = true):d = .stmts ((stB d).getD []):=by
  rcases d with b | _
  · rfl
  · exact no_tf h
noncomputable def refA:Value -> Option Addr
  | .ref a=>some a
  | _=>none
set_option tactic.hygienic true in
theorem refA_eq {v:Value} {a:Addr} (h:refA v = some a):v = .ref a:=by
  rcases v with _ | _ | _ | _ | _ | _ | _ | _ | _ | _ | b <;> first | exact none_some h | skip
  cases h
  rfl
noncomputable def dsOf (K:Frag) (d:Value):Option (List Value):=if (d == .none) = true then some [] else (refA d).bind (tupIn K)
noncomputable def relV:V -> Value -> Bool
  | .none,v=>v == .none
  | .int i,v=>v == .int i (tokOf v)
  | _,_=>false
noncomputable def relD:List V -> List Value -> Bool
  | [],vs=>vs.isEmpty
  | x :: l,vs=>match vs with
    | []=>false
    | v :: vs=>relV x v && relD l vs
theorem relV_ok {cx:Cx} {x:V} {v:Value} (h:relV x v = true) (φ n hp):VRel cx φ n hp x v:=by
  rcases x with _ | _ | i | _ | _ | _ | _ | _
  case none=>exact beq_iff_eq.mp h
  case int=>exact ⟨_,beq_iff_eq.mp h⟩
  all_goals exact no_tf h
theorem relD_ok {cx:Cx}:∀ {l:List V} {vs:List Value},relD l vs = true -> ∀ φ n hp,VRels cx φ n hp l vs
  | [],vs,h,_,_,_=>List.isEmpty_iff.mp h
  | x :: l,[],h,_,_,_=>no_tf h
  | x :: l,v :: vs,h,φ,n,hp=>⟨v,vs,rfl,relV_ok (and2 h).1 φ n hp,relD_ok (and2 h).2 φ n hp⟩
noncomputable def baseChk (K:Frag) (fd:FuncData) (N:List Str):Bool :=
  fd.scope.kind == .function && !fd.scope.isCoroutine && !fd.scope.isGenerator && fd.closure.isEmpty && fd.globals == mainGlobals && fd.builtins == builtinsNs && codeIn K fd.code fd.qualname && fd.params.posonlyargs.isEmpty && fd.params.kwonlyargs.isEmpty && fd.params.vararg.isNone && fd.params.kwarg.isNone &&
    (fd.params.args.map (·.arg) == N) && decide N.Nodup && N.all fun x=>fd.scope.names.lookup x == some .local || fd.scope.names.lookup x == some .cell
noncomputable def fnChk (K:Frag) (a:Addr) (fn:Fn):Bool :=
  isFd K a && baseChk K (fdOf K a) (fn.params.map Str.ofString) && decide fn.params.Nodup && decide ((cellsFrom 0 (fdOf K a).scope.names []).map (·.1)).Nodup && (stB (fdOf K a).body).isSome && (dsOf K (fdOf K a).defaults).any fun ds=>relD fn.dflts ds && decide (ds.length <= (fn.params.map Str.ofString).length)
section
variable {K:Frag} {a:Addr} {cx:Cx}
set_option tactic.hygienic true in
theorem base_of {N:List Str} {ds:List Value} (X:K.In cx.base) (h0:isFd K a = true) (h:baseChk K (fdOf K a) N = true) (hd:dsOf K (fdOf K a).defaults = some ds) (hl:ds.length <= N.length):FnBase cx K a (fdOf K a) N ds :=
  have h1:=and2 h
  have h2:=and2 h1.1
  have h3:=and2 h2.1
  have h4:=and2 h3.1
  have h5:=and2 h4.1
  have h6:=and2 h5.1
  have h7:=and2 h6.1
  have h8:=and2 h7.1
  have h9:=and2 h8.1
  have h10:=and2 h9.1
  have h11:=and2 h10.1
  have h12:=and2 h11.1
  have h13:=and2 h12.1
  { look:=fd_at h0,kind:=beq_iff_eq.mp h13.1,co:=(Bool.not_eq_true' _).mp h13.2,gen:=(Bool.not_eq_true' _).mp h12.2,clo:=List.isEmpty_iff.mp h11.2,glob:=beq_iff_eq.mp h10.2,bi:=beq_iff_eq.mp h9.2,code:=codeRec_of X h8.2,pos:=List.isEmpty_iff.mp h7.2,kwo:=List.isEmpty_iff.mp h6.2
    vararg:=Option.isNone_iff_eq_none.mp h5.2,kwarg:=Option.isNone_iff_eq_none.mp h4.2,args:=beq_iff_eq.mp h3.2,nd:=of_decide_eq_true h2.2,names:=fun x hx=>(Bool.or_eq_true_iff.mp (List.all_eq_true.mp h1.2 x hx)).imp beq_iff_eq.mp beq_iff_eq.mp,dlen:=hl
    dflt:=fun s Xs M A E Q hq=>by
      unfold dsOf at hd
      by_cases q:((fdOf K a).defaults == .none) = true
      · rw [if_pos q] at hd
        rw [beq_iff_eq.mp q]
        cases hd
        exact wpAny_pure (hq none rfl)
      · rw [if_neg q] at hd
        refine cps fun G k=>?_
        obtain ⟨t,e1,e2⟩:=Option.bind_eq_some_iff.mp hd
        obtain ⟨o,m,z1,_,z2⟩:=tup_at e2
        rw [refA_eq e1] at k
        exact k (wpAny_seqItems (Xs _ _ z1) z2 (hq (some ds.toArray) rfl)) }
theorem fnOk_of {fn:Fn} (X:K.In cx.base) (h:fnChk K a fn = true):∃ ds,FnOk cx K a fn (fdOf K a) ds /\ (fdOf K a).body = .stmts ((stB (fdOf K a).body).getD []):=by
  have h1:=and2 h
  have h2:=and2 h1.1
  have h3:=and2 h2.1
  have h4:=and2 h3.1
  have h5:=and2 h4.1
  obtain ⟨ds,e,hd⟩:=any_some h1.2
  have hd:=and2 hd
  exact ⟨ds,⟨base_of X h5.1 h5.2 e (of_decide_eq_true hd.2),of_decide_eq_true h4.2,relD_ok hd.1,of_decide_eq_true h3.2⟩,stB_eq h2.2⟩
end
set_option tactic.hygienic true in
theorem BlOk.sp {sc:Sc} {m:Nat} {c:PySem.Stmt} {d:St} (h:StOk sc m c d):∀ {b:List PySem.Stmt} {i:Nat},b[i]? = some c -> BlOk sc m b ((b.take i).map (trS 8 sc m) ++ d :: (b.drop (i + 1)).map (trS 8 sc m))
  | [],_,e=>none_some e
  | x :: b,0,e=>by
    cases e
    exact .cons h (BlOk.map b)
  | x :: b,i + 1,e=>.cons (.tr x) (BlOk.sp h (b:=b) (i:=i) e)
noncomputable def prB:List PySem.Stmt:=PySem.Challenge.rw_sa0456_01.prog.main.body
noncomputable def bodyAt (n m:Str):List PySem.Stmt -> List PySem.Stmt
  | []=>[]
  | .ClassDef c _ _ b .. :: r=>if c == n then (match b.find? (fun s=>match s with | .FunctionDef f .. => f == m | _=>false) with | some (.FunctionDef _ _ b ..)=>b | _=>[]) else bodyAt n m r
  | _ :: r=>bodyAt n m r
noncomputable def funAt (m:Str) (b:List PySem.Stmt):List PySem.Stmt:=match b.find? (fun s=>match s with | .FunctionDef f .. => f == m | _=>false) with | some (.FunctionDef _ _ b ..)=>b | _=>[]
noncomputable def leB:List PySem.Stmt:=bodyAt "LendError" "__init__" prB
noncomputable def unB:List PySem.Stmt:=bodyAt "Checker" "unify" prB
noncomputable def riB:List PySem.Stmt:=funAt "_law_rings" prB
noncomputable def toB:List PySem.Stmt:=funAt "_law_told" prB
end Mine
end
section
set_option maxHeartbeats 0
set_option maxRecDepth 100000
namespace Mine
open PySem PySem.W PyProof.Rows PySem.MeetsSeq
section
noncomputable def lePos:List PySem.Stmt -> List Pos
  | [.Expr (.Call (.Attribute (.Name _ p0) _ p1) [.Name _ p2,.Name _ p3] [] p4) p5,.Assign [.Attribute (.Name _ p6) _ p7] (.Name _ p8) p9,.Assign [.Attribute (.Name _ p10) _ p11] (.Name _ p12) p13]=>[p0,p1,p2,p3,p4,p5,p6,p7,p8,p9,p10,p11,p12,p13]
  | _=>[]
noncomputable def leP (i:Nat):Pos:=((lePos leB)[i]?).getD default
noncomputable def reP:PySem.Stmt -> PySem.Expr × Str × Str × Nat × List Pos
  | .Try [.Expr c p1] [.ExceptHandler (some (.Name _ p3)) (some fn) [.Raise (some (.Call (.Name _ p5) [.Attribute (.Name _ p6) _ p7,.Name y p8] _ p9)) (some (.Constant _ kk p10)) p11] p12] _ _ p13=>(c,fn,y,kk,[p1,p1,p3,p3,p5,p5,p6,p7,p8,p9,p10,p11,p12,p13])
  | _=>(.Constant .none 0 default,"","",0,[])
noncomputable def tryP:PySem.Stmt -> PySem.Expr × Str × Str × Nat × List Pos
  | .Try [.Assign [.Name y p0] e p1] [.ExceptHandler (some (.Name _ p2)) none [.Return (some (.Constant (.str v) kk p3)) p4] p5] _ _ p6=>(e,y,v,kk,[p0,p1,p2,p3,p4,p5,p6])
  | _=>(.Constant .none 0 default,"","",0,[])
noncomputable def twoP:PySem.Stmt -> (Str × Str × Str) × (PySem.Expr × PySem.Expr × PySem.Expr × PySem.Expr) × PySem.Scope × List Pos
  | .Assign [.Name z p3] (.ListComp elt [⟨.Name x p0,i0,[c0],_⟩,⟨.Name y p1,it2,[],_⟩] s p2) p4=>((z,x,y),(elt,i0,c0,it2),s,[p0,p1,p2,p3,p4])
  | _=>(("","",""),(.Constant .none 0 default,.Constant .none 0 default,.Constant .none 0 default,.Constant .none 0 default),default,[])
noncomputable def unS:Expr × Str × Str × Nat × List Pos:=reP ((unB[0]?).getD (.Pass default))
noncomputable def tdS:Expr × Str × Str × Nat × List Pos:=tryP ((toB[5]?).getD (.Pass default))
noncomputable def riS:(Str × Str × Str) × (Expr × Expr × Expr × Expr) × Scope × List Pos:=twoP ((riB[0]?).getD (.Pass default))
noncomputable def atP (l:List Pos) (i:Nat):Pos:=(l[i]?).getD default
noncomputable def unT:PySem.Stmt:=reShape unS.1 unS.2.1 unS.2.2.1 unS.2.2.2.1 (atP unS.2.2.2.2)
noncomputable def tdT:PySem.Stmt:=tryShape tdS.2.1 tdS.1 tdS.2.2.1 tdS.2.2.2.1 (atP tdS.2.2.2.2)
noncomputable def riT:PySem.Stmt:=twoShape riS.1.1 riS.1.2.1 riS.1.2.2 riS.2.1.1 riS.2.1.2.1 riS.2.1.2.2.1 riS.2.1.2.2.2 riS.2.2.1 (atP riS.2.2.2)
theorem c_leB:leB = leBody leP fun _=>0:=by kernel_rfl
theorem c_le3:((leP 1).endLine == (leP 4).line) = true:=by kernel_rfl
theorem c_un:unB[0]? = some unT:=by kernel_rfl
theorem c_td:toB[5]? = some tdT:=by kernel_rfl
theorem c_ri:riB[0]? = some riT:=by kernel_rfl
noncomputable def unD:St:=.rethrow (.attr (.var "self") "infer") "unify" [.var "one",.var "other"] (Mine.toS unS.2.2.1)
noncomputable def tdD (sc:Sc):St:=.tryRet (Mine.toS tdS.2.1) (trE 30 sc 0 tdS.1) (Mine.toS tdS.2.2.1)
noncomputable def riD (sc:Sc):St:=.asgF (Mine.toS riS.1.1) (trE 30 (relabelSc sc riS.2.2.1.names) 0 riS.2.1.1) (Mine.toS riS.1.2.1) (trE 30 sc 0 riS.2.1.2.1) (trE 30 (relabelSc sc riS.2.2.1.names) 0 riS.2.1.2.2.1) (Mine.toS riS.1.2.2) (trE 30 (relabelSc sc riS.2.2.1.names) 0 riS.2.1.2.2.2)
noncomputable def unK (sc:Sc):Bool:=isCall unS.1 && isGlob sc ("TypeFault" : Str) && isLoc sc unS.2.1 && !(unS.2.1 == ("__debug__" : Str)) && okN unS.2.2.1 && kindVar sc unS.2.2.1 && !(unS.2.2.1 == unS.2.1)
noncomputable def tdK (sc:Sc):Bool:=okN tdS.2.1 && isLoc sc tdS.2.1 && isCall tdS.1 && isGlob sc ("TypeFault" : Str) && okS tdS.2.2.1
noncomputable def riK (sc:Sc):Bool:=okN riS.1.1 && lcOk sc riS.1.1 (atP riS.2.2.2 3) (.ListComp riS.2.1.1 (twoGs riS.1.2.1 riS.1.2.2 riS.2.1.2.1 riS.2.1.2.2.1 riS.2.1.2.2.2 (atP riS.2.2.2)) riS.2.2.1 (atP riS.2.2.2 2)) && okN riS.1.2.1 && okN riS.1.2.2 && compScope sc riS.2.2.1 [riS.1.2.1,riS.1.2.2] && notSet riS.2.1.2.1 && notSet riS.2.1.2.2.2
noncomputable def spTr (sc:Sc) (b:List PySem.Stmt) (i:Nat) (d:St):List St:=(b.take i).map (trS 8 sc 0) ++ d :: (b.drop (i + 1)).map (trS 8 sc 0)
noncomputable def scAt (K:Frag) (a:Addr):Sc:=(fdOf K a).scope.names
noncomputable def spF:List String:=["Checker.unify","_law_rings","_law_told"]
noncomputable def trAll (K:Frag):List (List St):=fnL.map fun q=>if spF.contains q.1 = true then [] else ((stB (fdOf K q.2).body).getD []).map (trS 8 (scAt K q.2) (modeOf q.1))
noncomputable def trExp:List (List St):=fnL.map fun q=>if spF.contains q.1 = true then [] else ((tab q.1).map (·.body)).getD []
noncomputable def leChk (K:Frag):Bool:=isFd K 36 && baseChk K (fdOf K 36) [("self" : Str),"message","spot"] && dsOf K (fdOf K 36).defaults == some [.int 0 (tokOf (((dsOf K (fdOf K 36).defaults).getD []).headD .none))] && (scAt K 36).all (fun x=>!(x.2 == .cell)) && (scAt K 36).lookup ("self" : Str) == some .local && (scAt K 36).lookup ("message" : Str) == some .local && (scAt K 36).lookup ("spot" : Str) == some .local && (scAt K 36).lookup ("Exception" : Str) == some .globalImplicit
noncomputable def isFoundB (n:String):Option CFound -> Bool
  | some (.val v)=>v == .builtin n
  | _=>false
theorem found_of {n:String} {x:Option CFound} (h:isFoundB n x = true):x = some (.val (.builtin n)):=by
  rcases x with _ | c
  · exact no_tf h
  · rcases c with v | _ <;> first | exact no_tf h | skip
    exact congrArg (fun v=>some (CFound.val v)) (beq_iff_eq.mp h)
noncomputable def objTF:Obj:=excClassObj "TypeFault" "TypeFault" 76 75 [.ref 39] [.ref 39,.type "Exception",.type "BaseException",.type "object"] true [] [] false none none (some (.ref 67)) none (some (.str "TypeFault" 260)) (some (.str "TypeFault" 268)) (some (.bool true)) "Exception.__new__"
noncomputable def checks (K:Frag):List Bool:=[namesChk K,nsIn K mainGlobals "TypeFault" == some (some (.ref 76)),nsIn K mainGlobals "range" == some none,clsL.all (fun q=>clsChk K q.1 q.2),methChk K,fnAtChk K,fnL.all (fun q=>(tab q.1).all (fnChk K q.2)),leChk K,findIn K (.ref 76) "__init__" == some (some (.ref 36)),typeIn K (.ref 36) == some (.type "function"),
  findIn K (.ref 76) "__getattribute__" == some (some (.builtin "BaseException.__getattribute__")),findIn K (.ref 76) "__getattr__" == some none,mroIn K 76 (.type "BaseException") == some true,findIn K (.ref 76) "__setattr__" == some (some (.builtin "object.__setattr__")),plainExc K 76,(clsIn K 76).any (·.hasDict),findIn K (.ref 76) "message" == some none,findIn K (.ref 76) "spot" == some none,nsIn K mainGlobals "Exception" == some none,isFoundB "Exception.__init__" (findCls K (.type "Exception") (.type "type") "__init__"),
  unK (scAt K 638),riK (scAt K 921),tdK (scAt K 926)]
structure HF (K:Frag):Prop where
  chk:checks K = [true,true,true,true,true,true,true,true,true,true,true,true,true,true,true,true,true,true,true,true,true,true,true]
  dat:dataChk K = T9
  tf:K.lookup 76 = some objTF
  bodies:[(fdOf K 36).body,(fdOf K 638).body,(fdOf K 921).body,(fdOf K 926).body] = [.stmts leB,.stmts unB,.stmts riB,.stmts toB]
  tr:trAll K = trExp
  sp:[spTr (scAt K 638) unB 0 unD,spTr (scAt K 921) riB 0 (riD (scAt K 921)),spTr (scAt K 926) toB 5 (tdD (scAt K 926))] = [f_Checker_unify.body,f_law_rings.body,f_law_told.body]
  un:trE 30 (scAt K 638) 0 unS.1 = .meth (.attr (.var "self") "infer") "unify" [.var "one",.var "other"]
structure HC (K:Frag):Prop where
  names:(namesChk K) = true
  tf:(nsIn K mainGlobals "TypeFault" == some (some (.ref 76))) = true
  rng:(nsIn K mainGlobals "range" == some none) = true
  cls:(clsL.all (fun q=>clsChk K q.1 q.2)) = true
  meth:(methChk K) = true
  fnAt:(fnAtChk K) = true
  fns:(fnL.all (fun q=>(tab q.1).all (fnChk K q.2))) = true
  le:(leChk K) = true
  init:(findIn K (.ref 76) "__init__" == some (some (.ref 36))) = true
  initT:(typeIn K (.ref 36) == some (.type "function")) = true
  ga:(findIn K (.ref 76) "__getattribute__" == some (some (.builtin "BaseException.__getattribute__"))) = true
  gt:(findIn K (.ref 76) "__getattr__" == some none) = true
  base:(mroIn K 76 (.type "BaseException") == some true) = true
  sa:(findIn K (.ref 76) "__setattr__" == some (some (.builtin "object.__setattr__"))) = true
  over:(plainExc K 76) = true
  dict:((clsIn K 76).any (·.hasDict)) = true
  msg:(findIn K (.ref 76) "message" == some none) = true
  spot:(findIn K (.ref 76) "spot" == some none) = true
  exn:(nsIn K mainGlobals "Exception" == some none) = true
  found:(isFoundB "Exception.__init__" (findCls K (.type "Exception") (.type "type") "__init__")) = true
  un:(unK (scAt K 638)) = true
  ri:(riK (scAt K 921)) = true
  td:(tdK (scAt K 926)) = true
theorem HF.all {K:Frag} (H:HF K):HC K :=
  have c0:=H.chk
  have c1:=tl1 c0
  have c2:=tl1 c1
  have c3:=tl1 c2
  have c4:=tl1 c3
  have c5:=tl1 c4
  have c6:=tl1 c5
  have c7:=tl1 c6
  have c8:=tl1 c7
  have c9:=tl1 c8
  have c10:=tl1 c9
  have c11:=tl1 c10
  have c12:=tl1 c11
  have c13:=tl1 c12
  have c14:=tl1 c13
  have c15:=tl1 c14
  have c16:=tl1 c15
  have c17:=tl1 c16
  have c18:=tl1 c17
  have c19:=tl1 c18
  have c20:=tl1 c19
  have c21:=tl1 c20
  have c22:=tl1 c21
  ⟨hd1 c0,hd1 c1,hd1 c2,hd1 c3,hd1 c4,hd1 c5,hd1 c6,hd1 c7,hd1 c8,hd1 c9,hd1 c10,hd1 c11,hd1 c12,hd1 c13,hd1 c14,hd1 c15,hd1 c16,hd1 c17,hd1 c18,hd1 c19,hd1 c20,hd1 c21,hd1 c22⟩
end
end Mine
end
section
set_option maxHeartbeats 0
set_option maxRecDepth 100000
namespace Mine
open PySem PySem.W PyProof.Rows PySem.MeetsSeq
section
variable {K:Frag} {prog:Program} {w:World} {base:Heap} {mg mb:Str -> Option Value}
theorem body_at {l m:List FuncBody} (e:l = m) (i:Nat):l[i]? = m[i]?:=congrArg (fun l:List FuncBody=>l[i]?) e
theorem st_at {l m:List (List St)} (e:l = m) (i:Nat):l[i]? = m[i]?:=congrArg (fun l:List (List St)=>l[i]?) e
theorem tfo_of (H:HF K) (X:K.In base) (g:base.Ns mainGlobals mg):TFo (cxOf prog w base) K 76 39 :=
  ⟨by kernel_rfl,.inl ⟨mg,g,mg_of X g (beq_iff_eq.mp H.all.tf)⟩,_,H.tf,.mk⟩
theorem tfg_of (H:HF K):TFg K 76:=⟨beq_iff_eq.mp H.all.ga,beq_iff_eq.mp H.all.gt,beq_iff_eq.mp H.all.base⟩
theorem leo_of (H:HF K) (X:K.In base) (g:base.Ns mainGlobals mg) (b:base.Ns builtinsNs mb) (hb:∀ x:Str,x ≠ "__name__" -> mb x = bootBuiltins x):LEo (cxOf prog w base) K 76 :=
  ⟨.inr ⟨mg,mb,g,mg_none_of X g (beq_iff_eq.mp H.all.exn),b,(hb _ (by decide +kernel)).trans (by kernel_rfl)⟩,beq_iff_eq.mp H.all.sa,H.all.over,H.all.dict,beq_iff_eq.mp H.all.msg,beq_iff_eq.mp H.all.spot,by kernel_rfl,by kernel_rfl,found_of H.all.found⟩
theorem lef_of (H:HF K) (X:K.In base):LEf (cxOf prog w base) K 76 36:=by
  have h1:=and2 (show leChk K = true from H.all.le)
  have h2:=and2 h1.1
  have h3:=and2 h2.1
  have h4:=and2 h3.1
  have h5:=and2 h4.1
  have h6:=and2 h5.1
  have h7:=and2 h6.1
  exact ⟨beq_iff_eq.mp H.all.init,beq_iff_eq.mp H.all.initT,fdOf K 36,leP,fun _=>0,_,⟨base_of X h7.1 h7.2 (beq_iff_eq.mp h6.2) (Nat.succ_le_succ (Nat.zero_le 2)),(Option.some.inj (body_at H.bodies 0)).trans (congrArg _ c_leB),c_le3,fun x hx q=>by
    have:=List.all_eq_true.mp h5.2 x hx
    rw [q] at this
    exact no_tf this,beq_iff_eq.mp h4.2,beq_iff_eq.mp h3.2,beq_iff_eq.mp h2.2,beq_iff_eq.mp h1.2⟩⟩
theorem gx_all (H:HF K) (X:K.In base) (g:base.Ns mainGlobals mg) (b:base.Ns builtinsNs mb) (hb:∀ x:Str,x ≠ "__name__" -> mb x = bootBuiltins x) (nl:base.NoLimit) (sm:∃ o,base.get? sysModules = some o):Gx (cxOf prog w base) K :=
  gx_of X g b hb nl sm H.all.names H.dat H.all.tf H.all.rng H.all.cls H.all.meth H.all.fnAt
variable (H:HF K) (X:K.In base) (G:Gx (cxOf prog w base) K) (T:TFo (cxOf prog w base) K 76 39) (Y:LEo (cxOf prog w base) K 76)
include H X G T Y
theorem fns_ok {tab':String -> Option Fn} (e:tab' = tab) (f:String) (fn:Fn) (a:Addr) (ht:tab' f = some fn) (hf:(cxOf prog w base).fn f = some a):FnSee (cxOf prog w base) K a fn:=by
  subst e
  have B:∀ {sc:Sc} {m:Nat} {b:List PySem.Stmt} {d:List St},BlOk sc m b d -> BodyS (cxOf prog w base) sc b d:=body_ok G T Y (tfg_of H) (lef_of H X)
  have hm:=lookup_memS (show fnL.lookup f = some a from hf)
  have hc:=List.all_eq_true.mp (show fnL.all (fun q=>(tab q.1).all (fnChk K q.2)) = true from H.all.fns) _ hm
  dsimp only at hc
  rw [ht] at hc
  refine cps fun GG k=>?_
  obtain ⟨ds,F,eb⟩:=fnOk_of (cx:=cxOf prog w base) X (show fnChk K a fn = true from hc)
  by_cases q:spF.contains f = true
  · have go:∀ {g:String} {a':Addr} {fn':Fn} {b:List PySem.Stmt},f = g -> fnL.lookup g = some a' -> tab g = some fn' -> (fdOf K a').body = .stmts b -> BlOk (scAt K a') 0 b fn'.body -> FnSee (cxOf prog w base) K a fn:=fun e1 e2 e3 e4 e5=>by
      subst e1
      obtain rfl:=Option.some.inj (hf.symm.trans e2)
      obtain rfl:=Option.some.inj (ht.symm.trans e3)
      exact ⟨_,ds,_,F,e4,B e5⟩
    refine k ?_
    rcases List.mem_cons.mp (List.contains_iff_mem.mp q) with q | q
    · exact go q (a':=638) (fn':=f_Checker_unify) (by kernel_rfl) (by kernel_rfl) (Option.some.inj (body_at H.bodies 1)) (Option.some.inj (st_at H.sp 0) ▸ BlOk.sp (.re H.all.un H.un) c_un)
    rcases List.mem_cons.mp q with q | q
    · exact go q (a':=921) (fn':=f_law_rings) (by kernel_rfl) (by kernel_rfl) (Option.some.inj (body_at H.bodies 2)) (Option.some.inj (st_at H.sp 1) ▸ BlOk.sp (.two H.all.ri) c_ri)
    · exact go (List.mem_singleton.mp q) (a':=926) (fn':=f_law_told) (by kernel_rfl) (by kernel_rfl) (Option.some.inj (body_at H.bodies 3)) (Option.some.inj (st_at H.sp 2) ▸ BlOk.sp (.tryRet H.all.td) c_td)
  · have e:=List.map_inj_left.mp (show trAll K = trExp from H.tr) _ hm
    dsimp only at e
    rw [if_neg q,if_neg q,ht] at e
    exact k ⟨_,ds,_,F,eb,B (e ▸ BlOk.map (m:=modeOf f) _)⟩
end
theorem vrels_ints {cx:Cx} {φ n h}:∀ {vs:List Value} {ns:List Int},IntsAre vs ns -> VRels cx φ n h (ns.map .int) vs:=fun hI=>by
  induction hI with
  | nil=>exact VRels.nil
  | cons n t _ ih=>exact VRels.cons ⟨t,rfl⟩ ih
section
variable {prog:Program} {w:World} {base h₁:Heap} {mg mb m:Str -> Option Value} {K:Frag} {L fa a:Addr} {cd:Value} {name:Str} {scope:Scope} {body:List PySem.Stmt} {vs:List Value} {ns:List Int} {n:Nat} {σ':Store} {g:Array GenState} {d:Drawn} {t:Nat} {os:OsState}
noncomputable def σ₀:Store:=⟨0,fun _=>.list []⟩
set_option tactic.hygienic true in
theorem law_run (H:HF K) (X:K.In base) (hmg:base.Ns mainGlobals mg) (hmb:base.Ns builtinsNs mb) (hb:∀ x:Str,x ≠ "__name__" -> mb x = bootBuiltins x) (nl:base.NoLimit) (sm:∃ o,base.get? sysModules = some o)
    (F:Fr base L h₁ m) (hm:m ("script" : Str) = some (.ref a)) (hl:base.IsList a vs.toArray) (hI:IntsAre vs ns) (hk:scope.kind = .function) (hks:scope.names.lookup ("script" : Str) = some .local) (hnc:∀ x,scope.names.lookup x ≠ some .cell) (hc:body.map (trS 8 scope.names 3) = f_law.body)
    (hlaw:callF tab (n + 1) "law" [.lst (ns.map .int)] σ₀ = .ok (.bool true) σ') (hn:n <= 99) {Q:PySem.Flow -> Shared -> Prop} {E:Value -> Shared -> Prop}
    (hq:∀ s' m',Fr base L s'.heap m' -> s'.gens = g -> s'.os = os -> (∀ b o,h₁.get? b = some o -> b ≠ L -> s'.heap.get? b = some o) -> Q (.ret (.bool true)) s') :
    wpAny (model prog w) (callerA.deeper (envOf name scope L fa cd)) (execs body (envOf name scope L fa cd)) Q E ⟨h₁,g,d,t,os⟩:=by
  have G:=gx_all (prog:=prog) (w:=w) H X hmg hmb hb nl sm
  have T:=tfo_of (prog:=prog) (w:=w) H X hmg
  have Y:=leo_of (prog:=prog) (w:=w) H X hmg hmb hb
  have S:=sc_all G (fns_ok H X G T Y rfl) n
  let ρ:Env:=Env.set (fun _=>none) "script" (.lst (ns.map .int))
  let FI:FrameI:={ env:=envOf name scope L fa cd,ρ:=ρ,own:=[],real:=true }
  let W:Wd:=⟨fun _=>0,fun _=>0,σ₀,[FI]⟩
  have hL:base.get? L = none:=by
    cases q:base.get? L with
    | none=>rfl
    | some o=>exact absurd (Heap.lt_size q) (Nat.not_lt.mpr F.above)
  have hV:VRel (cxOf prog w base) W.φ W.z h₁ (.lst (ns.map .int)) (.ref a):=hl.elim fun o z=>⟨a,vs.toArray,rfl,⟨o,F.keep _ _ z.1,z.2⟩,⟨fun i hi=>absurd hi (Nat.not_lt_zero _),List.not_mem_nil⟩,vrels_ints hI⟩
  have none0:∀ {i:Nat} {P:Prop},i < W.σ.n -> P:=fun hi=>absurd hi (Nat.not_lt_zero _)
  have one:∀ {F'},F' ∈ W.K -> F' = FI:=fun h=>List.mem_singleton.mp h
  have I:Inv (cxOf prog w base) W h₁:=by
    refine ⟨F.keep,fun i hi=>none0 hi,fun i j hi=>none0 hi,fun i hi=>none0 hi,⟨⟨hk,rfl,rfl,fun _=>rfl,⟨m,F.ns,fun x V hx e=>?_⟩,fun x c _ h=>none_some h,fun c hc=>absurd hc List.not_mem_nil,fun x h=>absurd h (hnc x),fun x y c _ h=>none_some h⟩,fun x c h=>none_some h,trivial⟩,fun F' hF i hi=>none0 hi,fun F' hF=>one hF ▸ ⟨hL,fun c hc=>absurd hc List.not_mem_nil⟩,List.nodup_cons.mpr ⟨List.not_mem_nil,List.nodup_nil⟩,List.nodup_nil,fun a ha=>absurd ha List.not_mem_nil⟩
    by_cases q:x = "script"
    · subst q
      obtain rfl:=Option.some.inj ((if_pos rfl).symm.trans (show (if ("script" : String) = "script" then some (Mine.V.lst (ns.map .int)) else none) = some V from e))
      exact ⟨fun _=>⟨_,hm,hV⟩,fun z=>z.elim (fun z=>nomatch (show scope.names.lookup ("script" : Str) = some .cell from z).symm.trans hks) fun z=>nomatch (show scope.names.lookup ("script" : Str) = some .free from z).symm.trans hks⟩
    · exact none_some ((if_neg q).symm.trans e)
  have AO:AOk (callerA.deeper (envOf name scope L fa cd)) W.K n:=by
    refine ⟨rfl,rfl,?_,?_⟩
    · rw [depth_deeper,depth_caller]; lia
    · rw [units_deeper,units_caller]; lia
  have e0:callF tab (n + 1) "law" [.lst (ns.map .int)] σ₀ = M.bind (exs (callF tab n) f_law.body ρ) retOf σ₀:=congrFun (callF_some (fn:=f_law) (ρ:=ρ) rfl rfl) σ₀
  rw [e0] at hlaw
  have B:SES (cxOf prog w base) (callerA.deeper (envOf name scope L fa cd)) n FI [] (execs body (envOf name scope L fa cd)) (exs (callF tab n) f_law.body):=body_ok G T Y (tfg_of H) (lef_of H X) (hc ▸ BlOk.map (m:=3) body) (callF tab n) _ n FI [] S rfl rfl
  refine B W ⟨h₁,g,d,t,os⟩ ρ rfl AO I _ _ ⟨fun fl s2 fl' ρ' W2 e I2 X2 K2 rf=>?_,fun ev s2 m k c W2 ρ' e I2 X2 K2 ex=>?_,fun q=>?_⟩
  · have eb:=(M.bind_ok (g:=retOf) e).symm.trans hlaw
    refine (I2.frm.mem (FI.at ρ') (by rw [K2]; exact .head _)).ns.elim fun m' hns=>?_
    rcases fl' with _ | _ | v
    · exact nomatch eb
    · exact nomatch eb
    · obtain ⟨rfl,-⟩:=Res.ok.inj (show Res.ok v W2.σ = .ok (.bool true) σ' from eb)
      obtain ⟨u,rfl,ru⟩:=(show ∃ u,fl = .ret u /\ VRel (cxOf prog w base) W2.φ W2.z s2.heap (.bool true) u from rf)
      cases (show u = .bool true from ru)
      refine hq s2 m' ⟨hns.1,I2.base,F.above⟩ X2.gens X2.os fun b o e nb=>X2.keep b o e ?_
      rintro (⟨i,hi,_⟩ | ⟨G',hG,q⟩)
      · exact none0 hi
      · rw [one hG] at q
        exact q.elim nb fun q=>absurd q List.not_mem_nil
  · exact nomatch (M.bind_raise (g:=retOf) e).symm.trans hlaw
  · have eb:M.bind (exs (callF tab n) f_law.body ρ) retOf σ₀ = .fail:=by
      unfold M.bind
      rw [show exs (callF tab n) f_law.body ρ σ₀ = .fail from q]
    exact nomatch eb.symm.trans hlaw
end
end Mine
end
section
set_option maxRecDepth 100000
namespace Mine
open PySem PySem.W PyProof.Rows
theorem opt_go {β γ:Type} {o:Option β} {f:β -> Option γ} {v:γ} (h:o.bind f = some v):∃ x,o = some x /\ f x = some v:=Option.bind_eq_some_iff.mp h
set_option tactic.hygienic true in
theorem bool_go {γ:Type} {b:Bool} {x:Option γ} {v:γ} (h:(bif b then x else none) = some v):b = true /\ x = some v:=by
  cases b with
  | false=>cases h
  | true=>exact ⟨rfl,h⟩
noncomputable def topRunT (tb:String -> Option Builtin) (p:Program) (w:World) (n₀:Nat) (ann:Option Value):Nat -> SharedT -> Thread -> Option SharedT
  | 0,_,_=>none
  | n + 1,s,t=>bif through t then some s else bif stepOk n₀ ann t then (stepT (denote tb) p w s t).bind fun x=>match x with
    | (s',t')=>topRunT tb p w n₀ ann n s' t' else none
set_option tactic.hygienic true in
theorem topRunT_of {tb:String -> Option Builtin} {p:Program} {w:World} {n₀:Nat} {ann:Option Value}:∀ (n:Nat) (s:SharedT) (t:Thread) (s':SharedT),topRunT tb p w n₀ ann n s t = some s' -> topRun tb p w n₀ ann n s.abs t = some s'.abs
  | 0,_,_,_,h=>by cases h
  | n + 1,s,t,s',h=>by
    have h:(bif through t then some s else bif stepOk n₀ ann t then (stepT (denote tb) p w s t).bind fun x=>match x with
      | (s',t')=>topRunT tb p w n₀ ann n s' t' else none) = some s':=h
    unfold topRun
    cases ht:through t with
    | true=>rw [ht] at h; cases h; rfl
    | false =>
      rw [ht] at h
      obtain ⟨hk,h⟩:=bool_go h
      obtain ⟨⟨s2,t2⟩,hs,h⟩:=opt_go h
      rw [hk,stepT_spec hs]
      exact topRunT_of n s2 t2 s' h
noncomputable def toT:List Obj -> BT -> Nat -> Option (BT × Nat)
  | [],t,n=>some (t,n)
  | o :: r,t,n=>bif ((t.ins n o).get n).isSome then toT r (t.ins n o) (n + 1) else none
set_option tactic.hygienic true in
theorem toT_of {life:Life}:∀ (l:List Obj) (t:BT) (n:Nat) {t':BT} {n':Nat},toT l t n = some (t',n') -> absHeap t' n' life = ⟨(absHeap t n life).objs ++ l.toArray,life⟩
  | [],t,n,t',n',h=>by cases h; show absHeap t n life = ⟨(absHeap t n life).objs ++ #[],life⟩; rw [Array.append_empty]; rfl
  | o :: r,t,n,t',n',h=>by
    obtain ⟨q,h⟩:=bool_go (show (bif ((t.ins n o).get n).isSome then toT r (t.ins n o) (n + 1) else none) = _ from h)
    rw [toT_of r _ _ h,absHeap_ins q]
    show (⟨(absHeap t n life).objs.push o ++ r.toArray,life⟩:Heap) = _
    congr 1
    simp
noncomputable def fragOf (as:List Addr) (h:Heap):Frag:=as.filterMap fun a=>(h.get? a).map fun o=>(a,o)
noncomputable def fragT (T:BT) (n:Nat):List Addr -> Option Frag
  | []=>some []
  | a :: r=>bif Nat.blt a n then (T.get a).bind fun o=>(alive o).bind fun o'=>(fragT T n r).bind fun K=>some ((a,o') :: K) else none
set_option tactic.hygienic true in
theorem fragT_of {T:BT} {n:Nat} {life:Life}:∀ (as:List Addr) {K:Frag},fragT T n as = some K -> fragOf as (absHeap T n life) = K
  | [],K,h=>by cases h; rfl
  | a :: r,K,h=>by
    obtain ⟨q1,h⟩:=bool_go (show (bif Nat.blt a n then (T.get a).bind fun o=>(alive o).bind fun o'=>(fragT T n r).bind fun K=>some ((a,o') :: K) else none) = _ from h)
    obtain ⟨o,q2,h⟩:=opt_go h
    obtain ⟨o',q3,h⟩:=opt_go h
    obtain ⟨K',q4,h⟩:=opt_go h
    have e:=abs_get (life:=life) (Nat.blt_eq.mp q1) q2
    unfold fragOf
    rw [List.filterMap_cons,e,q3]
    show (a,o') :: fragOf r _ = _
    rw [fragT_of r q4]
    exact Option.some.inj h
set_option tactic.hygienic true in
theorem fragOf_in {as:List Addr} {h:Heap}:(fragOf as h).In h:=by
  intro a o e
  induction as with
  | nil=>cases e
  | cons x r ih =>
    unfold fragOf at e
    rw [List.filterMap_cons] at e
    cases q:h.get? x with
    | none=>rw [q] at e; exact ih e
    | some o' =>
      rw [q] at e
      change List.lookup a ((x,o') :: fragOf r h) = some o at e
      rw [List.lookup_cons] at e
      split at e
      · rename_i z
        cases e
        rw [beq_iff_eq.mp z]; exact q
      · exact ih e
noncomputable def headGo {α:Type} (p q:Program) (loose:List PySem.Str) (Xt:Shared -> Bool) (as:List Addr) (chk:Frag -> α) (N:Nat) (w:World) :=
  (fencedOpening treeTable p w N).bind fun s₀=>(toT s₀.heap.objs.toList .nil 0).bind fun x=>match x with
    | (T,n)=>bif s₀.heap.isNs mainGlobals && s₀.gens.size == 0 then
      (topRunT treeTable p w n (s₀.heap.nsMap mainGlobals "__annotations__") N ⟨T,n,s₀.heap.life,s₀.gens,s₀.drawn,s₀.toks,s₀.os⟩ (topStub p)).bind fun S =>
        bif staticsOk (importedModules p.main.body) s₀.heap S.abs.heap && namesBound p S.abs.heap && gensDone S.abs && laidKept s₀.heap S.abs.heap then
          (fragT S.tree S.n as).bind fun K=>some (openSeen q loose (importedModules p.main.body) Xt true S.abs,chk K) else none else none
theorem abs_toT {hp:Heap} {T:BT} {n:Nat} (h1:toT hp.objs.toList .nil 0 = some (T,n)):absHeap T n hp.life = hp:=by
  rw [toT_of _ _ _ h1]
  show (⟨#[] ++ hp.objs.toList.toArray,hp.life⟩:Heap) = hp
  simp
theorem left_of {α:Type} {p q:Program} {loose:List PySem.Str} {Xt:Shared -> Bool} {as:List Addr} {chk:Frag -> α} {Ya:World -> α} {N:Nat} (h:∀ w,headGo p q loose Xt as chk N w = some (openGood q loose,Ya w)) :
    LeftO p q loose Xt (fun s=>chk (fragOf as s.heap)) Ya N:=by
  intro w
  obtain ⟨s₀,h0,h⟩:=opt_go (h w)
  obtain ⟨⟨T,n⟩,h1,h⟩:=opt_go h
  obtain ⟨h2,h⟩:=bool_go h
  obtain ⟨S,h3,h⟩:=opt_go h
  obtain ⟨h5,h⟩:=bool_go h
  obtain ⟨K,h6,h⟩:=opt_go h
  have hh:=abs_toT h1
  have hn:s₀.heap.objs.size = n:=by rw [<- hh]; exact absHeap_size T n _
  have h4:=topRunT_of _ _ _ _ h3
  have e0:SharedT.abs ⟨T,n,s₀.heap.life,s₀.gens,s₀.drawn,s₀.toks,s₀.os⟩ = s₀:=by
    show (⟨absHeap T n s₀.heap.life,s₀.gens,s₀.drawn,s₀.toks,s₀.os⟩:Shared) = s₀
    rw [hh]
  rw [e0] at h4
  unfold openEnds
  rw [h0]
  show ((topFrom treeTable p w N s₀)).map _ = _
  unfold topFrom
  rw [h2,hn]
  dsimp only
  rw [h4]
  show ((match staticsOk (importedModules p.main.body) s₀.heap S.abs.heap && namesBound p S.abs.heap && gensDone S.abs && laidKept s₀.heap S.abs.heap with | true=>some S.abs | false=>none):Option Shared).map _ = _
  rw [h5]
  show some (openSeen q loose (importedModules p.main.body) Xt true S.abs,chk (fragOf as S.abs.heap)) = _
  rw [show fragOf as S.abs.heap = K from fragT_of (life:=S.life) as h6]
  exact h
end Mine
end
section
set_option maxRecDepth 100000
set_option maxHeartbeats 0
namespace Mine
open PySem PySem.W PyProof.Rows
noncomputable def seenAt:List Addr:=(List.range 934).filter fun i=>Nat.testBit 0x36e73b73b76eddbb76e76edcedceddbb4feddb01b76e4feddbb76e76e76e76e7b76eddbb76eddbb76edda00fed01b67f3b76e76e7680db3fb76eddbb73b76edda036eddbb76eddbb76eddb9dbb79dbb769fdbb739ceddbb76eddbb76eddbb7680cedceddbb739dbb7f69c09c09c09c09fb6076800c i
abbrev thePr:Program:=PySem.Challenge.rw_sa0456_01.prog
noncomputable def looseL:List PySem.Str:=PySem.Challenge.rw_sa0456_01.prog.boundNames.filter fun x=>!(x == ("law" : PySem.Str))
noncomputable def seeK (K:Frag):=(checks K,dataChk K,K.lookup 76,[(fdOf K 36).body,(fdOf K 638).body,(fdOf K 921).body,(fdOf K 926).body],trAll K,[spTr (scAt K 638) unB 0 unD,spTr (scAt K 921) riB 0 (riD (scAt K 921)),spTr (scAt K 926) toB 5 (tdD (scAt K 926))],trE 30 (scAt K 638) 0 unS.1)
noncomputable def seenK:=(([true,true,true,true,true,true,true,true,true,true,true,true,true,true,true,true,true,true,true,true,true,true,true]:List Bool),T9,some objTF,[FuncBody.stmts leB,.stmts unB,.stmts riB,.stmts toB],trExp,[f_Checker_unify.body,f_law_rings.body,f_law_told.body],Ex.meth (.attr (.var "self") "infer") "unify" [.var "one",.var "other"])
lay_quick Mine.headGo
theorem run_tw (w:World):PySem.W.Fast.tw8588006456857413272 thePr (view thePr [86]) looseL (xlAt (view thePr [86]) []) seenAt seeK 12486 w = some (openGood (view thePr [86]) looseL,seenK):=by kernel_rfl
theorem run_hd (w:World):headGo thePr (view thePr [86]) looseL (xlAt (view thePr [86]) []) seenAt seeK 12486 w = some (openGood (view thePr [86]) looseL,seenK):=by
  rw [PySem.W.Fast.te8588006456857413272]; exact run_tw w
theorem left:LeftO thePr (view thePr [86]) looseL (xlAt (view thePr [86]) []) (fun s=>seeK (fragOf seenAt s.heap)) (fun _=>seenK) 12486:=left_of run_hd
theorem see_hf {h:Heap} (e:seeK (fragOf seenAt h) = seenK):∃ K,Frag.In K h /\ HF K:=⟨_,fragOf_in,⟨congrArg (·.1) e,congrArg (·.2.1) e,congrArg (·.2.2.1) e,congrArg (·.2.2.2.1) e,congrArg (·.2.2.2.2.1) e,congrArg (·.2.2.2.2.2.1) e,congrArg (·.2.2.2.2.2.2) e⟩⟩
end Mine
end
section
set_option maxRecDepth 100000
set_option maxHeartbeats 0
namespace Mine
open PySem PySem.W PyProof.Rows
noncomputable def part (i:Nat) (l:OpenLaw):Bool:=match i with
  | 0=>namesResolve l.row.prog
  | 1=>l.row.prog.boundNames.all (fun n=>!worldNames.contains n)
  | 2=>noRoadLSs { strict:=!(importedModules l.row.prog.main.body).all cThrough.contains,foot:=none,bare:=(["vars","dir","locals"]:List PySem.Str).filter (readsOut l.row.prog l.row.prog.main.body) } l.row.prog.main.body
  | 3=>namesMeet l.row.prog l.row.prog.main.body (fun _ n=>attrL n)
  | 4=>l.row.prog.boundNames.contains l.row.name
  | 5=>l.footing.all footLine
  | 6=>noClassBlock l.prog l.footing
  | 7=>noRoadLSs { strict:=true,foot:=some l.bound',writes:=l.writes,may:=l.may } l.footing
  | 8=>defStands l.about l.above
  | 9=>l.namesIt
  | 10=>l.bound'.all (fun n=>!builtinNamed n || l.about == [n] || !l.reads n)
  | 11=>namesMeet l.prog l.footing (fun sc n=>(!(["type","isinstance","issubclass","getattr","hasattr"]:List PySem.Str).contains n || sc.names.lookup n == some .globalImplicit) && (l.may != some n || sc.kind == .module || sc.names.lookup n == some .globalImplicit))
  | 12=>l.own.contains l.name
  | 13=>(l.own.eraseDups.length == l.own.length)
  | 14=>l.own.all (fun n=>!builtinNamed n)
  | 15=>namesMeet l.prog l.above (fun _ n=>!l.own.contains n)
  | 16=>namesMeet l.prog l.footing (fun sc n=>sc.kind == .module || sc.names.lookup n != some .globalExplicit)
  | 17=>(l.prog.main.body.flatMap importedNames).all (fun n=>!l.reads n || (drawsOf n l.prog.main.body).all fun mn=>mn.2 != ("attrgetter" : PySem.Str) && mn.2 != ("methodcaller" : PySem.Str))
  | 18=>sreFenced l.row.prog.main
  | 19=>((moduleNames l.row.prog.main.body).isEmpty || lookedIntoSs (moduleNames l.row.prog.main.body) l.row.prog.main.body)
  | _=>true
lay_quick Mine.part
theorem q0':PySem.W.Fast.tw4354636460593545344 0 PySem.Challenge.rw_sa0456_01 = true:=by kernel_rfl
theorem q0:namesResolve PySem.Challenge.rw_sa0456_01.row.prog = true:=(congrFun (congrFun PySem.W.Fast.te4354636460593545344 0) PySem.Challenge.rw_sa0456_01).trans q0'
theorem q1':PySem.W.Fast.tw4354636460593545344 1 PySem.Challenge.rw_sa0456_01 = true:=by kernel_rfl
theorem q1:PySem.Challenge.rw_sa0456_01.row.prog.boundNames.all (fun n=>!worldNames.contains n) = true:=(congrFun (congrFun PySem.W.Fast.te4354636460593545344 1) PySem.Challenge.rw_sa0456_01).trans q1'
theorem q2':PySem.W.Fast.tw4354636460593545344 2 PySem.Challenge.rw_sa0456_01 = true:=by kernel_rfl
theorem q2:noRoadLSs { strict:=!(importedModules PySem.Challenge.rw_sa0456_01.row.prog.main.body).all cThrough.contains,foot:=none,bare:=(["vars","dir","locals"]:List PySem.Str).filter (readsOut PySem.Challenge.rw_sa0456_01.row.prog PySem.Challenge.rw_sa0456_01.row.prog.main.body) } PySem.Challenge.rw_sa0456_01.row.prog.main.body = true:=(congrFun (congrFun PySem.W.Fast.te4354636460593545344 2) PySem.Challenge.rw_sa0456_01).trans q2'
theorem q3':PySem.W.Fast.tw4354636460593545344 3 PySem.Challenge.rw_sa0456_01 = true:=by kernel_rfl
theorem q3:namesMeet PySem.Challenge.rw_sa0456_01.row.prog PySem.Challenge.rw_sa0456_01.row.prog.main.body (fun _ n=>attrL n) = true:=(congrFun (congrFun PySem.W.Fast.te4354636460593545344 3) PySem.Challenge.rw_sa0456_01).trans q3'
theorem q4':PySem.W.Fast.tw4354636460593545344 4 PySem.Challenge.rw_sa0456_01 = true:=by kernel_rfl
theorem q4:PySem.Challenge.rw_sa0456_01.row.prog.boundNames.contains PySem.Challenge.rw_sa0456_01.row.name = true:=(congrFun (congrFun PySem.W.Fast.te4354636460593545344 4) PySem.Challenge.rw_sa0456_01).trans q4'
theorem q5':PySem.W.Fast.tw4354636460593545344 5 PySem.Challenge.rw_sa0456_01 = true:=by kernel_rfl
theorem q5:PySem.Challenge.rw_sa0456_01.footing.all footLine = true:=(congrFun (congrFun PySem.W.Fast.te4354636460593545344 5) PySem.Challenge.rw_sa0456_01).trans q5'
theorem q6':PySem.W.Fast.tw4354636460593545344 6 PySem.Challenge.rw_sa0456_01 = true:=by kernel_rfl
theorem q6:noClassBlock PySem.Challenge.rw_sa0456_01.prog PySem.Challenge.rw_sa0456_01.footing = true:=(congrFun (congrFun PySem.W.Fast.te4354636460593545344 6) PySem.Challenge.rw_sa0456_01).trans q6'
theorem q7':PySem.W.Fast.tw4354636460593545344 7 PySem.Challenge.rw_sa0456_01 = true:=by kernel_rfl
theorem q7:noRoadLSs { strict:=true,foot:=some PySem.Challenge.rw_sa0456_01.bound',writes:=PySem.Challenge.rw_sa0456_01.writes,may:=PySem.Challenge.rw_sa0456_01.may } PySem.Challenge.rw_sa0456_01.footing = true:=(congrFun (congrFun PySem.W.Fast.te4354636460593545344 7) PySem.Challenge.rw_sa0456_01).trans q7'
theorem q8':PySem.W.Fast.tw4354636460593545344 8 PySem.Challenge.rw_sa0456_01 = true:=by kernel_rfl
theorem q8:defStands PySem.Challenge.rw_sa0456_01.about PySem.Challenge.rw_sa0456_01.above = true:=(congrFun (congrFun PySem.W.Fast.te4354636460593545344 8) PySem.Challenge.rw_sa0456_01).trans q8'
theorem q9':PySem.W.Fast.tw4354636460593545344 9 PySem.Challenge.rw_sa0456_01 = true:=by kernel_rfl
theorem q9:PySem.Challenge.rw_sa0456_01.namesIt = true:=(congrFun (congrFun PySem.W.Fast.te4354636460593545344 9) PySem.Challenge.rw_sa0456_01).trans q9'
theorem q10':PySem.W.Fast.tw4354636460593545344 10 PySem.Challenge.rw_sa0456_01 = true:=by kernel_rfl
theorem q10:PySem.Challenge.rw_sa0456_01.bound'.all (fun n=>!builtinNamed n || PySem.Challenge.rw_sa0456_01.about == [n] || !PySem.Challenge.rw_sa0456_01.reads n) = true:=(congrFun (congrFun PySem.W.Fast.te4354636460593545344 10) PySem.Challenge.rw_sa0456_01).trans q10'
theorem q11':PySem.W.Fast.tw4354636460593545344 11 PySem.Challenge.rw_sa0456_01 = true:=by kernel_rfl
theorem q11:namesMeet PySem.Challenge.rw_sa0456_01.prog PySem.Challenge.rw_sa0456_01.footing (fun sc n=>(!(["type","isinstance","issubclass","getattr","hasattr"]:List PySem.Str).contains n || sc.names.lookup n == some .globalImplicit) && (PySem.Challenge.rw_sa0456_01.may != some n || sc.kind == .module || sc.names.lookup n == some .globalImplicit)) = true:=(congrFun (congrFun PySem.W.Fast.te4354636460593545344 11) PySem.Challenge.rw_sa0456_01).trans q11'
theorem q12':PySem.W.Fast.tw4354636460593545344 12 PySem.Challenge.rw_sa0456_01 = true:=by kernel_rfl
theorem q12:PySem.Challenge.rw_sa0456_01.own.contains PySem.Challenge.rw_sa0456_01.name = true:=(congrFun (congrFun PySem.W.Fast.te4354636460593545344 12) PySem.Challenge.rw_sa0456_01).trans q12'
theorem q13':PySem.W.Fast.tw4354636460593545344 13 PySem.Challenge.rw_sa0456_01 = true:=by kernel_rfl
theorem q13:(PySem.Challenge.rw_sa0456_01.own.eraseDups.length == PySem.Challenge.rw_sa0456_01.own.length) = true:=(congrFun (congrFun PySem.W.Fast.te4354636460593545344 13) PySem.Challenge.rw_sa0456_01).trans q13'
theorem q14':PySem.W.Fast.tw4354636460593545344 14 PySem.Challenge.rw_sa0456_01 = true:=by kernel_rfl
theorem q14:PySem.Challenge.rw_sa0456_01.own.all (fun n=>!builtinNamed n) = true:=(congrFun (congrFun PySem.W.Fast.te4354636460593545344 14) PySem.Challenge.rw_sa0456_01).trans q14'
theorem q15':PySem.W.Fast.tw4354636460593545344 15 PySem.Challenge.rw_sa0456_01 = true:=by kernel_rfl
theorem q15:namesMeet PySem.Challenge.rw_sa0456_01.prog PySem.Challenge.rw_sa0456_01.above (fun _ n=>!PySem.Challenge.rw_sa0456_01.own.contains n) = true:=(congrFun (congrFun PySem.W.Fast.te4354636460593545344 15) PySem.Challenge.rw_sa0456_01).trans q15'
theorem q16':PySem.W.Fast.tw4354636460593545344 16 PySem.Challenge.rw_sa0456_01 = true:=by kernel_rfl
theorem q16:namesMeet PySem.Challenge.rw_sa0456_01.prog PySem.Challenge.rw_sa0456_01.footing (fun sc n=>sc.kind == .module || sc.names.lookup n != some .globalExplicit) = true:=(congrFun (congrFun PySem.W.Fast.te4354636460593545344 16) PySem.Challenge.rw_sa0456_01).trans q16'
theorem q17':PySem.W.Fast.tw4354636460593545344 17 PySem.Challenge.rw_sa0456_01 = true:=by kernel_rfl
theorem q17:(PySem.Challenge.rw_sa0456_01.prog.main.body.flatMap importedNames).all (fun n=>!PySem.Challenge.rw_sa0456_01.reads n || (drawsOf n PySem.Challenge.rw_sa0456_01.prog.main.body).all fun mn=>mn.2 != ("attrgetter" : PySem.Str) && mn.2 != ("methodcaller" : PySem.Str)) = true:=(congrFun (congrFun PySem.W.Fast.te4354636460593545344 17) PySem.Challenge.rw_sa0456_01).trans q17'
theorem q18':PySem.W.Fast.tw4354636460593545344 18 PySem.Challenge.rw_sa0456_01 = true:=by kernel_rfl
theorem q18:sreFenced PySem.Challenge.rw_sa0456_01.row.prog.main = true:=(congrFun (congrFun PySem.W.Fast.te4354636460593545344 18) PySem.Challenge.rw_sa0456_01).trans q18'
theorem q19':PySem.W.Fast.tw4354636460593545344 19 PySem.Challenge.rw_sa0456_01 = true:=by kernel_rfl
theorem q19:((moduleNames PySem.Challenge.rw_sa0456_01.row.prog.main.body).isEmpty || lookedIntoSs (moduleNames PySem.Challenge.rw_sa0456_01.row.prog.main.body) PySem.Challenge.rw_sa0456_01.row.prog.main.body) = true:=(congrFun (congrFun PySem.W.Fast.te4354636460593545344 19) PySem.Challenge.rw_sa0456_01).trans q19'
end Mine
end
section
set_option maxRecDepth 100000
set_option maxHeartbeats 0
namespace Mine
open PySem PySem.W PyProof.Rows
theorem said:PySem.Challenge.rw_sa0456_01.wellSaid = true:=by
  unfold OpenLaw.wellSaid OpenRow.wellSaid OpenRow.partSaid looksOpen
  repeat' (with_reducible refine Bool.and_eq_true_iff.mpr ⟨?_,?_⟩)
  all_goals first | with_reducible exact q0 | with_reducible exact q1 | with_reducible exact q2 | with_reducible exact q3 | with_reducible exact q4 | with_reducible exact q5 | with_reducible exact q6 | with_reducible exact q7 | with_reducible exact q8 | with_reducible exact q9 | with_reducible exact q10 | with_reducible exact q11 | with_reducible exact q12 | with_reducible exact q13 | with_reducible exact q14 | with_reducible exact q15 | with_reducible exact q16 | with_reducible exact q17 | with_reducible exact q18 | with_reducible exact q19 | skip
  all_goals kernel_rfl
end Mine
end
section
set_option maxHeartbeats 1000000
set_option maxRecDepth 20000
namespace Mine
noncomputable def Run {α:Type} (x:M α) (σ:Store) (Q:α -> Store -> Prop) (R:Bool -> Store -> Prop):Prop:=match x σ with
  | .ok a s=>Q a s
  | .raise _ _ c s=>R c s
  | .fail=>False
section
variable {α β:Type} {σ:Store} {R R':Bool -> Store -> Prop}
set_option tactic.hygienic true in
theorem run_bind {x:M α} {f:α -> M β} {Q:β -> Store -> Prop}:Run (M.bind x f) σ Q R = Run x σ (fun a s=>Run (f a) s Q R) R:=by
  unfold Run M.bind
  cases x σ <;> rfl
theorem g_bind {x:M α} {f:α -> M β} {Q:β -> Store -> Prop} (h:Run x σ (fun a s=>Run (f a) s Q R) R):Run (M.bind x f) σ Q R:=run_bind ▸ h
theorem Run.mono {x:M α} {Q Q':α -> Store -> Prop} (h:Run x σ Q R) (hq:∀ a s,Q a s -> Q' a s) (hr:∀ c s,R c s -> R' c s):Run x σ Q' R':=by
  unfold Run at *
  generalize x σ = y at *
  rcases y with ⟨a,s⟩ | ⟨m,k,c,s⟩ | _
  · exact hq _ _ h
  · exact hr _ _ h
  · exact h.elim
theorem Run.then {x:M α} {Q Q':α -> Store -> Prop} (h:Run x σ Q R) (hq:∀ a s,Q a s -> Q' a s):Run x σ Q' R:=h.mono hq fun _ _ z=>z
theorem run_of {x:M α} {a:α} {s:Store} {Q:α -> Store -> Prop} (h:x σ = .ok a s) (hq:Q a s):Run x σ Q R:=by
  unfold Run; rw [h]; exact hq
theorem run_raise {x:M α} {m k c} {s:Store} {Q:α -> Store -> Prop} (h:x σ = .raise m k c s) (hr:R c s):Run x σ Q R:=by
  unfold Run; rw [h]; exact hr
theorem run_pos {c:Prop} [Decidable c] {x y:M α} {Q:α -> Store -> Prop} (h:c) (z:Run x σ Q R):Run (if c then x else y) σ Q R:=by rw [if_pos h]; exact z
theorem run_neg {c:Prop} [Decidable c] {x y:M α} {Q:α -> Store -> Prop} (h:¬ c) (z:Run y σ Q R):Run (if c then x else y) σ Q R:=by rw [if_neg h]; exact z
theorem run_noRaise {x:M α} {Q:α -> Store -> Prop} (h:Run x σ Q (fun _ _=>False)):Run (noRaise x) σ Q R:=by
  unfold Run noRaise at *
  generalize x σ = y at *
  rcases y with ⟨a,s⟩ | ⟨m,k,c,s⟩ | _
  · exact h
  · exact h.elim
  · exact h
end
noncomputable def hgt (p:Prop):Prop:=(fun _:M Unit -> Store -> Prop=>p) fun x s=>Run x s (fun _ _=>True) fun _ _=>True
noncomputable def cnd (t:Bool) (p q:Prop):Prop:=hgt (match t with | true=>p | false=>q)
noncomputable def optP {α:Type} (o:Option α) (f:α -> Prop):Prop:=hgt (match o with | some a=>f a | none=>False)
mutual
noncomputable def wpE (C:Oracle) (ρ:Env) (R:Bool -> Store -> Prop):Ex -> (V -> Store -> Prop) -> Store -> Prop
  | .k v,Q,s=>Q v s
  | .neg i,Q,s=>Q (.int (-(i:Int))) s
  | .var x,Q,s=>optP (ρ x) fun v=>Q v s
  | .g x,Q,s=>Q (gval x) s
  | .attr e a,Q,s=>wpE C ρ R e (fun o s=>Run (doAttr o a) s Q R) s
  | .bin o l r,Q,s=>wpE C ρ R l (fun a s=>wpE C ρ R r (fun b s=>Run (doBin o a b) s Q R) s) s
  | .notE e,Q,s=>wpE C ρ R e (fun v s=>Run (truth v) s (fun b s=>Q (.bool (!b)) s) R) s
  | .cmp c l r,Q,s=>wpE C ρ R l (fun a s=>wpE C ρ R r (fun b s=>Run (doCmp c a b) s Q R) s) s
  | .andE l,Q,s=>wpA C ρ R l Q s
  | .orE l,Q,s=>wpO C ρ R l Q s
  | .ite c a b,Q,s=>wpE C ρ R c (fun v s=>Run (truth v) s (fun t s=>cnd t (wpE C ρ R a Q s) (wpE C ρ R b Q s)) R) s
  | .idx e i,Q,s=>wpE C ρ R e (fun a s=>wpE C ρ R i (fun b s=>Run (doIdx a b) s Q R) s) s
  | .rev e,Q,s=>wpE C ρ R e (fun a s=>Run (doRev a) s Q R) s
  | .upto e i,Q,s=>wpE C ρ R e (fun a s=>wpE C ρ R i (fun b s=>Run (doUpto a b) s Q R) s) s
  | .from_ e i,Q,s=>wpE C ρ R e (fun a s=>wpE C ρ R i (fun b s=>Run (doFrom a b) s Q R) s) s
  | .tupE l,Q,s=>wpL C ρ R l (fun vs s=>Q (.tup vs) s) s
  | .lstE mt l,Q,s=>wpL C ρ R l (fun vs s=>cnd mt (Q (.obj s.n) (s.push (.list vs))) (Q (.lst vs) s)) s
  | .dictE l,Q,s=>wpP C ρ R l (fun ps s=>Run (newDict ps) s Q R) s
  | .comp elt x rng it cond,Q,s=>wpE C ρ R it (fun a s=>Run (if rng = true then rangeOf a else itemsOf a) s (fun l s=>Run (mapItems (fun v=>M.bind (condO C (ρ.set x v) cond) fun t=>if t = true then M.bind (ev C (ρ.set x v) elt) fun y=>M.ret (some y) else M.ret none) l) s (fun vs s=>vs.length < 100000 /\ Q (.lst vs) s) fun _ _=>False) R) s
  | .call f l,Q,s=>wpE C ρ R f (fun a s=>Run (canCall a) s (fun _ s=>wpL C ρ R l (fun vs s=>Run (doCall C a vs) s Q R) s) R) s
  | .meth o m l,Q,s=>wpE C ρ R o (fun a s=>Run (doGetM a m) s (fun b s=>wpL C ρ R l (fun vs s=>Run (doApp C b m vs) s Q R) s) R) s
  | .dead,_,_=>False
noncomputable def wpL (C:Oracle) (ρ:Env) (R:Bool -> Store -> Prop):List Ex -> (List V -> Store -> Prop) -> Store -> Prop
  | [],Q,s=>Q [] s
  | e :: r,Q,s=>wpE C ρ R e (fun v s=>wpL C ρ R r (fun vs s=>Q (v :: vs) s) s) s
noncomputable def wpP (C:Oracle) (ρ:Env) (R:Bool -> Store -> Prop):List (Ex × Ex) -> (List (V × V) -> Store -> Prop) -> Store -> Prop
  | (k,v) :: r,Q,s=>wpE C ρ R k (fun a s=>wpE C ρ R v (fun b s=>wpP C ρ R r (fun ps s=>Q ((a,b) :: ps) s) s) s) s
  | [],Q,s=>Q [] s
noncomputable def wpA (C:Oracle) (ρ:Env) (R:Bool -> Store -> Prop):List Ex -> (V -> Store -> Prop) -> Store -> Prop
  | [],_,_=>False
  | e :: r,Q,s=>match r with
    | []=>wpE C ρ R e Q s
    | _ :: _=>wpE C ρ R e (fun v s=>Run (truth v) s (fun b s=>cnd b (wpA C ρ R r Q s) (Q v s)) R) s
noncomputable def wpO (C:Oracle) (ρ:Env) (R:Bool -> Store -> Prop):List Ex -> (V -> Store -> Prop) -> Store -> Prop
  | [],_,_=>False
  | e :: r,Q,s=>match r with
    | []=>wpE C ρ R e Q s
    | _ :: _=>wpE C ρ R e (fun v s=>Run (truth v) s (fun b s=>cnd b (Q v s) (wpO C ρ R r Q s)) R) s
end
section
variable {C:Oracle} {ρ:Env} {R:Bool -> Store -> Prop}
theorem opt_ok {α:Type} {o:Option α} {Q:α -> Store -> Prop} {s:Store} (h:optP o fun v=>Q v s):Run (ofOpt o) s Q R:=by
  rcases o with _ | a
  · exact h.elim
  · exact h
theorem ite_ok {α:Type} {t:Bool} {x y:M α} {p q:Prop} {Q:α -> Store -> Prop} {s:Store} (h:cnd t p q) (hx:p -> Run x s Q R) (hy:q -> Run y s Q R):Run (if t = true then x else y) s Q R:=by
  rcases t with _ | _
  · exact hy h
  · exact hx h
theorem comp_ok {it:M (List V)} {f:List V -> M (List V)} {Q:V -> Store -> Prop} {s:Store} (h:Run it s (fun l s=>Run (f l) s (fun vs s=>vs.length < 100000 /\ Q (.lst vs) s) fun _ _=>False) R):Run (compG it f) s Q R :=
  g_bind (h.then fun l s z=>g_bind (run_noRaise (z.then fun vs s z=>run_pos z.1 z.2)))
mutual
theorem wpE_ok:∀ (e:Ex) {Q:V -> Store -> Prop} {s:Store},wpE C ρ R e Q s -> Run (ev C ρ e) s Q R
  | .k _,_,_,h=>h
  | .neg _,_,_,h=>h
  | .var _,_,_,h=>opt_ok h
  | .g _,_,_,h=>h
  | .attr e _,_,_,h=>g_bind (wpE_ok e h)
  | .bin _ l r,_,_,h=>g_bind ((wpE_ok l h).then fun _ _ z=>g_bind (wpE_ok r z))
  | .notE e,_,_,h=>g_bind (g_bind (wpE_ok e h))
  | .cmp _ l r,_,_,h=>g_bind ((wpE_ok l h).then fun _ _ z=>g_bind (wpE_ok r z))
  | .andE l,_,_,h=>wpA_ok l h
  | .orE l,_,_,h=>wpO_ok l h
  | .ite c a b,_,_,h=>g_bind (g_bind ((wpE_ok c h).then fun _ _ z=>z.then fun _ _ z=>ite_ok z (wpE_ok a) (wpE_ok b)))
  | .idx e i,_,_,h=>g_bind ((wpE_ok e h).then fun _ _ z=>g_bind (wpE_ok i z))
  | .rev e,_,_,h=>g_bind (wpE_ok e h)
  | .upto e i,_,_,h=>g_bind ((wpE_ok e h).then fun _ _ z=>g_bind (wpE_ok i z))
  | .from_ e i,_,_,h=>g_bind ((wpE_ok e h).then fun _ _ z=>g_bind (wpE_ok i z))
  | .tupE l,_,_,h=>g_bind (wpL_ok l h)
  | .lstE mt l,_,_,h=>g_bind ((wpL_ok l h).then fun _ _ z=>ite_ok z (fun z=>z) fun z=>z)
  | .dictE l,_,_,h=>g_bind (wpP_ok l h)
  | .comp _ _ _ it c,_,_,h=>by
    rcases c with _ | c <;> exact comp_ok (g_bind (wpE_ok it h))
  | .call f l,_,_,h=>g_bind ((wpE_ok f h).then fun _ _ z=>g_bind (z.then fun _ _ z=>g_bind (wpL_ok l z)))
  | .meth o _ l,_,_,h=>g_bind ((wpE_ok o h).then fun _ _ z=>g_bind (z.then fun _ _ z=>g_bind (wpL_ok l z)))
  | .dead,_,_,h=>h.elim
theorem wpL_ok:∀ (l:List Ex) {Q:List V -> Store -> Prop} {s:Store},wpL C ρ R l Q s -> Run (evs C ρ l) s Q R
  | [],_,_,h=>h
  | e :: r,_,_,h=>g_bind ((wpE_ok e h).then fun _ _ z=>g_bind (wpL_ok r z))
theorem wpP_ok:∀ (l:List (Ex × Ex)) {Q:List (V × V) -> Store -> Prop} {s:Store},wpP C ρ R l Q s -> Run (evp C ρ l) s Q R
  | [],_,_,h=>h
  | (k,v) :: r,_,_,h=>g_bind ((wpE_ok k h).then fun _ _ z=>g_bind ((wpE_ok v z).then fun _ _ z=>g_bind (wpP_ok r z)))
theorem wpA_ok:∀ (l:List Ex) {Q:V -> Store -> Prop} {s:Store},wpA C ρ R l Q s -> Run (evAnd C ρ l) s Q R
  | [],_,_,h=>h.elim
  | [e],_,_,h=>wpE_ok e h
  | e :: d :: r,_,_,h=>g_bind ((wpE_ok e h).then fun _ _ z=>g_bind (z.then fun _ _ z=>ite_ok z (wpA_ok (d :: r)) fun z=>z))
theorem wpO_ok:∀ (l:List Ex) {Q:V -> Store -> Prop} {s:Store},wpO C ρ R l Q s -> Run (evOr C ρ l) s Q R
  | [],_,_,h=>h.elim
  | [e],_,_,h=>wpE_ok e h
  | e :: d :: r,_,_,h=>g_bind ((wpE_ok e h).then fun _ _ z=>g_bind (z.then fun _ _ z=>ite_ok z (fun z=>z) (wpO_ok (d :: r))))
end
end
abbrev QF:=Flow -> Env -> Store -> Prop
noncomputable def unc (Q:QF) (p:Flow × Env) (s:Store):Prop:=hgt (Q p.1 p.2 s)
structure WhlP (C:Oracle) (R:Bool -> Store -> Prop) (c:Ex) (b:List St) (k:Nat) (ρ:Env) (Q:QF) (s:Store):Prop where
  run:Run (whileT (fun ρ=>tst C ρ c) (exs C b) k ρ) s (unc Q) R
structure ForP (C:Oracle) (R:Bool -> Store -> Prop) (x:String) (b:List St) (l:List V) (ρ:Env) (Q:QF) (s:Store):Prop where
  run:Run (forItems (fun v ρ=>exs C b (ρ.set x v)) l ρ) s (unc Q) R
structure ForO (C:Oracle) (R:Bool -> Store -> Prop) (x:String) (b:List St) (j k i:Nat) (ρ:Env) (Q:QF) (s:Store):Prop where
  run:Run (forObj (fun v ρ=>exs C b (ρ.set x v)) j k i ρ) s (unc Q) R
noncomputable def wpF (C:Oracle) (R:Bool -> Store -> Prop) (x:String) (rng:Bool) (b:List St) (a:V) (ρ:Env) (Q:QF) (s:Store):Prop :=
  cnd rng (Run (rangeOf a) s (fun l s=>ForP C R x b l ρ Q s) R) (match a with
    | .obj j=>ForO C R x b j 1000 0 ρ Q s
    | a=>Run (itemsOf a) s (fun l s=>ForP C R x b l ρ Q s) R)
noncomputable def nextQ (f:Env -> Store -> Prop) (Q:QF) (fl:Flow) (ρ:Env) (s:Store):Prop:=hgt (match fl with
  | .next=>f ρ s
  | _=>Q fl ρ s)
set_option tactic.hygienic true in
mutual
noncomputable def wpS (C:Oracle) (R:Bool -> Store -> Prop):St -> Env -> QF -> Store -> Prop
  | .asg x e,ρ,Q,s=>wpE C ρ R e (fun v s=>Q .next (ρ.set x v) s) s
  | .unpk xs e,ρ,Q,s=>wpE C ρ R e (fun a s=>Run (itemsOf a) s (fun l s=>l.length = xs.length /\ Q .next (ρ.sets xs l) s) R) s
  | .asg2 xs es,ρ,Q,s=>wpL C ρ R es (fun l s=>l.length = xs.length /\ Q .next (ρ.sets xs l) s) s
  | .setA o a e,ρ,Q,s=>wpE C ρ R e (fun v s=>wpE C ρ R o (fun x s=>Run (doSetA x a v) s (fun _ s=>Q .next ρ s) R) s) s
  | .setI o i e,ρ,Q,s=>wpE C ρ R e (fun v s=>wpE C ρ R o (fun x s=>wpE C ρ R i (fun j s=>Run (doSetI x j v) s (fun _ s=>Q .next ρ s) R) s) s) s
  | .ex e,ρ,Q,s=>wpE C ρ R e (fun _ s=>Q .next ρ s) s
  | .ret e,ρ,Q,s=>wpE C ρ R e (fun v s=>Q (.ret v) ρ s) s
  | .retN,ρ,Q,s=>Q (.ret .none) ρ s
  | .ifS c a b,ρ,Q,s=>wpE C ρ R c (fun v s=>Run (truth v) s (fun t s=>cnd t (wpB C R a ρ Q s) (wpB C R b ρ Q s)) R) s
  | .cont,ρ,Q,s=>Q .cont ρ s
  | .raiseT m k,ρ,Q,s=>wpL C ρ R (m :: k.toList) (fun vs s=>Run (mkTF vs) s (fun _ s=>R false s) R) s
  | .forS x rng it b,ρ,Q,s=>wpE C ρ R it (fun a s=>wpF C R x rng b a ρ Q s) s
  | .whl c b,ρ,Q,s=>WhlP C R c b 200 ρ Q s
  | .rethrow o m l k,ρ,Q,s=>optP (ρ k) fun i=>Run (reTry (ev C ρ (.meth o m l)) i ρ) s (unc Q) R
  | .tryRet x e v,ρ,Q,s=>Run (catchM (ev C ρ e) x v ρ) s (unc Q) R
  | .asgF z elt x it cond y it2,ρ,Q,s=>Run (ex1 C (.asgF z elt x it cond y it2) ρ) s (unc Q) R
  | .dead,_,_,_=>False
noncomputable def wpB (C:Oracle) (R:Bool -> Store -> Prop):List St -> Env -> QF -> Store -> Prop
  | [],ρ,Q,s=>Q .next ρ s
  | c :: r,ρ,Q,s=>wpS C R c ρ (nextQ (fun ρ s=>wpB C R r ρ Q s) Q) s
end
section
variable {C:Oracle} {R:Bool -> Store -> Prop}
theorem next_ok {f:Env -> M (Flow × Env)} {g:Env -> Store -> Prop} {Q:QF} (hg:∀ ρ s,g ρ s -> Run (f ρ) s (unc Q) R) {p:Flow × Env} {s:Store} (h:nextQ g Q p.1 p.2 s):Run (nextS f p) s (unc Q) R:=by
  obtain ⟨fl,ρ⟩:=p
  rcases fl with _ | _ | _
  · exact hg _ _ h
  · exact h
  · exact h
theorem for_ok {m:M (List V)} {x:String} {b:List St} {ρ:Env} {Q:QF} {s:Store} (h:Run m s (fun l s=>ForP C R x b l ρ Q s) R):Run (M.bind m fun l=>forItems (fun v ρ=>exs C b (ρ.set x v)) l ρ) s (unc Q) R:=g_bind (h.then fun _ _ z=>z.run)
theorem wpF_ok {x:String} {rng:Bool} {b:List St} {a:V} {ρ:Env} {Q:QF} {s:Store} (h:wpF C R x rng b a ρ Q s):Run (if rng = true then M.bind (rangeOf a) fun l=>forItems (fun v ρ=>exs C b (ρ.set x v)) l ρ else forV (exs C b) x ρ a) s (unc Q) R:=by
  rcases rng with _ | _
  · rcases a with _ | a | a | a | a | a | a | a
    case none=>exact for_ok (C:=C) (x:=x) (b:=b) (ρ:=ρ) (m:=itemsOf .none) h
    case bool=>exact for_ok (C:=C) (x:=x) (b:=b) (ρ:=ρ) (m:=itemsOf (.bool a)) h
    case int=>exact for_ok (C:=C) (x:=x) (b:=b) (ρ:=ρ) (m:=itemsOf (.int a)) h
    case str=>exact for_ok (C:=C) (x:=x) (b:=b) (ρ:=ρ) (m:=itemsOf (.str a)) h
    case tup=>exact for_ok (C:=C) (x:=x) (b:=b) (ρ:=ρ) (m:=itemsOf (.tup a)) h
    case lst=>exact for_ok (C:=C) (x:=x) (b:=b) (ρ:=ρ) (m:=itemsOf (.lst a)) h
    case obj=>exact h.run
    case g=>exact for_ok (C:=C) (x:=x) (b:=b) (ρ:=ρ) (m:=itemsOf (.g a)) h
  · exact for_ok h
mutual
theorem wpS_ok:∀ (c:St) (ρ:Env) {Q:QF} {s:Store},wpS C R c ρ Q s -> Run (ex1 C c ρ) s (unc Q) R
  | .asg _ e,_,_,_,h=>g_bind (wpE_ok e h)
  | .unpk _ e,_,_,_,h=>g_bind ((wpE_ok e h).then fun _ _ z=>g_bind (z.then fun _ _ z=>run_pos z.1 z.2))
  | .asg2 _ es,_,_,_,h=>g_bind ((wpL_ok es h).then fun _ _ z=>run_pos z.1 z.2)
  | .setA o _ e,_,_,_,h=>g_bind ((wpE_ok e h).then fun _ _ z=>g_bind ((wpE_ok o z).then fun _ _ z=>g_bind z))
  | .setI o i e,_,_,_,h=>g_bind ((wpE_ok e h).then fun _ _ z=>g_bind ((wpE_ok o z).then fun _ _ z=>g_bind ((wpE_ok i z).then fun _ _ z=>g_bind z)))
  | .ex e,_,_,_,h=>g_bind (wpE_ok e h)
  | .ret e,_,_,_,h=>g_bind (wpE_ok e h)
  | .retN,_,_,_,h=>h
  | .ifS c a b,ρ,_,_,h=>g_bind (g_bind ((wpE_ok c h).then fun _ _ z=>z.then fun _ _ z=>ite_ok z (wpB_ok a ρ) (wpB_ok b ρ)))
  | .cont,_,_,_,h=>h
  | .raiseT m k,_,_,_,h=>g_bind (g_bind (wpL_ok (m :: k.toList) h))
  | .forS _ rng it _,_,_,_,h=>g_bind ((wpE_ok it h).then fun a _ z=>wpF_ok z)
  | .whl _ _,_,_,_,h=>h.run
  | .rethrow _ _ _ _,_,_,_,h=>g_bind (opt_ok h)
  | .tryRet _ _ _,_,_,_,h=>h
  | .asgF _ _ _ _ _ _ _,_,_,_,h=>h
  | .dead,_,_,_,h=>h.elim
theorem wpB_ok:∀ (b:List St) (ρ:Env) {Q:QF} {s:Store},wpB C R b ρ Q s -> Run (exs C b ρ) s (unc Q) R
  | [],_,_,_,h=>h
  | c :: r,ρ,_,_,h=>g_bind ((wpS_ok c ρ h).then fun _ _ z=>next_ok (fun ρ _ z=>wpB_ok r ρ z) z)
end
end
end Mine
end
section
set_option maxHeartbeats 1000000
set_option maxRecDepth 20000
namespace Mine
noncomputable def finQ (Q:V -> Store -> Prop) (fl:Flow) (_:Env) (s:Store):Prop:=hgt (match fl with
  | .ret v=>Q v s
  | .next=>Q .none s
  | .cont=>False)
theorem run_call {n:Nat} {f:String} {fn:Fn} {args:List V} {ρ:Env} {σ:Store} {Q:V -> Store -> Prop} {R:Bool -> Store -> Prop} (h1:tab f = some fn) (h2:bindTo fn.params args fn.dflts = some ρ)
    (h:wpB (callF tab n) R fn.body ρ (finQ Q) σ):Run (callF tab (n + 1) f args) σ Q R:=by
  have e:callF tab (n + 1) f args = M.bind (exs (callF tab n) fn.body ρ) retOf:=by
    show (match (tab f).bind fun fn=>(bindTo fn.params args fn.dflts).map fun ρ=>(fn,ρ) with | some p=>M.bind (exs (callF tab n) p.1.body p.2) retOf | none=>M.fail) = _
    rw [h1,Option.bind_some,h2]; rfl
  rw [e]
  refine g_bind ((wpB_ok _ _ h).then fun p s z=>?_)
  obtain ⟨fl,ρ'⟩:=p
  rcases fl with _ | _ | _ <;> exact z
set_option tactic.hygienic true in
theorem next_go {f:Env -> Store -> Prop} {Q:QF} {ρ:Env} {s:Store} (h:f ρ s):nextQ f Q .next ρ s:=h
noncomputable def turnQ (f:Env -> Store -> Prop) (Q:QF) (fl:Flow) (ρ:Env) (s:Store):Prop:=hgt (match fl with
  | .ret v=>Q (.ret v) ρ s
  | _=>f ρ s)
section
variable {C:Oracle} {R:Bool -> Store -> Prop} {Q:QF} {ρ:Env} {s:Store} {b:List St} {c:Ex} {k:Nat} {x:String} {v:V} {l:List V}
theorem turn_ok {f:Env -> M (Flow × Env)} {p:Flow × Env} (h:turnQ (fun ρ s=>Run (f ρ) s (unc Q) R) Q p.1 p.2 s):Run (turned f p) s (unc Q) R:=by
  obtain ⟨fl,ρ⟩:=p
  rcases fl with _ | _ | _ <;> exact h
set_option tactic.hygienic true in
theorem whl (h:wpE C ρ R c (fun v s=>Run (truth v) s (fun t s=>cnd t (wpB C R b ρ (turnQ (fun ρ s=>WhlP C R c b k ρ Q s) Q) s) (Q .next ρ s)) R) s):WhlP C R c b (k + 1) ρ Q s :=
  ⟨g_bind (g_bind ((wpE_ok c h).then fun _ _ z=>z.then fun t _ z=>by
    rcases t with _ | _
    · exact z
    · exact g_bind ((wpB_ok b ρ z).then fun p _ z=>turn_ok (p:=p) (by
        obtain ⟨fl,ρ⟩:=p
        rcases fl with _ | _ | _ <;> first | exact z.run | exact z))))⟩
set_option tactic.hygienic true in
theorem fl_nil (h:Q .next ρ s):ForP C R x b [] ρ Q s:=⟨h⟩
theorem fl_cons (h:wpB C R b (ρ.set x v) (turnQ (fun ρ s=>ForP C R x b l ρ Q s) Q) s):ForP C R x b (v :: l) ρ Q s :=
  ⟨g_bind ((wpB_ok b _ h).then fun p _ z=>turn_ok (p:=p) (by
        obtain ⟨fl,ρ⟩:=p
        rcases fl with _ | _ | _ <;> first | exact z.run | exact z))⟩
end
noncomputable def At (σ:Store) (j:Nat) (o:AO):Prop:=j < σ.n /\ σ.get j = o
section
variable {α:Type} {σ:Store} {R:Bool -> Store -> Prop} {Q:α -> Store -> Prop} {i j:Nat} {o o':AO}
theorem At.push (h:At σ j o):At (σ.push o') j o:=⟨Nat.lt_succ_of_lt h.1,(if_neg (Nat.ne_of_lt h.1)).trans h.2⟩
theorem At.top:At (σ.push o) σ.n o:=⟨Nat.lt_succ_self _,if_pos rfl⟩
theorem At.set (h:At σ j o) (ne:j ≠ i):At (σ.set i o') j o:=⟨h.1,(if_neg ne).trans h.2⟩
theorem At.put (h:At σ j o):At (σ.set j o') j o':=⟨h.1,if_pos rfl⟩
theorem run_at {f:AO -> M α} (h:At σ j o) (z:Run (f o) σ Q R):Run (M.bind (mget j) f) σ Q R:=by
  refine g_bind (run_of (if_pos h.1) ?_)
  rw [h.2]; exact z
end
theorem run_append {C:Oracle} {σ:Store} {R:Bool -> Store -> Prop} {Q:V -> Store -> Prop} {j:Nat} {l:List V} {v:V} (h:At σ j (.list l)) (hz:l.length < 100000) (hq:Q .none (σ.set j (.list (l ++ [v])))):Run (doApp C (.lst j) "append" [v]) σ Q R :=
  run_at h (show Run (if l.length < 100000 then M.bind (mset j (.list (l ++ [v]))) fun _=>M.ret .none else M.fail) σ Q R from run_pos hz hq)
theorem run_len {C:Oracle} {σ:Store} {R:Bool -> Store -> Prop} {Q:V -> Store -> Prop} {j:Nat} {l:List V} (h:At σ j (.list l)) (hz:l.length < 100000) (hq:Q (.int (Int.ofNat l.length)) σ):Run (doCall C (.g "len") [.obj j]) σ Q R :=
  show Run (M.bind (seqOf (.obj j)) fun l=>if l.length < 100000 then M.ret (.int (Int.ofNat l.length)) else M.fail) σ Q R from g_bind (run_at h (run_pos hz hq))
inductive Kd where | u8 | bool | unit
  deriving DecidableEq
inductive Ty where | k (t:Kd) | never | var (i:Nat)
  deriving DecidableEq
noncomputable def Kd.v:Kd -> V
  | .u8=>.tup [.str "int",.str "u8"]
  | .bool=>.tup [.str "bool"]
  | .unit=>.tup [.str "tuple",.tup []]
noncomputable def Ty.v:Ty -> V
  | .k t=>t.v
  | .never=>.tup [.str "never"]
  | .var i=>.tup [.str "var",.int i]
theorem veq_never {t:Ty}:veq t.v Ty.never.v = M.ret (t == .never):=by
  rcases t with t | _ | _
  · rcases t with _ | _ | _ <;> rfl
  · rfl
  · rfl
theorem run_eq {α:Type} {x y:M α} {σ:Store} {Q:α -> Store -> Prop} {R:Bool -> Store -> Prop} (e:x = y) (h:Run y σ Q R):Run x σ Q R:=e ▸ h
theorem run_veq {a b:V} {t:Bool} {σ:Store} {Q:V -> Store -> Prop} {R:Bool -> Store -> Prop} (e:veq a b = M.ret t) (h:Q (.bool t) σ):Run (isB (veq a b)) σ Q R:=by
  unfold isB; rw [e]; exact h
theorem at_place {l:List V} {i:Int} {k:Nat} {v:V} (hb:(decide (-1000000 < i) && decide (i < 1000000)) = true) (hp:(if i < 0 then i + l.length else i) = (k:Int)) (h:l[k]? = some v):atPlace l i = M.ret v:=by
  have hk:=(List.getElem?_eq_some_iff.mp h).1
  unfold atPlace place PySem.seqIndex?
  rw [if_pos hb,hp]
  dsimp only
  rw [if_pos (Bool.and_eq_true_iff.mpr ⟨decide_eq_true (Int.natCast_nonneg k),decide_eq_true (Int.ofNat_lt.mpr hk)⟩)]
  show ofOpt (l[k]?) = _
  rw [h]; rfl
theorem at_get {l:List V} {k:Nat} {v:V} (h:l[k]? = some v) (hz:k < 1000000):atPlace l (Int.ofNat k) = M.ret v :=
  at_place (Bool.and_eq_true_iff.mpr ⟨decide_eq_true (Int.lt_of_lt_of_le (show (-1000000:Int) < 0 by decide) (Int.natCast_nonneg k)),decide_eq_true (Int.ofNat_lt.mpr hz)⟩) (if_neg (Int.not_lt.mpr (Int.natCast_nonneg k))) h
theorem at_last {l:List V} {v:V}:atPlace (l ++ [v]) (-((1:Nat):Int)) = M.ret v :=
  at_place (k:=l.length) rfl ((if_pos (by decide)).trans (by rw [List.length_append]; exact (Int.add_comm _ _).trans (Int.add_sub_cancel (l.length:Int) 1))) List.getElem?_concat_length
section
variable {a b c d e:V} {r:List V} {σ:Store} {Q:V -> Store -> Prop} {R:Bool -> Store -> Prop}
theorem at0 (h:Q a σ):Run (atPlace (a :: r) 0) σ Q R:=run_eq (at_get (k:=0) rfl (by decide)) h
theorem at1 (h:Q b σ):Run (atPlace (a :: b :: r) 1) σ Q R:=run_eq (at_get (k:=1) rfl (by decide)) h
theorem at2 (h:Q c σ):Run (atPlace (a :: b :: c :: r) 2) σ Q R:=run_eq (at_get (k:=2) rfl (by decide)) h
theorem at3 (h:Q d σ):Run (atPlace (a :: b :: c :: d :: r) 3) σ Q R:=run_eq (at_get (k:=3) rfl (by decide)) h
theorem at4 (h:Q e σ):Run (atPlace (a :: b :: c :: d :: e :: r) 4) σ Q R:=run_eq (at_get (k:=4) rfl (by decide)) h
end
theorem run_idxL {l:List V} {v:V} {σ:Store} {Q:V -> Store -> Prop} {R:Bool -> Store -> Prop} {j:Nat} {k:Int} (h:At σ j (.list l)) (e:atPlace l k = M.ret v) (z:Q v σ):Run (doIdx (.obj j) (.int k)) σ Q R :=
  run_at h (show Run (atPlace l k) σ Q R from run_eq e z)
theorem is_never_run {n:Nat} {σ:Store} {a:V} {r:List V} {t:Ty} {Q:V -> Store -> Prop} {R:Bool -> Store -> Prop} (h:Q (.bool (t == .never)) σ):Run (callF tab (n + 1) "is_never" [.tup (a :: t.v :: r)]) σ Q R:=by
  refine run_call rfl rfl ?_
  refine at1 ?_
  refine run_veq veq_never ?_
  exact h
end Mine
end
section
set_option maxHeartbeats 1000000
set_option maxRecDepth 20000
namespace Mine
structure Row where
  num:Nat
  lab:Option String
  w:Bool
  rt:Nat
structure LR where
  at_:Nat
  num:Nat
  res:Ty
  test:Bool
  left:Bool
  row:Row
noncomputable def labV:Option String -> V
  | none=>.none
  | some x=>.str x
noncomputable def LR.ao (r:LR):AO:=.inst "Loop" [("label",labV r.row.lab),("number",.int r.num),("result",r.res.v),("has_value",.bool (!r.row.w)),("is_test",.bool r.test),("is_left",.bool r.left)]
structure CSt where
  kn:List (Option Kd)
  loops:List LR
  many:Nat
  deep:Nat
  own:List (Nat × AO)
  g:Nat -> AO
noncomputable def okV:Option Kd -> V
  | none=>.none
  | some k=>(Ty.k k).v
noncomputable def CSt.ads (S:CSt):List Nat:=S.loops.map (·.at_)
noncomputable def CSt.kn' (S:CSt) (kn:List (Option Kd)):CSt:={ S with kn:=kn }
noncomputable def CSt.own1 (S:CSt) (p:Nat × AO):CSt:={ S with own:=p :: S.own }
noncomputable def CSt.own2 (S:CSt) (l:List (Nat × AO)):CSt:={ S with own:=l }
structure CInv (b:Nat) (σ:Store) (S:CSt):Prop where
  n:b + 27 <= σ.n
  kp:∀ i,i < b -> σ.get i = S.g i
  ow:∀ p ∈ S.own,b + 27 <= p.1 /\ p.1 ∉ S.ads /\ At σ p.1 p.2
  od:(S.own.map (·.1)).Nodup
  ck:At σ (b + 17) (.inst "Checker" [("world",.obj (b + 8)),("module",.str ""),("self_type",.none),("bounds",.obj (b + 16)),("reader",.obj b),("infer",.obj (b + 18)),("locals",.obj (b + 22)),("scopes",.obj (b + 24)),("loops",.obj (b + 25)),("many_loops",.int S.many),("owed",.obj (b + 26)),("result",(Ty.k .u8).v)])
  rd:∃ l,At σ b (.inst "World" l) /\ alook "read" l = some (.g "_law_read")
  inf:At σ (b + 18) (.inst "Infer" [("ended",.obj (b + 19)),("known",.obj (b + 20)),("is_number",.obj (b + 21))])
  kn:At σ (b + 20) (.list (S.kn.map okV))
  isn:∃ l,At σ (b + 21) (.list l) /\ l.length = S.kn.length
  sc:∃ l,At σ (b + 24) (.list l) /\ l.length = S.deep
  lp:At σ (b + 25) (.list (S.loops.map fun r=>.obj r.at_))
  lo:∀ r ∈ S.loops,b + 27 <= r.at_ /\ At σ r.at_ r.ao
  nd:S.ads.Nodup
  bk:S.kn.length <= 6000
  bl:S.loops.length <= 1000
  bd:S.deep <= 1000
noncomputable def Kp (b:Nat) (g:Nat -> AO) (s:Store):Prop:=b <= s.n /\ ∀ i,i < b -> s.get i = g i
theorem off {b i j:Nat} (h:i ≠ j):b + i ≠ b + j:=fun e=>h (Nat.add_left_cancel e)
theorem away {b i a:Nat} (h:b + 27 <= a) (hi:i < 27):a ≠ b + i:=fun e=>absurd (e ▸ h) (Nat.not_le.mpr (Nat.add_lt_add_left hi b))
theorem below {b i a:Nat} (h:i < b):i ≠ b + a:=Nat.ne_of_lt (Nat.lt_of_lt_of_le h (Nat.le_add_right b a))
theorem At.to {σ s:Store} {j:Nat} {o:AO} (h:At σ j o) (hn:σ.n <= s.n) (hk:s.get j = σ.get j):At s j o:=⟨Nat.lt_of_lt_of_le h.1 hn,hk.trans h.2⟩
section
variable {b:Nat} {σ s:Store} {S:CSt} (I:CInv b σ S)
include I
theorem CInv.bn:b <= σ.n:=Nat.le_trans (Nat.le_add_right b 27) I.n
theorem CInv.kept:Kp b S.g σ:=⟨I.bn,I.kp⟩
theorem CInv.nn {j:Nat} (hj:j < 27):b + j ≠ σ.n:=Nat.ne_of_lt (Nat.lt_of_lt_of_le (Nat.add_lt_add_left hj b) I.n)
theorem CInv.notAd {i:Nat} (hi:σ.n <= i):i ∉ S.ads:=fun q=>(List.mem_map.mp q).elim fun r z=>absurd (I.lo r z.1).2.1 (Nat.not_lt.mpr (z.2 ▸ hi))
theorem CInv.ext (hn:σ.n <= s.n) (hk:∀ i,i < σ.n -> s.get i = σ.get i):CInv b s S :=
  have t:∀ {j o},At σ j o -> At s j o:=fun h=>h.to hn (hk _ h.1)
  ⟨Nat.le_trans I.n hn,fun i hi=>(hk i (Nat.lt_of_lt_of_le hi I.bn)).trans (I.kp i hi),fun p hp=>(I.ow p hp).imp id (·.imp id t),I.od,t I.ck,I.rd.imp fun _ z=>⟨t z.1,z.2⟩,t I.inf,t I.kn,I.isn.imp fun _ z=>⟨t z.1,z.2⟩,I.sc.imp fun _ z=>⟨t z.1,z.2⟩,t I.lp,fun r hr=>(I.lo r hr).imp id t,I.nd,I.bk,I.bl,I.bd⟩
theorem CInv.putKn {kn:List (Option Kd)} (hn:σ.n <= s.n) (hk:∀ i,i < σ.n -> i ≠ b + 20 -> i ≠ b + 21 -> s.get i = σ.get i) (h1:At s (b + 20) (.list (kn.map okV))) (h2:∃ l,At s (b + 21) (.list l) /\ l.length = kn.length) (h3:kn.length <= 6000):CInv b s (S.kn' kn) :=
  have t:∀ {j o},At σ j o -> j ≠ b + 20 -> j ≠ b + 21 -> At s j o:=fun h a c=>h.to hn (hk _ h.1 a c)
  ⟨Nat.le_trans I.n hn,fun i hi=>(hk i (Nat.lt_of_lt_of_le hi I.bn) (below hi) (below hi)).trans (I.kp i hi),fun p hp=>have h:=I.ow p hp; ⟨h.1,h.2.1,t h.2.2 (away h.1 (by decide)) (away h.1 (by decide))⟩,I.od,t I.ck (off (by decide)) (off (by decide)),I.rd.imp fun _ z=>⟨t z.1 (off (i:=0) (by decide)) (off (i:=0) (by decide)),z.2⟩,t I.inf (off (by decide)) (off (by decide)),h1,h2,I.sc.imp fun _ z=>⟨t z.1 (off (by decide)) (off (by decide)),z.2⟩,t I.lp (off (by decide)) (off (by decide)),fun r hr=>have h:=I.lo r hr; ⟨h.1,t h.2 (away h.1 (by decide)) (away h.1 (by decide))⟩,I.nd,h3,I.bl,I.bd⟩
theorem CInv.reown {own:List (Nat × AO)} (ow:∀ p ∈ own,b + 27 <= p.1 /\ p.1 ∉ S.ads /\ At σ p.1 p.2) (od:(own.map (·.1)).Nodup):CInv b σ { S with own:=own }:=⟨I.n,I.kp,ow,od,I.ck,I.rd,I.inf,I.kn,I.isn,I.sc,I.lp,I.lo,I.nd,I.bk,I.bl,I.bd⟩
theorem CInv.push1 {o:AO}:CInv b (σ.push o) (S.own1 (σ.n,o)):=by
  have J:CInv b (σ.push o) S:=I.ext (Nat.le_succ _) fun i h=>if_neg (Nat.ne_of_lt h)
  refine J.reown (fun p hp=>?_) (List.nodup_cons.mpr ⟨fun q=>(List.mem_map.mp q).elim fun p z=>absurd (I.ow p z.1).2.2.1 (Nat.not_lt.mpr (Nat.le_of_eq z.2.symm)),I.od⟩)
  rcases hp with _ | ⟨_,hp⟩
  · exact ⟨I.n,I.notAd (Nat.le_refl _),.top⟩
  · exact J.ow p hp
theorem CInv.drop {p:Nat × AO} {r:List (Nat × AO)} (e:S.own = p :: r):CInv b σ (S.own2 r):=I.reown (fun q hq=>I.ow q (e ▸ .tail _ hq)) (by have h:=I.od; rw [e] at h; exact (List.nodup_cons.mp h).2)
theorem CInv.hd {p:Nat × AO} {r:List (Nat × AO)} (e:S.own = p :: r):At σ p.1 p.2:=(I.ow p (e ▸ .head _)).2.2
theorem CInv.put1 {a:Nat} {o o':AO} {r:List (Nat × AO)} (e:S.own = (a,o) :: r):CInv b (σ.set a o') { S with own:=(a,o') :: r }:=by
  have h:=I.ow (a,o) (e ▸ .head _)
  have od:((a :: r.map (·.1)):List Nat).Nodup:=by have h:=I.od; rw [e] at h; exact h
  have t:∀ {j o},At σ j o -> j ≠ a -> At (σ.set a o') j o:=fun h q=>h.set q
  have u:∀ {i},i < 27 -> b + i ≠ a:=fun hi q=>away h.1 hi q.symm
  refine ⟨I.n,fun i hi=>(if_neg fun q:i = a=>absurd h.1 (Nat.not_le.mpr (q ▸ Nat.lt_of_lt_of_le hi (Nat.le_add_right b 27)))).trans (I.kp i hi),fun p hp=>?_,od,t I.ck (u (by decide)),I.rd.imp fun _ z=>⟨t z.1 (u (i:=0) (by decide)),z.2⟩,t I.inf (u (by decide)),t I.kn (u (by decide)),I.isn.imp fun _ z=>⟨t z.1 (u (by decide)),z.2⟩,I.sc.imp fun _ z=>⟨t z.1 (u (by decide)),z.2⟩,t I.lp (u (by decide)),fun r hr=>have k:=I.lo r hr; ⟨k.1,t k.2 fun q=>h.2.1 (List.mem_map.mpr ⟨r,hr,q⟩)⟩,I.nd,I.bk,I.bl,I.bd⟩
  rcases hp with _ | ⟨_,hp⟩
  · exact ⟨h.1,h.2.1,h.2.2.put⟩
  · have k:=I.ow p (e ▸ .tail _ hp)
    exact ⟨k.1,k.2.1,t k.2.2 fun q=>(List.nodup_cons.mp od).1 (List.mem_map.mpr ⟨p,hp,q⟩)⟩
end
theorem fuel {N c:Nat} (h:c + 1 <= N):∃ n,N = n + 1 /\ c <= n:=⟨N - 1,(Nat.sub_add_cancel (Nat.le_trans (Nat.le_add_left 1 c) h)).symm,Nat.le_sub_of_add_le h⟩
section
variable {N b:Nat} {σ:Store} {S:CSt} {Q:V -> Store -> Prop} {R:Bool -> Store -> Prop}
theorem kn_len {l:List (Option Kd)} {n m:Nat} (h:l.length < n) (hm:n <= m):(l.map okV).length < m:=by rw [List.length_map]; exact Nat.lt_of_lt_of_le h hm
theorem fresh_run (hN:1 <= N) (I:CInv b σ S) (hz:S.kn.length < 6000) (h:∀ s,CInv b s (S.kn' (S.kn ++ [none])) -> Q (Ty.var S.kn.length).v s):Run (callF tab N "Infer.fresh" [.obj (b + 18)]) σ Q R:=by
  refine cps fun G k=>?_
  obtain ⟨n,rfl,hn⟩:=fuel hN
  obtain ⟨l,h1,h2⟩:=I.isn
  refine k (run_call rfl rfl ?_)
  refine run_at I.inf ?_
  refine run_at I.kn ?_
  refine run_append I.kn (kn_len hz (by decide)) ?_
  refine run_at (I.inf.set (off (by decide))) ?_
  refine run_at (h1.set (off (by decide))) ?_
  refine run_append (h1.set (off (by decide))) (h2 ▸ Nat.lt_trans hz (by decide)) ?_
  refine run_at ((I.inf.set (off (by decide))).set (off (by decide))) ?_
  refine run_len (I.kn.put.set (off (by decide))) (by rw [List.length_append,List.length_map]; exact Nat.succ_lt_succ_iff.mpr (Nat.lt_trans hz (by decide))) ?_
  have e:(Int.ofNat (S.kn.map okV ++ [V.none]).length) - 1 = (S.kn.length:Int):=by rw [List.length_append,List.length_map]; exact Int.add_sub_cancel (S.kn.length:Int) 1
  show Q (.tup [.str "var",.int ((Int.ofNat (S.kn.map okV ++ [V.none]).length) - 1)]) _
  rw [e]
  refine h _ (I.putKn (Nat.le_refl _) (fun i h1 h2 h3=>(if_neg h3).trans (if_neg h2)) ?_ ?_ ?_)
  · rw [List.map_append]
    exact I.kn.put.set (off (by decide))
  · exact ⟨_,(h1.set (off (by decide))).put,by rw [List.length_append,List.length_append,h2]; rfl⟩
  · rw [List.length_append]; exact hz
end
end Mine
end
section
set_option maxHeartbeats 1000000
set_option maxRecDepth 200000
namespace Mine
noncomputable def sh (S:CSt):Ty -> Ty
  | .var i=>match S.kn[i]? with | some (some k)=>.k k | _=>.var i
  | t=>t
noncomputable def Ty.ok (S:CSt):Ty -> Prop
  | .var i=>i < S.kn.length
  | _=>True
section
variable {N b:Nat} {σ:Store} {S:CSt} {Q:V -> Store -> Prop} {R:Bool -> Store -> Prop}
theorem shallow_run {t:Ty} (hN:1 <= N) (I:CInv b σ S) (ht:t.ok S) (h:Q (sh S t).v σ):Run (callF tab N "Infer.shallow" [.obj (b + 18),t.v]) σ Q R:=by
  refine cps fun G k9=>?_
  obtain ⟨n,rfl,hn⟩:=fuel hN
  refine k9 (run_call rfl rfl ?_)
  rcases t with t | _ | i
  · rcases t with _ | _ | _ <;> exact whl h
  · exact whl h
  · have hk:(S.kn.map okV)[i]? = some (okV S.kn[i]):=by rw [List.getElem?_map,List.getElem?_eq_getElem ht]; rfl
    have hat:atPlace (S.kn.map okV) (Int.ofNat i) = M.ret (okV S.kn[i]):=at_get hk (Nat.lt_trans ht (Nat.lt_of_le_of_lt I.bk (by decide)))
    have hs:sh S (.var i) = (match S.kn[i] with | some k=>.k k | none=>.var i):=by
      show (match S.kn[i]? with | some (some k)=>Ty.k k | _=>.var i) = _
      rw [List.getElem?_eq_getElem ht]
      rcases S.kn[i] with _ | _ <;> rfl
    rw [hs] at h
    refine whl ?_
    refine run_at I.inf ?_
    refine run_idxL I.kn hat ?_
    generalize S.kn[i] = o at h hat
    rcases o with _ | k
    · exact h
    · rcases k with _ | _ | _
      all_goals
        refine run_at I.inf ?_
        refine run_idxL I.kn hat ?_
        exact whl h
end
end Mine
end
section
set_option maxHeartbeats 1000000
set_option maxRecDepth 20000
namespace Mine
section
variable {σ:Store} {R:Bool -> Store -> Prop} {Q:V -> Store -> Prop} {C:Oracle} {j:Nat} {l:List V} {v:V}
theorem run_ne (h:At σ j (.list l)) (hd:V.areData l = true) (hq:Q (.bool (!l.isEmpty)) σ):Run (doCmp .ne (.obj j) (.lst [])) σ Q R:=by
  refine g_bind (run_at h ?_)
  show Run (notB (veq (.lst l) (.lst []))) σ Q R
  have e:veq (.lst l) (.lst []) = M.ret l.isEmpty:=by
    show (if (V.areData l && true && (V.flat (.lst l) || true)) = true then M.ret (V.eqbs l []) else M.fail) = _
    rw [hd,Bool.or_true]
    rcases l with _ | _ <;> rfl
  unfold notB
  rw [e]; exact hq
theorem run_pop (h:At σ j (.list (l ++ [v]))) (hz:(l ++ [v]).length < 100000) (hq:Q v (σ.set j (.list l))):Run (doApp C (.lst j) "pop" []) σ Q R:=by
  refine run_at h ?_
  show Run (mPop j (l ++ [v])) σ Q R
  unfold mPop
  rw [List.getLast?_append,List.dropLast_concat]
  exact run_pos hz hq
theorem run_extend {r:List V} (h:At σ j (.list l)) (hz:l.length < 100000) (hr:r.length < 100000) (hq:Q .none (σ.set j (.list (l ++ r)))):Run (doApp C (.lst j) "extend" [.lst r]) σ Q R :=
  run_at h (show Run (M.bind (itemsOf (.lst r)) fun r=>if l.length < 100000 && r.length < 100000 then M.bind (mset j (.list (l ++ r))) fun _=>M.ret .none else M.fail) σ Q R from run_pos (by rw [decide_eq_true hz,decide_eq_true hr]; rfl) hq)
theorem run_extendT {r:List V} (h:At σ j (.list l)) (hz:l.length < 100000) (hr:r.length < 100000) (hq:Q .none (σ.set j (.list (l ++ r)))):Run (doApp C (.lst j) "extend" [.tup r]) σ Q R :=
  run_at h (show Run (M.bind (itemsOf (.tup r)) fun r=>if l.length < 100000 && r.length < 100000 then M.bind (mset j (.list (l ++ r))) fun _=>M.ret .none else M.fail) σ Q R from run_pos (by rw [decide_eq_true hz,decide_eq_true hr]; rfl) hq)
theorem run_fn {x:String} {args:List V} (h:(!classes.contains x && !builtins.contains x && fnNames.contains x) = true) (z:Run (C x args) σ Q R):Run (doCall C (.g x) args) σ Q R:=by
  have h1:=Bool.and_eq_true_iff.mp h
  have h2:=Bool.and_eq_true_iff.mp h1.1
  exact run_neg (by rw [(Bool.not_eq_true' _).mp h2.1]; exact Bool.false_ne_true) (run_neg (by rw [(Bool.not_eq_true' _).mp h2.2]; exact Bool.false_ne_true) (run_pos h1.2 z))
theorem data_ty {t:Ty}:V.isData t.v = true:=by
  rcases t with t | _ | _
  · rcases t with _ | _ | _ <;> rfl
  · rfl
  · rfl
end
section
variable {N b:Nat} {σ:Store} {S:CSt} {Q:V -> Store -> Prop} {R:Bool -> Store -> Prop}
theorem CInv.push {o:AO} (I:CInv b σ S):CInv b (σ.push o) S:=I.ext (Nat.le_succ _) fun i h=>if_neg (Nat.ne_of_lt h)
theorem parts_ty {t:Ty} {n:Nat} (h:Q (.tup []) σ):Run (callF tab (n + 1) "parts_of" [t.v]) σ Q R:=by
  rcases t with t | _ | _
  · rcases t with _ | _ | _ <;> exact h
  · exact h
  · exact h
theorem rebuilt_ty {t:Ty} {n:Nat} (h:Q t.v σ):Run (callF tab (n + 1) "rebuilt" [t.v,.lst []]) σ Q R:=by
  rcases t with t | _ | _
  · rcases t with _ | _ | _ <;> exact h
  · exact h
  · exact h
structure Old (σ s:Store):Prop where
  n:σ.n <= s.n
  get:∀ i,i < σ.n -> s.get i = σ.get i
theorem Old.refl:Old σ σ:=⟨Nat.le_refl _,fun _ _=>rfl⟩
theorem Old.push {s:Store} {o:AO} (h:Old σ s):Old σ (s.push o):=⟨Nat.le_succ_of_le h.n,fun i hi=>(if_neg (Nat.ne_of_lt (Nat.lt_of_lt_of_le hi h.n))).trans (h.get i hi)⟩
theorem Old.set {s:Store} {o:AO} {j:Nat} (h:Old σ s) (hj:σ.n <= j):Old σ (s.set j o):=⟨h.n,fun i hi=>(if_neg (Nat.ne_of_lt (Nat.lt_of_lt_of_le hi hj))).trans (h.get i hi)⟩
theorem CInv.old {s:Store} (I:CInv b σ S) (h:Old σ s):CInv b s S:=I.ext h.n h.get
theorem data1 {t:Ty} {k:Int} {c:Bool}:V.areData [.tup [t.v,.int k,.bool c]] = true:=by
  show ((V.isData t.v && true) && true) = true
  rw [data_ty]; rfl
theorem resolved_run {t:Ty} (hN:2 <= N) (I:CInv b σ S) (ht:t.ok S) (h:∀ s,Old σ s -> Q (sh S t).v s):Run (callF tab N "Infer.resolved" [.obj (b + 18),t.v]) σ Q R:=by
  refine cps fun G k9=>?_
  obtain ⟨n,rfl,hn⟩:=fuel hN
  obtain ⟨n,rfl,hn⟩:=fuel hn
  refine k9 (run_call rfl rfl ?_)
  refine ⟨rfl,whl ?_⟩
  refine run_ne At.top data1 ?_
  refine run_at At.top ?_
  refine run_pop (l:=[]) At.top (show 1 < 100000 by decide) ?_
  refine ⟨rfl,?_⟩
  refine run_at (I.push.inf.set (I.nn (by decide))) ?_
  refine shallow_run (S:=S) hn (I.old (Old.refl.push.set (Nat.le_refl _))) ht ?_
  refine run_at At.top.put ?_
  refine run_append At.top.put (show 0 < 100000 by decide) ?_
  refine run_at At.top.put.put ?_
  refine run_fn (by decide) (parts_ty ?_)
  refine ⟨by decide,?_⟩
  refine run_extend At.top.put.put (show 1 < 100000 by decide) (show 0 < 100000 by decide) ?_
  refine whl ?_
  refine run_ne At.top.put.put.put data1 ?_
  refine run_at At.top.put.put.put ?_
  refine run_pop (l:=[]) At.top.put.put.put (show 1 < 100000 by decide) ?_
  refine ⟨rfl,?_⟩
  refine run_fn (by decide) (parts_ty ?_)
  refine run_fn (by decide) (rebuilt_ty ?_)
  refine whl ?_
  refine run_ne At.top.put.put.put.put rfl ?_
  exact h _ (((((Old.refl.push.set (Nat.le_refl _)).set (Nat.le_refl _)).set (Nat.le_refl _)).set (Nat.le_refl _)))
end
end Mine
end
section
set_option maxHeartbeats 1000000
set_option maxRecDepth 20000
namespace Mine
section
variable {N b:Nat} {σ:Store} {S:CSt} {Q:V -> Store -> Prop} {R:Bool -> Store -> Prop}
theorem veq_kv {k:Kd} {i:Nat}:veq (Ty.k k).v (Ty.var i).v = M.ret false:=by rcases k with _ | _ | _ <;> rfl
theorem data0 {t:Ty}:V.areData [t.v] = true:=by
  show (V.isData t.v && true) = true
  rw [data_ty]; rfl
theorem occurs_run {i:Nat} {k:Kd} (hN:2 <= N) (I:CInv b σ S) (h:∀ s,Old σ s -> Q (.bool false) s):Run (callF tab N "Infer.occurs" [.obj (b + 18),(Ty.var i).v,(Ty.k k).v]) σ Q R:=by
  refine cps fun G k9=>?_
  obtain ⟨n,rfl,hn⟩:=fuel hN
  refine k9 (run_call rfl rfl ?_)
  refine ⟨rfl,whl ?_⟩
  refine run_ne At.top data0 ?_
  refine run_at I.push.inf ?_
  refine run_at At.top ?_
  refine run_pop (l:=[]) At.top (show 1 < 100000 by decide) ?_
  refine shallow_run (S:=S) (t:=.k k) hn (I.old (Old.refl.push.set (Nat.le_refl _))) trivial ?_
  refine run_veq veq_kv ?_
  refine run_at At.top.put ?_
  obtain ⟨n,rfl,hn⟩:=fuel hn
  refine run_fn (by decide) (parts_ty ?_)
  refine run_extendT At.top.put (show 0 < 100000 by decide) (show 0 < 100000 by decide) ?_
  refine whl ?_
  refine run_ne At.top.put.put rfl ?_
  exact h _ ((Old.refl.push.set (Nat.le_refl _)).set (Nat.le_refl _))
theorem run_setL {j k:Nat} {l:List V} {v:V} {Q:Unit -> Store -> Prop} (h:At σ j (.list l)) (hk:k < l.length) (hz:l.length < 100000) (hq:Q () (σ.set j (.list (l.set k v)))):Run (doSetI (.obj j) (.int k) v) σ Q R :=
  run_at h (show Run (putAt j l v (k:Int)) σ Q R from run_pos ⟨Int.natCast_nonneg k,Int.ofNat_lt.mpr hk,hz⟩ hq)
theorem bind_run {i:Nat} {k:Kd} (hN:3 <= N) (I:CInv b σ S) (hi:i < S.kn.length) (h:∀ s,CInv b s (S.kn' (S.kn.set i (some k))) -> Q .none s):Run (callF tab N "Infer.bind" [.obj (b + 18),(Ty.var i).v,(Ty.k k).v]) σ Q R:=by
  refine cps fun G k9=>?_
  obtain ⟨n,rfl,hn⟩:=fuel hN
  refine k9 (run_call rfl rfl ?_)
  refine run_at I.inf ?_
  refine occurs_run hn I fun s o=>?_
  have I':=I.old o
  refine run_at I'.inf ?_
  refine run_setL I'.kn (by rw [List.length_map]; exact hi) (by rw [List.length_map]; exact Nat.lt_of_le_of_lt I.bk (by decide)) ?_
  refine h _ (I.putKn o.n (fun j h1 h2 h3=>(if_neg h2).trans (o.get j h1)) ?_ ?_ ?_)
  · have:=I'.kn.put (o':=.list ((S.kn.map okV).set i (Ty.k k).v))
    rw [List.map_set]; exact this
  · exact I'.isn.imp fun l e=>⟨e.1.set (off (by decide)),e.2.trans (List.length_set ..).symm⟩
  · rw [List.length_set]; exact I.bk
end
end Mine
end
section
set_option maxHeartbeats 1000000
set_option maxRecDepth 20000
namespace Mine
section
variable {N b:Nat} {σ:Store} {S:CSt} {Q:V -> Store -> Prop} {R:Bool -> Store -> Prop}
theorem alike_no {a c:Kd} (hN:2 <= N) (hne:a ≠ c) (h:Q (.bool false) σ):Run (callF tab N "Infer.are_alike" [.obj (b + 18),(Ty.k a).v,(Ty.k c).v]) σ Q R:=by
  obtain ⟨n,rfl,hn⟩:=fuel hN
  obtain ⟨n,rfl,hn⟩:=fuel hn
  rcases a with _ | _ | _ <;> rcases c with _ | _ | _ <;> first | exact absurd rfl hne | exact h
theorem text_ty {t:Ty} (hN:2 <= N) (h:∀ x,x.length < 100 -> Q (.str x) σ):Run (callF tab N "type_text" [t.v]) σ Q R:=by
  obtain ⟨n,rfl,hn⟩:=fuel hN
  obtain ⟨n,rfl,hn⟩:=fuel hn
  rcases t with t | _ | _
  · rcases t with _ | _ | _
    · exact h "u8" (by decide)
    · exact h "bool" (by decide)
    · exact h "()" (by decide)
  · exact h "!" (by decide)
  · exact h "_" (by decide)
noncomputable def uniA (S:CSt) (t u:Ty):Option CSt:=match t,u with
  | .k a,.k c=>if a = c then some S else none
  | .var i,.k c=>some (S.kn' (S.kn.set i (some c)))
  | .k c,.var i=>some (S.kn' (S.kn.set i (some c)))
  | _,_=>some S
noncomputable def uni (S:CSt) (t u:Ty):Option CSt:=uniA S (sh S t) (sh S u)
noncomputable def canA (S:CSt) (t u:Ty):Prop:=match t,u with
  | .k _,.k _=>True
  | .var i,.k _=>i < S.kn.length
  | .k _,.var i=>i < S.kn.length
  | .var i,.var j=>i = j
  | _,_=>False
noncomputable def canUni (S:CSt) (t u:Ty):Prop:=canA S (sh S t) (sh S u)
end
end Mine
end
section
set_option maxHeartbeats 1000000
set_option maxRecDepth 20000
namespace Mine
section
variable {N b:Nat} {σ:Store} {S:CSt} {Q:V -> Store -> Prop} {R:Bool -> Store -> Prop}
theorem veq_same {t:Ty}:veq t.v t.v = M.ret true:=by
  rcases t with a | _ | i
  · rcases a with _ | _ | _ <;> rfl
  · rfl
  · show M.ret (true && ((i:Int) == (i:Int) && true)) = _
    rw [beq_self_eq_true]; rfl
theorem veq_vk {k:Kd} {i:Nat}:veq (Ty.var i).v (Ty.k k).v = M.ret false:=by rcases k with _ | _ | _ <;> rfl
theorem veq_kk {a c:Kd} (h:a ≠ c):veq (Ty.k a).v (Ty.k c).v = M.ret false:=by
  rcases a with _ | _ | _ <;> rcases c with _ | _ | _ <;> first | exact absurd rfl h | rfl
theorem data2 {t u:Ty}:V.areData [.tup [t.v,u.v]] = true:=by
  show ((V.isData t.v && (V.isData u.v && true)) && true) = true
  rw [data_ty,data_ty]; rfl
theorem kd_test {a:Kd} {P:V -> Store -> Prop} (h:P (.bool false) σ):Run (doIdx (Ty.k a).v (.int 0)) σ (fun x s=>Run (doCmp .isin x (.tup [.str "var",.str "intvar"])) s P R) R:=by
  rcases a with _ | _ | _ <;> exact h
theorem run_adds {x y:String} (hx:x.length < 10000) (hy:y.length < 10000) (h:Q (.str (x ++ y)) σ):Run (doAdd (.str x) (.str y)) σ Q R :=
  show Run (if x.length < 10000 && y.length < 10000 then M.ret (.str (x ++ y)) else M.fail) σ Q R from run_pos (by rw [decide_eq_true hx,decide_eq_true hy]; rfl) h
theorem len2 {x y:String} {m k:Nat} (hx:x.length < m) (hy:y.length < k):(x ++ y).length < m + k:=(@String.length_append x y) ▸ Nat.add_lt_add hx hy
theorem unify_run {t u:Ty} (hN:4 <= N) (I:CInv b σ S) (ht:t.ok S) (hu:u.ok S) (hc:canUni S t u) (h:∀ S',uni S t u = some S' -> ∀ s,CInv b s S' -> Q .none s) (hr:uni S t u = none -> ∀ s,CInv b s S -> R false s):Run (callF tab N "Infer.unify" [.obj (b + 18),t.v,u.v]) σ Q R:=by
  refine cps fun G k9=>?_
  obtain ⟨n,rfl,hn⟩:=fuel hN
  have h2:2 <= n:=Nat.le_trans (by decide) hn
  refine k9 (run_call rfl rfl ?_)
  refine whl ?_
  refine run_ne At.top data2 ?_
  refine run_at At.top ?_
  refine run_pop (l:=[]) At.top (show 1 < 100000 by decide) ?_
  refine ⟨rfl,?_⟩
  refine run_at (I.push.inf.set (I.nn (by decide))) ?_
  have I1:CInv b ((σ.push (.list [.tup [t.v,u.v]])).set σ.n (.list [])) (S.own1 (σ.n,.list [])):=I.push1.put1 rfl
  refine shallow_run (S:=S.own1 (σ.n,.list [])) (Nat.le_trans (by decide) hn) I1 ht ?_
  refine run_at I1.inf ?_
  refine shallow_run (S:=S.own1 (σ.n,.list [])) (Nat.le_trans (by decide) hn) I1 hu ?_
  refine ⟨rfl,?_⟩
  change canA S (sh (S.own1 (σ.n,.list [])) t) (sh (S.own1 (σ.n,.list [])) u) at hc
  change ∀ S',uniA S (sh (S.own1 (σ.n,.list [])) t) (sh (S.own1 (σ.n,.list [])) u) = some S' -> _ at h
  change uniA S (sh (S.own1 (σ.n,.list [])) t) (sh (S.own1 (σ.n,.list [])) u) = none -> _ at hr
  generalize sh (S.own1 (σ.n,.list [])) t = t' at hc h hr ⊢
  generalize sh (S.own1 (σ.n,.list [])) u = u' at hc h hr ⊢
  generalize (σ.push (.list [.tup [t.v,u.v]])).set σ.n (.list []) = σ1 at I1 ⊢
  rcases t' with a | _ | i
  · rcases u' with c | _ | j
    · by_cases e:a = c
      · subst e
        refine run_veq (a:=(Ty.k a).v) (b:=(Ty.k a).v) veq_same ?_
        refine whl ?_
        refine run_ne (I1.hd rfl) rfl ?_
        exact h S (if_pos rfl) _ (I1.drop rfl)
      · refine run_veq (a:=(Ty.k a).v) (b:=(Ty.k c).v) (veq_kk e) ?_
        refine kd_test ?_
        refine kd_test ?_
        refine run_at I1.inf ?_
        refine alike_no (Nat.le_trans (by decide) hn) e ?_
        refine run_at I1.inf ?_
        refine resolved_run (t:=.k a) h2 I1 trivial fun s o2=>?_
        refine run_fn (by decide) ?_
        refine text_ty (t:=.k a) h2 fun x hx=>?_
        refine run_adds (Nat.lt_of_lt_of_le hx (by decide)) (by decide) ?_
        refine run_at (I1.old o2).inf ?_
        refine resolved_run (t:=.k c) h2 (I1.old o2) trivial fun s' o3=>?_
        refine run_fn (by decide) ?_
        refine text_ty (t:=.k c) h2 fun y hy=>?_
        have hz:(x ++ " and ").length < 100 + 6:=len2 hx (by decide)
        refine run_adds (Nat.lt_of_lt_of_le hz (by decide)) (Nat.lt_of_lt_of_le hy (by decide)) ?_
        refine run_adds (by decide) (Nat.lt_of_lt_of_le (len2 hz hy) (by decide)) ?_
        exact hr (if_neg e) s' (((I1.old o2).old o3).drop rfl)
    · exact hc.elim
    · refine run_veq (a:=(Ty.k a).v) (b:=(Ty.var j).v) veq_kv ?_
      refine kd_test ?_
      refine run_at I1.inf ?_
      refine bind_run hn I1 hc fun s x=>?_
      refine whl ?_
      refine run_ne (x.hd rfl) rfl ?_
      exact h _ rfl _ (x.drop rfl)
  · exact hc.elim
  · rcases u' with c | _ | j
    · refine run_veq (a:=(Ty.var i).v) (b:=(Ty.k c).v) veq_vk ?_
      refine run_at I1.inf ?_
      refine bind_run hn I1 hc fun s x=>?_
      refine whl ?_
      refine run_ne (x.hd rfl) rfl ?_
      exact h _ rfl _ (x.drop rfl)
    · exact hc.elim
    · obtain rfl:i = j:=hc
      have h0:=h S rfl
      clear h hr
      generalize Ty.var i = w
      refine run_veq (a:=w.v) (b:=w.v) veq_same ?_
      refine whl ?_
      refine run_ne (I1.hd rfl) rfl ?_
      exact h0 _ (I1.drop rfl)
end
end Mine
end
section
set_option maxHeartbeats 1000000
set_option maxRecDepth 20000
namespace Mine
section
variable {N b:Nat} {σ:Store} {S:CSt} {Q:V -> Store -> Prop} {R:Bool -> Store -> Prop}
theorem cresolved_run {t:Ty} (hN:3 <= N) (I:CInv b σ S) (ht:t.ok S) (h:∀ s,Old σ s -> Q (sh S t).v s):Run (callF tab N "Checker.resolved" [.obj (b + 17),t.v]) σ Q R:=by
  refine cps fun G k9=>?_
  obtain ⟨n,rfl,hn⟩:=fuel hN
  refine k9 (run_call rfl rfl ?_)
  refine run_at I.ck ?_
  refine run_at I.inf ?_
  exact resolved_run hn I ht h
theorem cfresh_run (hN:2 <= N) (I:CInv b σ S) (hz:S.kn.length < 6000) (h:∀ s,CInv b s (S.kn' (S.kn ++ [none])) -> Q (Ty.var S.kn.length).v s):Run (callF tab N "Checker.fresh" [.obj (b + 17)]) σ Q R:=by
  refine cps fun G k9=>?_
  obtain ⟨n,rfl,hn⟩:=fuel hN
  refine k9 (run_call rfl rfl ?_)
  refine run_at I.ck ?_
  refine run_at I.inf ?_
  exact fresh_run hn I hz h
set_option tactic.hygienic true in
theorem re_run {C:Oracle} {e:Ex} {k:Int} {ρ:Env} {Q:QF} (h:wpE C ρ (fun c s=>c = false /\ R true s) e (fun _ s=>Q .next ρ s) σ):Run (reTry (ev C ρ e) (.int k) ρ) σ (unc Q) R:=by
  have h:=wpE_ok e h
  unfold Run reTry at *
  generalize ev C ρ e σ = y at *
  rcases y with ⟨a,s⟩ | ⟨m,k,c,s⟩ | _
  · exact h
  · obtain ⟨rfl,h⟩:=h
    exact h
  · exact h.elim
theorem cunify_run {t u:Ty} {k:Int} (hN:5 <= N) (I:CInv b σ S) (ht:t.ok S) (hu:u.ok S) (hc:canUni S t u) (h:∀ S',uni S t u = some S' -> ∀ s,CInv b s S' -> Q .none s) (hr:uni S t u = none -> ∀ s,CInv b s S -> R true s):Run (callF tab N "Checker.unify" [.obj (b + 17),t.v,u.v,.int k]) σ Q R:=by
  refine cps fun G k9=>?_
  obtain ⟨n,rfl,hn⟩:=fuel hN
  refine k9 (run_call rfl rfl ?_)
  refine re_run ?_
  refine run_at I.ck ?_
  refine run_at I.inf ?_
  refine unify_run hn I ht hu hc h fun e s x=>⟨rfl,?_⟩
  exact hr e s x
noncomputable def coe (S:CSt) (t u:Ty):Option CSt:=if sh S t = .never then some S else uni S t u
theorem not_ref {t:Ty} {P:V -> Store -> Prop} (h:P (.bool false) σ):Run (doIdx t.v (.int 0)) σ (fun x s=>Run (doCmp .eq x (.str "ref")) s P R) R:=by
  rcases t with a | _ | _
  · rcases a with _ | _ | _ <;> exact h
  · exact h
  · exact h
theorem coerce_run {t u:Ty} {k:Int} {a:V} {r:List V} (hN:6 <= N) (I:CInv b σ S) (ht:t.ok S) (hu:u.ok S) (hc:sh S t = .never \/ canUni S t u) (h:∀ S',coe S t u = some S' -> ∀ s,CInv b s S' -> Q (.tup (a :: t.v :: .int k :: r)) s) (hr:coe S t u = none -> ∀ s,CInv b s S -> R true s):Run (callF tab N "Checker.coerce" [.obj (b + 17),.tup (a :: t.v :: .int k :: r),u.v]) σ Q R:=by
  refine cps fun G k9=>?_
  obtain ⟨n,rfl,hn⟩:=fuel hN
  refine k9 (run_call rfl rfl ?_)
  refine run_at I.ck ?_
  refine at1 ?_
  refine cresolved_run (Nat.le_trans (by decide) hn) I ht fun s o=>?_
  have I1:=I.old o
  refine run_at I1.ck ?_
  refine cresolved_run (Nat.le_trans (by decide) hn) I1 hu fun s' o'=>?_
  have I2:=I1.old o'
  refine ⟨rfl,?_⟩
  refine run_veq veq_never ?_
  unfold coe at h hr
  by_cases e:sh S t = .never
  · rw [if_pos e] at h hr
    rw [e]
    exact h S rfl _ I2
  · rw [if_neg e] at h hr
    generalize hw:sh S t = w at e ⊢
    rw [show (w == .never) = false from beq_eq_false_iff_ne.mpr e]
    refine not_ref ?_
    refine run_at I2.ck ?_
    refine at1 ?_
    refine at2 ?_
    refine cunify_run hn I2 ht hu (hc.resolve_left (hw ▸ e)) h hr
end
end Mine
end
section
set_option maxHeartbeats 1000000
set_option maxRecDepth 20000
namespace Mine
theorem fuel3 {N c:Nat} (h:c + 3 <= N):∃ n,N = n + 1 + 2 /\ c <= n:=⟨N - 3,(Nat.sub_add_cancel (Nat.le_trans (Nat.le_add_left 3 c) h)).symm,Nat.le_sub_of_add_le h⟩
section
variable {n b:Nat} {σ:Store} {S:CSt} {Q:V -> Store -> Prop} {R:Bool -> Store -> Prop}
theorem get_read {j:Nat} {c:String} {l:List (String × V)} {P:Bd -> Store -> Prop} (h:At σ j (.inst c l)) (e:alook "read" l = some (.g "_law_read")) (z:P (.fn "_law_read" []) σ):Run (doGetM (.obj j) "read") σ P R:=by
  refine run_at h ?_
  show Run (instM j "read" c l) σ P R
  unfold instM
  rw [e]
  exact z
theorem expr_read {nd w:V} (I:CInv b σ S) (h:Run (callF tab (n + 2) "_law_read" [.obj (b + 17),nd,w]) σ Q R):Run (callF tab (n + 1 + 2) "Checker.expr" [.obj (b + 17),nd,w]) σ Q R:=by
  refine cps fun G k9=>?_
  obtain ⟨l,hr,hl⟩:=I.rd
  refine k9 (run_call rfl rfl ?_)
  refine run_at I.ck ?_
  refine get_read hr hl ?_
  exact h
theorem expr_break {nd:List V} {w:V} (I:CInv b σ S) (h:Run (callF tab (n + 1) "read_break" [.obj (b + 17),.tup (.str "break" :: nd),w]) σ Q R):Run (callF tab (n + 1 + 2) "Checker.expr" [.obj (b + 17),.tup (.str "break" :: nd),w]) σ Q R:=by
  refine expr_read I (run_call rfl rfl ?_)
  refine at0 ?_
  exact h
noncomputable def kindsL:List (String × String):=[("int","read_int"),("bool","read_bool"),("block","read_block"),("if","read_if"),("loop","read_loop"),("while","read_while"),("continue","read_continue"),("return","read_return")]
theorem kinds_cmp {k:String} (e:veq (.str k) (.str "break") = M.ret false) {r:List V} (h:Q (.bool false) σ):Run (atPlace (.str k :: r) 0) σ (fun x s=>Run (doCmp .eq x (.str "break")) s Q R) R:=at0 (run_veq e h)
theorem can_fn {x:String} {Q:Unit -> Store -> Prop} (h:(!classes.contains x && !builtins.contains x && fnNames.contains x) = true) (z:Q () σ):Run (canCall (.g x)) σ Q R:=by
  have h1:=Bool.and_eq_true_iff.mp h
  show Run (if _ then _ else _) σ Q R
  exact run_pos (by rw [h1.2,Bool.or_true]) z
theorem run_update {C:Oracle} {i j:Nat} {l r:List (V × V)} (h:At σ j (.dict l)) (h':At σ i (.dict r)) (e:i ≠ j /\ l.length < 100 /\ r.length < 100 /\ r.all (fun p=>keyS p.1) = true /\ l.all (fun p=>keyS p.1) = true /\ 0 < l.length) (z:Q .none (σ.set j (.dict (r.foldl (fun acc p=>dput p.1 p.2 acc) l)))):Run (doApp C (.dct j) "update" [.obj i]) σ Q R :=
  run_at h (run_at h' (run_pos e z))
theorem run_key {j:Nat} {l:List (V × V)} {k v:V} (h:At σ j (.dict l)) (e:keyAt k l = M.ret v) (z:Q v σ):Run (doIdx (.obj j) k) σ Q R:=run_at h (show Run (keyAt k l) σ Q R from run_eq e z)
theorem expr_to {k f:String} {nd:List V} {w:V} (h1:veq (.str k) (.str "break") = M.ret false) (h2:keyAt (.str k) (kindsL.map fun p=>(V.str p.1,V.g p.2)) = M.ret (.g f)) (h3:(!classes.contains f && !builtins.contains f && fnNames.contains f) = true) (I:CInv b σ S) (h:∀ s,CInv b s S -> Run (callF tab (n + 1) f [.obj (b + 17),.tup (.str k :: nd),w]) s Q R):Run (callF tab (n + 1 + 2) "Checker.expr" [.obj (b + 17),.tup (.str k :: nd),w]) σ Q R:=by
  refine expr_read I (run_call rfl rfl ?_)
  refine kinds_cmp h1 ?_
  refine run_at At.top ?_
  refine run_update At.top.push At.top ⟨Nat.succ_ne_self _,by decide⟩ ?_
  refine at0 ?_
  refine run_key (v:=.g f) At.top.push.put ?_ ?_
  · exact h2
  refine can_fn h3 ?_
  refine run_fn h3 ?_
  exact h _ (I.old (Old.refl.push.push.set (Nat.le_refl _)))
end
end Mine
end
section
set_option maxHeartbeats 1000000
set_option maxRecDepth 20000
namespace Mine
structure Mk (j:Nat) (σ s:Store) (k:Nat) (o:AO):Prop where
  at_:At s j o
  n:s.n = σ.n + k
  old:∀ i,i < σ.n -> i ≠ j -> s.get i = σ.get i
section
variable {j k:Nat} {σ s:Store} {o o':AO}
theorem Mk.start (h:At σ j o):Mk j σ σ 0 o:=⟨h,rfl,fun _ _ _=>rfl⟩
theorem Mk.push (M:Mk j σ s k o):Mk j σ (s.push o') (k + 1) o :=
  ⟨M.at_.push,congrArg (· + 1) M.n,fun i hi h=>(if_neg (Nat.ne_of_lt (M.n ▸ Nat.lt_of_lt_of_le hi (Nat.le_add_right _ _)))).trans (M.old i hi h)⟩
theorem Mk.put (M:Mk j σ s k o):Mk j σ (s.set j o') k o':=⟨M.at_.put,M.n,fun i hi h=>(if_neg h).trans (M.old i hi h)⟩
end
section
variable {σ:Store} {Q:V -> Store -> Prop} {R:Bool -> Store -> Prop} {j:Nat} {c:String} {l:List (String × V)}
theorem run_setA {a:String} {v:V} {Q:Unit -> Store -> Prop} (h:At σ j (.inst c l)) (e:(attrsOf c).contains a = true) (z:Q () (σ.set j (.inst c (aput a v l)))):Run (doSetA (.obj j) a v) σ Q R:=run_at h (run_pos e z)
theorem run_setA' {a:String} {v:V} {o:AO} {Q:Unit -> Store -> Prop} (h:At σ j (.inst c l)) (e:(attrsOf c).contains a = true) (ho:AO.inst c (aput a v l) = o) (z:Q () (σ.set j o)):Run (doSetA (.obj j) a v) σ Q R:=run_setA h e (ho.symm ▸ z)
theorem run_cls {C:Oracle} {x f:String} {args:List V} (h:classes.contains x = true) (hf:x ++ ".__init__" = f) (z:Run (C f (.obj σ.n :: args)) (σ.push (.inst x [])) (fun v s=>v = .none /\ Q (.obj σ.n) s) R):Run (doCall C (.g x) args) σ Q R:=by
  refine run_pos h (g_bind (g_bind ?_))
  rw [hf]
  refine z.then fun v s z=>?_
  obtain ⟨rfl,z⟩:=z
  exact z
theorem init_loop {N:Nat} {lab num res hv:V} (hN:1 <= N) (h0:At σ j (.inst "Loop" [])) (h:∀ s,Mk j σ s 0 (.inst "Loop" [("label",lab),("number",num),("result",res),("has_value",hv),("is_test",.bool false),("is_left",.bool false)]) -> Q .none s) :
    Run (callF tab N "Loop.__init__" [.obj j,lab,num,res,hv]) σ Q R:=by
  refine cps fun G k9=>?_
  obtain ⟨n,rfl,hn⟩:=fuel hN
  refine k9 (run_call rfl rfl ?_)
  refine run_setA h0 rfl ?_
  refine run_setA h0.put rfl ?_
  refine run_setA h0.put.put rfl ?_
  refine run_setA h0.put.put.put rfl ?_
  refine run_setA h0.put.put.put.put rfl ?_
  refine run_setA h0.put.put.put.put.put rfl ?_
  exact h _ (Mk.start h0).put.put.put.put.put.put
end
noncomputable def CSt.lp' (S:CSt) (lp:List LR) (m:Nat):CSt:={ S with loops:=lp,many:=m }
noncomputable def CSt.deep' (S:CSt) (d:Nat):CSt:={ S with deep:=d }
noncomputable def objs (l:List LR):List V:=l.map fun r=>.obj r.at_
section
variable {b:Nat} {σ s:Store} {S:CSt} (I:CInv b σ S)
include I
theorem CInv.putSc {l:List V} {d:Nat} (h:l.length = d) (h3:d <= 1000):CInv b (σ.set (b + 24) (.list l)) (S.deep' d) :=
  have t:∀ {j o},At σ j o -> j ≠ b + 24 -> At (σ.set (b + 24) (.list l)) j o:=fun h c=>h.set c
  have w:∀ {j o},b + 27 <= j -> At σ j o -> At (σ.set (b + 24) (.list l)) j o:=fun q h=>h.set (away q (by decide))
  ⟨I.n,fun i hi=>(if_neg (below hi)).trans (I.kp i hi),fun p hp=>(I.ow p hp).imp_right fun h=>h.imp id (w (I.ow p hp).1),I.od,t I.ck (off (by decide)),I.rd.imp fun _ z=>⟨t z.1 (off (i:=0) (by decide)),z.2⟩,t I.inf (off (by decide)),t I.kn (off (by decide)),I.isn.imp fun _ z=>⟨t z.1 (off (by decide)),z.2⟩,⟨l,I.sc.elim fun _ z=>z.1.put,h⟩,t I.lp (off (by decide)),fun r hr=>(I.lo r hr).imp_right (w (I.lo r hr).1),I.nd,I.bk,I.bl,h3⟩
theorem CInv.popL {ls:List LR} {r:LR} (e:S.loops = ls ++ [r]):CInv b (σ.set (b + 25) (.list (objs ls))) (S.lp' ls S.many) :=
  have t:∀ {j o},At σ j o -> j ≠ b + 25 -> At (σ.set (b + 25) (.list (objs ls))) j o:=fun h c=>h.set c
  have w:∀ {j o},b + 27 <= j -> At σ j o -> At (σ.set (b + 25) (.list (objs ls))) j o:=fun q h=>h.set (away q (by decide))
  have m:∀ {x},x ∈ ls -> x ∈ S.loops:=fun h=>e ▸ List.mem_append_left _ h
  have u:List.Sublist (ls.map (·.at_)) S.ads:=by unfold CSt.ads; rw [e]; exact List.Sublist.map _ (List.sublist_append_left _ _)
  ⟨I.n,fun i hi=>(if_neg (below hi)).trans (I.kp i hi),fun p hp=>have h:=I.ow p hp; ⟨h.1,fun q=>h.2.1 (u.subset q),w h.1 h.2.2⟩,I.od,t I.ck (off (by decide)),I.rd.imp fun _ z=>⟨t z.1 (off (i:=0) (by decide)),z.2⟩,t I.inf (off (by decide)),t I.kn (off (by decide)),I.isn.imp fun _ z=>⟨t z.1 (off (by decide)),z.2⟩,I.sc.imp fun _ z=>⟨t z.1 (off (by decide)),z.2⟩,I.lp.put,fun r hr=>(I.lo r (m hr)).imp_right (w (I.lo r (m hr)).1),u.nodup I.nd,I.bk,Nat.le_trans (by rw [e]; exact (List.sublist_append_left _ _).length_le) I.bl,I.bd⟩
theorem CInv.turn {pre post:List LR} {r r':LR} (e:S.loops = pre ++ r :: post) (ha:r'.at_ = r.at_):CInv b (σ.set r.at_ r'.ao) (S.lp' (pre ++ r' :: post) S.many):=by
  have hm:(pre ++ r' :: post).map (·.at_) = S.ads:=by unfold CSt.ads; rw [e,List.map_append,List.map_append,List.map_cons,List.map_cons,ha]
  have hr:=I.lo r (e ▸ List.mem_append_right _ (.head _))
  have nd:r.at_ ∉ pre.map (·.at_) ++ post.map (·.at_):=by
    have h:=I.nd
    unfold CSt.ads at h
    rw [e,List.map_append,List.map_cons] at h
    exact (List.nodup_cons.mp (List.perm_middle.nodup_iff.mp h)).1
  have t:∀ {j o},At σ j o -> j ≠ r.at_ -> At (σ.set r.at_ r'.ao) j o:=fun h c=>h.set c
  have u:∀ {i},i < 27 -> b + i ≠ r.at_:=fun hi q=>away hr.1 hi q.symm
  have w:∀ x ∈ S.loops,x.at_ ∉ [r.at_] -> b + 27 <= x.at_ /\ At (σ.set r.at_ r'.ao) x.at_ x.ao:=fun x hx q=>(I.lo x hx).imp_right fun h=>t h fun z=>q (z ▸ .head _)
  refine ⟨I.n,fun i hi=>(if_neg fun q:i = r.at_=>absurd hr.1 (Nat.not_le.mpr (q ▸ Nat.lt_of_lt_of_le hi (Nat.le_add_right b 27)))).trans (I.kp i hi),fun p hp=>have h:=I.ow p hp; ⟨h.1,fun q=>h.2.1 (hm ▸ q),t h.2.2 fun q=>h.2.1 (List.mem_map.mpr ⟨r,e ▸ List.mem_append_right _ (.head _),q.symm⟩)⟩,I.od,t I.ck (u (by decide)),I.rd.imp fun _ z=>⟨t z.1 (u (i:=0) (by decide)),z.2⟩,t I.inf (u (by decide)),t I.kn (u (by decide)),I.isn.imp fun _ z=>⟨t z.1 (u (by decide)),z.2⟩,I.sc.imp fun _ z=>⟨t z.1 (u (by decide)),z.2⟩,?_,fun x hx=>?_,(show ((pre ++ r' :: post).map (·.at_)).Nodup from hm.symm ▸ I.nd),I.bk,?_,I.bd⟩
  · have h:=t I.lp (u (by decide))
    have:(pre ++ r' :: post).map (fun r=>V.obj r.at_) = S.loops.map fun r=>V.obj r.at_:=by rw [e,List.map_append,List.map_append,List.map_cons,List.map_cons,ha]
    exact this ▸ h
  · rcases List.mem_append.mp hx with hx | hx
    · exact w x (e ▸ List.mem_append_left _ hx) fun q=>nd (List.mem_append_left _ (List.mem_map.mpr ⟨x,hx,List.mem_singleton.mp q⟩))
    · rcases hx with _ | ⟨_,hx⟩
      · rw [ha]; exact ⟨hr.1,hr.2.put⟩
      · exact w x (e ▸ List.mem_append_right _ (.tail _ hx)) fun q=>nd (List.mem_append_right _ (List.mem_map.mpr ⟨x,hx,List.mem_singleton.mp q⟩))
  · have h:=I.bl
    rw [e,List.length_append] at h
    show (pre ++ r' :: post).length <= 1000
    rw [List.length_append]; exact h
theorem CInv.addL {r:LR} {l:List (String × V)} (ha:r.at_ = σ.n) (hs:Mk σ.n (σ.push (.inst "Loop" [])) s 0 r.ao) (hz:S.loops.length < 1000) (hl:l = [("world",.obj (b + 8)),("module",.str ""),("self_type",.none),("bounds",.obj (b + 16)),("reader",.obj b),("infer",.obj (b + 18)),("locals",.obj (b + 22)),("scopes",.obj (b + 24)),("loops",.obj (b + 25)),("many_loops",.int ((S.many + 1:Nat):Int)),("owed",.obj (b + 26)),("result",(Ty.k .u8).v)]) :
    CInv b ((s.set (b + 25) (.list (objs S.loops ++ [.obj σ.n]))).set (b + 17) (.inst "Checker" l)) (S.lp' (S.loops ++ [r]) (S.many + 1)):=by
  subst hl
  have o:∀ i,i < σ.n -> s.get i = σ.get i:=fun i hi=>(hs.old i (Nat.lt_succ_of_lt hi) (Nat.ne_of_lt hi)).trans (if_neg (Nat.ne_of_lt hi))
  have hn:σ.n <= s.n:=hs.n ▸ Nat.le_succ _
  have t:∀ {j p q},At σ j p -> j ≠ b + 25 -> j ≠ b + 17 -> At ((s.set (b + 25) (.list (objs S.loops ++ [.obj σ.n]))).set (b + 17) q) j p:=fun h c d=>((h.to hn (o _ h.1)).set c).set d
  have w:∀ {j p q},b + 27 <= j -> At σ j p -> At ((s.set (b + 25) (.list (objs S.loops ++ [.obj σ.n]))).set (b + 17) q) j p:=fun z h=>t h (away z (by decide)) (away z (by decide))
  have hm:(S.loops ++ [r]).map (·.at_) = S.ads ++ [σ.n]:=by rw [List.map_append]; exact ha ▸ rfl
  refine ⟨Nat.le_trans I.n hn,fun i hi=>(if_neg (below hi)).trans ((if_neg (below hi)).trans ((o i (Nat.lt_of_lt_of_le hi I.bn)).trans (I.kp i hi))),fun p hp=>have h:=I.ow p hp; ⟨h.1,fun q=>?_,w h.1 h.2.2⟩,I.od,((I.ck.to hn (o _ I.ck.1)).set (off (by decide))).put,I.rd.imp fun _ z=>⟨t z.1 (off (i:=0) (by decide)) (off (i:=0) (by decide)),z.2⟩,t I.inf (off (by decide)) (off (by decide)),t I.kn (off (by decide)) (off (by decide)),I.isn.imp fun _ z=>⟨t z.1 (off (by decide)) (off (by decide)),z.2⟩,I.sc.imp fun _ z=>⟨t z.1 (off (by decide)) (off (by decide)),z.2⟩,?_,fun x hx=>?_,?_,I.bk,?_,I.bd⟩
  · have q:p.1 ∈ S.ads ++ [σ.n]:=hm ▸ q
    rcases List.mem_append.mp q with q | q
    · exact h.2.1 q
    · exact absurd h.2.2.1 (Nat.not_lt.mpr (Nat.le_of_eq (List.mem_singleton.mp q).symm))
  · have h:=((I.lp.to hn (o _ I.lp.1)).put (o':=.list (objs S.loops ++ [.obj σ.n]))).set (i:=b + 17) (o':=(.inst "Checker" [("world",.obj (b + 8)),("module",.str ""),("self_type",.none),("bounds",.obj (b + 16)),("reader",.obj b),("infer",.obj (b + 18)),("locals",.obj (b + 22)),("scopes",.obj (b + 24)),("loops",.obj (b + 25)),("many_loops",.int ((S.many + 1:Nat):Int)),("owed",.obj (b + 26)),("result",(Ty.k .u8).v)])) (off (by decide))
    have e:objs (S.loops ++ [r]) = objs S.loops ++ [.obj σ.n]:=by unfold objs; rw [List.map_append]; exact ha ▸ rfl
    exact e ▸ h
  · rcases List.mem_append.mp hx with hx | hx
    · exact (I.lo x hx).imp_right (w (I.lo x hx).1)
    · obtain rfl:=List.mem_singleton.mp hx
      have z:=fun (p q:AO)=>(hs.at_.set (o':=p) (I.nn (j:=25) (by decide)).symm).set (o':=q) (I.nn (j:=17) (by decide)).symm
      rw [<- ha] at z
      exact ⟨ha ▸ I.n,ha ▸ z _ _⟩
  · have h:(S.ads ++ [σ.n]).Nodup:=List.nodup_append.mpr ⟨I.nd,List.nodup_cons.mpr ⟨fun h=>(nomatch h),.nil⟩,fun a ha c hc=>fun q=>I.notAd (Nat.le_refl _) (by rw [<- List.mem_singleton.mp hc,<- q]; exact ha)⟩
    exact (show ((S.loops ++ [r]).map (·.at_)).Nodup from hm.symm ▸ h)
  · show (S.loops ++ [r]).length <= 1000
    rw [List.length_append]; exact hz
end
section
variable {N b:Nat} {σ:Store} {S:CSt} {Q:V -> Store -> Prop} {R:Bool -> Store -> Prop}
theorem open_run (hN:1 <= N) (I:CInv b σ S) (hz:S.deep < 1000) (h:∀ s,CInv b s (S.deep' (S.deep + 1)) -> Q .none s):Run (callF tab N "Checker.open" [.obj (b + 17)]) σ Q R:=by
  refine cps fun G k9=>?_
  obtain ⟨n,rfl,hn⟩:=fuel hN
  obtain ⟨l,h1,h2⟩:=I.sc
  refine k9 (run_call rfl rfl ?_)
  refine run_at I.ck ?_
  refine run_at h1 ?_
  refine run_append h1.push (h2 ▸ Nat.lt_trans hz (by decide)) ?_
  exact h _ (I.push.putSc (by rw [List.length_append,h2]; rfl) hz)
set_option tactic.hygienic true in
theorem close_run {d:Nat} (hN:1 <= N) (I:CInv b σ S) (hd:S.deep = d + 1) (h:∀ s,CInv b s (S.deep' d) -> Q .none s):Run (callF tab N "Checker.close" [.obj (b + 17)]) σ Q R:=by
  refine cps fun G k9=>?_
  obtain ⟨n,rfl,hn⟩:=fuel hN
  obtain ⟨l,h1,h2⟩:=I.sc
  have hb:=I.bd
  rcases List.eq_nil_or_concat l with rfl | ⟨l,v,rfl⟩
  · rw [hd] at h2; cases h2
  rw [List.concat_eq_append] at h1 h2
  have h3:l.length + 1 = d + 1:=by rw [<- hd,<- h2,List.length_append]; rfl
  refine k9 (run_call rfl rfl ?_)
  refine run_at I.ck ?_
  refine run_at h1 ?_
  refine run_pop h1 (h2 ▸ Nat.lt_of_le_of_lt hb (by decide)) ?_
  exact h _ (I.putSc (Nat.succ.inj h3) (Nat.le_of_succ_le (show d + 1 <= 1000 from hd ▸ hb)))
theorem enter_run {row:Row} {t:Ty} (hN:2 <= N) (I:CInv b σ S) (hz:S.loops.length < 1000)
    (h:∀ s,CInv b s (S.lp' (S.loops ++ [⟨σ.n,S.many,t,false,false,row⟩]) (S.many + 1)) -> Q (.obj σ.n) s):Run (callF tab N "Checker.enter" [.obj (b + 17),labV row.lab,t.v,.bool (!row.w)]) σ Q R:=by
  refine cps fun G k9=>?_
  obtain ⟨n,rfl,hn⟩:=fuel hN
  have hl:(objs S.loops).length < 100000:=by unfold objs; rw [List.length_map]; exact Nat.lt_trans hz (by decide)
  refine k9 (run_call rfl rfl ?_)
  refine run_at I.ck ?_
  refine run_at I.lp ?_
  refine run_at I.ck ?_
  refine run_cls rfl (f := "Loop.__init__") (by decide) ?_
  refine init_loop hn .top fun s M=>⟨rfl,?_⟩
  have o:∀ {i p},At σ i p -> At s i p:=fun h=>h.to (M.n ▸ Nat.le_succ _) ((M.old _ (Nat.lt_succ_of_lt h.1) (Nat.ne_of_lt h.1)).trans (if_neg (Nat.ne_of_lt h.1)))
  refine run_append (o I.lp) hl ?_
  refine run_at ((o I.ck).set (off (by decide))) ?_
  refine run_setA ((o I.ck).set (off (by decide))) rfl ?_
  refine run_at ((o I.ck).set (off (by decide))).put ?_
  refine run_idxL ((o I.lp).put.set (off (by decide))) at_last ?_
  exact h _ (I.addL (r:=⟨σ.n,S.many,t,false,false,row⟩) rfl M hz rfl)
end
end Mine
end
section
set_option maxHeartbeats 1000000
set_option maxRecDepth 20000
namespace Mine
theorem opt_get {α:Type} {o:Option α} {v:α} {f:α -> Prop} (h:o = some v) (z:f v):optP o f:=by rw [h]; exact z
theorem wp_k {C:Oracle} {ρ:Env} {R:Bool -> Store -> Prop} {P:V -> Store -> Prop} {v:V} {s:Store} (h:P v s):wpE C ρ R (.k v) P s:=h
theorem wp_v {C:Oracle} {ρ:Env} {R:Bool -> Store -> Prop} {P:V -> Store -> Prop} {x:String} {v:V} {s:Store} (e:ρ x = some v) (h:P v s):wpE C ρ R (.var x) P s:=opt_get e h
set_option tactic.hygienic true in
theorem nil_go {C:Oracle} {ρ:Env} {R:Bool -> Store -> Prop} {Q:QF} {s:Store} (h:Q .next ρ s):wpB C R [] ρ Q s:=h
theorem if_go {C:Oracle} {ρ:Env} {R:Bool -> Store -> Prop} {Q:QF} {s:Store} {c:Ex} {a b r:List St} (h:wpE C ρ R c (fun v s=>Run (truth v) s (fun t s=>cnd t (wpB C R a ρ (nextQ (fun ρ s=>wpB C R r ρ Q s) Q) s) (wpB C R b ρ (nextQ (fun ρ s=>wpB C R r ρ Q s) Q) s)) R) s):wpB C R (.ifS c a b :: r) ρ Q s:=h
theorem cmp_go {C:Oracle} {ρ:Env} {R:Bool -> Store -> Prop} {P:V -> Store -> Prop} {s:Store} {c:Cm} {l r:Ex} (h:wpE C ρ R l (fun a s=>wpE C ρ R r (fun b s=>Run (doCmp c a b) s P R) s) s):wpE C ρ R (.cmp c l r) P s:=h
theorem veq_lab {l m:Option String}:veq (labV l) (labV m) = M.ret (l == m):=by
  rcases l with _ | _ <;> rcases m with _ | _ <;> rfl
noncomputable def loBody:List St:=[.ifS (.andE [.cmp .is (.var "label") (.k .none),.attr (.var "loop") "is_test"]) [.dead] [],.ifS (.orE [.cmp .is (.var "label") (.k .none),.cmp .eq (.attr (.var "loop") "label") (.var "label")]) [.ret (.var "loop")] []]
set_option tactic.hygienic true in
theorem lo_find {C:Oracle} {σ:Store} {Q:QF} {R:Bool -> Store -> Prop} {lab:Option String} {r:LR} (h:∀ ρ,Q (.ret (.obj r.at_)) ρ σ):∀ (L:List LR) (ρ:Env),(∀ x ∈ L,At σ x.at_ x.ao /\ x.test = false) -> L.find? (fun r=>lab.isNone || r.row.lab == lab) = some r -> ρ "label" = some (labV lab) -> ForP C R "loop" loBody (objs L) ρ Q σ
  | [],ρ,_,e,_=>none_some e
  | a :: L,ρ,hL,e,hρ=>by
    obtain ⟨h1,h2⟩:=hL a (.head _)
    have hL2:=fun x hx=>hL x (.tail _ hx)
    obtain ⟨j,num,res,test,left,⟨rn,al,rw,rr⟩⟩:=a
    cases h2
    refine fl_cons ?_
    rcases lab with _ | x
    · cases e
      refine opt_get hρ ?_
      refine run_at h1 ?_
      refine opt_get hρ ?_
      exact h _
    · refine opt_get hρ ?_
      refine opt_get hρ ?_
      refine run_at h1 ?_
      refine opt_get hρ ?_
      refine run_veq (t:=(al == some x)) veq_lab ?_
      have e:(match al == some x with | true=>some _ | false=>List.find? (fun r=>r.row.lab == some x) L) = some r:=e
      generalize (al == some x) = t at e ⊢
      rcases t with _ | _
      · exact lo_find (lab:=some x) h L _ hL2 e hρ
      · cases e
        exact h _
theorem loop_of_run {N b:Nat} {σ:Store} {S:CSt} {Q:V -> Store -> Prop} {R:Bool -> Store -> Prop} {lab:Option String} {k:Int} {r:LR} (hN:1 <= N) (I:CInv b σ S) (ht:∀ r ∈ S.loops,r.test = false) (hr:S.loops.reverse.find? (fun r=>lab.isNone || r.row.lab == lab) = some r) (h:Q (.obj r.at_) σ):Run (callF tab N "Checker.loop_of" [.obj (b + 17),labV lab,.int k]) σ Q R:=by
  refine cps fun G k9=>?_
  obtain ⟨n,rfl,hn⟩:=fuel hN
  refine k9 (run_call rfl rfl ?_)
  refine run_at I.ck ?_
  refine run_at I.lp (run_pos (by rw [List.length_map]; exact Nat.lt_of_le_of_lt I.bl (by decide)) ?_)
  rw [<- List.map_reverse]
  exact lo_find (fun _=>h) S.loops.reverse _ (fun x hx=>⟨(I.lo x (List.mem_reverse.mp hx)).2,ht x (List.mem_reverse.mp hx)⟩) hr rfl
end Mine
end
section
set_option maxHeartbeats 1000000
set_option maxRecDepth 20000
set_option genSizeOf false
namespace Mine
inductive Pl where
  | nil | cons (p r:Pl)
  | ring (n:Nat) (w:Bool) (lab:Option String) (i:Pl)
  | ifp (i:Pl) | brk (g:Nat) (lab:Option String) (x:Pl) | cont (lab:Option String) | ret
  | no | u8 | bool | unit
noncomputable def pick (ctx:List Row) (lab:Option String):Option Row:=ctx.reverse.find? fun r=>lab.isNone || r.lab == lab
noncomputable def its:V -> List V
  | .lst l=>l
  | .tup l=>l
  | _=>[]
noncomputable def Pl.v:Pl -> V
  | nil=>.lst []
  | cons p r=>.lst (p.v :: its r.v)
  | ring n w lab i=>.tup [.str "ring",.int n,.bool w,labV lab,i.v]
  | ifp i=>.tup [.str "if",i.v]
  | brk g lab x=>.tup [.str "break",.int g,labV lab,x.v]
  | cont lab=>.tup [.str "continue",labV lab]
  | ret=>.tup [.str "return"]
  | no=>.none
  | u8=>.str "u8"
  | bool=>.str "bool"
  | unit=>.str "unit"
noncomputable def trueT:V:=.tup [.str "bool",.int 1,.bool true]
noncomputable def blk (t:V):V:=.tup [.str "block",.int 1,t,.none]
noncomputable def ringT (w:Bool) (lab:Option String) (t:V):V:=match w with
  | true=>.tup [.str "while",.int 1,labV lab,trueT,blk t]
  | false=>.tup [.str "loop",.int 1,labV lab,blk t]
noncomputable def Pl.t:Pl -> V
  | nil=>.tup []
  | cons p r=>.tup (.tup [.str "do",.int 1,p.t] :: its r.t)
  | ring n w lab i=>ringT w lab i.t
  | ifp i=>.tup [.str "if",.int 1,trueT,blk i.t,.none]
  | brk g lab x=>.tup [.str "break",.int 1,labV lab,x.t]
  | cont lab=>.tup [.str "continue",.int 1,labV lab]
  | ret=>.tup [.str "return",.int 1,.tup [.str "int",.int 1,.int 4,.str "u8"]]
  | no=>.none
  | u8=>.tup [.str "int",.int 1,.int 9,.str "u8"]
  | bool=>trueT
  | unit=>blk (.tup [])
noncomputable def Pl.nx:Pl -> Nat -> Nat
  | cons p r,c=>r.nx (p.nx c)
  | ring _ _ _ i,c=>i.nx (c + 1)
  | ifp i,c=>i.nx c
  | brk _ _ x,c=>x.nx c
  | nil,c=>c
  | cont _,c=>c
  | ret,c=>c
  | no,c=>c
  | u8,c=>c
  | bool,c=>c
  | unit,c=>c
noncomputable def Pl.ht:Pl -> Nat
  | cons p r=>max p.ht r.ht
  | ring _ _ _ i=>i.ht + 6
  | ifp i=>i.ht + 6
  | brk _ _ x=>x.ht + 3
  | nil=>0
  | cont _=>0
  | ret=>0
  | no=>0
  | u8=>0
  | bool=>0
  | unit=>3
noncomputable def Pl.sz:Pl -> Nat
  | cons p r=>p.sz + r.sz
  | ring _ _ _ i=>4 + i.sz
  | ifp i=>1 + i.sz
  | brk _ _ x=>2 + x.sz
  | cont _=>1
  | ret=>1
  | nil=>0
  | no=>0
  | u8=>0
  | bool=>0
  | unit=>0
noncomputable def Pl.isL:Pl -> Bool
  | nil=>true
  | cons _ _=>true
  | ring _ _ _ _=>false
  | ifp _=>false
  | brk _ _ _=>false
  | cont _=>false
  | ret=>false
  | no=>false
  | u8=>false
  | bool=>false
  | unit=>false
noncomputable def Pl.isS:Pl -> Bool
  | ring _ _ _ _=>true
  | ifp _=>true
  | brk _ _ _=>true
  | cont _=>true
  | ret=>true
  | nil=>false
  | cons _ _=>false
  | no=>false
  | u8=>false
  | bool=>false
  | unit=>false
noncomputable def Pl.isV:Pl -> Bool
  | ring _ _ _ _=>true
  | ret=>true
  | no=>true
  | u8=>true
  | bool=>true
  | unit=>true
  | nil=>false
  | cons _ _=>false
  | ifp _=>false
  | brk _ _ _=>false
  | cont _=>false
noncomputable def Pl.isE:Pl -> Bool
  | nil=>false
  | cons _ _=>false
  | ring _ _ _ _=>true
  | ifp _=>true
  | brk _ _ _=>true
  | cont _=>true
  | ret=>true
  | no=>false
  | u8=>true
  | bool=>true
  | unit=>true
noncomputable def Pl.isNo:Pl -> Bool
  | no=>true
  | nil=>false
  | cons _ _=>false
  | ring _ _ _ _=>false
  | ifp _=>false
  | brk _ _ _=>false
  | cont _=>false
  | ret=>false
  | u8=>false
  | bool=>false
  | unit=>false
abbrev Evs:=List (Nat × Kd)
structure En where
  num:Nat
  w:Bool
  rt:Nat
  left:Bool
inductive Kn where
  | nv | k (t:Kd) | res
noncomputable def Kn.isNv:Kn -> Bool
  | nv=>true
  | _=>false
noncomputable def Kn.ty:Kn -> Ty -> Ty
  | nv,_=>.never
  | k t,_=>.k t
  | res,t=>t
noncomputable def Kn.ev:Kn -> Nat -> Evs
  | k t,g=>[(g,t)]
  | _,_=>[]
structure Inf where
  ev:Evs
  bad:Bool
  lf:List Nat
  el:List En
  kd:Kn
noncomputable def Inf.of (kd:Kn):Inf:=⟨[],false,[],[],kd⟩
noncomputable def Inf.seq (x y:Inf):Inf:=⟨x.ev ++ y.ev,x.bad || y.bad,x.lf ++ y.lf,x.el ++ y.el,match x.kd.isNv || y.kd.isNv with | true=>.nv | false=>.k .unit⟩
noncomputable def ringE (rt:Nat) (w:Bool):Evs:=match w with
  | true=>[(rt,.unit)]
  | false=>[]
noncomputable def preE (c rt:Nat) (w:Bool):Evs:=ringE c (w && rt == c)
noncomputable def Inf.ring (c rt:Nat) (w:Bool) (x:Inf):Inf:=⟨preE c rt w ++ x.ev,x.bad,x.lf,x.el ++ [⟨c,w,rt,x.lf.contains c⟩],match w with | true=>.k .unit | false=>match x.lf.contains c with | true=>.res | false=>.nv⟩
noncomputable def Inf.hand (no:Bool) (x:Inf) (w:Bool) (rt:Nat):Inf:=match w with
  | true=>⟨[],!no,[],[],.nv⟩
  | false=>⟨x.ev ++ x.kd.ev rt,x.bad,x.lf,x.el,.nv⟩
noncomputable def Inf.brk (no:Bool) (x:Inf) (row:Row):Inf:=⟨(x.hand no row.w row.rt).ev,(x.hand no row.w row.rt).bad,row.num :: (x.hand no row.w row.rt).lf,(x.hand no row.w row.rt).el,.nv⟩
noncomputable def brkAt (no:Bool) (o:Option Row) (f:Row -> Inf):Inf:=match o with
  | some row=>(f row).brk no row
  | none=>.of .nv
noncomputable def Pl.inf:Pl -> List Row -> Nat -> Nat -> Inf
  | nil,_,_,_=>.of (.k .unit)
  | cons p r,ctx,c,_=>.seq (p.inf ctx c c) (r.inf ctx (p.nx c) 0)
  | ring _ w lab i,ctx,c,rt=>.ring c rt w (i.inf (ctx ++ [⟨c,lab,w,rt⟩]) (c + 1) 0)
  | ifp i,ctx,c,_=>{ i.inf ctx c 0 with kd:=.k .unit }
  | brk _ lab x,ctx,c,_=>brkAt x.isNo (pick ctx lab) fun row=>x.inf ctx c row.rt
  | cont _,_,_,_=>.of .nv
  | ret,_,_,_=>.of .nv
  | no,_,_,_=>.of (.k .unit)
  | u8,_,_,_=>.of (.k .u8)
  | bool,_,_,_=>.of (.k .bool)
  | unit,_,_,_=>.of (.k .unit)
noncomputable def Pl.wf:Pl -> List Row -> Nat -> Nat -> Prop
  | cons p r,ctx,c,_=>p.isS = true /\ r.isL = true /\ p.wf ctx c c /\ r.wf ctx (p.nx c) 0
  | ring n w lab i,ctx,c,rt=>n = c /\ i.isL = true /\ i.wf (ctx ++ [⟨c,lab,w,rt⟩]) (c + 1) 0
  | ifp i,ctx,c,_=>i.isL = true /\ i.wf ctx c 0
  | brk g lab x,ctx,c,_=>∃ row,pick ctx lab = some row /\ row.num = g /\ x.isV = true /\ x.wf ctx c row.rt
  | cont lab,ctx,_,_=>∃ row,pick ctx lab = some row
  | nil,_,_,_=>True
  | ret,_,_,_=>True
  | no,_,_,_=>True
  | u8,_,_,_=>True
  | bool,_,_,_=>True
  | unit,_,_,_=>True
theorem Pl.le_nx:∀ (p:Pl) (c:Nat),c <= p.nx c
  | cons p r,c=>Nat.le_trans (p.le_nx c) (r.le_nx _)
  | ring _ _ _ i,c=>Nat.le_of_succ_le (i.le_nx (c + 1))
  | ifp i,c=>i.le_nx c
  | brk _ _ x,c=>x.le_nx c
  | nil,_=>Nat.le_refl _
  | cont _,_=>Nat.le_refl _
  | ret,_=>Nat.le_refl _
  | no,_=>Nat.le_refl _
  | u8,_=>Nat.le_refl _
  | bool,_=>Nat.le_refl _
  | unit,_=>Nat.le_refl _
theorem Pl.nx_sz:∀ (p:Pl) (c:Nat),p.nx c <= c + p.sz
  | cons p r,c=>Nat.le_trans (r.nx_sz _) (Nat.add_assoc c p.sz r.sz ▸ Nat.add_le_add_right (p.nx_sz c) r.sz)
  | ring _ _ _ i,c=>Nat.le_trans (i.nx_sz (c + 1)) (Nat.add_assoc c 1 i.sz ▸ Nat.add_le_add_left (Nat.add_le_add_right (by decide) i.sz) c)
  | ifp i,c=>Nat.le_trans (i.nx_sz c) (Nat.add_le_add_left (Nat.le_add_left _ _) c)
  | brk _ _ x,c=>Nat.le_trans (x.nx_sz c) (Nat.add_le_add_left (Nat.le_add_left _ _) c)
  | nil,_=>Nat.le_refl _
  | cont _,_=>Nat.le_succ _
  | ret,_=>Nat.le_succ _
  | no,_=>Nat.le_refl _
  | u8,_=>Nat.le_refl _
  | bool,_=>Nat.le_refl _
  | unit,_=>Nat.le_refl _
theorem Pl.sz_pos {p:Pl} (h:p.isS = true):1 <= p.sz:=by
  rcases p with _ | _ | ⟨_,_,_,i⟩ | i | ⟨_,_,x⟩ | _ | _ | _ | _ | _ | _
  · exact no_tf h
  · exact no_tf h
  · exact Nat.le_trans (by decide) (Nat.le_add_right 4 i.sz)
  · exact Nat.le_add_right 1 i.sz
  · exact Nat.le_trans (by decide) (Nat.le_add_right 2 x.sz)
  · exact Nat.le_refl 1
  · exact Nat.le_refl 1
  all_goals exact no_tf h
theorem Pl.s_e {p:Pl} (h:p.isS = true):p.isE = true:=by
  rcases p with _ | _ | _ | _ | _ | _ | _ | _ | _ | _ | _ <;> first | rfl | exact no_tf h
theorem Pl.l_v {p:Pl} (h:p.isL = true):p.v = .lst (its p.v):=by
  rcases p with _ | _ | _ | _ | _ | _ | _ | _ | _ | _ | _ <;> first | rfl | exact no_tf h
theorem Pl.l_t {p:Pl} (h:p.isL = true):p.t = .tup (its p.t):=by
  rcases p with _ | _ | _ | _ | _ | _ | _ | _ | _ | _ | _ <;> first | rfl | exact no_tf h
theorem Pl.len_t {p:Pl}:p.isL = true -> ∀ {ctx c rt},p.wf ctx c rt -> (its p.t).length <= p.sz:=by
  induction p with
  | nil=>exact fun _ _ _ _ _=>Nat.le_refl _
  | cons p r _ ih=>exact fun _ _ _ _ h=>Nat.le_trans (Nat.add_le_add (ih h.2.1 h.2.2.2) (sz_pos h.1)) (Nat.le_of_eq (Nat.add_comm r.sz p.sz))
  | _=>exact fun h=>no_tf h
theorem pick_mem {ctx:List Row} {lab:Option String} {row:Row} (h:pick ctx lab = some row):row ∈ ctx:=List.mem_reverse.mp (List.mem_of_find?_eq_some h)
noncomputable def Cons (L:Evs):Prop:=∀ g a c,(g,a) ∈ L -> (g,c) ∈ L -> a = c
section
variable {α:Type} {g h:Nat} {v:α}
noncomputable def nl (g:Nat):List (Nat × α) -> Option α
  | []=>none
  | (a,v) :: r=>if a = g then some v else nl g r
theorem nl_cons {a:Nat} {r:List (Nat × α)}:nl g ((a,v) :: r) = if a = g then some v else nl g r:=rfl
set_option tactic.hygienic true in
theorem nl_mem:∀ {l:List (Nat × α)},nl g l = some v -> (g,v) ∈ l
  | (a,u) :: r,h=>by
    rw [nl_cons] at h
    by_cases q:a = g
    · rw [if_pos q] at h
      cases h; cases q; exact .head _
    · rw [if_neg q] at h
      exact .tail _ (nl_mem h)
theorem nl_ex:∀ {l:List (Nat × α)},(g,v) ∈ l -> ∃ u,nl g l = some u
  | (a,u) :: r,h=>by
    rw [nl_cons]
    by_cases q:a = g
    · exact ⟨u,if_pos q⟩
    · rw [if_neg q]
      rcases h with _ | ⟨_,h⟩
      · exact absurd rfl q
      · exact nl_ex h
theorem nl_app {m:List (Nat × α)}:∀ {l:List (Nat × α)},nl g (l ++ m) = (nl g l).or (nl g m)
  | []=>rfl
  | (a,u) :: r=>by
    rw [List.cons_append,nl_cons,nl_cons]
    by_cases q:a = g
    · rw [if_pos q,if_pos q]; rfl
    · rw [if_neg q,if_neg q]; exact nl_app
end
theorem lk_of {L:Evs} (hc:Cons L) {g:Nat} {k:Kd} (h:(g,k) ∈ L):nl g L = some k:=(nl_ex h).elim fun u e=>e.trans (congrArg some (hc g u k (nl_mem e) h))
theorem Cons.left {L M:Evs} (h:Cons (L ++ M)):Cons L:=fun g a c h1 h2=>h g a c (List.mem_append_left _ h1) (List.mem_append_left _ h2)
set_option tactic.hygienic true in
theorem Cons.add {L:Evs} {g:Nat} {k:Kd} (hc:Cons L) (h:nl g L = none):Cons (L ++ [(g,k)]):=fun g' a c h1 h2=>by
  have no:∀ {x},(g,x) ∈ L -> False:=fun q=>(nl_ex q).elim fun u e=>none_some (h.symm.trans e)
  rcases List.mem_append.mp h1 with h1 | h1 <;> rcases List.mem_append.mp h2 with h2 | h2
  · exact hc g' a c h1 h2
  · cases List.mem_singleton.mp h2; exact (no h1).elim
  · cases List.mem_singleton.mp h1; exact (no h2).elim
  · cases List.mem_singleton.mp h1; cases List.mem_singleton.mp h2; rfl
noncomputable def TyOf (gk:List Nat) (L:Evs) (ty:Ty) (g:Nat):Prop:=(∃ i:Nat,ty = .var i /\ gk[i]? = some g) \/ (ty = .k .u8 /\ (g,.u8) ∈ L)
end Mine
end
section
set_option maxHeartbeats 1000000
set_option maxRecDepth 20000
set_option genSizeOf false
namespace Mine
theorem TyOf.mono {gk gk':List Nat} {L L':Evs} {ty:Ty} {g:Nat} (h1:gk <+: gk') (h2:∀ e ∈ L,e ∈ L') (h:TyOf gk L ty g):TyOf gk' L' ty g:=by
  obtain ⟨t,rfl⟩:=h1
  rcases h with ⟨i,e,h⟩ | ⟨e,h⟩
  · exact .inl ⟨i,e,(List.getElem?_append_left (List.getElem?_eq_some_iff.mp h).1).trans h⟩
  · exact .inr ⟨e,h2 _ h⟩
structure RowOk (gk:List Nat) (L:Evs) (a:LR):Prop where
  test:a.test = false
  wh:a.row.w = true -> a.res = .k .unit
  lp:a.row.w = false -> TyOf gk L a.res a.row.rt
noncomputable def mk1 (D:List Nat) (a:LR):LR:={ a with left:=a.left || D.contains a.row.num }
noncomputable def mark (D:List Nat) (l:List LR):List LR:=l.map (mk1 D)
structure Stt (S:CSt) (ctx:List Row) (gk:List Nat) (L:Evs) (c:Nat):Prop where
  kn:S.kn = gk.map fun g=>nl g L
  nd:gk.Nodup
  cs:Cons L
  le:gk.length <= c
  gb:∀ g ∈ gk,g < c
  lb:∀ e ∈ L,e.1 < c
  rows:∀ a ∈ S.loops,RowOk gk L a
  cx:S.loops.map (·.row) = ctx
  cb:∀ r ∈ ctx,r.num < c /\ r.rt < c
  cn:(ctx.map (·.num)).Nodup
theorem con_app {l m:List Nat} {n:Nat}:(l ++ m).contains n = (l.contains n || m.contains n):=by
  rw [Bool.eq_iff_iff,Bool.or_eq_true,List.contains_iff_mem,List.contains_iff_mem,List.contains_iff_mem,List.mem_append]
theorem not_con {l:List Nat} {n:Nat} (h:n ∉ l):l.contains n = false:=Bool.eq_false_iff.mpr fun q=>h (List.contains_iff_mem.mp q)
theorem mk1_off {D:List Nat} {a:LR} (h:a.row.num ∉ D):mk1 D a = a:=by
  unfold mk1; rw [not_con h,Bool.or_false]
theorem mark_nil {l:List LR}:mark [] l = l:=(List.map_congr_left fun a _=>mk1_off (D:=[]) fun h=>(nomatch h)).trans (List.map_id l)
theorem mark_app {D E:List Nat} {l:List LR}:mark (D ++ E) l = mark E (mark D l):=by
  unfold mark
  rw [List.map_map]
  refine List.map_congr_left fun a _=>?_
  show ({ a with left:=_ }:LR) = { a with left:=_ }
  rw [con_app,<- Bool.or_assoc]; rfl
theorem mark_row {D:List Nat} {l:List LR}:(mark D l).map (·.row) = l.map (·.row):=List.map_map
theorem mark_len {D:List Nat} {l:List LR}:(mark D l).length = l.length:=List.length_map _
theorem Stt.up {S S':CSt} {ctx:List Row} {gk:List Nat} {L:Evs} {c c':Nat} {D:List Nat} (x:Stt S ctx gk L c) (h:c <= c') (h1:S'.kn = S.kn) (h2:S'.loops = mark D S.loops):Stt S' ctx gk L c' :=
  ⟨h1.trans x.kn,x.nd,x.cs,Nat.le_trans x.le h,fun g hg=>Nat.lt_of_lt_of_le (x.gb g hg) h,fun e he=>Nat.lt_of_lt_of_le (x.lb e he) h,fun a ha=>by
    obtain ⟨y,hy,rfl⟩:=List.mem_map.mp (h2 ▸ ha)
    have r:=x.rows y hy
    exact ⟨r.test,r.wh,r.lp⟩,h2 ▸ mark_row.trans x.cx,fun r hr=>(x.cb r hr).imp (fun z=>Nat.lt_of_lt_of_le z h) fun z=>Nat.lt_of_lt_of_le z h,x.cn⟩
theorem pick_row {S:CSt} {ctx:List Row} {gk:List Nat} {L:Evs} {c:Nat} {lab:Option String} {row:Row} (st:Stt S ctx gk L c) (h:pick ctx lab = some row) :
    ∃ pre r post,S.loops = pre ++ r :: post /\ r.row = row /\ S.loops.reverse.find? (fun r=>lab.isNone || r.row.lab == lab) = some r /\ mark [row.num] S.loops = pre ++ { r with left:=true } :: post:=by
  have cn:=st.cn
  unfold pick at h
  rw [<- st.cx,<- List.map_reverse,List.find?_map] at h
  obtain ⟨r,h',rfl⟩:=Option.map_eq_some_iff.mp h
  clear h
  have h:S.loops.reverse.find? (fun r=>lab.isNone || r.row.lab == lab) = some r:=h'
  obtain ⟨pre,post,e⟩:=List.mem_iff_append.mp (List.mem_reverse.mp (List.mem_of_find?_eq_some h))
  refine ⟨pre,r,post,e,rfl,h,?_⟩
  rw [<- st.cx,e,List.map_append,List.map_append,List.map_cons,List.map_cons] at cn
  have no:=(List.nodup_cons.mp (List.perm_middle.nodup_iff.mp cn)).1
  have off:∀ {l:List LR},(∀ x ∈ l,x ∈ pre ++ post) -> l.map (mk1 [r.row.num]) = l:=fun hl=>(List.map_congr_left fun a ha=>mk1_off fun q=>no (by
    rw [<- List.mem_singleton.mp q,<- List.map_append,<- List.map_append,List.map_map]
    exact List.mem_map.mpr ⟨a,hl a ha,rfl⟩)).trans (List.map_id _)
  have on:mk1 [r.row.num] r = { r with left:=true }:=by
    unfold mk1; rw [List.contains_iff_mem.mpr (.head _),Bool.or_true]
  unfold mark
  rw [e,List.map_append,List.map_cons,off fun _=>List.mem_append_left _,off fun _=>List.mem_append_right _,on]
theorem sh_grp {S:CSt} {gk:List Nat} {L:Evs} {ty:Ty} {g:Nat} (hk:S.kn = gk.map fun g=>nl g L) (cs:Cons L) (h:TyOf gk L ty g):ty.ok S /\ ((∃ k,nl g L = some k /\ sh S ty = .k k) \/ (nl g L = none /\ ∃ i,sh S ty = .var i /\ gk[i]? = some g /\ i < S.kn.length)):=by
  rcases h with ⟨i,rfl,h⟩ | ⟨rfl,h⟩
  · have hki:S.kn[i]? = some (nl g L):=by rw [hk,List.getElem?_map,h]; rfl
    have hi:=(List.getElem?_eq_some_iff.mp hki).1
    have e:sh S (.var i) = (match (some (nl g L)) with | some (some k)=>.k k | _=>.var i):=by rw [<- hki]; rfl
    refine ⟨hi,?_⟩
    generalize nl g L = o at e
    rcases o with _ | k
    · exact .inr ⟨rfl,i,e,h,hi⟩
    · exact .inl ⟨k,rfl,e⟩
  · exact ⟨trivial,.inl ⟨.u8,lk_of cs h,rfl⟩⟩
theorem uni_grp {S:CSt} {gk:List Nat} {L:Evs} {ty:Ty} {g:Nat} {k:Kd} (hk:S.kn = gk.map fun g=>nl g L) (nd:gk.Nodup) (cs:Cons L) (h:TyOf gk L ty g) :
    ty.ok S /\ canUni S (.k k) ty /\ canUni S ty (.k k) /\ ∃ o,uni S (.k k) ty = o /\ uni S ty (.k k) = o /\
    ((Cons (L ++ [(g,k)]) /\ o = some (S.kn' (gk.map fun g'=>nl g' (L ++ [(g,k)])))) \/ (¬ Cons (L ++ [(g,k)]) /\ o = none)):=by
  obtain ⟨h1,h⟩:=sh_grp hk cs h
  refine ⟨h1,?_⟩
  rcases h with ⟨k',e,h⟩ | ⟨e,i,h,hi,hl⟩
  · unfold canUni uni
    rw [h]
    refine ⟨trivial,trivial,_,rfl,?_⟩
    have mem:=nl_mem e
    by_cases q:k = k'
    · subst q
      have m:∀ {p},p ∈ L ++ [(g,k)] -> p ∈ L:=fun hp=>(List.mem_append.mp hp).elim id fun z=>List.mem_singleton.mp z ▸ mem
      refine ⟨rfl,.inl ⟨fun g a c x y=>cs g a c (m x) (m y),(if_pos rfl).trans (congrArg some ?_)⟩⟩
      have:(gk.map fun g'=>nl g' (L ++ [(g,k)])) = S.kn:=by
        rw [hk]
        refine List.map_congr_left fun g' _=>?_
        rw [nl_app]
        by_cases z:g = g'
        · subst z; rw [e]; rfl
        · rw [nl_cons,if_neg z]; exact Option.or_none
      rw [this]; rfl
    · exact ⟨(if_neg fun z=>q z.symm).trans (if_neg q).symm,.inr ⟨fun c=>q (c g k k' (List.mem_append_right _ (.head _)) (List.mem_append_left _ mem)),if_neg q⟩⟩
  · unfold canUni uni
    rw [h]
    refine ⟨hl,hl,_,rfl,rfl,.inl ⟨cs.add e,congrArg (fun l=>some (S.kn' l)) (List.ext_getElem? fun j=>?_)⟩⟩
    rw [List.getElem?_set,List.getElem?_map,hk,List.getElem?_map]
    by_cases q:i = j
    · subst q
      rw [if_pos rfl,if_pos (by rw [<- hk]; exact hl),hi]
      refine congrArg some ?_
      show some k = nl g (L ++ [(g,k)])
      rw [nl_app,e,nl_cons,if_pos rfl]; rfl
    · rw [if_neg q]
      rcases w:gk[j]? with _ | g'
      · rfl
      · refine congrArg some ?_
        show nl g' L = nl g' (L ++ [(g,k)])
        rw [nl_app,nl_cons,if_neg fun z=>q ?_]
        · exact Option.or_none.symm
        · exact (List.getElem?_inj (List.getElem?_eq_some_iff.mp hi).1 nd).mp (hi.trans (z ▸ w.symm))
theorem uni_self {S:CSt} {gk:List Nat} {L:Evs} {ty:Ty} {g:Nat} (hk:S.kn = gk.map fun g=>nl g L) (cs:Cons L) (h:TyOf gk L ty g):ty.ok S /\ canUni S ty ty /\ coe S ty ty = some S:=by
  obtain ⟨h1,h⟩:=sh_grp hk cs h
  unfold canUni coe uni
  rcases h with ⟨k,_,h⟩ | ⟨_,i,h,_⟩
  · rw [h]; exact ⟨h1,trivial,if_pos rfl⟩
  · rw [h]; exact ⟨h1,rfl,rfl⟩
theorem Stt.ev {S:CSt} {ctx:List Row} {gk:List Nat} {L:Evs} {c g:Nat} {k:Kd} (x:Stt S ctx gk L c) (hg:g < c) (hc:Cons (L ++ [(g,k)])):Stt (S.kn' (gk.map fun g'=>nl g' (L ++ [(g,k)]))) ctx gk (L ++ [(g,k)]) c :=
  ⟨rfl,x.nd,hc,x.le,x.gb,fun e he=>(List.mem_append.mp he).elim (x.lb e) fun z=>List.mem_singleton.mp z ▸ hg,fun a ha=>have r:=x.rows a ha; ⟨r.test,r.wh,fun q=>(r.lp q).mono List.prefix_rfl fun e=>List.mem_append_left _⟩,x.cx,x.cb,x.cn⟩
theorem Stt.own {S:CSt} {ctx:List Row} {gk:List Nat} {L:Evs} {c:Nat} {k:Kd} (x:Stt S ctx gk L c):Stt S ctx gk (L ++ [(c,k)]) (c + 1):=by
  have no:nl c L = none:=(Option.eq_none_iff_forall_ne_some).mpr fun k q=>Nat.lt_irrefl _ (x.lb _ (nl_mem q))
  have up:=x.up (S':=S) (D:=[]) (Nat.le_succ c) rfl mark_nil.symm
  refine ⟨x.kn.trans (List.map_congr_left fun g hg=>?_),x.nd,x.cs.add no,up.le,up.gb,fun e he=>(List.mem_append.mp he).elim (up.lb e) fun z=>List.mem_singleton.mp z ▸ Nat.lt_succ_self c,fun a ha=>have r:=x.rows a ha; ⟨r.test,r.wh,fun q=>(r.lp q).mono List.prefix_rfl fun e=>List.mem_append_left _⟩,x.cx,up.cb,x.cn⟩
  rw [nl_app,nl_cons,if_neg (Nat.ne_of_gt (x.gb g hg))]
  exact Option.or_none.symm
end Mine
end
section
set_option maxHeartbeats 1000000
set_option maxRecDepth 20000
set_option genSizeOf false
namespace Mine
section
variable {C:Oracle} {ρ:Env} {σ:Store} {R:Bool -> Store -> Prop} {n:Nat}
theorem run_asgF {z x y:String} {elt it cond it2:Ex} {Q:QF} (h:wpE C ρ R it (fun a s=>Run (itemsOf a) s (fun l s=>Run (flatItems (turnG C ρ x cond y it2 elt) l) s (fun vs s=>vs.length < 100000 /\ Q .next (ρ.set z (.lst vs)) s) fun _ _=>False) R) σ):Run (ex1 C (.asgF z elt x it cond y it2) ρ) σ (unc Q) R :=
  g_bind (comp_ok (Q:=fun v s=>Run (M.ret (Flow.next,ρ.set z v)) s (unc Q) R) (g_bind (wpE_ok it h)))
theorem mi_id:∀ {l:List V} {Q:List V -> Store -> Prop},Q l σ -> Run (mapItems (fun u=>M.bind (ev C (ρ.set "one" u) (.var "one")) fun z=>M.ret (some z)) l) σ Q R
  | [],_,h=>h
  | v :: r,Q,h=>g_bind (show Run (M.ret (some v)) σ _ R from g_bind (mi_id (l:=r) (Q:=fun xs s=>Q (v :: xs) s) h))
noncomputable def turnR (n:Nat) (ρ:Env):V -> M (List V):=turnG (callF tab n) ρ "part" (.call (.g "isinstance") [.var "part",.g "tuple"]) "one" (.call (.g "_law_rings") [.var "part"]) (.var "one")
theorem turn_no {v:V} {Q:List V -> Store -> Prop} (h:isTupB v = M.ret (.bool false)) (z:Q [] σ):Run (turnR n ρ v) σ Q R:=by
  refine g_bind (g_bind (wpE_ok _ ?_))
  show Run (isTupB v) σ _ R
  rw [h]; exact z
theorem turn_tup {l xs:List V} {Q:List V -> Store -> Prop} (h:∀ Q:V -> Store -> Prop,Q (.lst xs) σ -> Run (callF tab n "_law_rings" [.tup l]) σ Q R) (z:Q xs σ):Run (turnR n ρ (.tup l)) σ Q R:=by
  refine g_bind (g_bind (wpE_ok _ ?_))
  refine run_fn rfl ?_
  refine h _ ?_
  exact mi_id z
end
structure RL (d:Nat) (l:List V) (rs:List Ty):Prop where
  data:V.areData l = true
  run:rs.length <= 9000 -> ∀ {n ρ σ} {Q:List V -> Store -> Prop} {R},d <= n -> Q (rs.map Ty.v) σ -> Run (flatItems (turnR n ρ) l) σ Q R
structure Rv (d:Nat) (v:V) (rs:List Ty):Prop where
  tup:∃ l,v = .tup l
  data:V.isData v = true
  run:rs.length <= 9000 -> ∀ {n σ} {Q:V -> Store -> Prop} {R},d <= n -> Q (.lst (rs.map Ty.v)) σ -> Run (callF tab n "_law_rings" [v]) σ Q R
section
variable {d d':Nat} {l:List V} {rs xs ys:List Ty} {v:V}
theorem Rv.up (h:Rv d v rs) (q:d <= d'):Rv d' v rs:=⟨h.tup,h.data,fun z _ _ _ _ k=>h.run z (Nat.le_trans q k)⟩
theorem RL.up (h:RL d l rs) (q:d <= d'):RL d' l rs:=⟨h.data,fun z _ _ _ _ _ k=>h.run z (Nat.le_trans q k)⟩
theorem RL.nil:RL d [] []:=⟨rfl,fun _ _ _ _ _ _ _ h=>h⟩
theorem RL.a (r:RL d l ys) (h:V.isData v = true) (e:isTupB v = M.ret (.bool false)):RL d (v :: l) ys :=
  ⟨by show (V.isData v && _) = true; rw [h,r.data]; rfl,fun z _ _ _ _ _ k q=>g_bind (turn_no e (g_bind (r.run z k q)))⟩
theorem RL.c (r:RL d l ys) (x:Rv d v xs):RL d (v :: l) (xs ++ ys):=by
  obtain ⟨⟨t,rfl⟩,h,f⟩:=x
  refine ⟨?_,fun z n ρ σ Q R k q=>?_⟩
  · show (V.isData (.tup t) && _) = true
    rw [h,r.data]; rfl
  · rw [List.length_append] at z
    rw [List.map_append] at q
    exact g_bind (turn_tup (fun Q=>f (Nat.le_trans (Nat.le_add_right _ _) z) k) (g_bind (r.run (Nat.le_trans (Nat.le_add_left _ _) z) k q)))
theorem RL.e (r:RL d l []) (x:Rv d v xs):RL d (v :: l) xs:=by
  have h:=r.c x
  rw [List.append_nil] at h
  exact h
theorem veq_nilT (h:V.areData l = true):veq (.tup l) (.tup []) = M.ret l.isEmpty:=by
  show (if (V.areData l && true && (V.flat (.tup l) || true)) = true then M.ret (V.eqbs l []) else M.fail) = _
  rw [h,Bool.or_true]
  rcases l with _ | _ <;> rfl
theorem head_cmp {a:V} {t:Bool} {σ:Store} {Q:V -> Store -> Prop} {R:Bool -> Store -> Prop} (e:veq a (.str "loop") = M.ret t) (h:Q (.bool t) σ):Run (atPlace (a :: l) 0) σ (fun x s=>Run (doCmp .eq x (.str "loop")) s Q R) R:=at0 (run_veq e h)
theorem run_notB {x:M Bool} {t:Bool} {σ:Store} {Q:V -> Store -> Prop} {R:Bool -> Store -> Prop} (e:x = M.ret t) (h:Q (.bool !t) σ):Run (notB x) σ Q R:=by
  unfold notB; rw [e]; exact h
theorem Rv.of (r:RL d l rs) (h:l = [] \/ ∃ a m,l = a :: m /\ veq a (.str "loop") = M.ret false):Rv (d + 1) (.tup l) rs:=by
  refine ⟨⟨l,rfl⟩,r.data,fun z N σ Q R k q=>?_⟩
  obtain ⟨n,rfl,k'⟩:=fuel k
  have hz:(rs.map Ty.v).length < 100000:=by rw [List.length_map]; exact Nat.lt_of_le_of_lt z (by decide)
  refine run_call rfl rfl ?_
  refine run_asgF ?_
  refine r.run z k' ⟨hz,?_⟩
  refine run_notB (veq_nilT r.data) ?_
  rcases h with rfl | ⟨a,m,rfl,h⟩
  · exact q
  · refine head_cmp h ?_
    exact q
theorem run_glue {a b:List V} {σ:Store} {Q:V -> Store -> Prop} {R:Bool -> Store -> Prop} (ha:a.length < 100000) (hb:b.length < 100000) (h:Q (.lst (a ++ b)) σ):Run (glue a b) σ Q R:=run_pos (by rw [decide_eq_true ha,decide_eq_true hb]; rfl) h
theorem Rv.loop {ty:Ty} (r:RL d (.str "loop" :: ty.v :: l) rs):Rv (d + 1) (.tup (.str "loop" :: ty.v :: l)) (rs ++ [ty]):=by
  refine ⟨⟨_,rfl⟩,r.data,fun z N σ Q R k q=>?_⟩
  obtain ⟨n,rfl,k'⟩:=fuel k
  have z:rs.length <= 9000:=Nat.le_trans (by rw [List.length_append]; exact Nat.le_add_right _ _) z
  have hz:(rs.map Ty.v).length < 100000:=by rw [List.length_map]; exact Nat.lt_of_le_of_lt z (by decide)
  refine run_call rfl rfl ?_
  refine run_asgF ?_
  refine r.run z k' ⟨hz,?_⟩
  refine run_notB (veq_nilT r.data) ?_
  refine head_cmp (t:=true) rfl ?_
  refine at1 ?_
  refine run_glue hz (show 1 < 100000 by decide) ?_
  rw [List.map_append] at q
  exact q
theorem Rv.ty {t:Ty}:Rv 2 t.v []:=by
  rcases t with t | _ | i
  · rcases t with _ | _ | _
    · exact .of (.a (.a .nil rfl rfl) rfl rfl) (.inr ⟨_,_,rfl,rfl⟩)
    · exact .of (.a .nil rfl rfl) (.inr ⟨_,_,rfl,rfl⟩)
    · exact .of (.a (.c .nil (.of .nil (.inl rfl))) rfl rfl) (.inr ⟨_,_,rfl,rfl⟩)
  · exact .of (.a .nil rfl rfl) (.inr ⟨_,_,rfl,rfl⟩)
  · exact .of (.a (.a .nil rfl rfl) rfl rfl) (.inr ⟨_,_,rfl,rfl⟩)
end
structure Made (made:V) (ty:Ty) (rs:List Ty) (d:Nat):Prop where
  shape:∃ a rest,made = .tup (a :: ty.v :: .int 1 :: rest)
  rv:Rv d made rs
theorem Made.up {made:V} {ty:Ty} {rs:List Ty} {d d':Nat} (h:Made made ty rs d) (q:d <= d'):Made made ty rs d':=⟨h.shape,h.rv.up q⟩
theorem Made.mk' {s:String} {ty:Ty} {l:List V} {rs:List Ty} {d:Nat} (e:veq (.str s) (.str "loop") = M.ret false) (h:2 <= d) (r:RL d l rs):Made (.tup (.str s :: ty.v :: .int 1 :: l)) ty rs (d + 1) :=
  ⟨⟨_,_,rfl⟩,.of (.a (.c (xs:=[]) (.a r rfl rfl) (Rv.ty.up h)) rfl rfl) (.inr ⟨_,_,rfl,e⟩)⟩
theorem Made.loop {ty:Ty} {l:List V} {rs:List Ty} {d:Nat} (h:2 <= d) (r:RL d l rs):Made (.tup (.str "loop" :: ty.v :: .int 1 :: l)) ty (rs ++ [ty]) (d + 1) :=
  ⟨⟨_,_,rfl⟩,.loop (.a (.c (xs:=[]) (.a r rfl rfl) (Rv.ty.up h)) rfl rfl)⟩
theorem Made.const {ty:Ty} {v:V} (h:V.isData v = true) (e:isTupB v = M.ret (.bool false)):Made (.tup [.str "const",ty.v,.int 1,v]) ty [] 3:=.mk' rfl (Nat.le_refl _) (.a .nil h e)
noncomputable def RingsOk (gk:List Nat) (L:Evs):List En -> List Ty -> Prop
  | [],ts=>ts = []
  | e :: es,ts=>∃ t us,ts = t :: us /\ (match e.w with | true=>t = .k .unit | false=>match e.left with | true=>TyOf gk L t e.rt | false=>t = .never) /\ RingsOk gk L es us
set_option tactic.hygienic true in
theorem RingsOk.app {gk:List Nat} {L:Evs} {fs:List En} {us:List Ty} (k:RingsOk gk L fs us):∀ {es:List En} {ts:List Ty},RingsOk gk L es ts -> RingsOk gk L (es ++ fs) (ts ++ us)
  | [],_,h=>by cases h; exact k
  | e :: es,_,⟨t,vs,h,h1,h2⟩=>by cases h; exact ⟨t,_,rfl,h1,RingsOk.app k h2⟩
theorem RingsOk.mono {gk gk':List Nat} {L L':Evs} (h1:gk <+: gk') (h2:∀ e ∈ L,e ∈ L'):∀ {es:List En} {ts:List Ty},RingsOk gk L es ts -> RingsOk gk' L' es ts
  | [],_,h=>h
  | ⟨_,w,_,l⟩ :: es,_,⟨t,vs,h,q,h3⟩=>⟨t,vs,h,by
    rcases w with _ | _
    · rcases l with _ | _
      · exact q
      · exact TyOf.mono h1 h2 q
    · exact q,RingsOk.mono h1 h2 h3⟩
theorem RingsOk.len {gk:List Nat} {L:Evs}:∀ {es:List En} {ts:List Ty},RingsOk gk L es ts -> ts.length = es.length
  | [],_,h=>congrArg List.length h
  | _ :: _,_,⟨_,_,h,_,h3⟩=>(congrArg List.length h).trans (congrArg (· + 1) h3.len)
end Mine
end
section
set_option maxHeartbeats 1000000
set_option maxRecDepth 20000
set_option genSizeOf false
namespace Mine
structure Done (b:Nat) (S:CSt) (ctx:List Row) (gk:List Nat) (L:Evs) (c:Nat) (D:List Nat) (s:Store) (S':CSt) (gk':List Nat):Prop where
  inv:CInv b s S'
  st:Stt S' ctx gk' L c
  pre:gk <+: gk'
  loops:S'.loops = mark D S.loops
  deep:S'.deep = S.deep
  own:S'.own = S.own
  g:S'.g = S.g
theorem Done.refl {b:Nat} {S:CSt} {ctx:List Row} {gk:List Nat} {L:Evs} {c:Nat} {s:Store} (I:CInv b s S) (st:Stt S ctx gk L c):Done b S ctx gk L c [] s S gk:=⟨I,st,List.prefix_rfl,mark_nil.symm,rfl,rfl,rfl⟩
theorem Done.trans {b:Nat} {S S1 S2:CSt} {ctx:List Row} {gk gk1 gk2:List Nat} {L1 L2:Evs} {c1 c2:Nat} {D E:List Nat} {s s':Store} (x:Done b S ctx gk L1 c1 D s S1 gk1) (y:Done b S1 ctx gk1 L2 c2 E s' S2 gk2):Done b S ctx gk L2 c2 (D ++ E) s' S2 gk2 :=
  ⟨y.inv,y.st,x.pre.trans y.pre,by rw [y.loops,x.loops,mark_app],y.deep.trans x.deep,y.own.trans x.own,y.g.trans x.g⟩
theorem Done.l1 {b n:Nat} {S S':CSt} {ctx:List Row} {gk gk':List Nat} {L:Evs} {c:Nat} {D:List Nat} {s:Store} (x:Done b S ctx gk L c D s S' gk') (h:S.loops.length + n <= 900):S'.loops.length + n <= 900:=by rw [x.loops,mark_len]; exact h
theorem Done.l2 {b n:Nat} {S S':CSt} {ctx:List Row} {gk gk':List Nat} {L:Evs} {c:Nat} {D:List Nat} {s:Store} (x:Done b S ctx gk L c D s S' gk') (h:S.deep + n <= 900):S'.deep + n <= 900:=by rw [x.deep]; exact h
theorem Done.then {b:Nat} {S S1 S2:CSt} {ctx:List Row} {gk gk1 gk2:List Nat} {L1 L2:Evs} {c1 c2:Nat} {D:List Nat} {s s':Store} (x:Done b S ctx gk L1 c1 D s S1 gk1) (y:Done b S1 ctx gk1 L2 c2 [] s' S2 gk2):Done b S ctx gk L2 c2 D s' S2 gk2:=by
  have z:=x.trans y
  rw [List.append_nil] at z
  exact z
noncomputable def wtV:Option Ty -> V
  | none=>.none
  | some t=>t.v
noncomputable def Wt (gk:List Nat) (L:Evs) (c rt:Nat):Option Ty -> Prop
  | none=>rt = c
  | some t=>rt < c /\ TyOf gk L t rt
structure Asked (k N b:Nat) (σ:Store) (S:CSt) (ctx:List Row) (gk:List Nat) (L:Evs) (c:Nat) (p:Pl) (rt:Nat):Prop where
  fuel:k + p.ht <= N
  inv:CInv b σ S
  st:Stt S ctx gk L c
  l1:S.loops.length + N <= 900
  l2:S.deep + N <= 900
  wf:p.wf ctx c rt
  nx:p.nx c <= 5000
  sz:p.sz <= 900
structure Got (b:Nat) (S:CSt) (ctx:List Row) (gk:List Nat) (L:Evs) (c:Nat) (X:Inf) (rt:Nat) (wt:Option Ty) (d:Nat) (s:Store) (made:V) (S':CSt) (gk':List Nat) (res:Ty) (rs:List Ty):Prop where
  done:Done b S ctx gk (L ++ X.ev) c X.lf s S' gk'
  ty:X.kd = .res -> TyOf gk' (L ++ X.ev) res rt
  wt:∀ t,wt = some t -> res = t
  md:Made made (X.kd.ty res) rs d
  ro:RingsOk gk' (L ++ X.ev) X.el rs
  ok:X.bad = false
theorem Got.up {b:Nat} {S S':CSt} {ctx:List Row} {gk gk':List Nat} {L:Evs} {c rt d d':Nat} {X:Inf} {wt:Option Ty} {s:Store} {made:V} {res:Ty} {rs:List Ty} (G:Got b S ctx gk L c X rt wt d s made S' gk' res rs) (h:d <= d'):Got b S ctx gk L c X rt wt d' s made S' gk' res rs:=⟨G.done,G.ty,G.wt,G.md.up h,G.ro,G.ok⟩
noncomputable def Fine (L:Evs) (X:Inf):Prop:=Cons (L ++ X.ev) /\ X.bad = false
noncomputable def ExOk (p:Pl):Prop:=∀ {N b:Nat} {σ:Store} {S:CSt} {ctx:List Row} {gk:List Nat} {L:Evs} {c rt:Nat} {wt:Option Ty} {Q:V -> Store -> Prop} {R:Bool -> Store -> Prop},Asked 15 N b σ S ctx gk L c p rt -> Wt gk L c rt wt ->
  (∀ s made S' gk' res rs,Got b S ctx gk L (p.nx c) (p.inf ctx c rt) rt wt (p.ht + 4) s made S' gk' res rs -> Q made s) -> (¬ Fine L (p.inf ctx c rt) -> ∀ f s,Kp b S.g s -> R f s) ->
  Run (callF tab N "Checker.expr" [.obj (b + 17),p.t,wtV wt]) σ Q R
theorem Got.leaf {b:Nat} {S:CSt} {ctx:List Row} {gk:List Nat} {L:Evs} {c rt d:Nat} {wt:Option Ty} {kd:Kn} {s:Store} {made:V} (I:CInv b s S) (st:Stt S ctx gk L c) (h:kd ≠ .res) (m:Made made (kd.ty .never) [] d):Got b S ctx gk L c (.of kd) rt wt d s made S gk (wt.getD .never) []:=by
  have e:L ++ (Inf.of kd).ev = L:=List.append_nil L
  have d':Done b S ctx gk (L ++ (Inf.of kd).ev) c [] s S gk:=e.symm ▸ Done.refl I st
  refine ⟨d',fun q=>absurd q h,fun t q=>by rw [q]; rfl,?_,rfl,rfl⟩
  rcases kd with _ | _ | _
  · exact m
  · exact m
  · exact absurd rfl h
section
variable {n N b:Nat} {σ:Store} {S:CSt} {Q:V -> Store -> Prop} {R:Bool -> Store -> Prop}
theorem const_int {w:V} {k:Int} (I:CInv b σ S) (h:∀ s,CInv b s S -> Q (.tup [.str "const",(Ty.k .u8).v,.int 1,.int k]) s):Run (callF tab (n + 1 + 2) "Checker.expr" [.obj (b + 17),.tup [.str "int",.int 1,.int k,.str "u8"],w]) σ Q R :=
  expr_to (f := "read_int") rfl rfl rfl I fun s I=>run_call rfl rfl ⟨rfl,h s I⟩
theorem const_bool {w:V} (I:CInv b σ S) (h:∀ s,CInv b s S -> Q (.tup [.str "const",(Ty.k .bool).v,.int 1,.bool true]) s):Run (callF tab (n + 1 + 2) "Checker.expr" [.obj (b + 17),trueT,w]) σ Q R:=by
  refine expr_to (f := "read_bool") rfl rfl rfl I fun s I=>run_call rfl rfl (h s I)
set_option tactic.hygienic true in
theorem coerce_same {t:Ty} {a:V} {r:List V} (hN:6 <= N) (I:CInv b σ S) (h1:t.ok S) (h2:canUni S t t) (h3:coe S t t = some S) (h:∀ s,CInv b s S -> Q (.tup (a :: t.v :: .int 1 :: r)) s):Run (callF tab N "Checker.coerce" [.obj (b + 17),.tup (a :: t.v :: .int 1 :: r),t.v]) σ Q R :=
  coerce_run (k:=1) hN I h1 h1 (.inr h2) (fun S' e s x=>by rw [h3] at e; cases e; exact h s x) fun e=>by rw [h3] at e; cases e
theorem coerce_kd {k:Kd} {a:V} {r:List V} (hN:6 <= N) (I:CInv b σ S) (h:∀ s,CInv b s S -> Q (.tup (a :: (Ty.k k).v :: .int 1 :: r)) s):Run (callF tab N "Checker.coerce" [.obj (b + 17),.tup (a :: (Ty.k k).v :: .int 1 :: r),(Ty.k k).v]) σ Q R :=
  coerce_same (t:=.k k) hN I trivial trivial (if_pos rfl) h
set_option tactic.hygienic true in
theorem coerce_nv {t:Ty} {a:V} {r:List V} (hN:6 <= N) (I:CInv b σ S) (h1:t.ok S) (h:∀ s,CInv b s S -> Q (.tup (a :: Ty.never.v :: .int 1 :: r)) s):Run (callF tab N "Checker.coerce" [.obj (b + 17),.tup (a :: Ty.never.v :: .int 1 :: r),t.v]) σ Q R :=
  coerce_run (t:=.never) (k:=1) hN I trivial h1 (.inl rfl) (fun S' e s x=>by cases e; exact h s x) fun e=>by cases e
theorem coerce_unit {made:V} {X:Kn} {res:Ty} {rs:List Ty} {d:Nat} (hN:6 <= N) (I:CInv b σ S) (m:Made made (X.ty res) rs d) (hX:X = .nv \/ X = .k .unit) (h:∀ s,CInv b s S -> Q made s):Run (callF tab N "Checker.coerce" [.obj (b + 17),made,(Ty.k .unit).v]) σ Q R:=by
  obtain ⟨a,r,rfl⟩:=m.shape
  rcases hX with rfl | rfl
  · exact coerce_nv (t:=.k .unit) hN I trivial h
  · exact coerce_kd hN I h
theorem ret_run {w:V} (hn:12 <= n) (I:CInv b σ S) (h:∀ s,CInv b s S -> Q (.tup [.str "return",Ty.never.v,.int 1,.tup [.str "const",(Ty.k .u8).v,.int 1,.int 4]]) s):Run (callF tab (n + 1 + 2) "Checker.expr" [.obj (b + 17),Pl.ret.t,w]) σ Q R:=by
  refine cps fun G k9=>?_
  obtain ⟨m,rfl,hm⟩:=fuel3 (c:=0) (Nat.le_trans (by decide) hn)
  refine k9 (expr_to (f := "read_return") rfl rfl rfl I fun s I=>run_call rfl rfl ?_)
  refine run_at I.ck ?_
  refine run_at I.ck ?_
  refine run_at I.ck ?_
  refine run_at I.ck ?_
  refine const_int I fun s I=>?_
  refine run_at I.ck ?_
  refine coerce_kd (k:=.u8) (Nat.le_trans (by decide) hn) I fun s I=>?_
  exact h s I
theorem left_loop_run {j:Nat} {a:String} {l:List (String × V)} {v:V} (hN:1 <= N) (h1:At σ j (.inst a l)) (e:alook "number" l = some v) (h:Q (.tup [.str "break",Ty.never.v,.int 1,v,.none]) σ):Run (callF tab N "left_loop" [.obj j,.int 1]) σ Q R:=by
  obtain ⟨n,rfl,hn⟩:=fuel hN
  refine run_call rfl rfl ?_
  refine run_at h1 ?_
  show Run (ofOpt (alook "number" l)) σ _ R
  rw [e]
  exact h
end
theorem ex_u8:ExOk .u8:=fun A _ h _=>by
  obtain ⟨n,rfl,hn⟩:=fuel3 (c:=12) A.fuel
  exact const_int A.inv fun s I=>h _ _ _ _ _ _ (.leaf I A.st (fun h=>nomatch h) (.up (.const rfl rfl) (by decide)))
theorem ex_bool:ExOk .bool:=fun A _ h _=>by
  obtain ⟨n,rfl,hn⟩:=fuel3 (c:=12) A.fuel
  exact const_bool A.inv fun s I=>h _ _ _ _ _ _ (.leaf I A.st (fun h=>nomatch h) (.up (.const rfl rfl) (by decide)))
theorem ex_ret:ExOk .ret:=fun A _ h _=>by
  obtain ⟨n,rfl,hn⟩:=fuel3 (c:=12) A.fuel
  exact ret_run hn A.inv fun s I=>h _ _ _ _ _ _ (.leaf I A.st (fun h=>nomatch h) (.mk' rfl (by decide) (.c (xs:=[]) .nil (Made.const rfl rfl).rv)))
theorem ex_cont {lab:Option String}:ExOk (.cont lab):=fun {N b σ S ctx gk L c rt wt Q R} A _ h _=>by
  obtain ⟨n,rfl,hn⟩:=fuel3 (c:=12) A.fuel
  obtain ⟨row,hp⟩:=A.wf
  refine expr_to (f := "read_continue") rfl rfl rfl A.inv fun s I=>run_call rfl rfl ?_
  obtain ⟨pre,r,post,e,e2,e3,_⟩:=pick_row A.st hp
  refine run_at I.ck ?_
  refine loop_of_run (Nat.le_trans (by decide) hn) I (fun a ha=>(A.st.rows a ha).test) e3 ?_
  refine run_at (I.lo r (e ▸ List.mem_append_right _ (.head _))).2 ?_
  exact h _ _ _ _ _ _ (.leaf I A.st (fun h=>nomatch h) (.up (d:=4) (.mk' (ty:=.never) (d:=3) rfl (by decide) (.a .nil rfl rfl)) (Nat.le_add_left 4 _)))
end Mine
end
section
set_option maxHeartbeats 1000000
set_option maxRecDepth 20000
set_option genSizeOf false
namespace Mine
section
variable {n N b:Nat} {σ:Store} {S:CSt} {Q:V -> Store -> Prop} {R:Bool -> Store -> Prop} {ctx:List Row} {gk:List Nat} {L:Evs} {c g:Nat} {k:Kd} {ty:Ty}
noncomputable def knOf (gk:List Nat) (L:Evs):List (Option Kd):=gk.map fun g=>nl g L
theorem Stt.ev' (x:Stt S ctx gk L c) (hg:g < c) (hc:Cons (L ++ [(g,k)])):Stt (S.kn' (knOf gk (L ++ [(g,k)]))) ctx gk (L ++ [(g,k)]) c:=x.ev hg hc
set_option tactic.hygienic true in
theorem give_run {a:V} {rest:List V} (hN:6 <= N) (I:CInv b σ S) (st:Stt S ctx gk L c) (ht:TyOf gk L ty g)
    (h:Cons (L ++ [(g,k)]) -> ∀ s,CInv b s (S.kn' (knOf gk (L ++ [(g,k)]))) -> Q (.tup (a :: (Ty.k k).v :: .int 1 :: rest)) s) (hr:¬ Cons (L ++ [(g,k)]) -> ∀ f s,Kp b S.g s -> R f s) :
    Run (callF tab N "Checker.coerce" [.obj (b + 17),.tup (a :: (Ty.k k).v :: .int 1 :: rest),ty.v]) σ Q R:=by
  obtain ⟨u1,u2,u3,o,e1,e2,u4⟩:=uni_grp (k:=k) st.kn st.nd st.cs ht
  have e1:coe S (.k k) ty = o:=e1
  refine coerce_run (k:=1) hN I trivial u1 (.inr u2) (fun S' e s x=>?_) fun e s x=>?_
  all_goals
    rw [e1] at e
    subst e
  · rcases u4 with ⟨c1,e⟩ | ⟨_,e⟩
    · cases e; exact h c1 s x
    · cases e
  · rcases u4 with ⟨_,e⟩ | ⟨c1,_⟩
    · cases e
    · exact hr c1 true s x.kept
set_option tactic.hygienic true in
theorem give_uni (hN:5 <= N) (I:CInv b σ S) (st:Stt S ctx gk L c) (ht:TyOf gk L ty g)
    (h:Cons (L ++ [(g,k)]) -> ∀ s,CInv b s (S.kn' (knOf gk (L ++ [(g,k)]))) -> Q .none s) (hr:¬ Cons (L ++ [(g,k)]) -> ∀ f s,Kp b S.g s -> R f s) :
    Run (callF tab N "Checker.unify" [.obj (b + 17),ty.v,(Ty.k k).v,.int 1]) σ Q R:=by
  obtain ⟨u1,u2,u3,o,e1,e2,u4⟩:=uni_grp (k:=k) st.kn st.nd st.cs ht
  refine cunify_run (u:=.k k) (k:=1) hN I u1 trivial u3 (fun S' e s x=>?_) fun e s x=>?_
  all_goals
    rw [e2] at e
    subst e
  · rcases u4 with ⟨c1,e⟩ | ⟨_,e⟩
    · cases e; exact h c1 s x
    · cases e
  · rcases u4 with ⟨_,e⟩ | ⟨c1,_⟩
    · cases e
    · exact hr c1 true s x.kept
theorem fault_run {m:String} (hN:1 <= N) (h:R false σ):Run (callF tab N "Checker.fault" [.obj (b + 17),.str m,.int 1]) σ Q R:=by
  obtain ⟨n,rfl,hn⟩:=fuel hN
  exact run_call rfl rfl h
set_option tactic.hygienic true in
theorem coerce_got {X:Inf} {made:V} {S':CSt} {gk':List Nat} {res t:Ty} {rs:List Ty} {rt d:Nat} (hN:6 <= N) (G:Got b S ctx gk L c X rt (some t) d σ made S' gk' res rs) (hrt:rt < c) (ht:TyOf gk L t rt)
    (h:∀ s S2,Done b S ctx gk (L ++ (X.ev ++ X.kd.ev rt)) c X.lf s S2 gk' -> Q made s) (hr:¬ Cons (L ++ (X.ev ++ X.kd.ev rt)) -> ∀ f s,Kp b S.g s -> R f s) :
    Run (callF tab N "Checker.coerce" [.obj (b + 17),made,t.v]) σ Q R:=by
  obtain ⟨ev,bad,lf,el,kd⟩:=X
  have D:=G.done
  have ht':TyOf gk' (L ++ ev) t rt:=ht.mono D.pre fun e=>List.mem_append_left _
  obtain ⟨u1,u2,u3⟩:=uni_self D.st.kn D.st.cs ht'
  obtain ⟨a,rest,e⟩:=G.md.shape
  cases G.wt t rfl
  rw [e] at h ⊢
  rcases kd with _ | k | _
  · rw [show ev ++ Kn.nv.ev rt = ev from List.append_nil _] at h
    exact coerce_nv hN D.inv u1 fun s I=>h s S' (D.then (.refl I D.st))
  · change ∀ s S2,Done b S ctx gk (L ++ (ev ++ [(rt,k)])) c lf s S2 gk' -> _ at h
    change ¬ Cons (L ++ (ev ++ [(rt,k)])) -> _ at hr
    rw [<- List.append_assoc] at h hr
    exact give_run hN D.inv D.st ht' (fun cs s I=>h s _ (D.then ⟨I,D.st.ev' hrt cs,List.prefix_rfl,mark_nil.symm,rfl,rfl,rfl⟩)) fun z f s k=>hr z f s (D.g ▸ k)
  · rw [show ev ++ Kn.res.ev rt = ev from List.append_nil _] at h
    exact coerce_same hN D.inv u1 u2 u3 fun s I=>h s S' (D.then (.refl I D.st))
end
theorem brk_val {x:Pl} (h:x.isV = true):x = .no \/ (x.isNo = false /\ isNone x.t = M.ret false /\ x.isE = true):=by
  rcases x with _ | _ | ⟨_,w,_,_⟩ | _ | _ | _ | _ | _ | _ | _ | _
  · exact no_tf h
  · exact no_tf h
  · rcases w with _ | _ <;> exact .inr ⟨rfl,rfl,rfl⟩
  · exact no_tf h
  · exact no_tf h
  · exact no_tf h
  · exact .inr ⟨rfl,rfl,rfl⟩
  · exact .inl rfl
  all_goals exact .inr ⟨rfl,rfl,rfl⟩
theorem run_is {a:V} {t:Bool} {σ:Store} {Q:V -> Store -> Prop} {R:Bool -> Store -> Prop} (e:isNone a = M.ret t) (h:Q (.bool t) σ):Run (isB (isNone a)) σ Q R:=by
  unfold isB; rw [e]; exact h
theorem Got.brk {b:Nat} {S S':CSt} {ctx:List Row} {gk gk':List Nat} {L ev:Evs} {bad:Bool} {lf:List Nat} {el:List En} {c rt d j:Nat} {wt:Option Ty} {s:Store} {v:V} {rs:List Ty} (h:Done b S ctx gk (L ++ ev) c lf s S' gk') (ro:RingsOk gk' (L ++ ev) el rs) (ok:bad = false) (hd:2 <= d) (hv:RL d [v] rs) :
    Got b S ctx gk L c ⟨ev,bad,lf,el,.nv⟩ rt wt (d + 1) s (.tup [.str "break",Ty.never.v,.int 1,.int j,v]) S' gk' (wt.getD .never) rs :=
  ⟨h,fun q=>(nomatch q),fun t q=>by rw [q]; rfl,.mk' (ty:=.never) rfl hd (.a hv rfl rfl),ro,ok⟩
theorem app3 {α:Type} {L A B:List α} (e:α) (h:e ∈ L ++ A):e ∈ L ++ (A ++ B):=(List.mem_append.mp h).elim (List.mem_append_left _) fun h=>List.mem_append_right _ (List.mem_append_left _ h)
theorem Cons.sub {A B:Evs} (h:∀ e ∈ A,e ∈ B) (c:Cons B):Cons A:=fun g x y p q=>c g x y (h _ p) (h _ q)
theorem lim {a n:Nat} (h:a + (n + 1 + 2) <= 900):a + n <= 900:=Nat.le_trans (Nat.add_le_add_left (Nat.le_add_right n 3) a) h
noncomputable def In (S:CSt) (j:Nat) (t:Ty) (w:Bool) (m:Nat):Prop:=∃ y ∈ S.loops,y.at_ = j /\ y.res = t /\ y.row.w = w /\ y.num = m
theorem In.to {b j m c:Nat} {t:Ty} {w:Bool} {S S':CSt} {ctx:List Row} {gk gk':List Nat} {L:Evs} {D:List Nat} {s:Store} (J:In S j t w m) (h:Done b S ctx gk L c D s S' gk'):In S' j t w m :=
  J.elim fun y z=>⟨mk1 D y,h.loops ▸ List.mem_map.mpr ⟨y,z.1,rfl⟩,z.2⟩
theorem run_attr {j:Nat} {c a:String} {l:List (String × V)} {v:V} {σ:Store} {Q:V -> Store -> Prop} {R:Bool -> Store -> Prop} (h:At σ j (.inst c l)) (e:alook a l = some v) (z:Q v σ):Run (doAttr (.obj j) a) σ Q R :=
  run_at h (show Run (ofOpt (alook a l)) σ Q R by rw [e]; exact z)
section
variable {n b j m c rt:Nat} {t:Ty} {w:Bool} {σ:Store} {S:CSt} {Q:V -> Store -> Prop} {R:Bool -> Store -> Prop} {ctx:List Row} {gk:List Nat} {L:Evs}
theorem In.at (J:In S j t w m) (I:CInv b σ S):∃ l,At σ j (.inst "Loop" l) /\ alook "result" l = some t.v /\ alook "has_value" l = some (.bool !w) /\ alook "number" l = some (.int m):=by
  obtain ⟨y,h,rfl,rfl,rfl,rfl⟩:=J
  exact ⟨_,(I.lo y h).2,rfl,rfl,rfl⟩
theorem In.res (J:In S j t w m) (I:CInv b σ S) (h:Q t.v σ):Run (doAttr (.obj j) "result") σ Q R:=(J.at I).elim fun _ z=>run_attr z.1 z.2.1 h
theorem In.hv (J:In S j t w m) (I:CInv b σ S) (h:Q (.bool !w) σ):Run (doAttr (.obj j) "has_value") σ Q R:=(J.at I).elim fun _ z=>run_attr z.1 z.2.2.1 h
theorem In.num (J:In S j t w m) (I:CInv b σ S) (h:Q (.int m) σ):Run (doAttr (.obj j) "number") σ Q R:=(J.at I).elim fun _ z=>run_attr z.1 z.2.2.2 h
theorem In.leftL {N:Nat} (J:In S j t w m) (hN:1 <= N) (I:CInv b σ S) (h:Q (.tup [.str "break",Ty.never.v,.int 1,.int m,.none]) σ):Run (callF tab N "left_loop" [.obj j,.int 1]) σ Q R:=(J.at I).elim fun _ z=>left_loop_run hN z.1 z.2.2.2 h
noncomputable def brkRest:List St:=f_read_break.body.drop 3
set_option tactic.hygienic true in
theorem brk_rest {x:Pl} {ρ:Env} (hx:x.isE = true -> ExOk x) (hn:15 + x.ht <= n) (r1:ρ "checker" = some (.obj (b + 17))) (r2:ρ "value" = some x.t) (r3:ρ "spot" = some (.int 1)) (r4:ρ "loop" = some (.obj j))
    (I:CInv b σ S) (st:Stt S ctx gk L c) (J:In S j t w m) (hw:w = true -> t = .k .unit) (hl:w = false -> TyOf gk L t rt) (hrt:rt < c) (hv:x.isV = true) (hwf:x.wf ctx c rt) (hnx:x.nx c <= 5000) (hsz:x.sz <= 900) (l1:S.loops.length + n <= 900) (l2:S.deep + n <= 900)
    (h:∀ s made S' gk' rs,Done b S ctx gk (L ++ ((x.inf ctx c rt).hand x.isNo w rt).ev) (x.nx c) ((x.inf ctx c rt).hand x.isNo w rt).lf s S' gk' -> RL (x.ht + 4) [made] rs -> RingsOk gk' (L ++ ((x.inf ctx c rt).hand x.isNo w rt).ev) ((x.inf ctx c rt).hand x.isNo w rt).el rs -> ((x.inf ctx c rt).hand x.isNo w rt).bad = false -> Q (.tup [.str "break",Ty.never.v,.int 1,.int m,made]) s)
    (hr:¬ Fine L ((x.inf ctx c rt).hand x.isNo w rt) -> ∀ f s,Kp b S.g s -> R f s):wpB (callF tab n) R brkRest ρ (finQ Q) σ:=by
  have hn15:15 <= n:=Nat.le_trans (Nat.le_add_right _ _) hn
  refine opt_get r2 ?_
  rcases brk_val hv with rfl | ⟨hno,hiv,hie⟩
  · refine opt_get r1 ?_
    refine run_at I.ck ?_
    refine opt_get r4 ?_
    refine J.res I ?_
    refine opt_get r3 ?_
    rcases w with _ | _
    · refine give_uni (k:=.unit) (Nat.le_trans (by decide) hn15) I st (hl rfl) (fun cs s I2=>?_) fun z=>hr fun q=>z q.1
      have D:Done b S ctx gk (L ++ [(rt,.unit)]) c [] s (S.kn' (knOf gk (L ++ [(rt,.unit)]))) gk:=⟨I2,st.ev' hrt cs,List.prefix_rfl,mark_nil.symm,rfl,rfl,rfl⟩
      refine opt_get r4 ?_
      refine opt_get r3 ?_
      refine run_fn rfl ?_
      refine (J.to D).leftL (Nat.le_trans (by decide) hn15) I2 ?_
      exact h _ _ _ _ _ D (.a .nil rfl rfl) rfl rfl
    · cases hw rfl
      refine cunify_run (t:=.k .unit) (u:=.k .unit) (Nat.le_trans (by decide) hn15) I trivial trivial trivial (fun S' e s I2=>?_) fun e=>(by cases e)
      cases e
      refine opt_get r4 ?_
      refine opt_get r3 ?_
      refine run_fn rfl ?_
      refine J.leftL (Nat.le_trans (by decide) hn15) I2 ?_
      have D:=Done.refl I2 st
      rw [<- List.append_nil L] at D
      exact h _ _ _ _ _ D (.a .nil rfl rfl) rfl rfl
  · refine run_is hiv ?_
    refine opt_get r4 ?_
    refine J.hv I ?_
    rcases w with _ | _
    · refine opt_get r1 ?_
      refine run_at I.ck ?_
      refine opt_get r1 ?_
      refine run_at I.ck ?_
      refine opt_get r2 ?_
      refine opt_get r4 ?_
      refine J.res I ?_
      refine hx hie (wt:=some t) ⟨hn,I,st,l1,l2,hwf,hnx,hsz⟩ ⟨hrt,hl rfl⟩ (fun s made S' gk' res' rs G=>?_) fun z=>hr fun q=>z ⟨q.1.sub app3,q.2⟩
      refine opt_get r4 ?_
      refine (J.to G.done).res G.done.inv ?_
      refine coerce_got (Nat.le_trans (by decide) hn15) G (Nat.lt_of_lt_of_le hrt (x.le_nx c)) (hl rfl) (fun s S2 D2=>?_) fun z=>hr fun q=>z q.1
      refine opt_get r3 ?_
      refine opt_get r4 ?_
      refine (J.to D2).num D2.inv ?_
      exact h _ _ _ _ _ D2 (.e .nil G.md.rv) (G.ro.mono List.prefix_rfl app3) G.ok
    · refine opt_get r1 ?_
      refine run_at I.ck ?_
      refine opt_get r3 ?_
      refine fault_run (Nat.le_trans (by decide) hn15) ?_
      exact hr (fun q=>by have:=q.2; rw [hno] at this; cases this) _ _ I.kept
theorem ex_brk {x:Pl} (hx:x.isE = true -> ExOk x) {gl:Nat} {lab:Option String}:ExOk (.brk gl lab x):=fun {N b σ S ctx gk L c rt wt Q R} A _ h hr=>by
  obtain ⟨n,rfl,hn⟩:=fuel3 (c:=15 + x.ht) A.fuel
  obtain ⟨row,hp,hg,hv,hw⟩:=A.wf
  have hrt:=(A.st.cb row (pick_mem hp)).2
  obtain ⟨pre,r,post,e1,rfl,e3,e4⟩:=pick_row A.st hp
  have eX:(Pl.brk gl lab x).inf ctx c rt = (x.inf ctx c r.row.rt).brk x.isNo r.row:=congrArg (fun o=>brkAt x.isNo o fun row=>x.inf ctx c row.rt) hp
  rw [eX] at h hr
  have mem:∀ {y:LR},y ∈ pre ++ y :: post:=List.mem_append_right _ (.head _)
  have ok:=A.st.rows r (e1 ▸ mem)
  refine expr_break A.inv (run_call rfl rfl ?_)
  refine ⟨rfl,?_⟩
  refine run_at A.inv.ck ?_
  refine loop_of_run (Nat.le_trans (by decide) (Nat.le_trans (Nat.le_add_right 15 _) hn)) A.inv (fun a ha=>(A.st.rows a ha).test) e3 ?_
  refine run_setA' (A.inv.lo r (e1 ▸ mem)).2 rfl (o:=({ r with left:=true }:LR).ao) rfl ?_
  have D1:Done b S ctx gk L c [r.row.num] (σ.set r.at_ ({ r with left:=true }:LR).ao) (S.lp' (pre ++ { r with left:=true } :: post) S.many) gk:=⟨A.inv.turn (r':={ r with left:=true }) e1 rfl,A.st.up (Nat.le_refl c) rfl e4.symm,List.prefix_rfl,e4.symm,rfl,rfl,rfl⟩
  refine next_go ?_
  refine brk_rest (m:=r.num) (w:=r.row.w) hx hn ?_ ?_ ?_ ?_ D1.inv D1.st ⟨_,mem,rfl,rfl,rfl,rfl⟩ ok.wh ok.lp hrt hv hw A.nx (Nat.le_trans (Nat.le_add_left _ 2) A.sz) (D1.l1 (lim A.l1)) (lim A.l2) (fun s made S' gk' rs D l ro bd=>?_) hr
  any_goals rfl
  exact h _ _ _ _ _ _ (.up (.brk (D1.trans D) ro bd (Nat.le_trans (by decide) (Nat.le_add_left 4 _)) l) (Nat.add_le_add_left (show 5 <= 7 by decide) _))
end
end Mine
end
section
set_option maxHeartbeats 1000000
set_option maxRecDepth 20000
set_option genSizeOf false
namespace Mine
noncomputable def blkBody:List St:=[.ifS (.cmp .eq (.idx (.var "statement") (.k (.int 0))) (.k (.str "let"))) [.ex (.meth (.var "rows") "append" [.call .dead [.var "checker",.var "statement"]]),.asg "is_over" (.orE [.var "is_over",.andE [.cmp .isNot (.idx (.idx (.var "rows") (.neg 1)) (.k (.int 3))) (.k .none),.call (.g "is_never") [.idx (.idx (.var "rows") (.neg 1)) (.k (.int 3))]]])] [.ex (.meth (.var "rows") "append" [.tupE [.k (.str "do"),.idx (.var "statement") (.k (.int 1)),.meth (.var "checker") "expr" [.idx (.var "statement") (.k (.int 2)),.k .none]]]),.asg "is_over" (.orE [.var "is_over",.call (.g "is_never") [.idx (.idx (.var "rows") (.neg 1)) (.k (.int 2))]])]]
noncomputable def blkRest:List St:=f_read_block.body.drop 4
structure EnvB (b a:Nat) (tl w:V) (o:Bool) (ρ:Env):Prop where
  ck:ρ "checker" = some (.obj (b + 17))
  rows:ρ "rows" = some (.obj a)
  tl:ρ "tail" = some tl
  w:ρ "wanted" = some w
  sp:ρ "spot" = some (.int 1)
  ov:ρ "is_over" = some (.bool o)
structure Rws (d:Nat) (ts:List V) (rs:List Ty):Prop where
  rl:RL d ts rs
  hd:ts = [] \/ ∃ a m,ts = a :: m /\ veq a (.str "loop") = M.ret false
section
variable {n b a:Nat} {σ:Store} {S:CSt} {Q:V -> Store -> Prop} {R:Bool -> Store -> Prop} {tl w:V}
theorem blk_open {ts:List V} (hn:12 <= n) (I:CInv b σ S) (hd:S.deep < 1000) (h:∀ s a ρ,CInv b s ((S.deep' (S.deep + 1)).own1 (a,.list [])) -> EnvB b a tl w false ρ -> ForP (callF tab n) R "statement" blkBody ts ρ (nextQ (fun ρ s=>wpB (callF tab n) R blkRest ρ (finQ Q) s) (finQ Q)) s) :
    Run (callF tab (n + 1 + 2) "Checker.expr" [.obj (b + 17),.tup [.str "block",.int 1,.tup ts,tl],w]) σ Q R:=by
  refine expr_to (f := "read_block") rfl rfl rfl I fun s I=>run_call rfl rfl ?_
  refine ⟨rfl,?_⟩
  refine run_at I.ck ?_
  refine open_run (Nat.le_trans (by decide) hn) I hd fun s I=>?_
  refine ⟨rfl,?_⟩
  exact h _ _ _ I.push1 ⟨rfl,rfl,rfl,rfl,rfl,rfl⟩
theorem run_tupO {C:Oracle} {j:Nat} {l:List V} (h:At σ j (.list l)) (hz:l.length < 100000) (z:Q (.tup l) σ):Run (doCall C (.g "tuple") [.obj j]) σ Q R:=run_at h (run_pos hz z)
theorem blk_ret {ts:List V} {own:List (Nat × AO)} {ρ:Env} {o:Bool} {d:Nat} {made tv:V} (hn:12 <= n) (I:CInv b σ S) (ho:S.own = (a,.list ts) :: own) (hz:ts.length <= 900) (hd:S.deep = d + 1) (E:EnvB b a tl w o ρ) (hm:ρ "made" = some made)
    (ht:∀ {s} {P:V -> Store -> Prop},P tv s -> wpE (callF tab n) ρ R (.ite (.cmp .is (.var "made") (.k .none)) (.g "UNIT") (.idx (.var "made") (.k (.int 1)))) P s)
    (h:∀ s,CInv b s ((S.deep' d).own2 own) -> Q (.tup [.str "block",cond o Ty.never.v tv,.int 1,.tup ts,made]) s) :
    wpB (callF tab n) R (blkRest.drop 2) ρ (finQ Q) σ:=by
  refine opt_get E.ck ?_
  refine run_at I.ck ?_
  refine close_run (Nat.le_trans (by decide) hn) I hd fun s I=>?_
  refine next_go ?_
  refine ht ?_
  refine opt_get E.ov ?_
  have J:=I.drop ho
  rcases o with _ | _
  all_goals
    refine opt_get E.sp ?_
    refine opt_get E.rows ?_
    refine run_tupO (I.hd ho) (Nat.lt_of_le_of_lt hz (by decide)) ?_
    refine opt_get hm ?_
    exact h s J
end
end Mine
end
section
set_option maxHeartbeats 1000000
set_option maxRecDepth 20000
set_option genSizeOf false
namespace Mine
theorem EnvB.set {b a:Nat} {tl w v:V} {o:Bool} {ρ:Env} (E:EnvB b a tl w o ρ) (t:Bool):EnvB b a tl w t ((ρ.set "statement" v).set "is_over" (.bool t)):=⟨E.ck,E.rows,E.tl,E.w,E.sp,rfl⟩
noncomputable def LsOk (i:Pl):Prop:=i.isL = true -> ∀ {n b a:Nat} {σ:Store} {S:CSt} {own:List (Nat × AO)} {ctx:List Row} {gk:List Nat} {L:Evs} {c:Nat} {o:Bool} {tl w:V} {ρ:Env} {rows:List V} {Q:QF} {R:Bool -> Store -> Prop},Asked 15 n b σ S ctx gk L c i 0 -> S.own = (a,.list rows) :: own -> EnvB b a tl w o ρ -> rows.length + i.sz <= 900 ->
  (∀ s S' gk' ρ' ts rs,Done b (S.own2 ((a,.list (rows ++ ts)) :: own)) ctx gk (L ++ (i.inf ctx c 0).ev) (i.nx c) (i.inf ctx c 0).lf s S' gk' -> Rws (i.ht + 5) ts rs -> ts.length <= i.sz -> RingsOk gk' (L ++ (i.inf ctx c 0).ev) (i.inf ctx c 0).el rs -> (i.inf ctx c 0).bad = false -> EnvB b a tl w (o || (i.inf ctx c 0).kd.isNv) ρ' -> Q .next ρ' s) ->
  (¬ Fine L (i.inf ctx c 0) -> ∀ f s,Kp b S.g s -> R f s) -> ForP (callF tab n) R "statement" blkBody (its i.t) ρ Q σ
theorem ls_nil:LsOk .nil:=fun _ {n b a σ S own ctx gk L c o tl w ρ rows Q R} A ho E _ h _=>by
  have e:Done b (S.own2 ((a,.list (rows ++ [])) :: own)) ctx gk (L ++ []) c [] σ S gk:=by
    rw [List.append_nil,List.append_nil]
    exact ⟨A.inv,A.st,List.prefix_rfl,mark_nil.symm,rfl,ho,rfl⟩
  exact fl_nil (h _ _ _ _ [] [] e ⟨.nil,.inl rfl⟩ (Nat.le_refl _) rfl rfl ((Bool.or_false o).symm ▸ E))
theorem TyOf.nn {gk:List Nat} {L:Evs} {ty:Ty} {g:Nat} (h:TyOf gk L ty g):(ty == .never) = false:=by
  rcases h with ⟨i,rfl,_⟩ | ⟨rfl,_⟩ <;> rfl
theorem Got.nv {b:Nat} {S S':CSt} {ctx:List Row} {gk gk':List Nat} {L:Evs} {c rt d:Nat} {X:Inf} {wt:Option Ty} {s:Store} {made:V} {res:Ty} {rs:List Ty} (G:Got b S ctx gk L c X rt wt d s made S' gk' res rs):((X.kd.ty res) == .never) = X.kd.isNv:=by
  have h:=G.ty
  generalize X.kd = k at h
  rcases k with _ | _ | _
  · rfl
  · rfl
  · exact (h rfl).nn
theorem veq_tupS {l:List V} {x:String} (h:V.isData (.tup l) = true):veq (.tup l) (.str x) = M.ret false:=by
  unfold veq; rw [h]
  show (if (true && true && (V.flat (.tup l) || true)) = true then _ else _) = _
  rw [Bool.or_true]; rfl
theorem is_never_run' {N:Nat} {σ:Store} {m a:V} {r:List V} {t:Ty} {Q:V -> Store -> Prop} {R:Bool -> Store -> Prop} (hN:1 <= N) (e:m = .tup (a :: t.v :: r)) (h:Q (.bool (t == .never)) σ):Run (callF tab N "is_never" [m]) σ Q R:=by
  subst e
  obtain ⟨n,rfl,_⟩:=fuel hN
  exact is_never_run h
set_option tactic.hygienic true in
theorem ls_cons {p r:Pl} (hp:ExOk p) (hr:LsOk r):LsOk (.cons p r):=fun _ {n b a σ S own ctx gk L c o tl w ρ rows Q R} A ho E hz h hb=>by
  obtain ⟨hs,hl,hw1,hw2⟩:=A.wf
  have hn15:15 <= n:=Nat.le_trans (Nat.le_add_right _ _) A.fuel
  have I:=A.inv
  have hps:=Pl.sz_pos hs
  refine fl_cons ?_
  refine opt_get E.rows ?_
  refine run_at (I.hd ho) ?_
  refine opt_get E.ck ?_
  refine run_at I.ck ?_
  refine hp (wt:=none) (rt:=c) ⟨Nat.le_trans (Nat.add_le_add_left (Nat.le_max_left _ _) 15) A.fuel,I,A.st,A.l1,A.l2,hw1,Nat.le_trans (r.le_nx _) A.nx,Nat.le_trans (Nat.le_add_right _ _) A.sz⟩ rfl (fun s1 made S1 gk1 res rs G=>?_) fun z=>hb fun q=>z ⟨q.1.sub app3,(Bool.or_eq_false_iff.mp q.2).1⟩
  have D:=G.done
  have ho1:=D.own.trans ho
  have hrl:rows.length < 100000:=Nat.lt_of_le_of_lt (Nat.le_trans (Nat.le_add_right _ _) hz) (by decide)
  refine run_append (D.inv.hd ho1) hrl ?_
  have I2:CInv b (s1.set a (.list (rows ++ [.tup [.str "do",.int 1,made]]))) (S1.own2 ((a,.list (rows ++ [.tup [.str "do",.int 1,made]])) :: own)):=D.inv.put1 ho1
  generalize s1.set a (.list (rows ++ [.tup [.str "do",.int 1,made]])) = s2 at I2 ⊢
  have row:Rv (p.ht + 5) (.tup [.str "do",.int 1,made]) rs:=.of (.a (.a (.e .nil G.md.rv) rfl rfl) rfl rfl) (.inr ⟨_,_,rfl,rfl⟩)
  have next:∀ ρ',EnvB b a tl w (o || (p.inf ctx c c).kd.isNv) ρ' -> ForP (callF tab n) R "statement" blkBody (its r.t) ρ' Q s2:=fun ρ' E'=>by
    refine hr hl ⟨Nat.le_trans (Nat.add_le_add_left (Nat.le_max_right _ _) 15) A.fuel,I2,D.st.up (D:=[]) (Nat.le_refl _) rfl mark_nil.symm,?_,?_,hw2,A.nx,Nat.le_trans (Nat.le_add_left _ _) A.sz⟩ rfl E' ?_ (fun s S' gk' ρ2 ts rs2 D2 l2 z2 ro2 ok2 E2=>?_) fun z=>D.g ▸ hb fun q=>z ⟨(List.append_assoc L _ _).symm ▸ q.1,(Bool.or_eq_false_iff.mp q.2).2⟩
    · exact D.l1 A.l1
    · exact D.l2 A.l2
    · rw [List.length_append,Nat.add_assoc]; exact Nat.le_trans (Nat.add_le_add_left (Nat.add_le_add_right hps _) _) hz
    · refine h s S' gk' ρ2 (.tup [.str "do",.int 1,made] :: ts) (rs ++ rs2) ⟨D2.inv,(List.append_assoc L _ _) ▸ D2.st,D.pre.trans D2.pre,D2.loops.trans ?_,D2.deep.trans D.deep,D2.own.trans (by rw [List.append_assoc]; rfl),D2.g.trans D.g⟩ ⟨(l2.rl.up (Nat.add_le_add_right (Nat.le_max_right _ _) 5)).c (row.up (Nat.add_le_add_right (Nat.le_max_left _ _) 5)),.inr ⟨_,_,rfl,veq_tupS row.data⟩⟩ ?_ ?_ ?_ ?_
      · show mark _ S1.loops = _
        rw [D.loops,<- mark_app]; rfl
      · exact Nat.le_trans (Nat.add_le_add z2 hps) (Nat.le_of_eq (Nat.add_comm _ _))
      · exact RingsOk.app ((List.append_assoc L _ _) ▸ ro2) (G.ro.mono D2.pre app3)
      · exact Bool.or_eq_false_iff.mpr ⟨G.ok,ok2⟩
      · rw [Bool.or_assoc] at E2
        have e:((p.inf ctx c c).kd.isNv || (r.inf ctx (p.nx c) 0).kd.isNv) = ((Pl.cons p r).inf ctx c 0).kd.isNv:=by
          show _ = Kn.isNv (match _ || _ with | true=>Kn.nv | false=>.k .unit)
          rcases ((p.inf ctx c c).kd.isNv || (r.inf ctx (p.nx c) 0).kd.isNv) with _ | _ <;> rfl
        exact e ▸ E2
  refine opt_get E.ov ?_
  rcases o with _ | _
  · refine opt_get E.rows ?_
    refine run_idxL (I2.hd rfl) at_last ?_
    obtain ⟨x0,rest,em⟩:=G.md.shape
    refine run_fn rfl ?_
    refine is_never_run' (Nat.le_trans (by decide) hn15) em ?_
    rw [G.nv]
    exact next _ (E.set _)
  · exact next _ (E.set true)
end Mine
end
section
set_option maxHeartbeats 1000000
set_option maxRecDepth 20000
set_option genSizeOf false
namespace Mine
theorem kd_L {i:Pl} (h:i.isL = true) {ctx:List Row} {c rt:Nat}:(i.inf ctx c rt).kd = .nv \/ (i.inf ctx c rt).kd = .k .unit:=by
  rcases i with _ | ⟨p,r⟩ | _ | _ | _ | _ | _ | _ | _ | _ | _
  · exact .inr rfl
  · show (match _ || _ with | true=>Kn.nv | false=>.k .unit) = _ \/ (match _ || _ with | true=>Kn.nv | false=>.k .unit) = _
    rcases ((p.inf ctx c c).kd.isNv || (r.inf ctx (p.nx c) 0).kd.isNv) with _ | _
    · exact .inr rfl
    · exact .inl rfl
  all_goals exact no_tf h
theorem Done.from {b:Nat} {S S1 S':CSt} {ctx:List Row} {gk gk1 gk':List Nat} {L:Evs} {c:Nat} {D:List Nat} {s:Store} (x:Done b S1 ctx gk1 L c D s S' gk') (h1:gk <+: gk1) (h2:S1.loops = S.loops) (h3:S1.deep = S.deep) (h4:S1.own = S.own) (h5:S1.g = S.g):Done b S ctx gk L c D s S' gk' :=
  ⟨x.inv,x.st,h1.trans x.pre,h2 ▸ x.loops,x.deep.trans h3,x.own.trans h4,x.g.trans h5⟩
section
variable {n b:Nat} {σ:Store} {S:CSt} {Q:V -> Store -> Prop} {R:Bool -> Store -> Prop} {ctx:List Row} {gk:List Nat} {L:Evs} {c:Nat}
theorem Made.blk {ts:List V} {v:V} {ty:Ty} {rs us:List Ty} {d:Nat} (h:Rws d ts rs) (r:RL (d + 1) [v] us) (hd:1 <= d):Made (.tup [.str "block",ty.v,.int 1,.tup ts,v]) ty (rs ++ us) (d + 2):=.mk' rfl (Nat.succ_le_succ hd) (r.c (.of h.rl h.hd))
set_option tactic.hygienic true in
theorem blk_run {i:Pl} {w:V} (hi:LsOk i) (hl:i.isL = true) (A:Asked 15 n b σ S ctx gk L c i 0) (l2:S.deep + 1 + n <= 900) (h:∀ s made S' gk' rs,Got b S ctx gk L (i.nx c) (i.inf ctx c 0) 0 none (i.ht + 7) s made S' gk' .never rs -> Q made s) (hb:¬ Fine L (i.inf ctx c 0) -> ∀ f s,Kp b S.g s -> R f s) :
    Run (callF tab (n + 1 + 2) "Checker.expr" [.obj (b + 17),blk i.t,w]) σ Q R:=by
  have hn15:15 <= n:=Nat.le_trans (Nat.le_add_right _ _) A.fuel
  rw [Pl.l_t hl]
  refine blk_open (Nat.le_trans (by decide) hn15) A.inv (Nat.lt_of_le_of_lt (Nat.le_trans (Nat.le_add_right _ _) A.l2) (by decide)) fun s a ρ I E=>?_
  refine hi hl ⟨A.fuel,I,A.st.up (D:=[]) (Nat.le_refl _) rfl mark_nil.symm,A.l1,l2,A.wf,A.nx,A.sz⟩ rfl E (Nat.le_trans (Nat.le_of_eq (Nat.zero_add _)) A.sz) (fun s S' gk' ρ' ts rs D rw lz ro ok E'=>?_) hb
  refine next_go ?_
  refine opt_get E'.tl ?_
  refine blk_ret (ρ:=ρ'.set "made" .none) (tv:=(Ty.k .unit).v) (Nat.le_trans (by decide) hn15) D.inv D.own (Nat.le_trans lz A.sz) D.deep ⟨E'.ck,E'.rows,E'.tl,E'.w,E'.sp,E'.ov⟩ rfl (fun h=>h) fun s I=>?_
  have hk:=kd_L hl (ctx:=ctx) (c:=c) (rt:=0)
  have nr:(i.inf ctx c 0).kd ≠ .res:=fun q=>by
    rw [q] at hk
    rcases hk with z | z <;> cases z
  have fin:∀ ty:Ty,(i.inf ctx c 0).kd.ty .never = ty -> Q (.tup [.str "block",ty.v,.int 1,.tup ts,.none]) s:=fun ty e=>by
    have md:Made (.tup [.str "block",ty.v,.int 1,.tup ts,.none]) ty (rs ++ []) _:=.blk rw (.a .nil rfl rfl) (Nat.le_add_left 1 _)
    rw [List.append_nil,<- e] at md
    rw [<- e]
    exact h s _ _ gk' rs ⟨⟨I,D.st.up (D:=[]) (Nat.le_refl _) rfl mark_nil.symm,D.pre,D.loops,rfl,rfl,D.g⟩,fun q=>absurd q nr,fun _ q=>(nomatch q),md,ro,ok⟩
  rcases hk with e | e
  all_goals
    rw [e] at fin ⊢
    exact fin _ rfl
end
end Mine
end
section
set_option maxHeartbeats 1000000
set_option maxRecDepth 20000
set_option genSizeOf false
namespace Mine
theorem Got.over {b:Nat} {S S':CSt} {ctx:List Row} {gk gk':List Nat} {L:Evs} {c rt rt' d d':Nat} {X:Inf} {wt wt':Option Ty} {kd:Kn} {s s':Store} {made made':V} {res:Ty} {rs:List Ty} (G:Got b S ctx gk L c X rt wt d s made S' gk' res rs) (I:CInv b s' S') (hk:kd ≠ .res) (m:Made made' (kd.ty .never) rs d'):Got b S ctx gk L c { X with kd:=kd } rt' wt' d' s' made' S' gk' (wt'.getD .never) rs :=
  ⟨G.done.then (.refl I G.done.st),fun q=>absurd q hk,fun t q=>by rw [q]; rfl,by
    rcases kd with _ | _ | _
    · exact m
    · exact m
    · exact absurd rfl hk,G.ro,G.ok⟩
theorem ex_ifp {i:Pl} (hi:LsOk i):ExOk (.ifp i):=fun {N b σ S ctx gk L c rt wt Q R} A _ h hb=>by
  obtain ⟨n,rfl,hn⟩:=fuel3 (c:=15 + i.ht + 3) A.fuel
  obtain ⟨m,rfl,hm⟩:=fuel3 (c:=15 + i.ht) hn
  have hn15:6 <= m + 1 + 2:=Nat.le_trans (Nat.le_trans (by decide) (Nat.le_add_right 15 _)) (Nat.le_trans hm (Nat.le_add_right _ 3))
  obtain ⟨hl,hw⟩:=A.wf
  refine expr_to (f := "read_if") rfl rfl rfl A.inv fun s I=>run_call rfl rfl ?_
  refine ⟨rfl,?_⟩
  refine run_at I.ck ?_
  refine run_at I.ck ?_
  refine const_bool I fun s I=>?_
  refine coerce_kd (k:=.bool) hn15 I fun s I=>?_
  refine run_at I.ck ?_
  refine run_at I.ck ?_
  refine blk_run hi hl ⟨hm,I,A.st,lim (lim A.l1),lim (lim A.l2),hw,A.nx,Nat.le_trans (Nat.le_add_left _ 1) A.sz⟩ (Nat.le_trans (by rw [Nat.add_assoc]; exact Nat.add_le_add_left (Nat.add_comm m 1 ▸ Nat.add_le_add_left (show 1 <= 6 by decide) m) _) A.l2) (fun s made S' gk' rs G=>?_) hb
  refine coerce_unit hn15 G.done.inv G.md (kd_L hl) fun s' I=>?_
  exact h _ _ _ _ _ _ (G.over I (fun h=>nomatch h) (.up (.mk' (ty:=.k .unit) rfl (Nat.le_add_left 2 _) (.c (xs:=[]) (.e (.a .nil rfl rfl) G.md.rv) ((Made.const (ty:=.k .bool) rfl rfl).rv.up (Nat.le_add_left 3 _)))) (Nat.add_le_add_left (show 8 <= 10 by decide) _)))
theorem ex_unit:ExOk .unit:=fun {N b σ S ctx gk L c rt wt Q R} A _ h hb=>by
  obtain ⟨n,rfl,hn⟩:=fuel3 (c:=15) A.fuel
  refine blk_run (i:=.nil) ls_nil rfl ⟨hn,A.inv,A.st,lim A.l1,lim A.l2,trivial,A.nx,A.sz⟩ (Nat.le_trans (by rw [Nat.add_assoc]; exact Nat.add_le_add_left (Nat.add_comm n 1 ▸ Nat.add_le_add_left (show 1 <= 3 by decide) n) _) A.l2) (fun s made S' gk' rs G=>?_) hb
  exact h _ _ _ _ _ _ (G.over (kd:=.k .unit) G.done.inv (fun h=>nomatch h) G.md)
end Mine
end
section
set_option maxHeartbeats 1000000
set_option maxRecDepth 20000
set_option genSizeOf false
namespace Mine
section
variable {n b m c:Nat} {σ:Store} {S:CSt} {R:Bool -> Store -> Prop} {ctx:List Row} {gk:List Nat} {L:Evs}
theorem Stt.fresh (x:Stt S ctx gk L c):Stt (S.kn' (S.kn ++ [none])) ctx (gk ++ [c]) L (c + 1):=by
  have no:nl c L = none:=(Option.eq_none_iff_forall_ne_some).mpr fun k q=>Nat.lt_irrefl _ (x.lb _ (nl_mem q))
  have up:=x.up (S':=S) (D:=[]) (Nat.le_succ c) rfl mark_nil.symm
  refine ⟨?_,?_,x.cs,?_,?_,up.lb,fun a ha=>have r:=x.rows a ha; ⟨r.test,r.wh,fun q=>(r.lp q).mono (List.prefix_append _ _) fun _ h=>h⟩,x.cx,up.cb,x.cn⟩
  · show S.kn ++ [none] = _
    rw [List.map_append,<- x.kn,List.map_singleton,no]
  · exact List.nodup_append.mpr ⟨x.nd,List.nodup_cons.mpr ⟨fun h=>(nomatch h),.nil⟩,fun a ha d hd=>by rw [List.mem_singleton.mp hd]; exact Nat.ne_of_lt (x.gb a ha)⟩
  · rw [List.length_append]; exact Nat.succ_le_succ x.le
  · exact fun g hg=>(List.mem_append.mp hg).elim (up.gb g) fun z=>List.mem_singleton.mp z ▸ Nat.lt_succ_self c
theorem Stt.enter {r:LR} (x:Stt S ctx gk L (c + 1)) (hc:∀ r ∈ ctx,r.num < c) (hr:RowOk gk L r) (hn:r.row.num = c) (ht:r.row.rt < c + 1):Stt (S.lp' (S.loops ++ [r]) m) (ctx ++ [r.row]) gk L (c + 1) :=
  ⟨x.kn,x.nd,x.cs,x.le,x.gb,x.lb,fun a ha=>(List.mem_append.mp ha).elim (x.rows a) fun z=>List.mem_singleton.mp z ▸ hr,by show (S.loops ++ [r]).map _ = _; rw [List.map_append,x.cx]; rfl,
    fun q hq=>(List.mem_append.mp hq).elim (x.cb q) fun z=>List.mem_singleton.mp z ▸ ⟨hn ▸ Nat.lt_succ_self _,ht⟩,by
    rw [List.map_append]
    refine List.nodup_append.mpr ⟨x.cn,List.nodup_cons.mpr ⟨fun h=>(nomatch h),.nil⟩,fun a ha d hd=>?_⟩
    obtain ⟨q,hq,rfl⟩:=List.mem_map.mp ha
    rw [List.mem_singleton.mp hd]
    exact fun e=>Nat.ne_of_lt (hc q hq) (e.trans hn)⟩
theorem Stt.leave {ls:List LR} {r:LR} {row:Row} (x:Stt S (ctx ++ [row]) gk L c) (e:S.loops = ls ++ [r]) (cx:ls.map (·.row) = ctx):Stt (S.lp' ls m) ctx gk L c :=
  ⟨x.kn,x.nd,x.cs,x.le,x.gb,x.lb,fun a ha=>x.rows a (e ▸ List.mem_append_left _ ha),cx,fun q hq=>x.cb q (List.mem_append_left _ hq),by have h:=x.cn; rw [List.map_append] at h; exact (List.nodup_append.mp h).1⟩
theorem body_pop {i:Pl} {x:String} {rest:List St} {ρ:Env} {Q:QF} {ls:List LR} {r:LR} (hi:LsOk i) (hl:i.isL = true) (hm:∃ k,n = k + 1 + 2 /\ 15 + i.ht <= k) (l1:S.loops.length + n <= 900) (l2:S.deep + n <= 900) (hnx:i.nx c <= 5000) (hsz:i.sz <= 900) (I:CInv b σ S) (st:Stt S (ctx ++ [r.row]) gk L c) (e:S.loops = ls ++ [r]) (cx:ls.map (·.row) = ctx) (hw:i.wf (ctx ++ [r.row]) c 0)
    (r1:ρ "checker" = some (.obj (b + 17))) (r2:ρ "body" = some (blk i.t)) (r3:∀ v,(ρ.set x v) "checker" = some (.obj (b + 17)))
    (h:∀ s made S' gk' rs,Done b (S.lp' ls 0) ctx gk (L ++ (i.inf (ctx ++ [r.row]) c 0).ev) (i.nx c) (i.inf (ctx ++ [r.row]) c 0).lf s S' gk' -> At s r.at_ (mk1 (i.inf (ctx ++ [r.row]) c 0).lf r).ao -> Rv (i.ht + 7) made rs -> RingsOk gk' (L ++ (i.inf (ctx ++ [r.row]) c 0).ev) (i.inf (ctx ++ [r.row]) c 0).el rs -> (i.inf (ctx ++ [r.row]) c 0).bad = false -> wpB (callF tab n) R rest (ρ.set x made) Q s)
    (hb:¬ Fine L (i.inf (ctx ++ [r.row]) c 0) -> ∀ f s,Kp b S.g s -> R f s) :
    wpB (callF tab n) R (.asg x (.meth (.var "checker") "coerce" [.meth (.var "checker") "expr" [.var "body",.g "UNIT"],.g "UNIT"]) :: .ex (.meth (.attr (.var "checker") "loops") "pop" []) :: rest) ρ Q σ:=by
  obtain ⟨k,rfl,hm⟩:=hm
  have hn6:6 <= k + 1 + 2:=Nat.le_trans (Nat.le_trans (by decide) (Nat.le_add_right 15 _)) (Nat.le_trans hm (Nat.le_add_right _ 3))
  refine opt_get r1 ?_
  refine run_at I.ck ?_
  refine opt_get r1 ?_
  refine run_at I.ck ?_
  refine opt_get r2 ?_
  refine blk_run hi hl ⟨hm,I,st,lim l1,lim l2,hw,hnx,hsz⟩ (Nat.le_trans (by rw [Nat.add_assoc]; exact Nat.add_le_add_left (Nat.add_comm k 1 ▸ Nat.add_le_add_left (show 1 <= 3 by decide) k) _) l2) (fun s made S' gk' rs G=>?_) hb
  refine coerce_unit hn6 G.done.inv G.md (kd_L hl) fun s I=>?_
  have el:S'.loops = mark (i.inf (ctx ++ [r.row]) c 0).lf ls ++ [mk1 (i.inf (ctx ++ [r.row]) c 0).lf r]:=by
    rw [G.done.loops,e]; exact List.map_append
  have lp:=I.lp
  have hz:S'.loops.length < 100000:=Nat.lt_of_le_of_lt I.bl (by decide)
  have g:=(I.lo _ (el ▸ List.mem_append_right _ (.head _)):_)
  rw [el,List.map_append] at lp
  refine opt_get (r3 _) ?_
  refine run_at I.ck ?_
  refine run_at lp ?_
  refine run_pop lp (by rw [el,<- List.length_map (f:=fun r:LR=>V.obj r.at_),List.map_append] at hz; exact hz) ?_
  exact h _ _ (S'.lp' (mark (i.inf (ctx ++ [r.row]) c 0).lf ls) S'.many) gk' rs ⟨I.popL el,G.done.st.leave el (mark_row.trans cx),G.done.pre,rfl,G.done.deep,G.done.own,G.done.g⟩ (g.2.set (away g.1 (by decide))) G.md.rv G.ro G.ok
end
end Mine
end
section
set_option maxHeartbeats 1000000
set_option maxRecDepth 20000
set_option genSizeOf false
namespace Mine
theorem is_ty {t:Ty}:isNone t.v = M.ret false:=by
  rcases t with t | _ | i
  · rcases t with _ | _ | _ <;> rfl
  · rfl
  · rfl
theorem lim1 {a n:Nat} (h:a + (n + 1 + 2) <= 900):a + 1 + n <= 900:=Nat.le_trans (by rw [Nat.add_assoc]; exact Nat.add_le_add_left (Nat.add_comm n 1 ▸ Nat.add_le_add_left (show 1 <= 3 by decide) n) _) h
noncomputable def loopRest:List St:=f_read_loop.body.drop 2
theorem loop_core {n b c rt:Nat} {σ:Store} {S:CSt} {Q K:V -> Store -> Prop} {R:Bool -> Store -> Prop} {ctx:List Row} {gk:List Nat} {L:Evs} {i:Pl} {lab:Option String} {res:Ty} {ρ:Env} (hi:LsOk i) (hl:i.isL = true) (hm:∃ k,n = k + 1 + 2 /\ 15 + i.ht <= k) (l1:S.loops.length + 1 + n <= 900) (l2:S.deep + n <= 900) (hnx:i.nx (c + 1) <= 5000) (hsz:i.sz <= 900) (I:CInv b σ S) (st:Stt S ctx gk L (c + 1)) (hc:∀ r ∈ ctx,r.num < c) (hw:i.wf (ctx ++ [⟨c,lab,false,rt⟩]) (c + 1) 0) (hrt:rt < c + 1) (ht:TyOf gk L res rt)
    (r1:ρ "checker" = some (.obj (b + 17))) (r2:ρ "body" = some (blk i.t)) (r3:ρ "spot" = some (.int 1)) (hK:∀ v s,wpB (callF tab n) R loopRest (ρ.set "loop" v) (finQ Q) s -> K v s)
    (h:∀ s made S' gk' rs,Got b S ctx gk L (i.nx (c + 1)) (.ring c rt false (i.inf (ctx ++ [⟨c,lab,false,rt⟩]) (c + 1) 0)) rt (some res) (i.ht + 10) s made S' gk' res rs -> Q made s)
    (hb:¬ Fine L (i.inf (ctx ++ [⟨c,lab,false,rt⟩]) (c + 1) 0) -> ∀ f s,Kp b S.g s -> R f s) :
    Run (callF tab n "Checker.enter" [.obj (b + 17),labV lab,res.v,.bool true]) σ K R:=by
  have hn2:2 <= n:=hm.elim fun k z=>z.1 ▸ Nat.le_add_left 2 _
  refine enter_run (row:=⟨c,lab,false,rt⟩) hn2 I (Nat.lt_of_le_of_lt (Nat.le_trans (Nat.le_add_right _ _) (Nat.le_trans (Nat.le_add_right _ _) l1)) (by decide)) fun s1 I1=>hK _ _ ?_
  refine body_pop (S:=S.lp' (S.loops ++ [⟨σ.n,S.many,res,false,false,⟨c,lab,false,rt⟩⟩]) (S.many + 1)) (r:=⟨σ.n,S.many,res,false,false,⟨c,lab,false,rt⟩⟩) hi hl hm (by show (S.loops ++ [_]).length + n <= 900; rw [List.length_append]; exact l1) l2 hnx hsz I1 (st.enter hc ⟨rfl,fun h=>no_tf h,fun _=>ht⟩ rfl hrt) rfl st.cx hw r1 r2 (fun _=>r1) (fun s made S' gk' rs D g rv ro ok=>?_) hb
  generalize hX:i.inf (ctx ++ [⟨c,lab,false,rt⟩]) (c + 1) 0 = x at h D g ro ok
  have fin:∀ ty:Ty,Kn.ty (Inf.ring c rt false x).kd res = ty -> (match x.lf.contains c with | true=>TyOf gk' (L ++ x.ev) ty rt | false=>ty = .never) -> Q (.tup [.str "loop",ty.v,.int 1,.int S.many,made]) s:=fun ty e z=>by
    subst e
    refine h s _ S' gk' (rs ++ [_]) ⟨D.from List.prefix_rfl rfl rfl rfl rfl,fun _=>ht.mono D.pre fun e=>List.mem_append_left _,fun t e=>(Option.some.inj e),.up (.loop (d:=i.ht + 7) (Nat.le_add_left 2 _) (.a (.e .nil rv) rfl rfl)) (Nat.add_le_add_left (show 8 <= 10 by decide) _),?_,ok⟩
    exact RingsOk.app (fs:=[⟨c,false,rt,x.lf.contains c⟩]) ⟨_,_,rfl,z,rfl⟩ ro
  refine run_attr (v:=.bool (x.lf.contains c)) g rfl ?_
  have e:(Inf.ring c rt false x).kd = match x.lf.contains c with | true=>.res | false=>.nv:=rfl
  rw [e] at fin
  generalize x.lf.contains c = t at fin ⊢
  rcases t with _ | _
  · refine opt_get r3 ?_
    refine run_attr g rfl ?_
    exact fin _ rfl rfl
  · refine run_attr g rfl ?_
    refine opt_get r3 ?_
    refine run_attr g rfl ?_
    exact fin _ rfl (ht.mono D.pre fun e=>List.mem_append_left _)
theorem loop_some {n b c rt:Nat} {σ:Store} {S:CSt} {Q:V -> Store -> Prop} {R:Bool -> Store -> Prop} {ctx:List Row} {gk:List Nat} {L:Evs} {i:Pl} {lab:Option String} {res:Ty} (hi:LsOk i) (hl:i.isL = true) (hn:15 + i.ht + 3 <= n) (l1:S.loops.length + (n + 1 + 2) <= 900) (l2:S.deep + (n + 1 + 2) <= 900) (hnx:i.nx (c + 1) <= 5000) (hsz:i.sz <= 900) (I:CInv b σ S) (st:Stt S ctx gk L (c + 1)) (hc:∀ r ∈ ctx,r.num < c) (hw:i.wf (ctx ++ [⟨c,lab,false,rt⟩]) (c + 1) 0) (hrt:rt < c + 1) (ht:TyOf gk L res rt)
    (h:∀ s made S' gk' rs,Got b S ctx gk L (i.nx (c + 1)) (.ring c rt false (i.inf (ctx ++ [⟨c,lab,false,rt⟩]) (c + 1) 0)) rt (some res) (i.ht + 10) s made S' gk' res rs -> Q made s)
    (hb:¬ Fine L (i.inf (ctx ++ [⟨c,lab,false,rt⟩]) (c + 1) 0) -> ∀ f s,Kp b S.g s -> R f s):Run (callF tab (n + 1 + 2) "Checker.expr" [.obj (b + 17),ringT false lab i.t,res.v]) σ Q R:=by
  refine expr_to (f := "read_loop") rfl rfl rfl I fun s I=>run_call rfl rfl ?_
  refine ⟨rfl,?_⟩
  refine run_at I.ck ?_
  refine run_is is_ty ?_
  exact loop_core hi hl (fuel3 hn) (lim1 l1) (lim l2) hnx hsz I st hc hw hrt ht rfl rfl rfl (fun _ _ h=>next_go h) h hb
set_option tactic.hygienic true in
theorem ex_loop {i:Pl} {k:Nat} {lab:Option String} (hi:LsOk i):ExOk (.ring k false lab i):=fun {N b σ S ctx gk L c rt wt Q R} A hwt h hb=>by
  obtain ⟨n,rfl,hn⟩:=fuel3 (c:=15 + i.ht + 3) A.fuel
  obtain ⟨rfl,hl,hw⟩:=A.wf
  have hc:=fun r hr=>(A.st.cb r hr).1
  have hsz:=Nat.le_trans (Nat.le_add_left _ 4) A.sz
  rcases wt with _ | t
  · cases hwt
    have hk:S.kn.length < 6000:=by
      rw [A.st.kn,List.length_map]
      exact Nat.lt_of_le_of_lt (Nat.le_trans A.st.le (Nat.le_trans (Pl.le_nx _ _) A.nx)) (by decide)
    refine expr_to (f := "read_loop") rfl rfl rfl A.inv fun s I=>run_call rfl rfl ?_
    refine ⟨rfl,?_⟩
    refine run_at I.ck ?_
    refine run_at I.ck ?_
    refine cfresh_run (Nat.le_trans (Nat.le_trans (by decide) (Nat.le_add_left 3 _)) hn) I hk fun s I=>?_
    refine loop_core (S:=S.kn' (S.kn ++ [none])) (rt:=k) hi hl (fuel3 hn) (lim1 A.l1) (lim A.l2) A.nx hsz I A.st.fresh hc hw (Nat.lt_succ_self _) (.inl ⟨_,rfl,?_⟩) rfl rfl rfl (fun _ _ h=>next_go h) (fun s made S' gk' rs G=>?_) hb
    · show (gk ++ [k])[S.kn.length]? = _
      rw [A.st.kn,List.length_map]; exact List.getElem?_concat_length
    · exact h s made S' gk' _ rs ⟨G.done.from (List.prefix_append _ _) rfl rfl rfl rfl,G.ty,fun _ e=>(nomatch e),G.md,G.ro,G.ok⟩
  · exact loop_some hi hl hn A.l1 A.l2 A.nx hsz A.inv (A.st.up (D:=[]) (Nat.le_succ _) rfl mark_nil.symm) hc hw (Nat.lt_succ_of_lt hwt.1) hwt.2 (fun s made S' gk' rs G=>h s made S' gk' _ rs G) hb
end Mine
end
section
set_option maxHeartbeats 1000000
set_option maxRecDepth 20000
set_option genSizeOf false
namespace Mine
noncomputable def whRest:List St:=f_read_while.body.drop 2
theorem wh_core {n b c rt:Nat} {σ:Store} {S:CSt} {Q K:V -> Store -> Prop} {R:Bool -> Store -> Prop} {ctx:List Row} {gk:List Nat} {L:Evs} {i:Pl} {lab:Option String} {ρ:Env} (hi:LsOk i) (hl:i.isL = true) (hm:∃ k,n = k + 1 + 2 /\ 15 + i.ht <= k) (l1:S.loops.length + 1 + n <= 900) (l2:S.deep + n <= 900) (hnx:i.nx (c + 1) <= 5000) (hsz:i.sz <= 900) (I:CInv b σ S) (st:Stt S ctx gk L (c + 1)) (hc:∀ r ∈ ctx,r.num < c) (hw:i.wf (ctx ++ [⟨c,lab,true,rt⟩]) (c + 1) 0) (hrt:rt < c + 1)
    (r1:ρ "checker" = some (.obj (b + 17))) (r2:ρ "body" = some (blk i.t)) (r3:ρ "spot" = some (.int 1)) (r4:ρ "test" = some trueT) (hK:∀ v s,wpB (callF tab n) R whRest (ρ.set "loop" v) (finQ Q) s -> K v s)
    (h:∀ s made S' gk' rs,Done b S ctx gk (L ++ (i.inf (ctx ++ [⟨c,lab,true,rt⟩]) (c + 1) 0).ev) (i.nx (c + 1)) (i.inf (ctx ++ [⟨c,lab,true,rt⟩]) (c + 1) 0).lf s S' gk' -> Made made (.k .unit) (rs ++ [.k .unit]) (i.ht + 10) -> RingsOk gk' (L ++ (i.inf (ctx ++ [⟨c,lab,true,rt⟩]) (c + 1) 0).ev) (i.inf (ctx ++ [⟨c,lab,true,rt⟩]) (c + 1) 0).el rs -> (i.inf (ctx ++ [⟨c,lab,true,rt⟩]) (c + 1) 0).bad = false -> Q made s)
    (hb:¬ Fine L (i.inf (ctx ++ [⟨c,lab,true,rt⟩]) (c + 1) 0) -> ∀ f s,Kp b S.g s -> R f s) :
    Run (callF tab n "Checker.enter" [.obj (b + 17),labV lab,(Ty.k .unit).v,.bool false]) σ K R:=by
  have hn6:6 <= n:=hm.elim fun k z=>z.1 ▸ Nat.le_trans (Nat.le_trans (by decide) (Nat.le_add_right 15 _)) (Nat.le_trans z.2 (Nat.le_add_right _ 3))
  refine enter_run (row:=⟨c,lab,true,rt⟩) (t:=.k .unit) (Nat.le_trans (by decide) hn6) I (Nat.lt_of_le_of_lt (Nat.le_trans (Nat.le_add_right _ _) (Nat.le_trans (Nat.le_add_right _ _) l1)) (by decide)) fun s I=>hK _ _ ?_
  have mem:∀ {y:LR},y ∈ S.loops ++ [y]:=List.mem_append_right _ (.head _)
  refine run_setA' (I.lo _ mem).2 rfl (o:=(⟨σ.n,S.many,.k .unit,true,false,⟨c,lab,true,rt⟩⟩:LR).ao) rfl ?_
  have I:=I.turn (post:=[]) (r':=⟨σ.n,S.many,.k .unit,true,false,⟨c,lab,true,rt⟩⟩) rfl rfl
  obtain ⟨k,rfl,hm'⟩:=hm
  refine opt_get r1 ?_
  refine run_at I.ck ?_
  refine opt_get r1 ?_
  refine run_at I.ck ?_
  refine opt_get r4 ?_
  refine const_bool I fun s I=>?_
  refine coerce_kd (k:=.bool) hn6 I fun s I=>?_
  refine run_setA' (I.lo _ mem).2 rfl (o:=(⟨σ.n,S.many,.k .unit,false,false,⟨c,lab,true,rt⟩⟩:LR).ao) rfl ?_
  have I:=I.turn (post:=[]) (r':=⟨σ.n,S.many,.k .unit,false,false,⟨c,lab,true,rt⟩⟩) rfl rfl
  refine next_go ?_
  refine body_pop (S:=S.lp' (S.loops ++ [⟨σ.n,S.many,.k .unit,false,false,⟨c,lab,true,rt⟩⟩]) (S.many + 1)) (r:=⟨σ.n,S.many,.k .unit,false,false,⟨c,lab,true,rt⟩⟩) hi hl ⟨k,rfl,hm'⟩ (by show (S.loops ++ [_]).length + _ <= 900; rw [List.length_append]; exact l1) l2 hnx hsz I (st.enter hc ⟨rfl,fun _=>rfl,fun h=>no_tf h.symm⟩ rfl hrt) rfl st.cx hw r1 r2 (fun _=>r1) (fun s made S' gk' rs D g rv ro ok=>?_) hb
  refine opt_get r3 ?_
  refine run_attr g rfl ?_
  refine opt_get r3 ?_
  refine opt_get r3 ?_
  refine run_fn rfl ?_
  refine left_loop_run (Nat.le_trans (by decide) hn6) g rfl ?_
  have bk:Rv 3 (.tup [.str "break",Ty.never.v,.int 1,.int S.many,.none]) []:=(Made.mk' (ty:=.never) rfl (Nat.le_refl 2) (.a (.a .nil rfl rfl) rfl rfl)).rv
  have cn:Rv 3 (.tup [.str "const",(Ty.k .bool).v,.int 1,.bool true]) []:=(Made.const (ty:=.k .bool) rfl rfl).rv
  have md:Made (.tup [.str "loop",(Ty.k .unit).v,.int 1,.int S.many,.tup [.str "if",(Ty.k .unit).v,.int 1,.tup [.str "const",(Ty.k .bool).v,.int 1,.bool true],made,.tup [.str "break",Ty.never.v,.int 1,.int S.many,.none]]]) (.k .unit) (rs ++ [.k .unit]) (i.ht + 8 + 1) :=
    .loop (ty:=.k .unit) (Nat.le_add_left 2 _) (.a (.e .nil (Made.mk' (ty:=.k .unit) (d:=i.ht + 7) rfl (Nat.le_add_left 2 _) (.c (xs:=[]) (.e (.c (xs:=[]) .nil (bk.up (Nat.le_add_left 3 _))) rv) (cn.up (Nat.le_add_left 3 _)))).rv) rfl rfl)
  exact h s _ S' gk' rs (D.from List.prefix_rfl rfl rfl rfl rfl) (md.up (Nat.add_le_add_left (show 9 <= 10 by decide) _)) ro ok
theorem wh_any {n b c rt:Nat} {σ:Store} {S:CSt} {Q:V -> Store -> Prop} {R:Bool -> Store -> Prop} {ctx:List Row} {gk:List Nat} {L:Evs} {i:Pl} {lab:Option String} {w:V} (hi:LsOk i) (hl:i.isL = true) (hn:15 + i.ht + 3 <= n) (l1:S.loops.length + (n + 1 + 2) <= 900) (l2:S.deep + (n + 1 + 2) <= 900) (hnx:i.nx (c + 1) <= 5000) (hsz:i.sz <= 900) (I:CInv b σ S) (st:Stt S ctx gk L (c + 1)) (hc:∀ r ∈ ctx,r.num < c) (hw:i.wf (ctx ++ [⟨c,lab,true,rt⟩]) (c + 1) 0) (hrt:rt < c + 1)
    (h:∀ s made S' gk' rs,Done b S ctx gk (L ++ (i.inf (ctx ++ [⟨c,lab,true,rt⟩]) (c + 1) 0).ev) (i.nx (c + 1)) (i.inf (ctx ++ [⟨c,lab,true,rt⟩]) (c + 1) 0).lf s S' gk' -> Made made (.k .unit) (rs ++ [.k .unit]) (i.ht + 10) -> RingsOk gk' (L ++ (i.inf (ctx ++ [⟨c,lab,true,rt⟩]) (c + 1) 0).ev) (i.inf (ctx ++ [⟨c,lab,true,rt⟩]) (c + 1) 0).el rs -> (i.inf (ctx ++ [⟨c,lab,true,rt⟩]) (c + 1) 0).bad = false -> Q made s)
    (hb:¬ Fine L (i.inf (ctx ++ [⟨c,lab,true,rt⟩]) (c + 1) 0) -> ∀ f s,Kp b S.g s -> R f s):Run (callF tab (n + 1 + 2) "Checker.expr" [.obj (b + 17),ringT true lab i.t,w]) σ Q R:=by
  refine expr_to (f := "read_while") rfl rfl rfl I fun s I=>run_call rfl rfl ?_
  refine ⟨rfl,?_⟩
  refine run_at I.ck ?_
  exact wh_core hi hl (fuel3 hn) (lim1 l1) (lim l2) hnx hsz I st hc hw hrt rfl rfl rfl rfl (fun _ _ h=>next_go h) h hb
set_option tactic.hygienic true in
theorem ex_while {i:Pl} {k:Nat} {lab:Option String} (hi:LsOk i):ExOk (.ring k true lab i):=fun {N b σ S ctx gk L c rt wt Q R} A hwt h hb=>by
  obtain ⟨n,rfl,hn⟩:=fuel3 (c:=15 + i.ht + 3) A.fuel
  obtain ⟨rfl,hl,hw⟩:=A.wf
  have hst:Stt S ctx gk (L ++ preE k rt true) (k + 1) /\ rt < k + 1:=by
    rcases wt with _ | t
    · cases hwt
      rw [show preE k k true = [(k,.unit)] by unfold preE; rw [beq_self_eq_true]; rfl]
      exact ⟨A.st.own,Nat.lt_succ_self _⟩
    · rw [show preE k rt true = [] by unfold preE; rw [beq_eq_false_iff_ne.mpr (Nat.ne_of_lt hwt.1)]; rfl,List.append_nil]
      exact ⟨A.st.up (D:=[]) (Nat.le_succ _) rfl mark_nil.symm,Nat.lt_succ_of_lt hwt.1⟩
  refine wh_any (rt:=rt) hi hl hn A.l1 A.l2 A.nx (Nat.le_trans (Nat.le_add_left _ 4) A.sz) A.inv hst.1 (fun r hr=>(A.st.cb r hr).1) hw hst.2 (fun s made S' gk' rs D md ro ok=>?_) fun z=>hb fun q=>z ⟨(List.append_assoc L _ _).symm ▸ q.1,q.2⟩
  rw [List.append_assoc] at D ro
  exact h s made S' gk' (wt.getD .never) (rs ++ [.k .unit]) ⟨D,fun q=>(nomatch q),fun t q=>by rw [q]; rfl,md,RingsOk.app (fs:=[⟨k,true,rt,_⟩]) ⟨_,_,rfl,rfl,rfl⟩ ro,ok⟩
theorem pl_all (p:Pl):(p.isE = true -> ExOk p) /\ LsOk p:=by
  induction p with
  | nil=>exact ⟨fun h=>no_tf h,ls_nil⟩
  | cons p r hp hr=>exact ⟨fun h=>no_tf h,fun hl _ _ _ _ _ _ _ _ _ _ _ _ _ _ _ _ _ A=>ls_cons (hp.1 (Pl.s_e A.wf.1)) hr.2 hl A⟩
  | ring n w lab i hi =>
    rcases w with _ | _
    · exact ⟨fun _=>ex_loop hi.2,fun h=>no_tf h⟩
    · exact ⟨fun _=>ex_while hi.2,fun h=>no_tf h⟩
  | ifp i hi=>exact ⟨fun _=>ex_ifp hi.2,fun h=>no_tf h⟩
  | brk g lab x hx=>exact ⟨fun _=>ex_brk hx.1,fun h=>no_tf h⟩
  | cont lab=>exact ⟨fun _=>ex_cont,fun h=>no_tf h⟩
  | ret=>exact ⟨fun _=>ex_ret,fun h=>no_tf h⟩
  | no=>exact ⟨fun h=>no_tf h,fun h=>no_tf h⟩
  | u8=>exact ⟨fun _=>ex_u8,fun h=>no_tf h⟩
  | bool=>exact ⟨fun _=>ex_bool,fun h=>no_tf h⟩
  | unit=>exact ⟨fun _=>ex_unit,fun h=>no_tf h⟩
end Mine
end
section
set_option maxHeartbeats 1000000
set_option maxRecDepth 20000
set_option genSizeOf false
namespace Mine
theorem Old.trans {a c d:Store} (x:Old a c) (y:Old c d):Old a d:=⟨Nat.le_trans x.n y.n,fun i hi=>(y.get i (Nat.lt_of_lt_of_le hi x.n)).trans (x.get i hi)⟩
noncomputable def cmpF (C:Oracle) (ρ:Env) (x:String) (elt:Ex) (cond:Option Ex) (v:V):M (Option V):=M.bind (condO C (ρ.set x v) cond) fun t=>if t = true then M.bind (ev C (ρ.set x v) elt) fun y=>M.ret (some y) else M.ret none
section
variable {C:Oracle} {ρ:Env} {σ:Store} {R:Bool -> Store -> Prop} {x:String} {elt c:Ex} {v:V} {l:List V} {Q:List V -> Store -> Prop}
theorem mi_nil {f:V -> M (Option V)} (h:Q [] σ):Run (mapItems f []) σ Q R:=h
theorem mi_cons (h:wpE C (ρ.set x v) R elt (fun y s=>Run (mapItems (cmpF C ρ x elt none) l) s (fun vs s=>Q (y :: vs) s) R) σ):Run (mapItems (cmpF C ρ x elt none) (v :: l)) σ Q R :=
  g_bind (g_bind (run_of rfl (run_pos rfl (g_bind ((wpE_ok elt h).then fun y s z=>g_bind z)))))
theorem mi_if (h:wpE C (ρ.set x v) R c (fun b s=>Run (truth b) s (fun t s=>cnd t (wpE C (ρ.set x v) R elt (fun y s=>Run (mapItems (cmpF C ρ x elt (some c)) l) s (fun vs s=>Q (y :: vs) s) R) s) (Run (mapItems (cmpF C ρ x elt (some c)) l) s Q R)) R) σ):Run (mapItems (cmpF C ρ x elt (some c)) (v :: l)) σ Q R :=
  g_bind (g_bind (g_bind ((wpE_ok c h).then fun b s z=>z.then fun t s z=>by
    rcases t with _ | _
    · exact g_bind z
    · exact g_bind ((wpE_ok elt z).then fun y s z=>g_bind z))))
theorem run_tupL {C:Oracle} {Q:V -> Store -> Prop} (hz:l.length < 100000) (z:Q (.tup l) σ):Run (doCall C (.g "tuple") [.lst l]) σ Q R:=show Run (tupL l) σ Q R from run_pos hz z
end
theorem v_isNo {x:Pl} (h:x.isV = true):isNone x.v = M.ret x.isNo:=by
  rcases x with _ | _ | _ | _ | _ | _ | _ | _ | _ | _ | _ <;> first | rfl | exact no_tf h
noncomputable def TreeOk (p:Pl):Prop:=p.isE = true -> ∀ {N:Nat} {ctx:List Row} {c rt:Nat} {σ:Store} {Q:V -> Store -> Prop} {R:Bool -> Store -> Prop},1 + p.ht <= N -> p.wf ctx c rt -> p.sz <= 900 -> (∀ s,Old σ s -> Q p.t s) -> Run (callF tab N "_law_tree" [p.v]) σ Q R
noncomputable def treeElt (x:String):Ex:=.tupE [.k (.str "do"),.k (.int 1),.call (.g "_law_tree") [.var x]]
noncomputable def TreesOk (i:Pl):Prop:=i.isL = true -> ∀ {x:String} {n:Nat} {ρ:Env} {ctx:List Row} {c:Nat} {σ:Store} {Q:List V -> Store -> Prop} {R:Bool -> Store -> Prop},1 + i.ht <= n -> i.wf ctx c 0 -> i.sz <= 900 -> (∀ s,Old σ s -> Q (its i.t) s) -> Run (mapItems (cmpF (callF tab n) ρ x (treeElt x) none) (its i.v)) σ Q R
theorem trees_cons {p r:Pl} (hp:TreeOk p) (hr:TreesOk r):TreesOk (.cons p r):=fun _ {x n ρ ctx c σ Q R} hn hw hz h=>by
  refine mi_cons ?_
  refine opt_get (if_pos rfl) ?_
  refine run_fn rfl ?_
  refine hp (Pl.s_e hw.1) (Nat.le_trans (Nat.add_le_add_left (Nat.le_max_left _ _) 1) hn) hw.2.2.1 (Nat.le_trans (Nat.le_add_right _ _) hz) fun s o=>?_
  exact hr hw.2.1 (Nat.le_trans (Nat.add_le_add_left (Nat.le_max_right _ _) 1) hn) hw.2.2.2 (Nat.le_trans (Nat.le_add_left _ _) hz) fun s' o'=>h s' (o.trans o')
theorem head_str {x c y:String} {σ:Store} {Q:V -> Store -> Prop} {R:Bool -> Store -> Prop} (e:strAt x 0 = M.ret (.str c)) (ne:(c == y) = false) (h:Q (.bool false) σ):Run (strAt x 0) σ (fun v s=>Run (doCmp .eq v (.str y)) s Q R) R:=by
  rw [e]
  show Run (isB (veq (.str c) (.str y))) σ Q R
  refine run_veq (t:=false) ?_ h
  show M.ret (c == y) = _
  rw [ne]
noncomputable def wordsT:List (V × V):=[(.str "u8",Pl.u8.t),(.str "bool",trueT),(.str "unit",Pl.unit.t)]
theorem tree_str {x c:String} {t:V} {N:Nat} {σ:Store} {Q:V -> Store -> Prop} {R:Bool -> Store -> Prop} (e:strAt x 0 = M.ret (.str c)) (h1:(c == "ring") = false) (h2:(c == "if") = false) (h3:(c == "break") = false) (h4:(c == "continue") = false) (h5:(c == "return") = false) (hk:keyAt (.str x) wordsT = M.ret t) (hN:1 <= N) (h:∀ s,Old σ s -> Q t s):Run (callF tab N "_law_tree" [.str x]) σ Q R:=by
  obtain ⟨n,rfl,_⟩:=fuel hN
  refine run_call rfl rfl ?_
  refine head_str e h1 ?_
  refine head_str e h2 ?_
  refine head_str e h3 ?_
  refine head_str e h4 ?_
  refine head_str e h5 ?_
  refine run_key (v:=t) At.top ?_ ?_
  · exact hk
  · exact h _ Old.refl.push
theorem tree_ring {k:Nat} {w:Bool} {lab:Option String} {i:Pl} (hi:TreesOk i):TreeOk (.ring k w lab i):=fun _ {N ctx c rt σ Q R} hN hw hz h=>by
  obtain ⟨n,rfl,hn⟩:=fuel (c:=1 + i.ht) (Nat.le_trans (Nat.le_add_right _ 5) hN)
  obtain ⟨_,hl,hw⟩:=hw
  have hz:=Nat.le_trans (Nat.le_add_left _ 4) hz
  have hlen:(its i.t).length < 100000:=Nat.lt_of_le_of_lt (Nat.le_trans (Pl.len_t hl hw) hz) (by decide)
  show Run (callF tab (n + 1) "_law_tree" [.tup [.str "ring",.int k,.bool w,labV lab,i.v]]) σ Q R
  change ∀ s,Old σ s -> Q (ringT w lab i.t) s at h
  rw [Pl.l_v hl]
  rw [Pl.l_t hl] at h
  refine run_call rfl rfl ?_
  refine hi hl hn hw hz fun s o=>⟨hlen,?_⟩
  refine run_tupL hlen ?_
  have h:=h s o
  rcases w with _ | _
  · exact h
  · exact h
theorem tree_ifp {i:Pl} (hi:TreesOk i):TreeOk (.ifp i):=fun _ {N ctx c rt σ Q R} hN hw hz h=>by
  obtain ⟨n,rfl,hn⟩:=fuel (c:=1 + i.ht) (Nat.le_trans (Nat.le_add_right _ 5) hN)
  obtain ⟨hl,hw⟩:=hw
  have hz:=Nat.le_trans (Nat.le_add_left _ 1) hz
  have hlen:(its i.t).length < 100000:=Nat.lt_of_le_of_lt (Nat.le_trans (Pl.len_t hl hw) hz) (by decide)
  show Run (callF tab (n + 1) "_law_tree" [.tup [.str "if",i.v]]) σ Q R
  change ∀ s,Old σ s -> Q (.tup [.str "if",.int 1,trueT,blk i.t,.none]) s at h
  rw [Pl.l_v hl]
  rw [Pl.l_t hl] at h
  refine run_call rfl rfl ?_
  refine hi hl hn hw hz fun s o=>⟨hlen,?_⟩
  refine run_tupL hlen ?_
  exact h s o
theorem tree_brk {g:Nat} {lab:Option String} {x:Pl} (hx:TreeOk x):TreeOk (.brk g lab x):=fun _ {N ctx c rt σ Q R} hN hw hz h=>by
  obtain ⟨n,rfl,hn⟩:=fuel (c:=1 + x.ht) (Nat.le_trans (Nat.le_add_right _ 2) hN)
  obtain ⟨row,_,_,hv,hw⟩:=hw
  refine run_call rfl rfl ?_
  refine run_is (v_isNo hv) ?_
  rcases brk_val hv with rfl | ⟨e1,_,e2⟩
  · exact h _ .refl
  · rw [e1]
    refine run_fn rfl ?_
    refine hx e2 hn hw (Nat.le_trans (Nat.le_add_left _ 2) hz) fun s o=>?_
    exact h s o
theorem pl_tree (p:Pl):TreeOk p /\ TreesOk p:=by
  induction p with
  | nil=>exact ⟨fun h=>no_tf h,fun _ _ _ _ _ _ _ _ _ _ _ _ h=>h _ .refl⟩
  | cons p r hp hr=>exact ⟨fun h=>no_tf h,trees_cons hp.1 hr.2⟩
  | ring n w lab i hi=>exact ⟨tree_ring hi.2,fun h=>no_tf h⟩
  | ifp i hi=>exact ⟨tree_ifp hi.2,fun h=>no_tf h⟩
  | brk g lab x hx=>exact ⟨tree_brk hx.1,fun h=>no_tf h⟩
  | cont lab =>
    refine ⟨fun _ _ _ _ _ _ _ _ hN _ _ h=>?_,fun h=>no_tf h⟩
    obtain ⟨n,rfl,_⟩:=fuel hN
    exact run_call rfl rfl (h _ .refl)
  | ret =>
    refine ⟨fun _ _ _ _ _ _ _ _ hN _ _ h=>?_,fun h=>no_tf h⟩
    obtain ⟨n,rfl,_⟩:=fuel hN
    exact run_call rfl rfl (h _ .refl)
  | no=>exact ⟨fun h=>no_tf h,fun h=>no_tf h⟩
  | u8=>exact ⟨fun _ _ _ _ _ _ _ _ hN _ _ h=>tree_str (x := "u8") rfl rfl rfl rfl rfl rfl rfl hN h,fun h=>no_tf h⟩
  | bool=>exact ⟨fun _ _ _ _ _ _ _ _ hN _ _ h=>tree_str (x := "bool") rfl rfl rfl rfl rfl rfl rfl hN h,fun h=>no_tf h⟩
  | unit=>exact ⟨fun _ _ _ _ _ _ _ _ hN _ _ h=>tree_str (x := "unit") rfl rfl rfl rfl rfl rfl rfl (Nat.le_trans (by decide) hN) h,fun h=>no_tf h⟩
end Mine
end
section
set_option maxHeartbeats 1000000
set_option maxRecDepth 20000
set_option genSizeOf false
namespace Mine
section
variable {C:Oracle} {σ:Store} {Q:V -> Store -> Prop} {R:Bool -> Store -> Prop} {j:Nat} {l:List (V × V)} {r:List V} {k v d x:V}
theorem run_isB {σ:Store} {Q:V -> Store -> Prop} {R:Bool -> Store -> Prop} {x:M Bool} {t:Bool} (e:x = M.ret t) (h:Q (.bool t) σ):Run (isB x) σ Q R:=by
  unfold isB; rw [e]; exact h
theorem run_get (h:At σ j (.dict l)) (hk:keyFits k l = true) (z:Q ((dlook k l).getD d) σ):Run (doApp C (.dct j) "get" [k,d]) σ Q R:=run_at h (show Run (if keyFits k l = true then M.ret ((dlook k l).getD d) else M.fail) σ Q R from run_pos hk z)
theorem run_setD {Q:Unit -> Store -> Prop} (h:At σ j (.dict l)) (hk:(keyFits k l && k.plainKey && decide (l.length < 1000)) = true) (z:Q () (σ.set j (.dict (dput k v l)))):Run (doSetI (.obj j) k v) σ Q R:=run_at h (show Run (putKey j l v k) σ Q R from run_pos hk z)
end
section
variable {α:Type} {f:α -> V} {g h:Nat} {v:α}
noncomputable def dN (f:α -> V) (l:List (Nat × α)):List (V × V):=l.map fun p=>(.int p.1,f p.2)
noncomputable def np (g:Nat) (v:α):List (Nat × α) -> List (Nat × α)
  | []=>[(g,v)]
  | (a,u) :: r=>if a = g then (a,v) :: r else (a,u) :: np g v r
theorem np_cons {a:Nat} {u:α} {r:List (Nat × α)}:np g v ((a,u) :: r) = if a = g then (a,v) :: r else (a,u) :: np g v r:=rfl
theorem eqb_nat {a b:Nat}:V.eqb (.int a) (.int b) = decide (a = b):=by
  show ((a:Int) == (b:Int)) = _
  rw [Bool.eq_iff_iff,beq_iff_eq,decide_eq_true_iff]
  exact Int.ofNat_inj
theorem dl_dN:∀ {l:List (Nat × α)},dlook (.int g) (dN f l) = (nl g l).map f
  | []=>rfl
  | (a,v) :: r=>by
    show (if V.eqb (.int a) (.int g) = true then some (f v) else dlook (.int g) (dN f r)) = _
    rw [eqb_nat,dl_dN,nl_cons]
    by_cases q:a = g
    · rw [if_pos (decide_eq_true q),if_pos q]; rfl
    · rw [if_neg (by rw [decide_eq_false q]; decide),if_neg q]
theorem dp_dN:∀ {l:List (Nat × α)},dput (.int g) (f v) (dN f l) = dN f (np g v l)
  | []=>rfl
  | (a,u) :: r=>by
    show (if V.eqb (.int a) (.int g) = true then (V.int a,f v) :: dN f r else (V.int a,f u) :: dput (.int g) (f v) (dN f r)) = _
    rw [eqb_nat,dp_dN,np_cons]
    by_cases q:a = g
    · rw [if_pos (decide_eq_true q),if_pos q]; rfl
    · rw [if_neg (by rw [decide_eq_false q]; decide),if_neg q]; rfl
theorem kf_dN {l:List (Nat × α)}:keyFits (.int g) (dN f l) = true:=by
  unfold keyFits dN
  rw [List.all_map]
  exact List.all_eq_true.mpr fun _ _=>rfl
theorem nl_np:∀ {l:List (Nat × α)},nl h (np g v l) = if g = h then some v else nl h l
  | []=>rfl
  | (a,u) :: r=>by
    rw [np_cons]
    by_cases q:a = g
    · subst q
      rw [if_pos rfl,nl_cons,nl_cons]
      by_cases z:a = h
      · rw [if_pos z,if_pos z]
      · rw [if_neg z,if_neg z,if_neg z]
    · rw [if_neg q,nl_cons,nl_cons,nl_np]
      by_cases z:a = h
      · rw [if_pos z,if_pos z,if_neg (fun w=>q (z.trans w.symm))]
      · rw [if_neg z,if_neg z]
theorem np_len:∀ {l:List (Nat × α)},(np g v l).length <= l.length + 1
  | []=>Nat.le_refl _
  | (a,u) :: r=>by
    rw [np_cons]
    by_cases q:a = g
    · rw [if_pos q]; exact Nat.le_succ _
    · rw [if_neg q]; exact Nat.succ_le_succ np_len
end
noncomputable def natV (n:Nat):V:=.int n
theorem any_nat {g:Nat}:∀ {l:List Nat},((l.map natV).any fun y=>V.eqb y (.int g)) = l.contains g
  | []=>rfl
  | a :: r=>by
    rw [List.map_cons,List.any_cons,any_nat,List.contains_cons]
    congr 1
    show V.eqb (.int a) (.int g) = _
    rw [eqb_nat,Bool.eq_iff_iff,decide_eq_true_iff,beq_iff_eq]
    exact eq_comm
theorem nat_data:∀ {l:List Nat},V.areData (l.map natV) = true
  | []=>rfl
  | _ :: r=>by rw [List.map_cons]; show (true && V.areData _) = true; rw [nat_data]; rfl
theorem vin_nat {g:Nat} {l:List Nat}:vin (.int g) (l.map natV) = M.ret (l.contains g):=by
  unfold vin
  rw [nat_data,any_nat]; rfl
noncomputable def Kd.s:Kd -> String | .u8 => "u8" | .bool => "bool" | .unit => "unit"
noncomputable def kdV (k:Kd):V:=.str k.s
structure LB where
  links:List (Nat × Nat)
  kinds:List (Nat × Kd)
  fine:Bool
  left:List Nat
  whiles:List Nat
  ended:List Nat
noncomputable def bookD (B:Nat) (f:Bool):List (V × V):=[(.str "links",.obj (B + 0)),(.str "kinds",.obj (B + 1)),(.str "fine",.bool f),(.str "left",.obj (B + 2)),(.str "whiles",.obj (B + 3)),(.str "ended",.obj (B + 4))]
noncomputable def LB.ob (B:Nat) (X:LB):Nat -> AO
  | 0=>.dict (dN natV X.links)
  | 1=>.dict (dN kdV X.kinds)
  | 2=>.list (X.left.map natV)
  | 3=>.list (X.whiles.map natV)
  | 4=>.list (X.ended.map natV)
  | _=>.dict (bookD B X.fine)
noncomputable def LB.root (X:LB) (g:Nat):Nat:=(nl g X.links).getD g
noncomputable def LB.short (X:LB) (m:Nat):Prop:=X.links.length <= m /\ X.kinds.length <= m /\ X.left.length <= m /\ X.whiles.length <= m /\ X.ended.length <= m
structure LI (B m:Nat) (g:Nat -> AO) (σ:Store) (X:LB):Prop where
  n:B + 6 <= σ.n
  kp:∀ i,i < B -> σ.get i = g i
  ob:∀ i,i < 6 -> σ.get (B + i) = X.ob B i
  sh:X.short m
theorem six {P:Nat -> Prop} (h0:P 0) (h1:P 1) (h2:P 2) (h3:P 3) (h4:P 4) (h5:P 5):∀ i,i < 6 -> P i
  | 0,_=>h0 | 1,_=>h1 | 2,_=>h2 | 3,_=>h3 | 4,_=>h4 | 5,_=>h5
  | n + 6,h=>absurd h (Nat.not_lt.mpr (Nat.le_add_left _ _))
section
variable {B m m':Nat} {g:Nat -> AO} {σ:Store} {X X':LB} (I:LI B m g σ X)
include I
theorem LI.at {i:Nat} (h:i < 6):At σ (B + i) (X.ob B i):=⟨Nat.lt_of_lt_of_le (Nat.add_lt_add_left h B) I.n,I.ob i h⟩
theorem LI.b0:At σ (B + 0) (.dict (dN natV X.links)):=I.at (by decide)
theorem LI.b1:At σ (B + 1) (.dict (dN kdV X.kinds)):=I.at (by decide)
theorem LI.b2:At σ (B + 2) (.list (X.left.map natV)):=I.at (by decide)
theorem LI.b3:At σ (B + 3) (.list (X.whiles.map natV)):=I.at (by decide)
theorem LI.b4:At σ (B + 4) (.list (X.ended.map natV)):=I.at (by decide)
theorem LI.b5:At σ (B + 5) (.dict (bookD B X.fine)):=I.at (by decide)
theorem LI.set (j:Nat) {o:AO} (h:∀ i,i < 6 -> X'.ob B i = if i = j then o else X.ob B i) (hs:X'.short m'):LI B m' g (σ.set (B + j) o) X':=by
  refine ⟨I.n,fun i hi=>(if_neg (below hi)).trans (I.kp i hi),fun i hi=>?_,hs⟩
  rw [h i hi]
  by_cases q:i = j
  · rw [if_pos q,q]; exact if_pos rfl
  · rw [if_neg q]; exact (if_neg (off q)).trans (I.ob i hi)
theorem LI.old {s:Store} (h:Old σ s):LI B m g s X:=⟨Nat.le_trans I.n h.n,fun i hi=>(h.get i (Nat.lt_of_lt_of_le hi (Nat.le_trans (Nat.le_add_right B 6) I.n))).trans (I.kp i hi),fun i hi=>(h.get _ (I.at hi).1).trans (I.ob i hi),I.sh⟩
theorem LI.mono (q:m <= m'):LI B m' g σ X:=have h:=I.sh; ⟨I.n,I.kp,I.ob,Nat.le_trans h.1 q,Nat.le_trans h.2.1 q,Nat.le_trans h.2.2.1 q,Nat.le_trans h.2.2.2.1 q,Nat.le_trans h.2.2.2.2 q⟩
theorem LI.putKinds (a:Nat) (k:Kd):LI B (m + 1) g (σ.set (B + 1) (.dict (dput (.int a) (kdV k) (dN kdV X.kinds)))) { X with kinds:=np a k X.kinds } :=
  dp_dN (f:=kdV) (v:=k) ▸ I.set 1 (six rfl rfl rfl rfl rfl rfl) (have h:=(I.mono (Nat.le_succ m)).sh; ⟨h.1,Nat.le_trans np_len (Nat.succ_le_succ I.sh.2.1),h.2.2⟩)
theorem LI.putLinks (a k:Nat):LI B (m + 1) g (σ.set (B + 0) (.dict (dput (.int a) (.int k) (dN natV X.links)))) { X with links:=np a k X.links } :=
  dp_dN (f:=natV) (v:=k) ▸ I.set 0 (six rfl rfl rfl rfl rfl rfl) (have h:=(I.mono (Nat.le_succ m)).sh; ⟨Nat.le_trans np_len (Nat.succ_le_succ I.sh.1),h.2⟩)
theorem LI.putFine (f:Bool):LI B m g (σ.set (B + 5) (.dict (bookD B f))) { X with fine:=f }:=I.set 5 (six rfl rfl rfl rfl rfl rfl) I.sh
omit I in
theorem mapapp {l:List Nat} {a:Nat}:AO.list ((l ++ [a]).map natV) = .list (l.map natV ++ [.int a]):=congrArg AO.list List.map_append
theorem LI.addLeft (a:Nat):LI B (m + 1) g (σ.set (B + 2) (.list (X.left.map natV ++ [.int a]))) { X with left:=X.left ++ [a] } :=
  I.set 2 (six rfl rfl mapapp rfl rfl rfl) (have h:=(I.mono (Nat.le_succ m)).sh; ⟨h.1,h.2.1,by rw [List.length_append]; exact Nat.succ_le_succ I.sh.2.2.1,h.2.2.2⟩)
theorem LI.addWh (a:Nat):LI B (m + 1) g (σ.set (B + 3) (.list (X.whiles.map natV ++ [.int a]))) { X with whiles:=X.whiles ++ [a] } :=
  I.set 3 (six rfl rfl rfl mapapp rfl rfl) (have h:=(I.mono (Nat.le_succ m)).sh; ⟨h.1,h.2.1,h.2.2.1,by rw [List.length_append]; exact Nat.succ_le_succ I.sh.2.2.2.1,h.2.2.2.2⟩)
theorem LI.addEnd (a:Nat):LI B (m + 1) g (σ.set (B + 4) (.list (X.ended.map natV ++ [.int a]))) { X with ended:=X.ended ++ [a] } :=
  I.set 4 (six rfl rfl rfl rfl mapapp rfl) (have h:=(I.mono (Nat.le_succ m)).sh; ⟨h.1,h.2.1,h.2.2.1,h.2.2.2.1,by rw [List.length_append]; exact Nat.succ_le_succ I.sh.2.2.2.2⟩)
end
theorem veq_int {a b:Nat}:veq (.int a) (.int b) = M.ret (decide (a = b)):=congrArg M.ret eqb_nat
theorem key_int {α:Type} {f:α -> V} {l:List (Nat × α)} {g:Nat} {v:α} (h:nl g l = some v):keyAt (.int g) (dN f l) = M.ret (f v):=by
  unfold keyAt
  rw [if_pos (by rw [kf_dN]; rfl),dl_dN,h]; rfl
noncomputable def LB.flat (X:LB):Prop:=∀ a b,nl a X.links = some b -> b ≠ a /\ nl b X.links = none
section
variable {N B m c:Nat} {g:Nat -> AO} {σ:Store} {X:LB} {Q:V -> Store -> Prop} {R:Bool -> Store -> Prop}
theorem veq_eqI {a:Nat}:veq (.int a) (.int a) = M.ret true:=veq_int.trans (congrArg M.ret (decide_eq_true rfl))
theorem veq_neI {a b:Nat} (h:a ≠ b):veq (.int a) (.int b) = M.ret false:=veq_int.trans (congrArg M.ret (decide_eq_false h))
set_option tactic.hygienic true in
theorem home_get {C:Oracle} {r:Nat} (I:LI B m g σ X) (e:X.root c = r) (z:Q (.int r) σ):Run (doApp C (.dct (B + 0)) "get" [.int c,.int c]) σ Q R:=by
  refine run_get I.b0 kf_dN ?_
  rw [dl_dN]
  have e:(nl c X.links).getD c = r:=e
  generalize nl c X.links = o at e ⊢
  rcases o with _ | _ <;> cases e <;> exact z
theorem home_run (hN:1 <= N) (I:LI B m g σ X) (hf:X.flat) (h:Q (.int (X.root c)) σ):Run (callF tab N "_law_home" [.obj (B + 5),.int c]) σ Q R:=by
  refine cps fun G k9=>?_
  obtain ⟨n,rfl,hn⟩:=fuel hN
  refine k9 (run_call rfl rfl (whl ?_))
  refine run_key I.b5 rfl ?_
  refine run_at I.b0 ?_
  rcases q:nl c X.links with _ | r
  · have e:X.root c = c:=by unfold LB.root; rw [q]; rfl
    rw [e] at h
    refine home_get I e ?_
    refine wp_v rfl ?_
    refine run_notB veq_eqI ?_
    exact h
  · have e:X.root c = r:=by unfold LB.root; rw [q]; rfl
    obtain ⟨h1,h2⟩:=hf c r q
    rw [e] at h
    refine home_get I e ?_
    refine wp_v rfl ?_
    refine run_notB (veq_neI h1) ?_
    refine run_key I.b5 rfl ?_
    refine run_key I.b0 (key_int q) ?_
    refine whl ?_
    refine run_key I.b5 rfl ?_
    refine run_at I.b0 ?_
    refine home_get (c:=r) I (by unfold LB.root; rw [h2,Option.getD_none]) ?_
    refine wp_v rfl ?_
    refine run_notB veq_eqI ?_
    exact h
end
end Mine
end
section
set_option maxHeartbeats 1000000
set_option maxRecDepth 20000
set_option genSizeOf false
namespace Mine
noncomputable def LB.mark (X:LB) (g:Nat) (k:Kd):LB:={ X with fine:=X.fine && decide ((nl (X.root g) X.kinds).getD k = k),kinds:=np (X.root g) k X.kinds }
theorem veq_kd {a b:Kd}:veq (.str a.s) (.str b.s) = M.ret (decide (a = b)):=by
  rcases a with _ | _ | _ <;> rcases b with _ | _ | _ <;> rfl
theorem cmp_ne {a b:V} {t:Bool} {σ:Store} {Q:V -> Store -> Prop} {R:Bool -> Store -> Prop} (h:still a = M.ret a) (e:veq a b = M.ret t) (z:Q (.bool !t) σ):Run (doCmp .ne a b) σ Q R:=by
  refine g_bind ?_
  rw [h]
  exact run_notB e z
theorem run_inD {σ:Store} {Q:V -> Store -> Prop} {R:Bool -> Store -> Prop} {j:Nat} {l:List (V × V)} {x:V} (h:At σ j (.dict l)) (hk:(keyFits x l && x.plainKey) = true) (z:Q (.bool (dlook x l).isSome) σ):Run (doCmp .isin x (.obj j)) σ Q R:=run_at h (show Run (hasKey x l) σ Q R from run_pos hk z)
section
variable {N B m a b:Nat} {g:Nat -> AO} {σ:Store} {X:LB} {k:Kd} {Q:V -> Store -> Prop} {R:Bool -> Store -> Prop}
set_option tactic.hygienic true in
theorem kind_get {C:Oracle} {d:Kd} (I:LI B m g σ X) (e:(nl a X.kinds).getD k = d) (z:Q (.str d.s) σ):Run (doApp C (.dct (B + 1)) "get" [.int a,.str k.s]) σ Q R:=by
  refine run_get I.b1 kf_dN ?_
  rw [dl_dN]
  generalize nl a X.kinds = o at e ⊢
  rcases o with _ | _ <;> cases e <;> exact z
theorem LI.kfits {α:Type} {f:α -> V} {l:List (Nat × α)} (h:l.length <= 900):(keyFits (.int a) (dN f l) && V.plainKey (.int a) && decide ((dN f l).length < 1000)) = true:=by
  rw [kf_dN,decide_eq_true (show (dN f l).length < 1000 from (List.length_map _).symm ▸ Nat.lt_of_le_of_lt h (by decide))]; rfl
set_option tactic.hygienic true in
theorem kind_end {n:Nat} {ρ:Env} {Q:QF} (hm:m <= 900) (I:LI B m g σ X) (h1:ρ "book" = some (.obj (B + 5))) (h2:ρ "first" = some (.int a)) (h3:ρ "kind" = some (.str k.s)) (h:∀ s,LI B (m + 1) g s { X with kinds:=np a k X.kinds } -> Q .next ρ s) :
    wpB (callF tab n) R [.setI (.idx (.var "book") (.k (.str "kinds"))) (.var "first") (.var "kind")] ρ Q σ:=by
  refine opt_get h3 ?_
  refine opt_get h1 ?_
  refine run_key I.b5 rfl ?_
  refine opt_get h2 ?_
  refine run_setD I.b1 (LI.kfits (Nat.le_trans I.sh.2.1 hm)) ?_
  exact h _ (I.putKinds a k)
theorem kind_run (hN:2 <= N) (hm:m <= 900) (I:LI B m g σ X) (hf:X.flat) (h:∀ s,LI B (m + 1) g s (X.mark a k) -> Q .none s):Run (callF tab N "_law_kind" [.obj (B + 5),.int a,.str k.s]) σ Q R:=by
  refine cps fun G k9=>?_
  obtain ⟨n,rfl,hn⟩:=fuel hN
  obtain ⟨links,kinds,fine,left,whiles,ended⟩:=X
  refine k9 (run_call rfl rfl ?_)
  refine run_fn rfl (home_run hn I hf ?_)
  refine run_key I.b5 rfl ?_
  rcases fine with _ | _
  · refine run_setD I.b5 rfl ?_
    refine next_go ?_
    exact kind_end hm (I.putFine false) rfl rfl rfl h
  · refine run_key I.b5 rfl ?_
    refine run_at I.b1 ?_
    refine kind_get I rfl ?_
    refine wp_v rfl ?_
    refine run_veq veq_kd ?_
    refine run_setD I.b5 rfl ?_
    refine next_go ?_
    exact kind_end hm (I.putFine _) rfl rfl rfl h
theorem join_run (hN:2 <= N) (hm:m <= 900) (I:LI B m g σ X) (hf:X.flat) (ha:X.root a = a) (hk:nl a X.kinds = none) (hne:a ≠ X.root b)
    (h:∀ s,LI B (m + 1) g s { X with links:=np a (X.root b) X.links } -> Q .none s):Run (callF tab N "_law_join" [.obj (B + 5),.int a,.int b]) σ Q R:=by
  refine cps fun G k9=>?_
  obtain ⟨n,rfl,hn⟩:=fuel hN
  refine k9 (run_call rfl rfl ?_)
  refine run_fn rfl (home_run hn I hf ?_)
  rw [ha]
  refine run_fn rfl (home_run hn I hf ?_)
  refine ⟨rfl,?_⟩
  refine next_go ?_
  refine if_go ?_
  refine cmp_go ?_
  refine wp_v rfl ?_
  refine wp_v rfl ?_
  refine cmp_ne (a:=.int a) rfl (veq_neI hne) ?_
  refine run_key I.b5 rfl ?_
  refine run_setD I.b0 (LI.kfits (Nat.le_trans I.sh.1 hm)) ?_
  have J:=I.putLinks a (X.root b)
  refine run_key J.b5 rfl ?_
  refine run_inD J.b1 (by rw [kf_dN]; rfl) ?_
  rw [show dlook (.int a) (dN kdV _) = none by rw [dl_dN]; exact congrArg (Option.map kdV) hk]
  exact h _ J
end
end Mine
end
section
set_option maxHeartbeats 1000000
set_option maxRecDepth 20000
set_option genSizeOf false
namespace Mine
structure LS (all:List (Nat × Bool × Nat)) (c:Nat) (X:LB) (L:Evs) (bd:Bool):Prop where
  flat:X.flat
  lk:∀ a b,nl a X.links = some b -> a < c /\ b < c
  k1:∀ g k,nl g X.kinds = some k -> (g,k) ∈ L
  k2:∀ g k,(g,k) ∈ L -> nl g X.kinds ≠ none
  fine:X.fine = true ↔ Cons L /\ bd = false
  lt:∀ e ∈ L,e.1 < c
  rows:∀ r ∈ all,r.1 < c /\ X.root r.1 = r.2.2 /\ (r.1 ∈ X.whiles ↔ r.2.1 = true)
  wu:∀ r ∈ all,r.2.1 = true -> (r.2.2,Kd.unit) ∈ L
  wl:∀ n ∈ X.whiles,n < c
section
variable {all:List (Nat × Bool × Nat)} {c c':Nat} {X:LB} {L M:Evs} {bd:Bool} {g:Nat} {k:Kd} (S:LS all c X L bd)
include S
theorem LS.mono (h:c <= c'):LS all c' X L bd :=
  ⟨S.flat,fun a b e=>(S.lk a b e).imp (Nat.lt_of_lt_of_le · h) (Nat.lt_of_lt_of_le · h),S.k1,S.k2,S.fine,fun e q=>Nat.lt_of_lt_of_le (S.lt e q) h,fun r hr=>(S.rows r hr).imp_left (Nat.lt_of_lt_of_le · h),S.wu,fun n hn=>Nat.lt_of_lt_of_le (S.wl n hn) h⟩
theorem LS.perm (h:∀ e,e ∈ L ↔ e ∈ M):LS all c X M bd :=
  ⟨S.flat,S.lk,fun g k q=>(h _).mp (S.k1 g k q),fun g k q=>S.k2 g k ((h _).mpr q),S.fine.trans (and_congr_left fun _=>⟨Cons.sub fun e=>(h e).mpr,Cons.sub fun e=>(h e).mp⟩),fun e q=>S.lt e ((h e).mpr q),S.rows,fun r hr q=>(h _).mp (S.wu r hr q),S.wl⟩
theorem LS.notes (l e:List Nat):LS all c { X with left:=l,ended:=e } L bd:=⟨S.flat,S.lk,S.k1,S.k2,S.fine,S.lt,S.rows,S.wu,S.wl⟩
theorem LS.worse:LS all c { X with fine:=false } L true:=⟨S.flat,S.lk,S.k1,S.k2,⟨fun h=>no_tf h,fun h=>no_tf h.2.symm⟩,S.lt,S.rows,S.wu,S.wl⟩
theorem LS.root_lt (h:g < c):X.root g < c:=by
  unfold LB.root
  rcases q:nl g X.links with _ | b
  · exact h
  · exact (S.lk _ _ q).2
set_option tactic.hygienic true in
theorem LS.mark (h:g < c):LS all c (X.mark g k) (L ++ [(X.root g,k)]) bd:=by
  have k1:∀ a e,nl a (np (X.root g) k X.kinds) = some e -> (a,e) ∈ L ++ [(X.root g,k)]:=fun a e q=>by
    rw [nl_np] at q
    by_cases z:X.root g = a
    · rw [if_pos z] at q
      cases q; cases z
      exact List.mem_append_right _ (.head _)
    · rw [if_neg z] at q
      exact List.mem_append_left _ (S.k1 _ _ q)
  refine ⟨S.flat,S.lk,k1,fun a e q=>?_,?_,fun e q=>(List.mem_append.mp q).elim (S.lt e) fun q=>List.mem_singleton.mp q ▸ S.root_lt h,S.rows,fun r hr q=>List.mem_append_left _ (S.wu r hr q),S.wl⟩
  · change nl a (np (X.root g) k X.kinds) ≠ none
    rw [nl_np]
    by_cases z:X.root g = a
    · rw [if_pos z]; exact fun h=>(nomatch h)
    · rw [if_neg z]
      rcases List.mem_append.mp q with q | q
      · exact S.k2 _ _ q
      · cases List.mem_singleton.mp q; exact absurd rfl z
  · show (X.fine && decide ((nl (X.root g) X.kinds).getD k = k)) = true ↔ _
    rw [Bool.and_eq_true,S.fine,decide_eq_true_iff]
    constructor
    · rintro ⟨⟨h1,h2⟩,h3⟩
      refine ⟨?_,h2⟩
      rcases q:nl (X.root g) X.kinds with _ | z
      · exact h1.add (Option.eq_none_iff_forall_ne_some.mpr fun z e=>absurd q (S.k2 _ _ (nl_mem e)))
      · rw [q] at h3
        have h3:z = k:=h3
        subst h3
        exact h1.sub fun e he=>(List.mem_append.mp he).elim id fun z=>List.mem_singleton.mp z ▸ S.k1 _ _ q
    · rintro ⟨h1,h2⟩
      refine ⟨⟨h1.left,h2⟩,?_⟩
      rcases q:nl (X.root g) X.kinds with _ | z
      · rfl
      · exact h1 _ _ _ (List.mem_append_left _ (S.k1 _ _ q)) (List.mem_append_right _ (.head _))
theorem LS.free:nl c X.links = none /\ nl c X.kinds = none /\ c ∉ X.whiles :=
  ⟨Option.eq_none_iff_forall_ne_some.mpr fun b q=>Nat.lt_irrefl _ (S.lk _ _ q).1,Option.eq_none_iff_forall_ne_some.mpr fun b q=>Nat.lt_irrefl _ (S.lt _ (S.k1 _ _ q)),fun h=>Nat.lt_irrefl _ (S.wl _ h)⟩
set_option tactic.hygienic true in
theorem LS.join {b:Nat} (hb:b < c):LS all (c + 1) { X with links:=np c (X.root b) X.links } L bd /\ LB.root { X with links:=np c (X.root b) X.links } c = X.root b:=by
  have hrl:=S.root_lt hb
  have hrn:nl (X.root b) X.links = none:=by
    unfold LB.root
    rcases q:nl b X.links with _ | d
    · exact q
    · exact (S.flat _ _ q).2
  have old:∀ a,a < c -> LB.root { X with links:=np c (X.root b) X.links } a = X.root a:=fun a ha=>by
    show (nl a (np c (X.root b) X.links)).getD a = _
    rw [nl_np,if_neg (Nat.ne_of_gt ha)]; rfl
  have new:LB.root { X with links:=np c (X.root b) X.links } c = X.root b:=by
    show (nl c (np c (X.root b) X.links)).getD c = _
    rw [nl_np,if_pos rfl]; rfl
  have U:=S.mono (Nat.le_succ c)
  have cs:∀ {x y},nl x (np c (X.root b) X.links) = some y -> (x = c /\ y = X.root b) \/ (x ≠ c /\ nl x X.links = some y):=fun {x y} q=>by
    rw [nl_np] at q
    by_cases z:c = x
    · rw [if_pos z] at q
      cases q; exact .inl ⟨z.symm,rfl⟩
    · rw [if_neg z] at q; exact .inr ⟨fun q=>z q.symm,q⟩
  refine ⟨⟨fun x y q=>?_,fun x y q=>?_,S.k1,S.k2,S.fine,U.lt,fun r hr=>⟨(U.rows r hr).1,(old _ (S.rows r hr).1).trans (S.rows r hr).2.1,(S.rows r hr).2.2⟩,S.wu,U.wl⟩,new⟩
  · show y ≠ x /\ nl y (np c (X.root b) X.links) = none
    rw [nl_np]
    rcases cs q with ⟨rfl,rfl⟩ | ⟨_,q⟩
    · exact ⟨Nat.ne_of_lt hrl,by rw [if_neg (Nat.ne_of_gt hrl)]; exact hrn⟩
    · exact ⟨(S.flat _ _ q).1,by rw [if_neg (Nat.ne_of_gt (S.lk _ _ q).2)]; exact (S.flat _ _ q).2⟩
  · rcases cs q with ⟨rfl,rfl⟩ | ⟨_,q⟩
    · exact ⟨Nat.lt_succ_self _,Nat.lt_succ_of_lt hrl⟩
    · exact U.lk _ _ q
end
theorem LS.enter {all:List (Nat × Bool × Nat)} {c:Nat} {X:LB} {L:Evs} {bd:Bool} {ws:List Nat} {w:Bool} {rt:Nat} (S:LS all (c + 1) X L bd) (hc:∀ r ∈ all,r.1 < c) (hr:X.root c = rt) (hw:c ∉ X.whiles) (hws:ws = match w with | true=>X.whiles ++ [c] | false=>X.whiles) (hu:w = true -> (rt,Kd.unit) ∈ L) :
    LS ((c,w,rt) :: all) (c + 1) { X with whiles:=ws } L bd:=by
  have hm:∀ n,n ∈ ws ↔ n ∈ X.whiles \/ (n = c /\ w = true):=fun n=>by
    subst hws
    rcases w with _ | _
    · exact ⟨.inl,fun h=>h.elim id fun z=>no_tf z.2⟩
    · exact List.mem_append.trans (or_congr_right (List.mem_singleton.trans ⟨fun h=>⟨h,rfl⟩,fun h=>h.1⟩))
  refine ⟨S.flat,S.lk,S.k1,S.k2,S.fine,S.lt,fun r h=>?_,fun r h q=>?_,fun n hn=>((hm n).mp hn).elim (S.wl n) fun z=>z.1 ▸ Nat.lt_succ_self c⟩
  · rcases h with _ | ⟨_,h⟩
    · exact ⟨Nat.lt_succ_self c,hr,(hm c).trans ⟨fun z=>z.elim (fun z=>absurd z hw) fun z=>z.2,fun z=>.inr ⟨rfl,z⟩⟩⟩
    · exact ⟨(S.rows r h).1,(S.rows r h).2.1,(hm _).trans ⟨fun z=>z.elim (S.rows r h).2.2.mp fun z=>absurd (hc r h) (z.1 ▸ Nat.lt_irrefl _),fun z=>.inl ((S.rows r h).2.2.mpr z)⟩⟩
  · rcases h with _ | ⟨_,h⟩
    · exact hu q
    · exact S.wu r h q
structure Gt (all:List (Nat × Bool × Nat)) (X:LB) (c':Nat) (L:Evs) (bd:Bool) (I:Inf) (X':LB) (all':List (Nat × Bool × Nat)):Prop where
  ls:LS all' c' X' (L ++ I.ev) (bd || I.bad)
  left:X'.left = X.left ++ I.lf
  ended:X'.ended = X.ended ++ I.el.map (·.num)
  sub:∀ r ∈ all,r ∈ all'
  el:∀ e ∈ I.el,(e.num,e.w,e.rt) ∈ all'
theorem Gt.refl {all:List (Nat × Bool × Nat)} {X:LB} {c:Nat} {L:Evs} {bd:Bool} {kd:Kn} (S:LS all c X L bd):Gt all X c L bd (.of kd) X all:=by
  refine ⟨?_,(List.append_nil _).symm,(List.append_nil _).symm,fun _ h=>h,fun _ h=>(nomatch h)⟩
  show LS all c X (L ++ []) (bd || false)
  rw [List.append_nil,Bool.or_false]; exact S
theorem Gt.seq {all all1 all2:List (Nat × Bool × Nat)} {X X1 X2:LB} {c1 c2:Nat} {L:Evs} {bd:Bool} {I J:Inf} (x:Gt all X c1 L bd I X1 all1) (y:Gt all1 X1 c2 (L ++ I.ev) (bd || I.bad) J X2 all2):Gt all X c2 L bd (.seq I J) X2 all2 :=
  ⟨by have h:=y.ls; rw [List.append_assoc,Bool.or_assoc] at h; exact h,by rw [y.left,x.left,List.append_assoc]; rfl,by rw [y.ended,x.ended,List.append_assoc,<- List.map_append]; rfl,fun r h=>y.sub r (x.sub r h),fun e he=>(List.mem_append.mp he).elim (fun h=>y.sub _ (x.el e h)) (y.el e)⟩
end Mine
end
section
set_option maxHeartbeats 1000000
set_option maxRecDepth 20000
set_option genSizeOf false
namespace Mine
structure Gath (k N B m:Nat) (g:Nat -> AO) (σ:Store) (X:LB) (all:List (Nat × Bool × Nat)) (ctx:List Row) (c:Nat) (L:Evs) (bd:Bool) (p:Pl) (rt:Nat):Prop where
  fuel:k + p.ht <= N
  I:LI B m g σ X
  S:LS all c X L bd
  cx:∀ r ∈ ctx,(r.num,r.w,r.rt) ∈ all
  wf:p.wf ctx c rt
  hm:m + p.sz <= 890
noncomputable def gBody (x:String):List St:=[.ex (.call (.g "_law_gather") [.var "book",.var x])]
noncomputable def PG (p:Pl):Prop:=p.isS = true -> ∀ {N B m:Nat} {g:Nat -> AO} {σ:Store} {X:LB} {all:List (Nat × Bool × Nat)} {ctx:List Row} {c:Nat} {L:Evs} {bd:Bool} {Q:V -> Store -> Prop} {R:Bool -> Store -> Prop},Gath 4 N B m g σ X all ctx c L bd p c ->
  (∀ s X' all',LI B (m + p.sz) g s X' -> Gt all X (p.nx c) L bd (p.inf ctx c c) X' all' -> Q .none s) -> Run (callF tab N "_law_gather" [.obj (B + 5),p.v]) σ Q R
noncomputable def PLG (i:Pl):Prop:=i.isL = true -> ∀ {x:String} {n B m:Nat} {g:Nat -> AO} {σ:Store} {X:LB} {all:List (Nat × Bool × Nat)} {ctx:List Row} {c:Nat} {L:Evs} {bd:Bool} {ρ:Env} {Q:QF} {R:Bool -> Store -> Prop} {P:Env -> Prop},Gath 4 n B m g σ X all ctx c L bd i 0 -> (∀ ρ v,P ρ -> (P (ρ.set x v) /\ (ρ.set x v) "book" = some (.obj (B + 5)))) -> P ρ ->
  (∀ s X' all' ρ',LI B (m + i.sz) g s X' -> Gt all X (i.nx c) L bd (i.inf ctx c 0) X' all' -> P ρ' -> Q .next ρ' s) -> ForP (callF tab n) R x (gBody x) (its i.v) ρ Q σ
noncomputable def HG (x:Pl):Prop:=x.isV = true -> ∀ {N B m:Nat} {g:Nat -> AO} {σ:Store} {X:LB} {all:List (Nat × Bool × Nat)} {ctx:List Row} {c a rt:Nat} {w:Bool} {L:Evs} {bd:Bool} {Q:V -> Store -> Prop} {R:Bool -> Store -> Prop},Gath 4 N B m g σ X all ctx c L bd x rt -> (a,w,rt) ∈ all ->
  (∀ s X' all',LI B (m + x.sz + 1) g s X' -> Gt all X (x.nx c) L bd ((x.inf ctx c rt).hand x.isNo w rt) X' all' -> Q .none s) -> Run (callF tab (N + 1) "_law_handed" [.obj (B + 5),.int a,x.v]) σ Q R
theorem plg_cons {p r:Pl} (hp:PG p) (hr:PLG r):PLG (.cons p r):=fun _ {x n B m g σ X all ctx c L bd ρ Q R P} A hP h0 h=>by
  have e:m + p.sz + r.sz = m + (Pl.cons p r).sz:=Nat.add_assoc _ _ _
  have hm:m + p.sz + r.sz <= 890:=e ▸ A.hm
  refine fl_cons ?_
  refine opt_get (hP _ _ h0).2 ?_
  refine opt_get (if_pos rfl) ?_
  refine run_fn rfl ?_
  refine hp A.wf.1 ⟨Nat.le_trans (Nat.add_le_add_left (Nat.le_max_left _ _) 4) A.fuel,A.I,A.S,A.cx,A.wf.2.2.1,Nat.le_trans (Nat.le_add_right _ _) hm⟩ fun s X1 all1 I1 G1=>?_
  refine hr A.wf.2.1 ⟨Nat.le_trans (Nat.add_le_add_left (Nat.le_max_right _ _) 4) A.fuel,I1,G1.ls,fun q hq=>G1.sub _ (A.cx q hq),A.wf.2.2.2,hm⟩ hP (hP _ _ h0).1 fun s X2 all2 ρ' I2 G2 h2=>?_
  exact h s X2 all2 ρ' (e ▸ I2) (G1.seq G2) h2
noncomputable def Inf.ringL (c rt:Nat) (w:Bool) (x:Inf):Inf:=⟨ringE rt w ++ x.ev,x.bad,x.lf,x.el ++ [⟨c,w,rt,x.lf.contains c⟩],.nv⟩
theorem ring_gather {i:Pl} (hi:PLG i) {k N B m c rt:Nat} {w:Bool} {lab:Option String} {g:Nat -> AO} {σ:Store} {X:LB} {all:List (Nat × Bool × Nat)} {ctx:List Row} {L:Evs} {bd:Bool} {Q:V -> Store -> Prop} {R:Bool -> Store -> Prop} (hN:5 + i.ht <= N) (I:LI B m g σ X) (S:LS all (c + 1) X L bd) (hall:∀ r ∈ all,r.1 < c) (hr:X.root c = rt) (hw:c ∉ X.whiles) (hctx:∀ r ∈ ctx,(r.num,r.w,r.rt) ∈ all) (wf:(Pl.ring k w lab i).wf ctx c rt) (hm:m + i.sz + 3 <= 890)
    (h:∀ s X' all',LI B (m + i.sz + 3) g s X' -> Gt all X (i.nx (c + 1)) L bd (.ringL c rt w (i.inf (ctx ++ [⟨c,lab,w,rt⟩]) (c + 1) 0)) X' all' -> Q .none s) :
    Run (callF tab N "_law_gather" [.obj (B + 5),(Pl.ring k w lab i).v]) σ Q R:=by
  obtain ⟨rfl,hl,wf⟩:=wf
  obtain ⟨n,rfl,hn⟩:=fuel (c:=4 + i.ht) (by rw [Nat.add_right_comm]; exact hN)
  have hm8:m + 2 + i.sz <= 889:=by rw [Nat.add_right_comm]; exact Nat.le_of_succ_le_succ hm
  have hk:m + 2 <= 889:=Nat.le_trans (Nat.le_add_right _ _) hm8
  show Run (callF tab (n + 1) "_law_gather" [.obj (B + 5),.tup [.str "ring",.int k,.bool w,labV lab,i.v]]) σ Q R
  rw [Pl.l_v hl]
  have rest:∀ {s1:Store} {X1:LB} {ρ:Env},LI B (m + 2) g s1 X1 -> LS ((k,w,rt) :: all) (k + 1) X1 (L ++ ringE rt w) bd -> X1.left = X.left -> X1.ended = X.ended -> ρ "book" = some (.obj (B + 5)) -> ρ "plan" = some (.tup [.str "ring",.int k,.bool w,labV lab,.lst (its i.v)]) ->
      wpB (callF tab n) R [.forS "one" false (.idx (.var "plan") (.k (.int 4))) (gBody "one"),.ex (.meth (.idx (.var "book") (.k (.str "ended"))) "append" [.idx (.var "plan") (.k (.int 1))])] ρ (nextQ (fun ρ s=>wpB (callF tab n) R [] ρ (finQ Q) s) (finQ Q)) s1:=fun {s1 X1 ρ} I1 S1 e1 e2 h1 h2=>by
    refine opt_get h2 ?_
    refine hi hl (x := "one") (P:=fun ρ=>ρ "book" = some (.obj (B + 5)) /\ ρ "plan" = some (.tup [.str "ring",.int k,.bool w,labV lab,.lst (its i.v)])) ⟨hn,I1,S1,fun r hr=>(List.mem_append.mp hr).elim (fun hr=>.tail _ (hctx r hr)) fun z=>List.mem_singleton.mp z ▸ .head _,wf,Nat.le_trans hm8 (by decide)⟩ (fun ρ v z=>⟨z,z.1⟩) ⟨h1,h2⟩ fun s X' all' ρ' I2 G hρ=>?_
    refine opt_get hρ.1 ?_
    refine run_key I2.b5 rfl ?_
    refine run_at I2.b4 ?_
    refine opt_get hρ.2 ?_
    refine run_append I2.b4 (by rw [List.length_map]; exact Nat.lt_of_le_of_lt (Nat.le_trans I2.sh.2.2.2.2 hm8) (by decide)) ?_
    have I3:=I2.addEnd k
    rw [Nat.add_right_comm m 2] at I3
    refine h _ _ all' I3 ⟨?_,G.left.trans (congrArg (· ++ (i.inf (ctx ++ [⟨k,lab,w,rt⟩]) (k + 1) 0).lf) e1),?_,fun r hr=>G.sub r (.tail _ hr),fun e he=>(List.mem_append.mp he).elim (G.el e) fun z=>List.mem_singleton.mp z ▸ G.sub _ (.head _)⟩
    · have ls:=G.ls.notes X'.left (X'.ended ++ [k])
      rw [List.append_assoc] at ls
      exact ls
    · show X'.ended ++ [k] = X.ended ++ ((i.inf (ctx ++ [⟨k,lab,w,rt⟩]) (k + 1) 0).el ++ [(⟨k,w,rt,_⟩:En)]).map En.num
      rw [G.ended,e2,List.map_append,List.append_assoc]; rfl
  rcases w with _ | _
  · refine run_call rfl rfl ?_
    refine rest (ρ:=Env.sets (fun _=>none) f_law_gather.params [.obj (B + 5),.tup [.str "ring",.int k,.bool false,labV lab,.lst (its i.v)]]) (I.mono (Nat.le_add_right m 2)) ?_ rfl rfl rfl rfl
    rw [show L ++ ringE rt false = L from List.append_nil L]
    exact S.enter (w:=false) (ws:=X.whiles) hall hr hw rfl fun h=>no_tf h
  · refine run_call rfl rfl ?_
    refine run_key I.b5 rfl ?_
    refine run_at I.b3 ?_
    refine run_append I.b3 (by rw [List.length_map]; exact Nat.lt_of_le_of_lt (Nat.le_trans I.sh.2.2.2.1 (Nat.le_trans (Nat.le_add_right m 2) hk)) (by decide)) ?_
    refine run_fn rfl (kind_run (k:=.unit) (Nat.le_trans (Nat.le_trans (by decide) (Nat.le_add_right 4 _)) hn) (Nat.le_trans (Nat.le_of_succ_le hk) (by decide)) (I.addWh k) S.flat fun s I1=>?_)
    have S1:=S.mark (k:=.unit) (Nat.lt_succ_self k)
    rw [hr] at S1
    have S2:=S1.enter (w:=true) (ws:=X.whiles ++ [k]) hall hr hw rfl fun _=>List.mem_append_right _ (.head _)
    refine next_go (nil_go (next_go ?_))
    exact rest I1 S2 rfl rfl rfl rfl
end Mine
end
section
set_option maxHeartbeats 1000000
set_option maxRecDepth 20000
set_option genSizeOf false
namespace Mine
theorem Gt.kd {all all':List (Nat × Bool × Nat)} {X X':LB} {c:Nat} {L:Evs} {bd:Bool} {I J:Inf} (G:Gt all X c L bd I X' all') (h1:J.bad = I.bad) (h2:J.lf = I.lf) (h3:J.el = I.el) (h4:∀ e,e ∈ L ++ I.ev ↔ e ∈ L ++ J.ev):Gt all X c L bd J X' all' :=
  ⟨h1 ▸ G.ls.perm h4,h2 ▸ G.left,h3 ▸ G.ended,G.sub,h3 ▸ G.el⟩
theorem pg_ifp {i:Pl} (hi:PLG i):PG (.ifp i):=fun _ {N B m g σ X all ctx c L bd Q R} A h=>by
  obtain ⟨n,rfl,hn⟩:=fuel (c:=4 + i.ht) (Nat.le_trans (Nat.le_add_right _ 5) A.fuel)
  obtain ⟨hl,wf⟩:=A.wf
  have hm:m + i.sz <= m + (1 + i.sz):=Nat.add_le_add_left (Nat.le_add_left _ _) m
  show Run (callF tab (n + 1) "_law_gather" [.obj (B + 5),.tup [.str "if",i.v]]) σ Q R
  rw [Pl.l_v hl]
  refine run_call rfl rfl ?_
  refine hi hl (x := "one") (P:=fun ρ=>ρ "book" = some (.obj (B + 5))) ⟨hn,A.I,A.S,A.cx,wf,Nat.le_trans hm A.hm⟩ (fun ρ v z=>⟨z,z⟩) rfl fun s X' all' ρ' I2 G _=>?_
  exact h s X' all' (I2.mono hm) (G.kd rfl rfl rfl fun _=>Iff.rfl)
theorem pg_leaf {p:Pl} {N B m:Nat} {g:Nat -> AO} {σ:Store} {X:LB} {all:List (Nat × Bool × Nat)} {ctx:List Row} {c:Nat} {L:Evs} {bd:Bool} {Q:V -> Store -> Prop} (A:Gath 4 N B m g σ X all ctx c L bd p c) (h1:p.nx c = c) (h2:p.inf ctx c c = .of .nv)
    (h:∀ s X' all',LI B (m + p.sz) g s X' -> Gt all X (p.nx c) L bd (p.inf ctx c c) X' all' -> Q .none s):Q .none σ:=h σ X all (A.I.mono (Nat.le_add_right _ _)) (by rw [h1,h2]; exact .refl A.S)
theorem pg_ring {i:Pl} {k:Nat} {w:Bool} {lab:Option String} (hi:PLG i):PG (.ring k w lab i):=fun _ {N B m g σ X all ctx c L bd Q R} A h=>by
  obtain ⟨F1,F2,F3⟩:=A.S.free
  have hm:m + i.sz + 3 <= m + (4 + i.sz):=Nat.le_trans (Nat.le_succ _) (Nat.le_of_eq ((Nat.add_assoc m i.sz 4).trans (congrArg (m + ·) (Nat.add_comm _ _))))
  refine ring_gather hi (Nat.le_trans (by show 5 + i.ht <= 4 + i.ht + 6; rw [Nat.add_right_comm]; exact Nat.add_le_add_right (by decide) _) A.fuel) A.I (A.S.mono (Nat.le_succ c)) (fun r hr=>(A.S.rows r hr).1) (rt:=c) (by unfold LB.root; rw [F1]; rfl) F3 A.cx A.wf (Nat.le_trans hm A.hm) fun s X' all' I' G=>?_
  refine h s X' all' (I'.mono hm) (G.kd rfl rfl rfl fun e=>?_)
  show _ ↔ e ∈ L ++ (preE c c w ++ _)
  rw [show preE c c w = ringE c w by unfold preE; rw [beq_self_eq_true,Bool.and_true]]
  exact Iff.rfl
theorem pg_brk {x:Pl} (hx:HG x) {gl:Nat} {lab:Option String}:PG (.brk gl lab x):=fun _ {N B m g σ X all ctx c L bd Q R} A h=>by
  obtain ⟨n,rfl,hn⟩:=fuel (c:=4 + x.ht + 2) A.fuel
  obtain ⟨n,rfl,hn'⟩:=fuel (c:=4 + x.ht + 1) hn
  obtain ⟨row,hp,rfl,hv,hw⟩:=A.wf
  have eX:(Pl.brk row.num lab x).inf ctx c c = (x.inf ctx c row.rt).brk x.isNo row:=congrArg (fun o=>brkAt x.isNo o fun row=>x.inf ctx c row.rt) hp
  rw [eX] at h
  have e:m + 1 + x.sz + 1 = m + (Pl.brk row.num lab x).sz:=(Nat.add_right_comm (m + 1) x.sz 1).trans (Nat.add_assoc m 2 x.sz)
  have hm:m + 1 + x.sz <= 890:=Nat.le_of_succ_le (show m + 1 + x.sz + 1 <= 890 from e ▸ A.hm)
  have I:=A.I
  refine run_call rfl rfl ?_
  refine run_key I.b5 rfl ?_
  refine run_at I.b2 ?_
  refine run_append I.b2 (by rw [List.length_map]; exact Nat.lt_of_le_of_lt (Nat.le_trans I.sh.2.2.1 (Nat.le_trans (Nat.le_add_right m _) A.hm)) (by decide)) ?_
  refine run_fn rfl ?_
  refine hx hv ⟨Nat.le_of_succ_le hn',I.addLeft row.num,A.S.notes _ _,A.cx,hw,hm⟩ (A.cx row (pick_mem hp)) fun s X' all' I' G=>?_
  exact h s X' all' (e ▸ I') ⟨G.ls,G.left.trans (List.append_assoc _ [row.num] _),G.ended,G.sub,G.el⟩
theorem pl_data (p:Pl):V.isData p.v = true /\ V.areData (its p.v) = true:=by
  have l0:∀ {l:Option String},V.isData (labV l) = true:=fun {l}=>by rcases l with _ | _ <;> rfl
  have i0:∀ {i:Pl},V.isData i.v = true -> V.areData [i.v] = true:=fun h=>by show (V.isData _ && true) = true; rw [h]; rfl
  have t0:∀ {l:Option String} {i:Pl},V.isData i.v = true -> V.areData [labV l,i.v] = true:=fun {l i} h=>by show (V.isData (labV l) && V.areData [i.v]) = true; rw [l0,i0 h]; rfl
  induction p with
  | nil=>exact ⟨rfl,rfl⟩
  | cons p r hp hr =>
    have:V.areData (p.v :: its r.v) = true:=by show (V.isData p.v && V.areData (its r.v)) = true; rw [hp.1,hr.2]; rfl
    exact ⟨this,this⟩
  | ring n w lab i hi=>exact ⟨t0 hi.1,t0 hi.1⟩
  | ifp i hi=>exact ⟨i0 hi.1,i0 hi.1⟩
  | brk g lab x hx=>exact ⟨t0 hx.1,t0 hx.1⟩
  | cont lab=>exact ⟨by rcases lab with _ | _ <;> rfl,by rcases lab with _ | _ <;> rfl⟩
  | _=>exact ⟨rfl,rfl⟩
end Mine
end
section
set_option maxHeartbeats 1000000
set_option maxRecDepth 20000
set_option genSizeOf false
namespace Mine
theorem run_inL {σ:Store} {Q:V -> Store -> Prop} {R:Bool -> Store -> Prop} {j:Nat} {l:List V} {x:V} {t:Bool} (h:At σ j (.list l)) (e:vin x l = M.ret t) (z:Q (.bool t) σ):Run (doCmp .isin x (.obj j)) σ Q R :=
  run_at h (show Run (isB (vin x l)) σ Q R by unfold isB; rw [e]; exact z)
section
variable {n B m c a rt:Nat} {w:Bool} {g:Nat -> AO} {σ:Store} {X:LB} {all:List (Nat × Bool × Nat)} {ctx:List Row} {L:Evs} {bd:Bool} {x:Pl} {k:Kd} {Q:V -> Store -> Prop} {R:Bool -> Store -> Prop}
set_option tactic.hygienic true in
theorem hg_kind (A:Gath 4 n B m g σ X all ctx c L bd x rt) (ha:(a,w,rt) ∈ all) (hz:x.sz = 0) (hc:x.nx c = c) (hX:(x.inf ctx c rt).hand x.isNo w rt = ⟨ringE rt false ++ (match w with | true=>[] | false=>[(rt,k)]),false,[],[],.nv⟩) (hk:w = true -> k = .unit)
    (h:∀ s X' all',LI B (m + x.sz + 1) g s X' -> Gt all X (x.nx c) L bd ((x.inf ctx c rt).hand x.isNo w rt) X' all' -> Q .none s):Run (callF tab n "_law_kind" [.obj (B + 5),.int a,.str k.s]) σ Q R:=by
  have hn2:2 <= n:=Nat.le_trans (Nat.le_trans (by decide) (Nat.le_add_right 4 _)) A.fuel
  obtain ⟨r1,r2,r3⟩:=A.S.rows _ ha
  refine kind_run (k:=k) hn2 (Nat.le_trans (Nat.le_trans (Nat.le_add_right m _) A.hm) (by decide)) A.I A.S.flat fun s I=>?_
  have S:=A.S.mark (k:=k) r1
  rw [r2] at S
  rw [hz,hc,hX] at h
  refine h s _ all I ⟨?_,(List.append_nil _).symm,(List.append_nil _).symm,fun _ h=>h,fun _ h=>(nomatch h)⟩
  show LS all c _ (L ++ _) (bd || false)
  rw [Bool.or_false]
  rcases w with _ | _
  · exact S
  · cases hk rfl
    refine S.perm fun e=>?_
    show _ ↔ e ∈ L ++ []
    rw [List.append_nil]
    exact ⟨fun h=>(List.mem_append.mp h).elim id fun z=>List.mem_singleton.mp z ▸ A.S.wu _ ha rfl,List.mem_append_left _⟩
theorem hg_no:HG .no:=fun _ {N B m g σ X all ctx c a rt w L bd Q R} A ha h=>by
  refine run_call rfl rfl ?_
  refine run_key A.I.b5 rfl ?_
  refine run_inL A.I.b3 vin_nat ?_
  have e:X.whiles.contains a = w:=Bool.eq_iff_iff.mpr (List.contains_iff_mem.trans (A.S.rows _ ha).2.2)
  rw [e]
  rcases w with _ | _
  · exact run_fn rfl (hg_kind (k:=.unit) A ha rfl rfl rfl (fun _=>rfl) h)
  · exact run_fn rfl (hg_kind (k:=.unit) A ha rfl rfl rfl (fun _=>rfl) h)
theorem hg_val (hno:x.isNo = false) (hv:isNone x.v = M.ret false) (A:Gath 4 n B m g σ X all ctx c L bd x rt) (ha:(a,w,rt) ∈ all) (hlt:c <= x.nx c)
    (h:∀ s X' all',LI B (m + x.sz + 1) g s X' -> Gt all X (x.nx c) L bd ((x.inf ctx c rt).hand x.isNo w rt) X' all' -> Q .none s)
    (hw:w = false -> ∀ ρ:Env,ρ "book" = some (.obj (B + 5)) -> ρ "goal" = some (.int a) -> ρ "value" = some x.v -> wpB (callF tab n) R [.ifS (.cmp .isin (.var "value") (.lstE false [.k (.str "u8"),.k (.str "bool")])) [.ex (.call (.g "_law_kind") [.var "book",.var "goal",.var "value"])] [.ifS (.orE [.cmp .is (.var "value") (.k .none),.cmp .eq (.var "value") (.k (.str "unit"))]) [.ex (.call (.g "_law_kind") [.var "book",.var "goal",.k (.str "unit")])] [.ifS (.cmp .eq (.idx (.var "value") (.k (.int 0))) (.k (.str "ring"))) [.ex (.call (.g "_law_join") [.var "book",.idx (.var "value") (.k (.int 1)),.var "goal"]),.ex (.call (.g "_law_gather") [.var "book",.var "value"])] []]]] ρ (nextQ (fun ρ s=>wpB (callF tab n) R [] ρ (finQ Q) s) (finQ Q)) σ) :
    Run (callF tab (n + 1) "_law_handed" [.obj (B + 5),.int a,x.v]) σ Q R:=by
  refine run_call rfl rfl ?_
  refine run_key A.I.b5 rfl ?_
  refine run_inL A.I.b3 vin_nat ?_
  have e:X.whiles.contains a = w:=Bool.eq_iff_iff.mpr (List.contains_iff_mem.trans (A.S.rows _ ha).2.2)
  rw [e]
  rcases w with _ | _
  · exact hw rfl (Env.sets (fun _=>none) f_law_handed.params [.obj (B + 5),.int a,x.v]) rfl rfl rfl
  · refine run_notB hv ?_
    refine run_setD A.I.b5 rfl ?_
    rw [hno] at h
    refine h _ _ all ((A.I.putFine false).mono (Nat.le_trans (Nat.le_add_right m _) (Nat.le_succ _))) ⟨?_,(List.append_nil _).symm,(List.append_nil _).symm,fun _ h=>h,fun _ h=>(nomatch h)⟩
    show LS all _ _ (L ++ []) (bd || true)
    rw [List.append_nil,Bool.or_true]
    exact A.S.worse.mono hlt
theorem hg_u8:HG .u8:=fun _ {N B m g σ X all ctx c a rt w L bd Q R} A ha h=>hg_val rfl rfl A ha (Nat.le_refl _) h fun hw ρ h1 h2 h3=>by
  subst hw
  refine opt_get h3 ?_
  refine opt_get h1 ?_
  refine opt_get h2 ?_
  refine opt_get h3 ?_
  exact run_fn rfl (hg_kind (k:=.u8) A ha rfl rfl rfl (fun h=>no_tf h) h)
theorem hg_bool:HG .bool:=fun _ {N B m g σ X all ctx c a rt w L bd Q R} A ha h=>hg_val rfl rfl A ha (Nat.le_refl _) h fun hw ρ h1 h2 h3=>by
  subst hw
  refine opt_get h3 ?_
  refine opt_get h1 ?_
  refine opt_get h2 ?_
  refine opt_get h3 ?_
  exact run_fn rfl (hg_kind (k:=.bool) A ha rfl rfl rfl (fun h=>no_tf h) h)
theorem hg_unit:HG .unit:=fun _ {N B m g σ X all ctx c a rt w L bd Q R} A ha h=>hg_val rfl rfl A ha (Nat.le_refl _) h fun hw ρ h1 h2 h3=>by
  subst hw
  refine opt_get h3 ?_
  refine opt_get h3 ?_
  refine opt_get h3 ?_
  refine opt_get h1 ?_
  refine opt_get h2 ?_
  exact run_fn rfl (hg_kind (k:=.unit) A ha rfl rfl rfl (fun h=>no_tf h) h)
theorem hg_ret:HG .ret:=fun _ {N B m g σ X all ctx c a rt w L bd Q R} A ha h=>hg_val rfl rfl A ha (Nat.le_refl _) h fun hw ρ h1 h2 h3=>by
  subst hw
  refine opt_get h3 ?_
  refine opt_get h3 ?_
  refine opt_get h3 ?_
  refine opt_get h3 ?_
  exact h _ _ _ (A.I.mono (Nat.le_add_right _ 2)) (.refl A.S)
end
theorem vin_tupS {l:List V} (h:V.isData (.tup l) = true):vin (.tup l) [.str "u8",.str "bool"] = M.ret false:=by
  unfold vin; rw [h]
  show (if (true && true && (V.flat (.tup l) || true)) = true then _ else _) = _
  rw [Bool.or_true]; rfl
end Mine
end
section
set_option maxHeartbeats 1000000
set_option maxRecDepth 20000
set_option genSizeOf false
namespace Mine
theorem ring_ev {c rt:Nat} {w:Bool} {x:Inf} (h:rt < c):(Inf.ring c rt w x).ev ++ (Inf.ring c rt w x).kd.ev rt = x.ev ++ ringE rt w:=by
  unfold Inf.ring preE
  rw [beq_eq_false_iff_ne.mpr (Nat.ne_of_lt h),Bool.and_false]
  rcases w with _ | _
  · dsimp only
    rcases x.lf.contains c with _ | _ <;> rfl
  · rfl
theorem hg_ring {i:Pl} {k:Nat} {w':Bool} {lab:Option String} (hi:PLG i):HG (.ring k w' lab i):=fun _ {N B m g σ X all ctx c a rt w L bd Q R} A ha h=>hg_val rfl rfl A ha (Pl.le_nx _ _) h fun hw ρ h1 h2 h3=>by
  subst hw
  have data:V.isData (.tup [.str "ring",.int k,.bool w',labV lab,i.v]) = true:=(pl_data (.ring k w' lab i)).1
  have h3:ρ "value" = some (.tup [.str "ring",.int k,.bool w',labV lab,i.v]):=h3
  obtain ⟨rfl,hl,hwf⟩:=A.wf
  obtain ⟨r1,r2,r3⟩:=A.S.rows _ ha
  have r1:a < k:=r1
  obtain ⟨F1,F2,F3⟩:=A.S.free
  have hrt:rt < k:=(show X.root a = rt from r2) ▸ A.S.root_lt r1
  have hn:5 + i.ht <= N:=Nat.le_trans (by show 5 + i.ht <= 4 + i.ht + 6; rw [Nat.add_right_comm]; exact Nat.add_le_add_right (by decide) _) A.fuel
  have em:m + 1 + i.sz + 3 = m + (4 + i.sz):=(congrArg (· + 3) (Nat.add_right_comm m 1 i.sz)).trans ((Nat.add_assoc m i.sz 4).trans (congrArg (m + ·) (Nat.add_comm _ _)))
  have hm:m <= 900:=Nat.le_trans (Nat.le_trans (Nat.le_add_right m _) A.hm) (by decide)
  refine opt_get h3 ?_
  refine run_isB (vin_tupS data) ?_
  refine opt_get h3 ?_
  refine opt_get h3 ?_
  refine run_isB (veq_tupS data) ?_
  refine opt_get h3 ?_
  refine opt_get h1 ?_
  refine opt_get h3 ?_
  refine opt_get h2 ?_
  refine run_fn rfl (join_run (a:=k) (b:=a) (Nat.le_trans (Nat.le_trans (by decide) (Nat.le_add_right 5 _)) hn) hm A.I A.S.flat (by unfold LB.root; rw [F1]; rfl) F2 (Nat.ne_of_gt (A.S.root_lt r1)) fun s I1=>?_)
  obtain ⟨S1,o2⟩:=A.S.join r1
  refine opt_get h1 ?_
  refine opt_get h3 ?_
  refine run_fn rfl ?_
  refine ring_gather (k:=k) (lab:=lab) (w:=w') hi hn I1 S1 (fun r hr=>(A.S.rows r hr).1) (o2.trans r2) F3 A.cx A.wf (em ▸ A.hm) fun s X' all' I' G=>?_
  refine h s X' all' (I'.mono (em ▸ Nat.le_succ _)) (Gt.kd ⟨G.ls,G.left,G.ended,G.sub,G.el⟩ rfl rfl rfl fun e=>?_)
  show _ ↔ e ∈ L ++ ((Inf.ring k rt w' _).ev ++ (Inf.ring k rt w' _).kd.ev rt)
  rw [ring_ev hrt]
  exact (List.Perm.append_left L List.perm_append_comm).mem_iff
theorem pl_ga (p:Pl):PG p /\ HG p /\ PLG p:=by
  induction p with
  | nil=>exact ⟨fun h=>no_tf h,fun h=>no_tf h,fun _ {x n B m g σ X all ctx c L bd ρ Q R P} A hP h0 h=>fl_nil (h _ _ _ _ A.I (.refl A.S) h0)⟩
  | cons p r hp hr=>exact ⟨fun h=>no_tf h,fun h=>no_tf h,plg_cons hp.1 hr.2.2⟩
  | ring n w lab i hi=>exact ⟨pg_ring hi.2.2,hg_ring hi.2.2,fun h=>no_tf h⟩
  | ifp i hi=>exact ⟨pg_ifp hi.2.2,fun h=>no_tf h,fun h=>no_tf h⟩
  | brk g lab x hx=>exact ⟨pg_brk hx.2.1,fun h=>no_tf h,fun h=>no_tf h⟩
  | cont lab =>
    refine ⟨fun _ {N B m g σ X all ctx c L bd Q R} A h=>?_,fun h=>no_tf h,fun h=>no_tf h⟩
    obtain ⟨n,rfl,_⟩:=fuel (c:=3) A.fuel
    exact run_call rfl rfl (pg_leaf A rfl rfl h)
  | ret =>
    refine ⟨fun _ {N B m g σ X all ctx c L bd Q R} A h=>?_,hg_ret,fun h=>no_tf h⟩
    obtain ⟨n,rfl,_⟩:=fuel (c:=3) A.fuel
    exact run_call rfl rfl (pg_leaf A rfl rfl h)
  | no=>exact ⟨fun h=>no_tf h,hg_no,fun h=>no_tf h⟩
  | u8=>exact ⟨fun h=>no_tf h,hg_u8,fun h=>no_tf h⟩
  | bool=>exact ⟨fun h=>no_tf h,hg_bool,fun h=>no_tf h⟩
  | unit=>exact ⟨fun h=>no_tf h,hg_unit,fun h=>no_tf h⟩
end Mine
end
section
set_option maxHeartbeats 1000000
set_option maxRecDepth 20000
set_option genSizeOf false
namespace Mine
noncomputable def Pl.nvL (lf:List Nat):Pl -> Bool
  | ring n w _ _=>!w && !lf.contains n
  | brk _ _ _=>true
  | cont _=>true
  | ret=>true
  | cons p r=>p.nvL lf || r.nvL lf
  | _=>false
noncomputable def Pl.isT:Pl -> Bool
  | ring _ _ _ _=>true
  | u8=>true
  | _=>false
theorem run_ninL {σ:Store} {Q:V -> Store -> Prop} {R:Bool -> Store -> Prop} {j:Nat} {l:List V} {x:V} {t:Bool} (h:At σ j (.list l)) (e:vin x l = M.ret t) (z:Q (.bool !t) σ):Run (doCmp .notin x (.obj j)) σ Q R :=
  run_at h (show Run (notB (vin x l)) σ Q R from run_notB e z)
section
variable {N B m:Nat} {g:Nat -> AO} {σ:Store} {X:LB} {R:Bool -> Store -> Prop}
theorem pn_run {p:Pl} {Q:V -> Store -> Prop} (hp:p.isS = true) (hN:1 <= N) (I:LI B m g σ X) (h:Q (.bool (p.nvL X.left)) σ):Run (callF tab N "_law_is_never" [.obj (B + 5),p.v]) σ Q R:=by
  obtain ⟨n,rfl,hn⟩:=fuel hN
  rcases p with _ | _ | ⟨k,w,_,_⟩ | _ | _ | _ | _ | _ | _ | _ | _
  · exact no_tf hp
  · exact no_tf hp
  · refine run_call rfl rfl ?_
    rcases w with _ | _
    · refine run_key I.b5 rfl ?_
      refine run_ninL I.b2 vin_nat ?_
      exact h
    · exact h
  · exact run_call rfl rfl h
  · exact run_call rfl rfl h
  · exact run_call rfl rfl h
  · exact run_call rfl rfl h
  all_goals exact no_tf hp
theorem pns_run {n:Nat} {ρ:Env} (hN:1 <= n) (I:LI B m g σ X) (hb:ρ "book" = some (.obj (B + 5))) {i:Pl}:i.isL = true -> ∀ {ctx c rt},i.wf ctx c rt -> ∀ {Q:List V -> Store -> Prop},(∀ l,V.areData l = true -> l.length <= i.sz -> l.isEmpty = (!i.nvL X.left) -> Q l σ) ->
    Run (mapItems (cmpF (callF tab n) ρ "plan" (.var "plan") (some (.call (.g "_law_is_never") [.var "book",.var "plan"]))) (its i.v)) σ Q R:=by
  induction i with
  | nil=>exact fun _ _ _ _ _ _ h=>h [] rfl (Nat.le_refl _) rfl
  | cons p r _ ih =>
    intro _ ctx c rt hw Q h
    refine mi_if ?_
    refine opt_get hb ?_
    refine run_fn rfl (pn_run hw.1 hN I ?_)
    have h:∀ l,V.areData l = true -> l.length <= p.sz + r.sz -> l.isEmpty = (!(p.nvL X.left || r.nvL X.left)) -> Q l σ:=h
    generalize p.nvL X.left = t at h ⊢
    rcases t with _ | _
    · exact ih hw.2.1 hw.2.2.2 fun l h1 h2 h3=>h l h1 (Nat.le_trans h2 (Nat.le_add_left _ _)) h3
    · exact ih hw.2.1 hw.2.2.2 fun l h1 h2 h3=>h (p.v :: l) (by show (V.isData p.v && V.areData l) = true; rw [(pl_data p).1,h1]; rfl) (Nat.le_trans (Nat.add_le_add h2 (Pl.sz_pos hw.1)) (Nat.le_of_eq (Nat.add_comm _ _))) rfl
  | _=>exact fun h=>no_tf h
end
section
variable {C:Oracle} {R:Bool -> Store -> Prop} {Q:QF} {ρ:Env} {s:Store} {b:List St} {k i j:Nat} {x:String} {l:List V}
set_option tactic.hygienic true in
theorem fo_end (h:At s j (.list l)) (e:l[i]? = none) (z:Q .next ρ s):ForO C R x b j (k + 1) i ρ Q s :=
  ⟨run_at h (show Run (atOpt l[i]? _ _) s _ R by rw [e]; exact z)⟩
theorem fo_turn {v:V} (h:At s j (.list l)) (e:l[i]? = some v) (z:wpB C R b (ρ.set x v) (turnQ (fun ρ s=>ForO C R x b j k (i + 1) ρ Q s) Q) s):ForO C R x b j (k + 1) i ρ Q s :=
  ⟨run_at h (show Run (atOpt l[i]? _ _) s _ R by
    rw [e]
    exact g_bind ((wpB_ok b _ z).then fun p _ z=>turn_ok (p:=p) (by
        obtain ⟨fl,ρ⟩:=p
        rcases fl with _ | _ | _ <;> first | exact z.run | exact z)))⟩
end
noncomputable def LB.word (X:LB) (n:Nat):String:=match X.left.contains n || X.whiles.contains n with
  | true=>((nl (X.root n) X.kinds).map Kd.s).getD "open"
  | false => "never"
structure EnvD (B F:Nat) (pv tv:V) (ρ:Env):Prop where
  bk:ρ "book" = some (.obj (B + 5))
  fn:ρ "found" = some (.obj F)
  pl:ρ "plans" = some pv
  tl:ρ "tail" = some tv
theorem EnvD.set {B F:Nat} {pv tv a b:V} {ρ:Env} (E:EnvD B F pv tv ρ):EnvD B F pv tv ((ρ.set "number" a).set "told" b):=⟨E.bk,E.fn,E.pl,E.tl⟩
noncomputable def dueLoop:List St:=[.asg "told" (.meth (.idx (.var "book") (.k (.str "kinds"))) "get" [.call (.g "_law_home") [.var "book",.var "number"],.k (.str "open")]),.ex (.meth (.var "found") "append" [.ite (.orE [.cmp .isin (.var "number") (.idx (.var "book") (.k (.str "left"))),.cmp .isin (.var "number") (.idx (.var "book") (.k (.str "whiles")))]) (.var "told") (.k (.str "never"))])]
section
variable {B m F n:Nat} {g:Nat -> AO} {X:LB} {pv tv:V} {R:Bool -> Store -> Prop}
theorem word_get {C:Oracle} {σ:Store} {Q:V -> Store -> Prop} {a:Nat} (I:LI B m g σ X) (z:Q (.str (((nl a X.kinds).map Kd.s).getD "open")) σ):Run (doApp C (.dct (B + 1)) "get" [.int a,.str "open"]) σ Q R:=by
  refine run_get I.b1 kf_dN ?_
  rw [dl_dN]
  generalize nl a X.kinds = o at z ⊢
  rcases o with _ | _
  · exact z
  · exact z
theorem LI.out {σ:Store} {o:AO} (I:LI B m g σ X) (h:B + 6 <= F):LI B m g (σ.set F o) X :=
  ⟨I.n,fun i hi=>(if_neg (Nat.ne_of_lt (Nat.lt_of_lt_of_le hi (Nat.le_trans (Nat.le_add_right _ _) h)))).trans (I.kp i hi),fun i hi=>(if_neg (Nat.ne_of_lt (Nat.lt_of_lt_of_le (Nat.add_lt_add_left hi B) h))).trans (I.ob i hi),I.sh⟩
set_option tactic.hygienic true in
theorem due_loop (hn:1 <= n) (hf:X.flat) (hF:B + 6 <= F) {Q:QF} (hm:m <= 900) (h:∀ s ρ,LI B m g s X -> At s F (.list (X.ended.map fun a=>.str (X.word a))) -> EnvD B F pv tv ρ -> Q .next ρ s):∀ (rest pre:List Nat) (k:Nat) (s:Store) (ρ:Env),X.ended = pre ++ rest -> rest.length <= k -> LI B m g s X -> At s F (.list (pre.map fun a=>.str (X.word a))) -> EnvD B F pv tv ρ -> ForO (callF tab n) R "number" dueLoop (B + 4) (k + 1) pre.length ρ Q s
  | [],pre,k,s,ρ,e,_,I,A,E=>by
    rw [List.append_nil] at e
    exact fo_end I.b4 (by rw [List.getElem?_map,e,List.getElem?_eq_none (Nat.le_refl _)]; rfl) (h s ρ I (e ▸ A) E)
  | a :: rest,pre,k,s,ρ,e,hk,I,A,E=>by
    obtain ⟨k,rfl,hk⟩:=fuel hk
    have e2:X.ended = (pre ++ [a]) ++ rest:=by rw [List.append_assoc]; exact e
    have hz:(pre.map fun a=>V.str (X.word a)).length < 100000:=by
      have:=I.sh.2.2.2.2
      rw [e,List.length_append] at this
      rw [List.length_map]
      exact Nat.lt_of_le_of_lt (Nat.le_trans (Nat.le_trans (Nat.le_add_right _ _) this) hm) (by decide)
    refine fo_turn (v:=.int a) I.b4 ?_ ?_
    · rw [List.getElem?_map,e,List.getElem?_append_right (Nat.le_refl _),Nat.sub_self]; rfl
    refine opt_get E.bk ?_
    refine run_key I.b5 rfl ?_
    refine run_at I.b1 ?_
    refine opt_get E.bk ?_
    refine run_fn rfl (home_run hn I hf ?_)
    refine word_get I ?_
    refine next_go ?_
    refine opt_get E.fn ?_
    refine run_at A ?_
    have fin:∀ w:String,w = X.word a -> ∀ v,Run (doApp (callF tab n) (.lst F) "append" [.str w]) s (fun _ s=>ForO (callF tab n) R "number" dueLoop (B + 4) (k + 1) (pre.length + 1) ((ρ.set "number" (.int a)).set "told" v) Q s) R:=fun w hw v=>by
      subst hw
      refine run_append A hz ?_
      have z:=due_loop hn hf hF hm h rest (pre ++ [a]) k (s.set F (.list (pre.map (fun a=>.str (X.word a)) ++ [.str (X.word a)]))) ((ρ.set "number" (.int a)).set "told" v) e2 (Nat.le_of_succ_le_succ hk) (I.out hF) (by rw [List.map_append]; exact A.put) E.set
      rw [List.length_append] at z
      exact z
    unfold LB.word at fin
    refine opt_get E.bk ?_
    refine run_key I.b5 rfl ?_
    refine run_inL I.b2 vin_nat ?_
    generalize X.left.contains a = t at fin ⊢
    rcases t with _ | _
    · refine opt_get E.bk ?_
      refine run_key I.b5 rfl ?_
      refine run_inL I.b3 vin_nat ?_
      generalize X.whiles.contains a = t at fin ⊢
      rcases t with _ | _
      · exact fin _ rfl _
      · exact fin _ rfl _
    · exact fin _ rfl _
end
end Mine
end
section
set_option maxHeartbeats 1000000
set_option maxRecDepth 20000
set_option genSizeOf false
namespace Mine
noncomputable def nvW:Bool -> String
  | true => "never"
  | false => "u8"
noncomputable def LB.due (X:LB) (i t:Pl):V:=match X.fine with
  | true=>.lst (.str (nvW (i.nvL X.left || t.nvL X.left)) :: X.ended.map fun n=>.str (X.word n))
  | false=>.str "type"
theorem veq_nilL {l:List V} (h:V.areData l = true):veq (.lst l) (.lst []) = M.ret l.isEmpty:=by
  show (if (V.areData l && true && (V.flat (.lst l) || true)) = true then M.ret (V.eqbs l []) else M.fail) = _
  rw [h,Bool.or_true]
  rcases l with _ | _ <;> rfl
noncomputable def dueRest:List St:=f_law_due.body.drop 3
theorem due_end {n B m c rt:Nat} {g:Nat -> AO} {σ:Store} {X:LB} {i t:Pl} {ρ:Env} {Q:V -> Store -> Prop} {R:Bool -> Store -> Prop} {ctx:List Row} (hn:1 <= n) (hm:m <= 900) (hl:i.isL = true) (hw:i.wf ctx c rt) (hz:i.sz <= 900) (ht:t.isT = true) (hf:X.flat) (I:LI B m g σ X) (h1:ρ "book" = some (.obj (B + 5))) (h2:ρ "plans" = some (.lst (its i.v))) (h3:ρ "tail" = some t.v) (h:∀ s,LI B m g s X -> Q (X.due i t) s) :
    wpB (callF tab n) R dueRest ρ (finQ Q) σ:=by
  unfold LB.due at h
  refine opt_get h1 ?_
  refine run_key I.b5 rfl ?_
  generalize hfi:X.fine = fi at h ⊢
  rcases fi with _ | _
  · exact h σ I
  refine opt_get h1 ?_
  have I1:LI B m g (σ.push (.list [])) X:=I.old Old.refl.push
  refine run_key I1.b5 rfl ?_
  refine due_loop (F:=σ.n) (pv:=.lst (its i.v)) (tv:=t.v) hn hf I.n hm (fun s ρ I A E=>?_) X.ended [] 999 _ _ rfl (Nat.le_trans I.sh.2.2.2.2 (Nat.le_trans hm (by decide))) I1 At.top ⟨h1,rfl,h2,h3⟩
  refine opt_get E.pl ?_
  refine pns_run hn I E.bk hl hw fun l h1 h2 h3=>⟨Nat.lt_of_le_of_lt (Nat.le_trans h2 hz) (by decide),?_⟩
  have e:=veq_nilL h1
  rw [h3] at e
  refine cmp_ne (a:=.lst l) (b:=.lst []) rfl e ?_
  have fin:∀ w:String,w = nvW (i.nvL X.left || t.nvL X.left) -> Run (doAdd (.lst [.str w]) (.obj σ.n)) s Q R:=fun w hw=>by
    subst hw
    refine run_at A (run_glue (show 1 < 100000 by decide) ?_ (h s I))
    rw [List.length_map]; exact Nat.lt_of_le_of_lt (Nat.le_trans I.sh.2.2.2.2 hm) (by decide)
  generalize i.nvL X.left = o at fin ⊢
  rcases o with _ | _
  · refine opt_get E.tl ?_
    rcases t with _ | _ | ⟨k,w,lab,j⟩ | _ | _ | _ | _ | _ | _ | _ | _
    · exact no_tf ht
    · exact no_tf ht
    · refine cmp_ne (a:=.tup [.str "ring",.int k,.bool w,labV lab,j.v]) (b:=.str "u8") rfl (veq_tupS (pl_data (.ring k w lab j)).1) ?_
      refine opt_get E.bk ?_
      refine opt_get E.tl ?_
      refine run_fn rfl (pn_run (p:=.ring k w lab j) rfl hn I ?_)
      generalize Pl.nvL X.left (.ring k w lab j) = o at fin ⊢
      rcases o with _ | _
      · refine opt_get E.fn ?_
        exact fin _ rfl
      · refine opt_get E.fn ?_
        exact fin _ rfl
    · exact no_tf ht
    · exact no_tf ht
    · exact no_tf ht
    · exact no_tf ht
    · exact no_tf ht
    · refine opt_get E.fn ?_
      exact fin _ rfl
    · exact no_tf ht
    · exact no_tf ht
  · refine opt_get E.fn ?_
    exact fin _ rfl
end Mine
end
section
set_option maxHeartbeats 1000000
set_option maxRecDepth 20000
set_option genSizeOf false
namespace Mine
noncomputable def X0:LB:=⟨[],[],true,[],[],[]⟩
noncomputable def tailI (c:Nat):Pl -> Inf
  | .ring _ w lab i=>⟨(c,.u8) :: (ringE c w ++ (i.inf [⟨c,lab,w,c⟩] (c + 1) 0).ev),(i.inf [⟨c,lab,w,c⟩] (c + 1) 0).bad,(i.inf [⟨c,lab,w,c⟩] (c + 1) 0).lf,(i.inf [⟨c,lab,w,c⟩] (c + 1) 0).el ++ [⟨c,w,c,(i.inf [⟨c,lab,w,c⟩] (c + 1) 0).lf.contains c⟩],.nv⟩
  | _=>.of .nv
theorem LS.start (c:Nat):LS [] c X0 [] false :=
  ⟨fun _ _ h=>(nomatch h),fun _ _ h=>(nomatch h),fun _ _ h=>(nomatch h),fun _ _ h=>(nomatch h),⟨fun _=>⟨fun _ _ _ h=>(nomatch h),rfl⟩,fun _=>rfl⟩,fun _ h=>(nomatch h),fun _ h=>(nomatch h),fun _ h=>(nomatch h),fun _ h=>(nomatch h)⟩
theorem LI.start (σ:Store):LI σ.n 0 σ.get ((((((σ.push (.dict [])).push (.dict [])).push (.list [])).push (.list [])).push (.list [])).push (.dict (bookD σ.n true))) X0 :=
  ⟨Nat.le_refl _,fun i hi=>(Old.refl.push.push.push.push.push.push (σ:=σ)).get i hi,six (At.top.push.push.push.push.push).2 (At.top.push.push.push.push).2 (At.top.push.push.push).2 (At.top.push.push).2 (At.top.push).2 At.top.2,Nat.le_refl _,Nat.le_refl _,Nat.le_refl _,Nat.le_refl _,Nat.le_refl _⟩
theorem due_run {N c0:Nat} {σ:Store} {i t:Pl} {Q:V -> Store -> Prop} {R:Bool -> Store -> Prop} (hN:5 + i.ht <= N) (hN2:6 + t.ht <= N) (hl:i.isL = true) (hw:i.wf [] c0 0) (ht:t.isT = true) (htw:t.wf [] (i.nx c0) (i.nx c0)) (hs:i.sz + t.sz <= 890)
    (h:∀ s X all,Old σ s -> Gt [] X0 (t.nx (i.nx c0)) [] false ((i.inf [] c0 0).seq (tailI (i.nx c0) t)) X all -> Q (X.due i t) s):Run (callF tab N "_law_due" [.lst (its i.v),t.v]) σ Q R:=by
  refine cps fun G k9=>?_
  obtain ⟨n,rfl,hn⟩:=fuel (c:=4 + i.ht) (by rw [Nat.add_right_comm]; exact hN)
  have hn1:1 <= n:=Nat.le_trans (Nat.le_trans (by decide) (Nat.le_add_right 4 _)) hn
  refine k9 (run_call rfl rfl ?_)
  refine (pl_ga i).2.2 hl (x := "plan") (P:=fun ρ=>ρ "book" = some (.obj (σ.n + 5)) /\ ρ "plans" = some (.lst (its i.v)) /\ ρ "tail" = some t.v) ⟨hn,LI.start σ,LS.start c0,fun r h=>absurd h List.not_mem_nil,hw,Nat.le_trans (Nat.le_of_eq (Nat.zero_add _)) (Nat.le_trans (Nat.le_add_right _ _) hs)⟩ (fun ρ v z=>⟨z,z.1⟩) ⟨rfl,rfl,rfl⟩ fun s X1 all1 ρ1 I1 G1 h1=>?_
  rw [Nat.zero_add] at I1
  obtain ⟨b1,b2,b3⟩:=h1
  have old:∀ {m s X},LI σ.n m σ.get s X -> Old σ s:=fun I=>⟨Nat.le_trans (Nat.le_add_right _ 6) I.n,I.kp⟩
  have hi9:i.sz <= 900:=Nat.le_trans (Nat.le_trans (Nat.le_add_right _ _) hs) (by decide)
  refine opt_get b3 ?_
  rcases t with _ | _ | ⟨k,w,lab,j⟩ | _ | _ | _ | _ | _ | _ | _ | _
  · exact no_tf ht
  · exact no_tf ht
  · obtain ⟨rfl,htw'⟩:=id htw
    have em:i.sz + 1 + j.sz + 3 = i.sz + (4 + j.sz):=(congrArg (· + 3) (Nat.add_right_comm i.sz 1 j.sz)).trans ((Nat.add_assoc i.sz j.sz 4).trans (congrArg (i.sz + ·) (Nat.add_comm _ _)))
    obtain ⟨F1,F2,F3⟩:=G1.ls.free
    have hr:X1.root (i.nx c0) = i.nx c0:=by unfold LB.root; rw [F1]; rfl
    have S:=(G1.ls.mono (Nat.le_succ _)).mark (k:=.u8) (Nat.lt_succ_self (i.nx c0))
    rw [hr] at S
    refine cmp_ne (a:=.tup [.str "ring",.int ((i.nx c0:Nat):Int),.bool w,labV lab,j.v]) (b:=.str "u8") rfl (veq_tupS (pl_data (.ring (i.nx c0) w lab j)).1) ?_
    refine opt_get b1 ?_
    refine opt_get b3 ?_
    refine run_fn rfl (kind_run (k:=.u8) (Nat.le_trans (Nat.le_trans (by decide) (Nat.le_add_right 4 _)) hn) hi9 I1 G1.ls.flat fun s I2=>?_)
    refine opt_get b1 ?_
    refine opt_get b3 ?_
    refine run_fn rfl (ring_gather (pl_ga j).2.2 (ctx:=[]) (Nat.le_of_succ_le_succ (Nat.le_trans (by show 5 + j.ht + 1 <= 6 + j.ht + 6; rw [Nat.add_right_comm 5]; exact Nat.le_add_right _ _) hN2)) I2 S (fun r hr=>(G1.ls.rows r hr).1) hr F3 (fun r h=>absurd h List.not_mem_nil) htw (em ▸ hs) fun s X2 all2 I3 G2=>?_)
    have G3:Gt all1 X1 (j.nx (i.nx c0 + 1)) ([] ++ (i.inf [] c0 0).ev) (false || (i.inf [] c0 0).bad) (tailI (i.nx c0) (.ring (i.nx c0) w lab j)) X2 all2 :=
      ⟨by have z:=G2.ls; rw [List.append_assoc] at z; exact z,G2.left,G2.ended,G2.sub,G2.el⟩
    have z:=due_end (Q:=Q) (R:=R) (t:=.ring (i.nx c0) w lab j) hn1 (Nat.le_trans (em ▸ hs) (by decide)) hl hw hi9 rfl G2.ls.flat I3 b1 b2 b3 fun s I=>h s X2 all2 (old I) (G1.seq G3)
    exact z
  · exact no_tf ht
  · exact no_tf ht
  · exact no_tf ht
  · exact no_tf ht
  · exact no_tf ht
  · have z:=due_end (Q:=Q) (R:=R) (t:=.u8) hn1 (Nat.le_trans hi9 (by decide)) hl hw hi9 rfl G1.ls.flat I1 b1 b2 b3 fun s I=>h s X1 all1 (old I) (G1.seq (.refl G1.ls))
    exact z
  · exact no_tf ht
  · exact no_tf ht
end Mine
end
section
set_option maxHeartbeats 1000000
set_option maxRecDepth 20000
set_option genSizeOf false
namespace Mine
noncomputable def tailN (c:Nat):Pl -> Bool
  | .ring _ w lab i=>!w && !(i.inf [⟨c,lab,w,c⟩] (c + 1) 0).lf.contains c
  | _=>false
noncomputable def nvT:Bool -> Ty
  | true=>.never
  | false=>.k .u8
theorem t_isNone {t:Pl} (h:t.isT = true):isNone t.t = M.ret false:=by
  rcases t with _ | _ | ⟨_,w,_,_⟩ | _ | _ | _ | _ | _ | _ | _ | _
  · exact no_tf h
  · exact no_tf h
  · rcases w with _ | _ <;> rfl
  · exact no_tf h
  · exact no_tf h
  · exact no_tf h
  · exact no_tf h
  · exact no_tf h
  · rfl
  · exact no_tf h
  · exact no_tf h
structure TailG (b:Nat) (S:CSt) (gk:List Nat) (L:Evs) (c:Nat) (t:Pl) (made:V) (s:Store) (S':CSt) (gk':List Nat) (rs:List Ty):Prop where
  done:Done b S [] gk (L ++ (tailI c t).ev) (t.nx c) (tailI c t).lf s S' gk'
  md:Made made (nvT (tailN c t)) rs (t.ht + 4)
  ro:RingsOk gk' (L ++ (tailI c t).ev) (tailI c t).el rs
  ok:(tailI c t).bad = false
section
variable {n b c:Nat} {σ:Store} {S:CSt} {gk:List Nat} {L:Evs} {R:Bool -> Store -> Prop}
set_option tactic.hygienic true in
theorem tail_run {t:Pl} {Q:V -> Store -> Prop} (ht:t.isT = true) (A:Asked 18 (n + 1 + 2) b σ S [] gk L c t c) (h:∀ s made S' gk' rs,TailG b S gk L c t made s S' gk' rs -> Q made s) (hb:¬ Fine L (tailI c t) -> ∀ f s,Kp b S.g s -> R f s) :
    Run (callF tab (n + 1 + 2) "Checker.expr" [.obj (b + 17),t.t,(Ty.k .u8).v]) σ (fun made s=>(∃ l,made = .tup l) /\ (∃ S1,CInv b s S1) /\ Run (callF tab (n + 1 + 2) "Checker.coerce" [.obj (b + 17),made,(Ty.k .u8).v]) s Q R) R:=by
  have hn6:6 <= n + 1 + 2:=Nat.le_trans (Nat.le_trans (by decide) (Nat.le_add_right 18 _)) A.fuel
  have nil:∀ r ∈ ([]:List Row),r.num < c:=fun r h=>absurd h List.not_mem_nil
  rcases t with _ | _ | ⟨k,w,lab,i⟩ | _ | _ | _ | _ | _ | _ | _ | _
  · exact no_tf ht
  · exact no_tf ht
  · obtain ⟨rfl,hl,hw⟩:=A.wf
    have hn:15 + i.ht + 3 <= n:=Nat.le_of_add_le_add_right (b:=3) (Nat.le_trans (by show 15 + i.ht + 3 + 3 <= 18 + i.ht + 6; rw [Nat.add_assoc (15 + i.ht)]; exact Nat.add_le_add_right (Nat.add_le_add_right (by decide) _) _) A.fuel)
    have hsz:=Nat.le_trans (Nat.le_add_left _ 4) A.sz
    have hk:k < i.nx (k + 1):=i.le_nx (k + 1)
    have mem:(k,Kd.u8) ∈ L ++ [(k,.u8)]:=List.mem_append_right _ (.head _)
    have ty:TyOf gk (L ++ [(k,.u8)]) (.k .u8) k:=.inr ⟨rfl,mem⟩
    rcases w with _ | _
    · refine loop_some (rt:=k) (L:=L ++ [(k,.u8)]) (pl_all i).2 hl hn A.l1 A.l2 A.nx hsz A.inv A.st.own nil hw (Nat.lt_succ_self k) ty (fun s made S' gk' rs G=>?_) fun z=>hb fun q=>z ⟨(List.append_assoc L [(k,Kd.u8)] _).symm ▸ q.1,q.2⟩
      have e:(L ++ [(k,Kd.u8)]) ++ ((Inf.ring k k false (i.inf [⟨k,lab,false,k⟩] (k + 1) 0)).ev ++ (Inf.ring k k false (i.inf [⟨k,lab,false,k⟩] (k + 1) 0)).kd.ev k) = L ++ (tailI k (.ring k false lab i)).ev:=by
        rw [List.append_assoc]
        show L ++ ((k,Kd.u8) :: ((preE k k false ++ _) ++ Kn.ev (match (i.inf [⟨k,lab,false,k⟩] (k + 1) 0).lf.contains k with | true=>.res | false=>.nv) k)) = _
        rcases (i.inf [⟨k,lab,false,k⟩] (k + 1) 0).lf.contains k with _ | _ <;> exact congrArg (fun l=>L ++ ((k,Kd.u8) :: l)) (List.append_nil _)
      have G:Got b S [] gk (L ++ [(k,.u8)]) (i.nx (k + 1)) (.ring k k false (i.inf [⟨k,lab,false,k⟩] (k + 1) 0)) k (some (.k .u8)) (i.ht + 10) s made S' gk' (.k .u8) rs:=G
      refine ⟨G.md.shape.elim fun a z=>z.elim fun r z=>⟨_,z⟩,⟨S',G.done.inv⟩,?_⟩
      refine coerce_got hn6 G hk ty (fun s2 S2 D2=>?_) fun z=>hb fun q=>z (e ▸ q.1)
      rw [e] at D2
      have ro:=G.ro.mono List.prefix_rfl (fun x hx=>app3 (B:=(Inf.ring k k false (i.inf [⟨k,lab,false,k⟩] (k + 1) 0)).kd.ev k) x hx)
      rw [e] at ro
      refine h s2 made S2 gk' rs ⟨D2,?_,ro,G.ok⟩
      have md:=G.md
      have e2:Kn.ty (Inf.ring k k false (i.inf [⟨k,lab,false,k⟩] (k + 1) 0)).kd (.k .u8) = nvT (tailN k (.ring k false lab i)):=by
        show Kn.ty (match (i.inf [⟨k,lab,false,k⟩] (k + 1) 0).lf.contains k with | true=>.res | false=>.nv) _ = nvT (true && !(i.inf [⟨k,lab,false,k⟩] (k + 1) 0).lf.contains k)
        rcases (i.inf [⟨k,lab,false,k⟩] (k + 1) 0).lf.contains k with _ | _ <;> rfl
      rw [e2] at md
      exact md
    · refine wh_any (rt:=k) (L:=L ++ [(k,.u8)]) (pl_all i).2 hl hn A.l1 A.l2 A.nx hsz A.inv A.st.own nil hw (Nat.lt_succ_self k) (fun s made S' gk' rs D md ro ok=>?_) fun z=>hb fun q=>z ⟨q.1.sub fun e he=>?_,q.2⟩
      · obtain ⟨a,r,rfl⟩:=md.shape
        refine ⟨⟨_,rfl⟩,⟨S',D.inv⟩,?_⟩
        refine give_run (k:=.unit) hn6 D.inv D.st (ty.mono D.pre fun e=>List.mem_append_left _) (fun cs=>?_) fun _ f s kp=>hb (fun q=>?_) f s (D.g ▸ kp)
        · have:=cs _ .u8 .unit (List.mem_append_left _ (List.mem_append_left _ mem)) (List.mem_append_right _ (.head _))
          cases this
        · have:=q.1 k .u8 .unit (List.mem_append_right _ (.head _)) (List.mem_append_right _ (.tail _ (.head _)))
          cases this
      · rw [List.append_assoc] at he
        exact (List.mem_append.mp he).elim (List.mem_append_left _) fun z=>List.mem_append_right _ (by
          rcases z with _ | ⟨_,z⟩
          · exact .head _
          · exact .tail _ (.tail _ z))
  · exact no_tf ht
  · exact no_tf ht
  · exact no_tf ht
  · exact no_tf ht
  · exact no_tf ht
  · refine const_int A.inv fun s I=>⟨⟨_,rfl⟩,⟨S,I⟩,?_⟩
    refine coerce_kd (k:=.u8) hn6 I fun s I=>?_
    have D:=Done.refl I A.st
    rw [<- List.append_nil L] at D
    exact h _ _ _ _ [] ⟨D,.up (.const (ty:=.k .u8) rfl rfl) (by decide),rfl,rfl⟩
  · exact no_tf ht
  · exact no_tf ht
end
end Mine
end
section
set_option maxHeartbeats 1000000
set_option maxRecDepth 20000
set_option genSizeOf false
namespace Mine
noncomputable def totI (c:Nat) (i t:Pl):Inf:=(i.inf [] c 0).seq (tailI (i.nx c) t)
noncomputable def totN (c:Nat) (i t:Pl):Bool:=(i.inf [] c 0).kd.isNv || tailN (i.nx c) t
theorem body_run {n b c:Nat} {σ:Store} {S:CSt} {i t:Pl} {Q:V -> Store -> Prop} {R:Bool -> Store -> Prop} (hl:i.isL = true) (ht:t.isT = true) (A:Asked 15 (n + 1 + 2) b σ S [] [] [] c i 0) (hn:18 + t.ht <= n + 1 + 2) (l1:S.loops.length + (n + 1 + 2) <= 900) (l2:S.deep + 1 + (n + 1 + 2) <= 900) (hw:t.wf [] (i.nx c) (i.nx c)) (hnx:t.nx (i.nx c) <= 5000) (hsz:t.sz <= 900)
    (h:∀ s made S' gk' rs,CInv b s S' -> S'.g = S.g -> S'.kn = gk'.map (fun g=>nl g (totI c i t).ev) -> Cons (totI c i t).ev -> Made made (nvT (totN c i t)) rs (i.ht + t.ht + 12) -> RingsOk gk' (totI c i t).ev (totI c i t).el rs -> (totI c i t).bad = false -> Q made s)
    (hb:¬ Fine [] (totI c i t) -> ∀ f s,Kp b S.g s -> R f s) :
    Run (callF tab (n + 1 + 2 + 1 + 2) "Checker.expr" [.obj (b + 17),.tup [.str "block",.int 1,.tup (its i.t),t.t],(Ty.k .u8).v]) σ Q R:=by
  have hn12:15 <= n + 1 + 2:=Nat.le_trans (Nat.le_add_right _ _) A.fuel
  refine blk_open (Nat.le_trans (by decide) hn12) A.inv (Nat.lt_of_le_of_lt (Nat.le_trans (Nat.le_trans (Nat.le_succ _) (Nat.le_add_right _ _)) l2) (by decide)) fun s a ρ I E=>?_
  refine (pl_all i).2 hl ⟨A.fuel,I,A.st.up (D:=[]) (Nat.le_refl _) rfl mark_nil.symm,A.l1,l2,A.wf,A.nx,A.sz⟩ rfl E (Nat.le_trans (Nat.le_of_eq (Nat.zero_add _)) A.sz) (fun s S1 gk1 ρ1 ts rs1 D rw lz ro ok E1=>?_) fun z=>hb fun q=>z ⟨q.1.sub app3,(Bool.or_eq_false_iff.mp q.2).1⟩
  have l1':S1.loops.length + (n + 1 + 2) <= 900:=D.l1 l1
  refine next_go ?_
  refine opt_get E1.tl ?_
  refine run_is (t_isNone ht) ?_
  refine opt_get E1.ck ?_
  refine run_at D.inv.ck ?_
  refine opt_get E1.tl ?_
  refine opt_get E1.w ?_
  refine (tail_run (Q:=fun made s=>∃ S' gk' rs,TailG b S1 gk1 (i.inf [] c 0).ev (i.nx c) t made s S' gk' rs) ht ⟨hn,D.inv,D.st,l1',D.deep ▸ l2,hw,hnx,hsz⟩ (fun s made S' gk' rs G=>⟨S',gk',rs,G⟩) fun z f s k=>hb (fun q=>z ⟨q.1,(Bool.or_eq_false_iff.mp q.2).2⟩) f s (D.g ▸ k)).then fun made s ⟨⟨l,hl1⟩,⟨S2,I2⟩,hc⟩=>?_
  subst hl1
  refine opt_get E1.w ?_
  refine opt_get E1.ck ?_
  refine run_at I2.ck ?_
  refine opt_get E1.w ?_
  refine hc.then fun made2 s ⟨S',gk',rs,G⟩=>?_
  have md:=G.md
  obtain ⟨a2,r2,e2⟩:=md.shape
  subst e2
  refine next_go ?_
  refine blk_ret (tv:=(nvT (tailN (i.nx c) t)).v) (Nat.le_trans (by decide) hn12) G.done.inv (G.done.own.trans D.own) (Nat.le_trans lz A.sz) (G.done.deep.trans D.deep) ⟨E1.ck,E1.rows,E1.tl,E1.w,E1.sp,E1.ov⟩ rfl (fun h=>at1 h) fun s I=>?_
  have bl:∀ ty:Ty,Made (.tup [.str "block",ty.v,.int 1,.tup ts,.tup (a2 :: (nvT (tailN (i.nx c) t)).v :: .int 1 :: r2)]) ty (rs1 ++ rs) (i.ht + t.ht + 12):=fun ty =>
    (Made.blk (d:=i.ht + t.ht + 5) ⟨rw.rl.up (Nat.add_le_add_right (Nat.le_add_right _ _) 5),rw.hd⟩ (.e .nil (md.rv.up (Nat.le_trans (Nat.add_le_add (Nat.le_add_left t.ht i.ht) (show 4 <= 6 by decide)) (Nat.le_refl _)))) (Nat.le_add_left 1 _)).up (Nat.add_le_add_left (show 7 <= 12 by decide) _)
  have fin:=fun ty=>h s (.tup [.str "block",Ty.v ty,.int 1,.tup ts,.tup (a2 :: (nvT (tailN (i.nx c) t)).v :: .int 1 :: r2)]) _ gk' (rs1 ++ rs) I (G.done.g.trans D.g) G.done.st.kn G.done.st.cs
  have ro2:RingsOk gk' (totI c i t).ev (totI c i t).el (rs1 ++ rs):=RingsOk.app G.ro (ro.mono G.done.pre fun e=>List.mem_append_left _)
  have ok2:(totI c i t).bad = false:=Bool.or_eq_false_iff.mpr ⟨ok,G.ok⟩
  unfold totN at fin
  generalize hk:(i.inf [] c 0).kd.isNv = o at fin ⊢
  rcases o with _ | _
  · exact fin _ (bl _) ro2 ok2
  · exact fin _ (bl _) ro2 ok2
end Mine
end
section
set_option maxHeartbeats 1000000
set_option maxRecDepth 20000
set_option genSizeOf false
namespace Mine
section
variable {N j b:Nat} {σ:Store} {Q:V -> Store -> Prop} {R:Bool -> Store -> Prop}
theorem Mk.setA {c a:String} {v:V} {s:Store} {k:Nat} {l:List (String × V)} {Q:Unit -> Store -> Prop} (M:Mk j σ s k (.inst c l)) (e:(attrsOf c).contains a = true) (z:∀ s',Mk j σ s' k (.inst c (aput a v l)) -> Q () s'):Run (doSetA (.obj j) a v) s Q R:=run_setA M.at_ e (z _ M.put)
theorem init_world (hN:1 <= N) (h0:At σ j (.inst "World" [])) (h:∀ s l,Mk j σ s 7 (.inst "World" l) -> Q .none s):Run (callF tab N "World.__init__" [.obj j]) σ Q R:=by
  refine cps fun G k9=>?_
  obtain ⟨n,rfl,hn⟩:=fuel hN
  refine k9 (run_call rfl rfl ?_)
  refine (Mk.start h0).setA rfl fun s M=>?_
  iterate 7 refine M.push.setA rfl fun s M=>?_
  exact h _ _ M
theorem init_infer (hN:1 <= N) (h0:At σ j (.inst "Infer" [])) (h:∀ s,Mk j σ s 3 (.inst "Infer" [("ended",.obj σ.n),("known",.obj (σ.n + 1)),("is_number",.obj (σ.n + 2))]) -> At s (σ.n + 1) (.list []) -> At s (σ.n + 2) (.list []) -> Q .none s):Run (callF tab N "Infer.__init__" [.obj j]) σ Q R:=by
  refine cps fun G k9=>?_
  obtain ⟨n,rfl,hn⟩:=fuel hN
  have nj:∀ k,σ.n + k ≠ j:=fun k=>Nat.ne_of_gt (Nat.lt_of_lt_of_le h0.1 (Nat.le_add_right _ k))
  have M:=(Mk.start h0).push (o':=.list [])
  refine k9 (run_call rfl rfl ?_)
  refine run_setA M.at_ rfl ?_
  refine run_setA (M.put.push (o':=.list [])).at_ rfl ?_
  refine run_setA ((M.put.push (o':=.list [])).put.push (o':=.list [])).at_ rfl ?_
  exact h _ ((M.put.push (o':=.list [])).put.push (o':=.list [])).put (((At.top.set (nj 1)).push).set (nj 1)) (At.top.set (nj 2))
noncomputable def chkA (b:Nat) (res:V):AO:=.inst "Checker" [("world",.obj (b + 8)),("module",.str ""),("self_type",.none),("bounds",.obj (b + 16)),("reader",.obj b),("infer",.obj (b + 18)),("locals",.obj (b + 22)),("scopes",.obj (b + 24)),("loops",.obj (b + 25)),("many_loops",.int 0),("owed",.obj (b + 26)),("result",res)]
structure Ch (b:Nat) (s:Store) (res:V):Prop where
  n:s.n = b + 27
  ck:At s (b + 17) (chkA b res)
  inf:At s (b + 18) (.inst "Infer" [("ended",.obj (b + 19)),("known",.obj (b + 20)),("is_number",.obj (b + 21))])
  kn:At s (b + 20) (.list [])
  isn:At s (b + 21) (.list [])
  sc:At s (b + 24) (.list [.obj (b + 23)])
  lp:At s (b + 25) (.list [])
theorem At.steps {s:Store} {i:Nat} {o a b c d e f g h k l m n:AO} (z:At s i o) (q:i ≠ j):At ((((((((((((s.set j a).push b).set j c).push d).push e).set j f).push g).set j h).set j k).push l).set j m).set j n) i o:=(((((((z.set q).push.set q).push.push.set q).push.set q).set q).push.set q).set q)
theorem init_checker (hN:2 <= N) (hn:σ.n = b + 18) (h0:At σ (b + 17) (.inst "Checker" [])) (h:∀ s,Ch b s (Ty.k .unit).v -> (∀ i,i < b + 17 -> s.get i = σ.get i) -> Q .none s) :
    Run (callF tab N "Checker.__init__" [.obj (b + 17),.obj (b + 8),.str "",.none,.obj (b + 16),.obj b]) σ Q R:=by
  refine cps fun G k9=>?_
  obtain ⟨n,rfl,hn1⟩:=fuel hN
  refine k9 (run_call rfl rfl ?_)
  refine (Mk.start h0).setA rfl fun s M=>?_
  iterate 4 refine M.setA rfl fun s M=>?_
  obtain ⟨m,g⟩:=s
  obtain rfl:m = b + 18:=M.n.trans hn
  refine run_cls rfl (f := "Infer.__init__") (by decide) ?_
  refine init_infer (j:=b + 18) hn1 .top fun s1 M1 k1 k2=>⟨rfl,?_⟩
  have A1:At s1 (b + 17) _:=⟨Nat.lt_of_lt_of_le (Nat.add_lt_add_left (show 17 < 18 + 1 by decide) b) (M1.n ▸ Nat.le_add_right _ 3),(M1.old (b + 17) (Nat.add_lt_add_left (show 17 < 18 + 1 by decide) b) (off (by decide))).trans ((if_neg (off (by decide))).trans M.at_.2)⟩
  have o1:∀ i,i < b + 17 -> s1.get i = σ.get i:=fun i hi=>have w:i < b + 18:=Nat.lt_succ_of_lt hi; (M1.old i (Nat.lt_succ_of_lt w) (Nat.ne_of_lt w)).trans ((if_neg (Nat.ne_of_lt w)).trans (M.old i (hn ▸ w) (Nat.ne_of_lt hi)))
  have a1:=M1.at_
  have n1:=M1.n
  clear M1 M h0
  obtain ⟨m,g1⟩:=s1
  obtain rfl:m = b + 22:=n1
  refine run_setA A1 rfl ?_
  refine run_setA A1.put.push rfl ?_
  refine run_setA A1.put.push.put.push.push rfl ?_
  refine run_setA A1.put.push.put.push.push.put.push rfl ?_
  refine run_setA A1.put.push.put.push.push.put.push.put rfl ?_
  refine run_setA A1.put.push.put.push.push.put.push.put.put.push rfl ?_
  refine run_setA A1.put.push.put.push.push.put.push.put.put.push.put rfl ?_
  exact h _ ⟨rfl,A1.put.push.put.push.push.put.push.put.put.push.put.put,a1.steps (off (by decide)),k1.steps (off (j:=17) (i:=20) (by decide)),k2.steps (off (j:=17) (i:=21) (by decide)),((((At.top.set (off (i:=24) (by decide))).push.set (off (i:=24) (by decide))).set (off (i:=24) (by decide))).push.set (off (i:=24) (by decide))).set (off (i:=24) (by decide)),(((At.top.set (off (i:=25) (by decide))).set (off (i:=25) (by decide))).push.set (off (i:=25) (by decide))).set (off (i:=25) (by decide))⟩
    fun i hi=>((At.steps (o:=g1 i) ⟨Nat.lt_of_lt_of_le hi (Nat.add_le_add_left (show 17 <= 22 by decide) b),rfl⟩ (Nat.ne_of_lt hi)).2).trans (o1 i hi)
end
end Mine
end
section
set_option maxHeartbeats 1000000
set_option maxRecDepth 20000
set_option genSizeOf false
namespace Mine
theorem alook_put {a:String} {v:V}:∀ {l:List (String × V)},alook a (aput a v l) = some v
  | []=>if_pos rfl
  | (b,u) :: r=>by
    show alook a (if b = a then (b,v) :: r else (b,u) :: aput a v r) = some v
    by_cases q:b = a
    · rw [if_pos q]; exact if_pos q
    · rw [if_neg q]; exact (if_neg q).trans alook_put
noncomputable def CS0 (g:Nat -> AO):CSt:=⟨[],[],0,1,[],g⟩
structure EnvT (b:Nat) (pv tv:V) (ρ:Env):Prop where
  ck:ρ "checker" = some (.obj (b + 17))
  pl:ρ "plans" = some pv
  tl:ρ "tail" = some tv
noncomputable def toldRest:List St:=f_law_told.body.drop 4
theorem Ch.inv {b:Nat} {s:Store} {v:V} {l:List (String × V)} {g:Nat -> AO} (C:Ch b s v) (h:∀ i,i < b -> s.get i = g i) (hr:s.get b = .inst "World" l) (hl:alook "read" l = some (.g "_law_read")):CInv b (s.set (b + 17) (chkA b (Ty.k .u8).v)) (CS0 g) :=
  have lt:b < s.n:=C.n ▸ Nat.lt_add_of_pos_right (by decide)
  ⟨Nat.le_of_eq C.n.symm,fun i hi=>(if_neg (below hi)).trans (h i hi),fun p h=>absurd h List.not_mem_nil,.nil,C.ck.put,⟨l,(show At s b _ from ⟨lt,hr⟩).set (off (i:=0) (by decide)),hl⟩,C.inf.set (off (by decide)),C.kn.set (off (by decide)),⟨[],C.isn.set (off (by decide)),rfl⟩,⟨_,C.sc.set (off (by decide)),rfl⟩,C.lp.set (off (by decide)),fun r h=>absurd h List.not_mem_nil,.nil,Nat.zero_le _,Nat.zero_le _,(show 1 <= 1000 by decide)⟩
theorem told_start {n:Nat} {σ:Store} {pv tv:V} {Q:V -> Store -> Prop} {R:Bool -> Store -> Prop} (hn:2 <= n) (h:∀ s ρ,CInv σ.n s (CS0 σ.get) -> EnvT σ.n pv tv ρ -> wpB (callF tab n) R toldRest ρ (finQ Q) s):Run (callF tab (n + 1) "_law_told" [pv,tv]) σ Q R:=by
  have hn1:1 <= n:=Nat.le_of_succ_le hn
  refine run_call rfl rfl ?_
  refine run_cls rfl (f := "World.__init__") (by decide) ?_
  refine init_world hn1 .top fun s1 l1 M1=>⟨rfl,?_⟩
  have o1:∀ i,i < σ.n -> s1.get i = σ.get i:=fun i hi=>(M1.old i (Nat.lt_succ_of_lt hi) (Nat.ne_of_lt hi)).trans (if_neg (Nat.ne_of_lt hi))
  have a1:=M1.at_
  have n1:=M1.n
  clear M1
  obtain ⟨m,g1⟩:=s1
  obtain rfl:m = σ.n + 8:=n1
  refine run_setA a1 rfl ?_
  refine run_cls rfl (f := "World.__init__") (by decide) ?_
  refine init_world hn1 .top fun s3 l3 M3=>⟨rfl,?_⟩
  have o3:∀ i,i < σ.n + 8 -> s3.get i = if i = σ.n then .inst "World" (aput "read" (.g "_law_read") l1) else g1 i:=fun i hi=>(M3.old i (Nat.lt_succ_of_lt hi) (Nat.ne_of_lt hi)).trans (if_neg (Nat.ne_of_lt hi))
  have n3:=M3.n
  clear M3
  obtain ⟨m,g3⟩:=s3
  obtain rfl:m = σ.n + 16:=n3
  refine run_cls rfl (f := "Checker.__init__") (by decide) ?_
  refine init_checker (b:=σ.n) hn rfl .top fun s4 C o4=>⟨rfl,?_⟩
  have o5:∀ i,i < σ.n + 8 -> s4.get i = if i = σ.n then .inst "World" (aput "read" (.g "_law_read") l1) else g1 i:=fun i hi=>by
    have w:i < σ.n + 16:=Nat.lt_of_lt_of_le hi (Nat.add_le_add_left (by decide) _)
    exact (o4 i (Nat.lt_succ_of_lt w)).trans ((if_neg (Nat.ne_of_lt (Nat.lt_succ_of_lt w))).trans ((if_neg (Nat.ne_of_lt w)).trans (o3 i hi)))
  refine run_setA C.ck rfl ?_
  have J:=C.inv (g:=σ.get) (fun i hi=>(o5 i (Nat.lt_of_lt_of_le hi (Nat.le_add_right _ 8))).trans ((if_neg (Nat.ne_of_lt hi)).trans (o1 i hi))) ((o5 σ.n (Nat.lt_add_of_pos_right (by decide))).trans (if_pos rfl)) alook_put
  refine next_go ?_
  exact h _ _ J ⟨rfl,rfl,rfl⟩
end Mine
end
section
set_option maxHeartbeats 1000000
set_option maxRecDepth 20000
set_option genSizeOf false
namespace Mine
noncomputable def wordsD:List (V × V):=[(Ty.never.v,.str "never"),((Ty.k .u8).v,.str "u8"),((Ty.k .bool).v,.str "bool"),((Ty.k .unit).v,.str "unit")]
noncomputable def tword:Ty -> String
  | .k t=>t.s
  | .never => "never"
  | .var _ => "open"
noncomputable def toldW (L:Evs) (e:En):String:=match e.w with
  | true => "unit"
  | false=>match e.left with
    | true=>((nl e.rt L).map Kd.s).getD "open"
    | false => "never"
set_option tactic.hygienic true in
theorem RingsOk.words {S:CSt} {gk:List Nat} {L:Evs} (hk:S.kn = gk.map fun g=>nl g L) (hc:Cons L):∀ {es:List En} {ts:List Ty},RingsOk gk L es ts -> (∀ t ∈ ts,t.ok S) /\ ts.map (fun t=>tword (sh S t)) = es.map (toldW L)
  | [],_,h=>by cases h; exact ⟨fun t h=>(nomatch h),rfl⟩
  | ⟨m,w,rt,l⟩ :: es,_,⟨t,us,h,q,h3⟩=>by
    cases h
    obtain ⟨i1,i2⟩:=RingsOk.words hk hc h3
    have key:t.ok S /\ tword (sh S t) = toldW L ⟨m,w,rt,l⟩:=by
      rcases w with _ | _
      · rcases l with _ | _
        · cases q; exact ⟨trivial,rfl⟩
        · obtain ⟨h1,h2⟩:=sh_grp hk hc q
          refine ⟨h1,?_⟩
          show _ = ((nl rt L).map Kd.s).getD "open"
          rcases h2 with ⟨k,e1,e2⟩ | ⟨e1,i,e2,_⟩
          · rw [e1,e2]; rfl
          · rw [e1,e2]; rfl
      · cases q; exact ⟨trivial,rfl⟩
    refine ⟨fun x hx=>?_,?_⟩
    · rcases hx with _ | ⟨_,hx⟩
      · exact key.1
      · exact i1 x hx
    · rw [List.map_cons,List.map_cons,key.2,i2]
section
variable {n b F:Nat} {σ:Store} {S:CSt} {R:Bool -> Store -> Prop} {ρ:Env}
theorem resolve_all (hn:3 <= n) (h1:ρ "checker" = some (.obj (b + 17))):∀ (ts:List Ty) {σ:Store} {Q:List V -> Store -> Prop},CInv b σ S -> (∀ t ∈ ts,t.ok S) -> (∀ s,Old σ s -> Q (ts.map fun t=>(sh S t).v) s) -> Run (mapItems (cmpF (callF tab n) ρ "one" (.meth (.var "checker") "resolved" [.var "one"]) none) (ts.map Ty.v)) σ Q R
  | [],_,_,_,_,h=>h _ .refl
  | t :: ts,_,Q,I,ht,h=>by
    refine mi_cons ?_
    refine opt_get h1 ?_
    refine run_at I.ck ?_
    refine cresolved_run hn I (ht t (.head _)) fun s o=>?_
    exact resolve_all hn h1 ts (I.old o) (fun t h=>ht t (.tail _ h)) fun s' o'=>h s' (o.trans o')
noncomputable def wordE:Ex:=.meth (.var "words") "get" [.var "one",.ite (.cmp .eq (.idx (.var "one") (.k (.int 0))) (.k (.str "var"))) (.k (.str "open")) (.k (.str "other"))]
theorem words_all {C:Oracle} (hD:At σ F (.dict wordsD)) (hr:ρ "words" = some (.obj F)):∀ (ts:List Ty) {Q:List V -> Store -> Prop},Q (ts.map fun t=>.str (tword t)) σ -> Run (mapItems (cmpF C ρ "one" wordE none) (ts.map Ty.v)) σ Q R
  | [],_,h=>h
  | t :: ts,Q,h=>by
    have z:=words_all (C:=C) hD hr ts (Q:=fun vs s=>Q (.str (tword t) :: vs) s) h
    refine mi_cons ?_
    refine opt_get hr ?_
    refine run_at hD ?_
    rcases t with t | _ | i
    · rcases t with _ | _ | _
      · exact run_get hD rfl z
      · exact run_get hD rfl z
      · exact run_get hD rfl z
    · exact run_get hD rfl z
    · exact run_get hD rfl z
end
end Mine
end
section
set_option maxHeartbeats 1000000
set_option maxRecDepth 20000
set_option genSizeOf false
namespace Mine
theorem run_try {C:Oracle} {e:Ex} {x v:String} {ρ:Env} {σ:Store} {Q:QF} {R:Bool -> Store -> Prop} (h:wpE C ρ (fun _ s=>Q (.ret (.str v)) ρ s) e (fun a s=>Q .next (ρ.set x a) s) σ):Run (catchM (ev C ρ e) x v ρ) σ (unc Q) R:=by
  have h:=wpE_ok e h
  unfold Run catchM at *
  generalize ev C ρ e σ = y at *
  rcases y with ⟨a,s⟩ | ⟨m,k,c,s⟩ | _
  · exact h
  · exact h
  · exact h.elim
noncomputable def toldV (c:Nat) (i t:Pl):V:=.lst (.str (nvW (totN c i t)) :: (totI c i t).el.map fun e=>.str (toldW (totI c i t).ev e))
noncomputable def toldEnd:List St:=f_law_told.body.drop 6
theorem told_end {n b d:Nat} {σ:Store} {S:CSt} {gk:List Nat} {L:Evs} {els:List En} {rs:List Ty} {made:V} {nv:Bool} {ρ:Env} {Q:V -> Store -> Prop} {R:Bool -> Store -> Prop} (hn:4 <= n) (hd:d <= n) (I:CInv b σ S) (hk:S.kn = gk.map fun g=>nl g L) (hc:Cons L) (md:Made made (nvT nv) rs d) (ro:RingsOk gk L els rs) (hl:els.length <= 900) (h1:ρ "checker" = some (.obj (b + 17))) (h2:ρ "made" = some made)
    (h:∀ s,Old σ s -> Q (.lst (.str (nvW nv) :: els.map fun e=>.str (toldW L e))) s):wpB (callF tab n) R toldEnd ρ (finQ Q) σ:=by
  obtain ⟨w1,w2⟩:=ro.words hk hc
  have hrl:rs.length <= 900:=ro.len ▸ hl
  have rv:=md.rv
  obtain ⟨a,rest,rfl⟩:=md.shape
  have I1:CInv b (σ.push (.dict wordsD)) S:=I.old Old.refl.push
  have hm:∀ {α β:Type} {f:α -> β} {l:List α},l.length <= 901 -> (l.map f).length < 100000:=fun h=>by rw [List.length_map]; exact Nat.lt_of_le_of_lt h (by decide)
  refine opt_get h2 ?_
  refine at1 ?_
  refine opt_get h2 ?_
  refine run_fn rfl ?_
  refine rv.run (Nat.le_trans hrl (by decide)) hd ?_
  refine run_glue (show 1 < 100000 by decide) (hm (Nat.le_succ_of_le hrl)) ?_
  refine resolve_all (Nat.le_trans (by decide) hn) (ρ:=ρ.set "words" (.obj σ.n)) h1 (nvT nv :: rs) I1 (fun t ht=>?_) fun s o=>⟨?_,?_⟩
  · rcases ht with _ | ⟨_,ht⟩
    · rcases nv with _ | _ <;> exact trivial
    · exact w1 t ht
  · exact hm (Nat.succ_le_succ hrl)
  have e1:(nvT nv :: rs).map (fun t=>(sh S t).v) = ((nvT nv :: rs).map (sh S)).map Ty.v:=by rw [List.map_map]; rfl
  rw [e1]
  refine words_all (At.top.to o.n (o.get _ (Nat.lt_succ_self _))) rfl ((nvT nv :: rs).map (sh S)) ⟨?_,?_⟩
  · exact hm (by rw [List.length_map]; exact Nat.succ_le_succ hrl)
  have e2:((nvT nv :: rs).map (sh S)).map (fun t=>V.str (tword t)) = .str (nvW nv) :: els.map fun e=>.str (toldW L e):=by
    rw [List.map_map,List.map_cons]
    have e3:=congrArg (List.map V.str) w2
    rw [List.map_map,List.map_map] at e3
    exact congr (congrArg List.cons (by rcases nv with _ | _ <;> rfl)) e3
  rw [e2]
  exact h s ((Old.refl.push).trans o)
theorem coerce_nvT {N b:Nat} {σ:Store} {S:CSt} {nv:Bool} {made:V} {rs:List Ty} {d:Nat} {Q:V -> Store -> Prop} {R:Bool -> Store -> Prop} (hN:6 <= N) (I:CInv b σ S) (md:Made made (nvT nv) rs d) (h:∀ s,CInv b s S -> Q made s):Run (callF tab N "Checker.coerce" [.obj (b + 17),made,(Ty.k .u8).v]) σ Q R:=by
  obtain ⟨a,r,rfl⟩:=md.shape
  rcases nv with _ | _
  · exact coerce_kd (k:=.u8) hN I h
  · exact coerce_nv (t:=.k .u8) hN I trivial h
theorem CInv.isOld {b:Nat} {σ s:Store} {S:CSt} (I:CInv b s S) (hb:b = σ.n) (h:S.g = σ.get):Old σ s:=⟨hb ▸ I.bn,fun i hi=>(I.kp i (hb ▸ hi)).trans (congrFun h i)⟩
theorem isT_E {t:Pl} (h:t.isT = true):t.isE = true:=by
  rcases t with _ | _ | _ | _ | _ | _ | _ | _ | _ | _ | _ <;> first | rfl | exact no_tf h
theorem told_run {m c0:Nat} {σ:Store} {i t:Pl} {Q:V -> Store -> Prop} {R:Bool -> Store -> Prop} (hl:i.isL = true) (ht:t.isT = true) (hi:15 + i.ht <= m + 1 + 2) (hj:18 + t.ht <= m + 1 + 2) (hm:m <= 800) (hd:i.ht + t.ht + 12 <= m + 1 + 2 + 1 + 2) (hw:i.wf [] c0 0) (htw:t.wf [] (i.nx c0) (i.nx c0)) (hnx:t.nx (i.nx c0) <= 5000) (hz:i.sz <= 900) (hz2:t.sz <= 900) (hel:(totI c0 i t).el.length <= 900)
    (h1:Fine [] (totI c0 i t) -> ∀ s,Old σ s -> Q (toldV c0 i t) s) (h2:¬ Fine [] (totI c0 i t) -> ∀ s,Old σ s -> Q (.str "type") s) :
    Run (callF tab (m + 1 + 2 + 1 + 2 + 1) "_law_told" [.lst (its i.v),t.v]) σ Q R:=by
  have hn18:18 <= m + 1 + 2:=Nat.le_trans (Nat.le_add_right _ _) hj
  have hn6:6 <= m + 1 + 2 + 1 + 2:=Nat.le_trans (by decide) (Nat.le_trans hn18 (Nat.le_add_right _ 3))
  have hlen:(its i.t).length < 100000:=Nat.lt_of_le_of_lt (Nat.le_trans (Pl.len_t hl hw) hz) (by decide)
  have lm:∀ {a},a <= 2 -> a + (m + 1 + 2) <= 900:=fun h=>Nat.le_trans (Nat.add_le_add h (Nat.add_le_add_right hm 3)) (by decide)
  refine told_start (Nat.le_trans (by decide) hn6) fun s0 ρ I0 E=>?_
  refine opt_get E.pl ?_
  refine (pl_tree i).2 hl (x := "plan") (Nat.le_trans (Nat.add_le_add_right (by decide) _) (Nat.le_trans hi (Nat.le_add_right _ 3))) hw hz fun s o=>⟨hlen,?_⟩
  refine run_tupL hlen ?_
  refine opt_get E.tl ?_
  refine run_fn rfl ((pl_tree t).1 (isT_E ht) (Nat.le_trans (Nat.add_le_add_right (by decide) _) (Nat.le_trans hj (Nat.le_add_right _ 3))) htw hz2 fun s o2=>?_)
  have I:=(I0.old o).old o2
  refine run_try ?_
  refine opt_get E.ck ?_
  refine run_at I.ck ?_
  refine opt_get E.ck ?_
  refine run_at I.ck ?_
  refine opt_get E.ck ?_
  refine run_at I.ck ?_
  have st:Stt (CS0 σ.get) [] [] [] c0:=⟨rfl,.nil,fun _ _ _ h=>(nomatch h),Nat.zero_le _,fun _ h=>absurd h List.not_mem_nil,fun _ h=>absurd h List.not_mem_nil,fun _ h=>absurd h List.not_mem_nil,rfl,fun _ h=>absurd h List.not_mem_nil,.nil⟩
  refine body_run hl ht ⟨hi,I,st,lm (Nat.zero_le _),lm (show 1 <= 2 by decide),hw,Nat.le_trans (Pl.le_nx _ _) hnx,hz⟩ hj (lm (Nat.zero_le _)) (lm (Nat.le_refl 2)) htw hnx hz2 (fun s made S' gk' rs I2 hg hk hc md ro ok=>?_) fun z f s k=>h2 z s ⟨k.1,k.2⟩
  refine opt_get E.ck ?_
  refine run_at I2.ck ?_
  refine coerce_nvT hn6 I2 md fun s I3=>?_
  refine next_go ?_
  refine told_end (Nat.le_trans (by decide) hn6) hd I3 hk hc md ro hel E.ck rfl fun s5 o5=>?_
  exact h1 ⟨hc,ok⟩ s5 ((I3.isOld rfl hg).trans o5)
end Mine
end
section
set_option maxHeartbeats 1000000
set_option maxRecDepth 20000
set_option genSizeOf false
namespace Mine
structure PP (ctx:List Row) (c c' k:Nat) (I:Inf):Prop where
  lo:∀ e ∈ I.el,c <= e.num /\ e.num < c'
  lfs:∀ n ∈ I.lf,(∃ r ∈ ctx,r.num = n) \/ (c <= n /\ n < c')
  lft:∀ e ∈ I.el,e.left = I.lf.contains e.num
  len:I.el.length <= k
section
variable {ctx:List Row} {c c1 c2 k k1 k2:Nat} {I J:Inf} {kn:Kn}
theorem PP.of:PP ctx c c1 k (.of kn):=⟨fun _ h=>absurd h List.not_mem_nil,fun _ h=>absurd h List.not_mem_nil,fun _ h=>absurd h List.not_mem_nil,Nat.zero_le _⟩
theorem PP.kd (x:PP ctx c c1 k I) (h:k <= k1):PP ctx c c1 k1 { I with kd:=kn }:=⟨x.lo,x.lfs,x.lft,Nat.le_trans x.len h⟩
theorem PP.seq (hc:∀ r ∈ ctx,r.num < c) (h1:c <= c1) (h2:c1 <= c2) (x:PP ctx c c1 k1 I) (y:PP ctx c1 c2 k2 J):PP ctx c c2 (k1 + k2) (I.seq J):=by
  refine ⟨fun e he=>?_,fun n hn=>?_,fun e he=>?_,?_⟩
  · exact (List.mem_append.mp he).elim (fun h=>(x.lo e h).imp_right (Nat.lt_of_lt_of_le · h2)) fun h=>(y.lo e h).imp_left (Nat.le_trans h1)
  · exact (List.mem_append.mp hn).elim (fun h=>(x.lfs n h).imp_right (·.imp_right (Nat.lt_of_lt_of_le · h2))) fun h=>(y.lfs n h).imp_right (·.imp_left (Nat.le_trans h1))
  · show e.left = (I.lf ++ J.lf).contains e.num
    rw [con_app]
    rcases List.mem_append.mp he with h | h
    · rw [x.lft e h,not_con (l:=J.lf) fun q=>?_,Bool.or_false]
      rcases y.lfs _ q with ⟨r,hr,z⟩ | z
      · exact Nat.not_lt.mpr (x.lo e h).1 (z ▸ hc r hr)
      · exact Nat.not_lt.mpr z.1 (x.lo e h).2
    · rw [y.lft e h,not_con (l:=I.lf) fun q=>?_,Bool.false_or]
      rcases x.lfs _ q with ⟨r,hr,z⟩ | z
      · exact Nat.not_lt.mpr (Nat.le_trans h1 (y.lo e h).1) (z ▸ hc r hr)
      · exact Nat.not_lt.mpr (y.lo e h).1 z.2
  · show (I.el ++ J.el).length <= _
    rw [List.length_append]; exact Nat.add_le_add x.len y.len
set_option tactic.hygienic true in
theorem PP.ring {rt:Nat} {w:Bool} {lab:Option String} {ev:Evs} (h:c + 1 <= c1) (x:PP (ctx ++ [⟨c,lab,w,rt⟩]) (c + 1) c1 k I):PP ctx c c1 (4 + k) ⟨ev,I.bad,I.lf,I.el ++ [⟨c,w,rt,I.lf.contains c⟩],kn⟩:=by
  refine ⟨fun e he=>?_,fun n hn=>?_,fun e he=>?_,?_⟩
  · exact (List.mem_append.mp he).elim (fun h=>(x.lo e h).imp_left Nat.le_of_succ_le) fun z=>List.mem_singleton.mp z ▸ ⟨Nat.le_refl c,h⟩
  · rcases x.lfs n hn with ⟨r,hr,z⟩ | z
    · rcases List.mem_append.mp hr with h | q
      · exact .inl ⟨r,h,z⟩
      · rw [List.mem_singleton.mp q] at z
        exact .inr ⟨Nat.le_of_eq z,z ▸ h⟩
    · exact .inr (z.imp_left Nat.le_of_succ_le)
  · exact (List.mem_append.mp he).elim (x.lft e) fun z=>by cases List.mem_singleton.mp z; rfl
  · show (I.el ++ [_]).length <= _
    rw [List.length_append,Nat.add_comm]; exact Nat.add_le_add (show 1 <= 4 by decide) x.len
theorem PP.brk {row:Row} {no:Bool} (hc:∀ r ∈ ctx,r.num < c) (hin:row ∈ ctx) (x:PP ctx c c1 k I):PP ctx c c1 (2 + k) (I.brk no row):=by
  have y:PP ctx c c1 k (I.hand no row.w row.rt):=by
    rcases row.w with _ | _
    · exact ⟨x.lo,x.lfs,x.lft,x.len⟩
    · exact ⟨fun _ h=>absurd h List.not_mem_nil,fun _ h=>absurd h List.not_mem_nil,fun _ h=>absurd h List.not_mem_nil,Nat.zero_le _⟩
  refine ⟨y.lo,fun n hn=>?_,fun e he=>?_,Nat.le_trans y.len (Nat.le_add_left _ _)⟩
  · rcases hn with _ | ⟨_,h⟩
    · exact .inl ⟨row,hin,rfl⟩
    · exact y.lfs n h
  · show e.left = (row.num :: (I.hand no row.w row.rt).lf).contains e.num
    rw [y.lft e he,List.contains_cons,beq_eq_false_iff_ne.mpr (Nat.ne_of_gt (Nat.lt_of_lt_of_le (hc row hin) (y.lo e he).1)),Bool.false_or]
end
theorem ctx_lt {ctx:List Row} {c rt:Nat} {w:Bool} {lab:Option String} (hc:∀ q ∈ ctx,q.num < c):∀ q ∈ ctx ++ [⟨c,lab,w,rt⟩],q.num < c + 1:=fun q hq=>(List.mem_append.mp hq).elim (fun h=>Nat.lt_succ_of_lt (hc q h)) fun z=>List.mem_singleton.mp z ▸ Nat.lt_succ_self c
theorem pl_pp (p:Pl):∀ {ctx:List Row} {c rt:Nat},(∀ q ∈ ctx,q.num < c) -> p.wf ctx c rt -> PP ctx c (p.nx c) p.sz (p.inf ctx c rt):=by
  induction p with
  | cons p r hp hr=>exact fun hc h=>(hp hc h.2.2.1).seq hc (p.le_nx _) (r.le_nx _) (hr (fun q hq=>Nat.lt_of_lt_of_le (hc q hq) (p.le_nx _)) h.2.2.2)
  | ring n w lab i hi=>exact fun hc h=>(hi (ctx_lt hc) h.2.2).ring (i.le_nx _)
  | ifp i hi=>exact fun hc h=>(hi hc h.2).kd (Nat.le_add_left _ 1)
  | brk g lab x hx =>
    intro ctx c rt hc h
    obtain ⟨row,hp,_,_,h⟩:=h
    have e:(Pl.brk g lab x).inf ctx c rt = (x.inf ctx c row.rt).brk x.isNo row:=congrArg (fun o=>brkAt x.isNo o fun row=>x.inf ctx c row.rt) hp
    rw [e]
    exact (hx hc h).brk hc (pick_mem hp)
  | _=>exact fun _ _=>.of
theorem pl_nv {G:List Nat} {p:Pl}:∀ {c:Nat},p.wf [] c c -> p.isS = true -> (∀ e ∈ (p.inf [] c c).el,e.left = G.contains e.num) -> p.nvL G = (p.inf [] c c).kd.isNv:=by
  intro c hw hs h
  rcases p with _ | _ | ⟨k,w,lab,i⟩ | _ | ⟨g,lab,x⟩ | _ | _ | _ | _ | _ | _
  · exact no_tf hs
  · exact no_tf hs
  · obtain ⟨rfl,_,_⟩:=hw
    have h:=h _ (List.mem_append_right _ (.head _))
    have h:(i.inf [⟨k,lab,w,k⟩] (k + 1) 0).lf.contains k = G.contains k:=h
    show (!w && !G.contains k) = Kn.isNv (Inf.ring k k w (i.inf [⟨k,lab,w,k⟩] (k + 1) 0)).kd
    unfold Inf.ring
    dsimp only
    rw [h]
    rcases w with _ | _
    · rcases G.contains k with _ | _ <;> rfl
    · rfl
  · rfl
  · obtain ⟨row,hp,_⟩:=hw
    exact absurd (pick_mem hp) List.not_mem_nil
  · rfl
  · rfl
  all_goals exact no_tf hs
theorem pls_nv {G:List Nat} {i:Pl}:i.isL = true -> ∀ {c rt:Nat},i.wf [] c rt -> (∀ e ∈ (i.inf [] c rt).el,e.left = G.contains e.num) -> i.nvL G = (i.inf [] c rt).kd.isNv:=by
  induction i with
  | nil=>exact fun _ _ _ _ _=>rfl
  | cons p r _ ih =>
    intro _ c rt hw h
    have h1:=pl_nv hw.2.2.1 hw.1 fun e he=>h e (List.mem_append_left _ he)
    have h2:=ih hw.2.1 hw.2.2.2 fun e he=>h e (List.mem_append_right _ he)
    show (p.nvL G || r.nvL G) = Kn.isNv (match (p.inf [] c c).kd.isNv || (r.inf [] (p.nx c) 0).kd.isNv with | true=>.nv | false=>.k .unit)
    rw [h1,h2]
    rcases ((p.inf [] c c).kd.isNv || (r.inf [] (p.nx c) 0).kd.isNv) with _ | _ <;> rfl
  | _=>exact fun h=>no_tf h
theorem tail_pp {t:Pl} {c:Nat} (ht:t.isT = true) (hw:t.wf [] c c):PP [] c (t.nx c) t.sz (tailI c t):=by
  have nil:∀ q ∈ ([]:List Row),q.num < c:=fun _ h=>absurd h List.not_mem_nil
  rcases t with _ | _ | ⟨k,w,lab,i⟩ | _ | _ | _ | _ | _ | _ | _ | _
  · exact no_tf ht
  · exact no_tf ht
  · exact (pl_pp i (ctx_lt nil) hw.2.2).ring (i.le_nx _)
  · exact no_tf ht
  · exact no_tf ht
  · exact no_tf ht
  · exact no_tf ht
  · exact no_tf ht
  · exact .of
  · exact no_tf ht
  · exact no_tf ht
theorem tail_nv {G:List Nat} {t:Pl} {c:Nat} (ht:t.isT = true) (hw:t.wf [] c c) (h:∀ e ∈ (tailI c t).el,e.left = G.contains e.num):t.nvL G = tailN c t:=by
  rcases t with _ | _ | ⟨k,w,lab,i⟩ | _ | _ | _ | _ | _ | _ | _ | _
  · exact no_tf ht
  · exact no_tf ht
  · obtain ⟨rfl,_⟩:=hw
    have h:=h _ (List.mem_append_right _ (.head _))
    exact congrArg (fun b=>!w && !b) h.symm
  · exact no_tf ht
  · exact no_tf ht
  · exact no_tf ht
  · exact no_tf ht
  · exact no_tf ht
  · rfl
  · exact no_tf ht
  · exact no_tf ht
theorem tot_pp {i t:Pl} {c:Nat} (hw:i.wf [] c 0) (ht:t.isT = true) (htw:t.wf [] (i.nx c) (i.nx c)):PP [] c (t.nx (i.nx c)) (i.sz + t.sz) (totI c i t) :=
  have nil:∀ {c},∀ q ∈ ([]:List Row),q.num < c:=fun _ h=>absurd h List.not_mem_nil
  (pl_pp i nil hw).seq nil (i.le_nx _) (t.le_nx _) (tail_pp ht htw)
theorem due_told {i t:Pl} {c c':Nat} {X:LB} {all:List (Nat × Bool × Nat)} (hl:i.isL = true) (hw:i.wf [] c 0) (ht:t.isT = true) (htw:t.wf [] (i.nx c) (i.nx c)) (G:Gt [] X0 c' [] false (totI c i t) X all):(Fine [] (totI c i t) -> X.due i t = toldV c i t) /\ (¬ Fine [] (totI c i t) -> X.due i t = .str "type"):=by
  have pp:=tot_pp hw ht htw
  have hf:X.fine = true ↔ Fine [] (totI c i t):=G.ls.fine
  have hleft:X.left = (totI c i t).lf:=G.left
  have hend:X.ended = (totI c i t).el.map (·.num):=G.ended
  refine ⟨fun F=>?_,fun F=>?_⟩
  · have cs:Cons (totI c i t).ev:=F.1
    have S:=G.ls
    have kinds:∀ g,nl g X.kinds = nl g (totI c i t).ev:=fun g=>by
      rcases q:nl g X.kinds with _ | k
      · exact (Option.eq_none_iff_forall_ne_some.mpr fun k e=>S.k2 g k (nl_mem e) q).symm
      · exact (lk_of cs (S.k1 g k q)).symm
    have word:∀ e ∈ (totI c i t).el,X.word e.num = toldW (totI c i t).ev e:=fun e he=>by
      obtain ⟨_,h2,h3⟩:=S.rows _ (G.el e he)
      have h4:X.whiles.contains e.num = e.w:=Bool.eq_iff_iff.mpr (List.contains_iff_mem.trans h3)
      have hu:=S.wu _ (G.el e he)
      have h2:X.root e.num = e.rt:=h2
      unfold LB.word toldW
      rw [h4,hleft,<- pp.lft e he,h2,kinds]
      obtain ⟨m,w,rt,l⟩:=e
      rcases w with _ | _
      · rcases l with _ | _ <;> rfl
      · have:nl rt (totI c i t).ev = some .unit:=lk_of cs (hu rfl)
        dsimp only
        rw [Bool.or_true,this]; rfl
    have nv:(i.nvL X.left || t.nvL X.left) = totN c i t:=by
      rw [hleft,pls_nv hl hw fun e he=>pp.lft e (List.mem_append_left _ he),tail_nv ht htw fun e he=>pp.lft e (List.mem_append_right _ he)]; rfl
    unfold LB.due toldV
    rw [hf.mpr F,nv,hend,List.map_map]
    exact congrArg (fun l=>V.lst (.str (nvW (totN c i t)) :: l)) (List.map_congr_left fun e he=>congrArg V.str (word e he))
  · unfold LB.due
    rw [Bool.eq_false_iff.mpr fun h=>F (hf.mp h)]
end Mine
end
section
set_option maxHeartbeats 1000000
set_option maxRecDepth 20000
set_option genSizeOf false
namespace Mine
structure GS (σ:Store) (src cnt c:Nat):Prop where
  ne:src ≠ cnt
  s:∃ a b:Int,At σ src (.list [.int a,.int b]) /\ 0 <= b /\ b < 2147483647
  c:At σ cnt (.list [.int c])
section
variable {σ:Store} {Q:V -> Store -> Prop} {R:Bool -> Store -> Prop} {a b:Int} {t:Bool} {src cnt c:Nat}
theorem b_mod (hb:0 < b) (h:Q (.int (a % b)) σ):Run (doBin .mod (.int a) (.int b)) σ Q R:=run_pos hb h
theorem b_div (hb:0 < b) (hc:b < 1099511627776) (h:Q (.int (a / b)) σ):Run (doBin .fdiv (.int a) (.int b)) σ Q R:=run_pos (by rw [decide_eq_true hb,decide_eq_true hc]; rfl) h
theorem b_mul (h1:0 <= a) (h2:a < 2147483647) (h:Q (.int (a * b)) σ):Run (doBin .mul (.int a) (.int b)) σ Q R:=run_pos (by rw [decide_eq_true (show a.natAbs < 18446744073709551616 by omega)]; rfl) h
theorem cmp_gt (e:decide (a > b) = t) (h:Q (.bool t) σ):Run (doCmp .gt (.int a) (.int b)) σ Q R:=by subst e; exact h
theorem cmp_lt (e:decide (a < b) = t) (h:Q (.bool t) σ):Run (doCmp .lt (.int a) (.int b)) σ Q R:=by subst e; exact h
theorem GS.putS (G:GS σ src cnt c) (h1:0 <= b) (h2:b < 2147483647):GS (σ.set src (.list [.int a,.int b])) src cnt c :=
  ⟨G.ne,G.s.elim fun _ z=>z.elim fun _ z=>⟨a,b,z.1.put,h1,h2⟩,G.c.set fun q=>G.ne q.symm⟩
theorem GS.putC (G:GS σ src cnt c) {d:Nat}:GS (σ.set cnt (.list [.int d])) src cnt d:=⟨G.ne,G.s.elim fun a z=>z.elim fun b z=>⟨a,b,z.1.set G.ne,z.2⟩,G.c.put⟩
theorem GS.old {s:Store} (G:GS σ src cnt c) (o:Old σ s):GS s src cnt c:=⟨G.ne,G.s.elim fun a z=>z.elim fun b z=>⟨a,b,z.1.to o.n (o.get _ z.1.1),z.2⟩,G.c.to o.n (o.get _ G.c.1)⟩
theorem run_setI {j:Nat} {l:List V} {k:Int} {v:V} {Q:Unit -> Store -> Prop} (h:At σ j (.list l)) (hk:0 <= k /\ k < l.length /\ l.length < 100000) (hq:Q () (σ.set j (.list (l.set k.toNat v)))):Run (doSetI (.obj j) (.int k) v) σ Q R:=run_at h (show Run (putAt j l v k) σ Q R from run_pos hk hq)
theorem at_mem {l:List V} {z:Int} (h0:0 <= z) (h1:z < l.length) (hl:l.length < 1000):∃ v ∈ l,atPlace l z = M.ret v:=by
  obtain ⟨k,rfl⟩:=Int.eq_ofNat_of_zero_le h0
  have hk:k < l.length:=Int.ofNat_lt.mp h1
  exact ⟨l[k],List.getElem_mem hk,at_get (List.getElem?_eq_getElem hk) (Nat.lt_trans (Nat.lt_trans hk hl) (by decide))⟩
theorem run_idxZ {l:List V} {z:Int} {v:V} (e:atPlace l z = M.ret v) (h:Q v σ):Run (doIdx (.lst l) (.int z)) σ Q R:=show Run (atPlace l z) σ Q R from run_eq e h
theorem take_run {N top:Nat} (hN:1 <= N) (ht:0 < top) (ht2:top < 1000) (G:GS σ src cnt c) (h:∀ s (z:Int),0 <= z -> z < top -> GS s src cnt c -> Q (.int z) s):Run (callF tab N "_law_take" [.obj src,.int top]) σ Q R:=by
  refine cps fun P k9=>?_
  obtain ⟨n,rfl,hn⟩:=fuel hN
  obtain ⟨a,b,hs,hb1,hb2⟩:=G.s
  have ht':(0:Int) < top:=Int.ofNat_lt.mpr ht
  have fin:∀ (x:Int) s,GS s src cnt c -> Q (.int (x % (top:Int))) s:=fun x s G=>h s _ (Int.emod_nonneg x (Int.ne_of_gt ht')) (Int.emod_lt_of_pos x ht') G
  refine k9 (run_call rfl rfl ?_)
  refine run_idxL hs (v:=.int a) rfl ?_
  by_cases q:a > 0
  · refine wp_k ?_
    refine cmp_gt (decide_eq_true q) ?_
    refine run_idxL hs (v:=.int a) rfl ?_
    refine b_mod (a:=a) ht' ?_
    refine run_idxL hs (v:=.int a) rfl ?_
    refine wp_v rfl ?_
    refine b_div ht' (Int.lt_trans (Int.ofNat_lt.mpr ht2) (by decide)) ?_
    refine run_setI hs ⟨by decide,(show (0:Int) < 2 by decide),(show 2 < 100000 by decide)⟩ ?_
    exact fin a _ (G.putS (a:=a / top) hb1 hb2)
  · refine wp_k ?_
    refine cmp_gt (decide_eq_false q) ?_
    refine run_idxL hs (v:=.int b) rfl ?_
    refine wp_k ?_
    refine b_mul hb1 hb2 ?_
    refine run_setI hs ⟨by decide,(show (1:Int) < 2 by decide),(show 2 < 100000 by decide)⟩ ?_
    have h1:=Int.emod_nonneg (b * 39373 + 7) (show (2147483647:Int) ≠ 0 by decide)
    have h2:=Int.emod_lt_of_pos (b * 39373 + 7) (show (0:Int) < 2147483647 by decide)
    have G2:=G.putS (a:=a) h1 h2
    have hs2:=hs.put (o':=.list [.int a,.int ((b * 39373 + 7) % 2147483647)])
    refine run_idxL hs2 (v:=.int ((b * 39373 + 7) % 2147483647)) rfl ?_
    refine run_idxL hs2 (v:=.int ((b * 39373 + 7) % 2147483647)) rfl ?_
    refine b_mul h1 h2 ?_
    generalize (b * 39373 + 7) % 2147483647 = d at G2 ⊢
    refine b_mod (a:=d * d % 2147483629 / 32) ht' ?_
    exact fin _ _ G2
theorem run_lenL {C:Oracle} {l:List V} (h:l.length < 100000) (z:Q (.int (Int.ofNat l.length)) σ):Run (doCall C (.g "len") [.lst l]) σ Q R:=show Run (if l.length < 100000 then M.ret (.int (Int.ofNat l.length)) else M.fail) σ Q R from run_pos h z
theorem one_run {N:Nat} {things:List V} (hN:2 <= N) (h0:0 < things.length) (hl:things.length < 1000) (G:GS σ src cnt c) (h:∀ s x,x ∈ things -> GS s src cnt c -> Q x s):Run (callF tab N "_law_one" [.obj src,.lst things]) σ Q R:=by
  refine cps fun P k9=>?_
  obtain ⟨n,rfl,hn⟩:=fuel hN
  refine k9 (run_call rfl rfl ?_)
  refine run_lenL (l:=things) (Nat.lt_trans hl (by decide)) ?_
  refine run_fn rfl ?_
  refine take_run (top:=things.length) hn h0 hl G fun s z h1 h2 G2=>?_
  obtain ⟨v,hv,e⟩:=at_mem h1 h2 hl
  refine run_idxZ e ?_
  exact h s v hv G2
end
end Mine
end
section
set_option maxHeartbeats 1000000
set_option maxRecDepth 20000
set_option genSizeOf false
namespace Mine
noncomputable def rowV (r:Row):V:=.lst [.int r.num,labV r.lab]
noncomputable def arV (ctx:List Row):V:=.lst (ctx.map rowV)
noncomputable def fitP (lab:Option String) (r:Row):Bool:=lab.isNone || r.lab == lab
theorem pick_last {ctx:List Row} {lab:Option String} (h:∃ r ∈ ctx,fitP lab r = true):∃ l row,ctx.filter (fitP lab) = l ++ [row] /\ pick ctx lab = some row:=by
  have e:pick ctx lab = (ctx.filter (fitP lab)).getLast?:=by
    show ctx.reverse.find? (fitP lab) = _
    rw [<- List.head?_filter,List.filter_reverse,List.head?_reverse]
  rcases List.eq_nil_or_concat (ctx.filter (fitP lab)) with q | ⟨l,row,q⟩
  · obtain ⟨r,hr,z⟩:=h
    have:=List.mem_filter.mpr ⟨hr,z⟩
    rw [q] at this
    exact absurd this List.not_mem_nil
  · rw [List.concat_eq_append] at q
    exact ⟨l,row,q,by rw [e,q,List.getLast?_concat]⟩
section
variable {C:Oracle} {σ:Store} {R:Bool -> Store -> Prop} {ρ:Env}
theorem is_labN {l:Option String}:isNone (labV l) = M.ret l.isNone:=by rcases l with _ | _ <;> rfl
noncomputable def labC:Ex:=.cmp .isNot (.idx (.var "row") (.k (.int 1))) (.k .none)
noncomputable def fitC:Ex:=.orE [.cmp .is (.var "label") (.k .none),.cmp .eq (.idx (.var "row") (.k (.int 1))) (.var "label")]
theorem labs_run:∀ (ctx:List Row) {Q:List V -> Store -> Prop},(∀ l,l.length <= ctx.length -> (∀ x ∈ l,∃ r ∈ ctx,∃ s,r.lab = some s /\ x = .str s) -> Q l σ) -> Run (mapItems (cmpF C ρ "row" (.idx (.var "row") (.k (.int 1))) (some labC)) (ctx.map rowV)) σ Q R
  | [],Q,h=>h [] (Nat.le_refl _) fun _ h=>absurd h List.not_mem_nil
  | ⟨n,lab,w,rt⟩ :: l,Q,h=>by
    refine mi_if ?_
    rcases lab with _ | s
    · exact labs_run l fun m h1 h2=>h m (Nat.le_succ_of_le h1) fun x hx=>(h2 x hx).imp fun r z=>⟨.tail _ z.1,z.2⟩
    · exact labs_run l (Q:=fun vs s'=>Q (.str s :: vs) s') fun m h1 h2=>h (.str s :: m) (Nat.succ_le_succ h1) fun x hx=>by
        rcases hx with _ | ⟨_,hx⟩
        · exact ⟨_,.head _,s,rfl,rfl⟩
        · exact (h2 x hx).imp fun r z=>⟨.tail _ z.1,z.2⟩
theorem fit_run {lab:Option String} (hl:ρ "label" = some (labV lab)):∀ (ctx:List Row) {Q:List V -> Store -> Prop},Q ((ctx.filter (fitP lab)).map fun r=>.int r.num) σ -> Run (mapItems (cmpF C ρ "row" (.idx (.var "row") (.k (.int 0))) (some fitC)) (ctx.map rowV)) σ Q R
  | [],Q,h=>h
  | ⟨n,m,w,rt⟩ :: l,Q,h=>by
    have z:fitP lab ⟨n,m,w,rt⟩ = true -> Run (mapItems (cmpF C ρ "row" (.idx (.var "row") (.k (.int 0))) (some fitC)) (l.map rowV)) σ (fun vs s=>Q (.int n :: vs) s) R:=fun e=>fit_run hl l (by rw [List.filter_cons_of_pos e] at h; exact h)
    refine mi_if ?_
    refine opt_get hl ?_
    rcases lab with _ | x
    · exact z rfl
    · refine opt_get hl ?_
      refine run_isB (veq_lab (l:=m) (m:=some x)) ?_
      have e:fitP (some x) ⟨n,m,w,rt⟩ = (m == some x):=rfl
      rw [e] at z
      rcases q:(m == some x) with _ | _
      · rw [List.filter_cons_of_neg (by rw [e,q]; decide)] at h
        exact fit_run hl l h
      · exact z q
end
theorem goal_run {N src cnt c:Nat} {σ:Store} {ctx:List Row} {Q:V -> Store -> Prop} {R:Bool -> Store -> Prop} (hN:3 <= N) (h0:ctx ≠ []) (hl:ctx.length <= 100) (G:GS σ src cnt c) (h:∀ s lab row,pick ctx lab = some row -> GS s src cnt c -> Q (.tup [.int row.num,labV lab]) s) :
    Run (callF tab N "_law_goal" [.obj src,arV ctx]) σ Q R:=by
  refine cps fun P k9=>?_
  obtain ⟨n,rfl,hn⟩:=fuel hN
  refine k9 (run_call rfl rfl ?_)
  refine labs_run ctx fun ls hll hlm=>⟨Nat.lt_of_le_of_lt (Nat.le_trans hll hl) (by decide),?_⟩
  refine run_glue (a:=[.none]) (show 1 < 100000 by decide) (Nat.lt_of_le_of_lt (Nat.le_trans hll hl) (by decide)) ?_
  refine run_fn rfl (one_run hn (Nat.succ_pos _) (Nat.lt_of_le_of_lt (Nat.succ_le_succ (Nat.le_trans hll hl)) (by decide)) G fun s x hx G1=>?_)
  have key:∃ lab,x = labV lab /\ ∃ r ∈ ctx,fitP lab r = true:=by
    rcases hx with _ | ⟨_,hx⟩
    · rcases ctx with _ | ⟨r,l⟩
      · exact absurd rfl h0
      · exact ⟨none,rfl,r,.head _,rfl⟩
    · obtain ⟨r,hr,t,e1,e2⟩:=hlm x hx
      exact ⟨some t,e2,r,hr,by unfold fitP; rw [e1,beq_self_eq_true,Bool.or_true]⟩
  obtain ⟨lab,rfl,hr⟩:=key
  obtain ⟨l,row,e1,e2⟩:=pick_last hr
  have hfl:((ctx.filter (fitP lab)).map fun r=>V.int r.num).length < 100000:=by rw [List.length_map]; exact Nat.lt_of_le_of_lt (Nat.le_trans (List.length_filter_le _ _) hl) (by decide)
  refine fit_run (lab:=lab) (ρ:=Env.set (Env.sets (fun _=>none) f_law_goal.params [.obj src,arV ctx]) "label" (labV lab)) rfl ctx ⟨hfl,?_⟩
  rw [e1,List.map_append]
  refine run_idxZ at_last ?_
  exact h s lab row e2 G1
end Mine
end
section
set_option maxHeartbeats 1000000
set_option maxRecDepth 20000
set_option genSizeOf false
namespace Mine
noncomputable def SzB:Nat -> Nat
  | 0=>3
  | d + 1=>6 + 3 * SzB d
noncomputable def HB (d:Nat):Nat:=6 + 9 * d
structure OutL (ctx:List Row) (c d k:Nat) (i:Pl):Prop where
  wf:i.wf ctx c 0
  l:i.isL = true
  sz:i.sz <= k * SzB d
  ht:i.ht <= HB d
  len:(its i.v).length = k
structure OutP (ctx:List Row) (c d:Nat) (p:Pl):Prop where
  wf:p.wf ctx c c
  s:p.isS = true
  sz:p.sz <= SzB d
  ht:p.ht <= HB d
structure OutV (ctx:List Row) (c rt d:Nat) (x:Pl):Prop where
  wf:x.wf ctx c rt
  v:x.isV = true
  sz:2 + x.sz <= SzB d
  ht:x.ht + 3 <= HB d
structure GG (k d N:Nat) (z:Int) (ctx:List Row) (σ:Store) (src cnt c:Nat):Prop where
  hN:4 * d + k <= N
  hz:z = d
  hl:ctx.length + d <= 90
  g:GS σ src cnt c
noncomputable def GPlan (d:Nat):Prop:=∀ {N src cnt c:Nat} {z:Int} {σ:Store} {ctx:List Row} {Q:V -> Store -> Prop} {R:Bool -> Store -> Prop},GG 4 d N z ctx σ src cnt c -> (ctx = [] -> 0 < d) ->
  (∀ s p,OutP ctx c d p -> GS s src cnt (p.nx c) -> Q p.v s) -> Run (callF tab N "_law_plan" [.obj src,arV ctx,.obj cnt,.int z]) σ Q R
noncomputable def GPlans (d:Nat):Prop:=∀ {N src cnt c k:Nat} {z y:Int} {σ:Store} {ctx:List Row} {Q:V -> Store -> Prop} {R:Bool -> Store -> Prop},GG 5 d N z ctx σ src cnt c -> (ctx = [] -> 0 < d) -> y = k -> k <= 3 ->
  (∀ s i,OutL ctx c d k i -> GS s src cnt (i.nx c) -> Q (.lst (its i.v)) s) -> Run (callF tab N "_law_plans" [.obj src,arV ctx,.obj cnt,.int z,.int y]) σ Q R
noncomputable def GRing (d:Nat):Prop:=∀ {N src cnt c rt:Nat} {z:Int} {σ:Store} {ctx:List Row} {Q:V -> Store -> Prop} {R:Bool -> Store -> Prop},4 * d + 6 <= N -> z = d -> ctx.length + 1 + d <= 90 -> GS σ src cnt c ->
  (∀ s w lab i k,k <= 3 -> OutL (ctx ++ [⟨c,lab,w,rt⟩]) (c + 1) d k i -> GS s src cnt (i.nx (c + 1)) -> Q (Pl.ring c w lab i).v s) -> Run (callF tab N "_law_ring" [.obj src,arV ctx,.obj cnt,.int z]) σ Q R
noncomputable def GVal (d:Nat):Prop:=∀ {N src cnt c rt:Nat} {z:Int} {σ:Store} {ctx:List Row} {Q:V -> Store -> Prop} {R:Bool -> Store -> Prop},GG 3 d N z ctx σ src cnt c ->
  (∀ s x,OutV ctx c rt d x -> GS s src cnt (x.nx c) -> Q x.v s) -> Run (callF tab N "_law_value" [.obj src,arV ctx,.obj cnt,.int z]) σ Q R
section
variable {d n src cnt:Nat} {z:Int} {ctx:List Row} {R:Bool -> Store -> Prop} {ρ:Env}
noncomputable def planE:Ex:=.call (.g "_law_plan") [.var "source",.var "around",.var "count",.var "deep"]
theorem plans_all (hp:GPlan d) (hn:4 * d + 4 <= n) (hz:z = d) (h0:ctx = [] -> 0 < d) (hl:ctx.length + d <= 90) (r1:ρ "source" = some (.obj src)) (r2:ρ "around" = some (arV ctx)) (r3:ρ "count" = some (.obj cnt)) (r4:ρ "deep" = some (.int z)) :
    ∀ (l:List V) {c:Nat} {σ:Store} {Q:List V -> Store -> Prop},GS σ src cnt c -> (∀ s i,OutL ctx c d l.length i -> GS s src cnt (i.nx c) -> Q (its i.v) s) -> Run (mapItems (cmpF (callF tab n) ρ "turn" planE none) l) σ Q R
  | [],c,σ,Q,G,h=>h σ .nil ⟨trivial,rfl,Nat.zero_le _,Nat.zero_le _,rfl⟩ G
  | v :: l,c,σ,Q,G,h=>by
    refine mi_cons ?_
    refine opt_get r1 ?_
    refine opt_get r2 ?_
    refine opt_get r3 ?_
    refine opt_get r4 ?_
    refine run_fn rfl (hp ⟨hn,hz,hl,G⟩ h0 fun s p o G1=>?_)
    refine plans_all hp hn hz h0 hl r1 r2 r3 r4 l G1 fun s i o2 G2=>?_
    refine h s (.cons p i) ⟨⟨o.s,o2.l,o.wf,o2.wf⟩,rfl,?_,Nat.max_le.mpr ⟨o.ht,o2.ht⟩,congrArg (· + 1) o2.len⟩ G2
    show p.sz + i.sz <= (l.length + 1) * SzB d
    rw [Nat.succ_mul,Nat.add_comm]; exact Nat.add_le_add o2.sz o.sz
theorem run_range {σ:Store} {Q:List V -> Store -> Prop} {y:Int} (h0:0 <= y) (h1:y < 1000) (h:Q ((List.range y.toNat).map fun k=>.int (Int.ofNat k)) σ):Run (rangeOf (.int y)) σ Q R:=run_pos (by rw [decide_eq_true h0,decide_eq_true h1]; rfl) h
end
theorem plans_run {d:Nat} (hp:GPlan d):GPlans d:=fun {N src cnt c k z y σ ctx Q R} A h0 hy hk h=>by
  obtain ⟨n,rfl,hn⟩:=fuel (c:=4 * d + 4) A.hN
  refine run_call rfl rfl ?_
  refine run_range (hy ▸ Int.natCast_nonneg k) (hy ▸ Int.lt_of_le_of_lt (Int.ofNat_le.mpr hk) (by decide)) ?_
  refine plans_all hp hn A.hz h0 A.hl rfl rfl rfl rfl _ A.g fun s i o G=>?_
  have e:((List.range y.toNat).map fun k=>V.int (Int.ofNat k)).length = k:=by rw [List.length_map,List.length_range,hy]; rfl
  rw [e] at o
  exact ⟨o.len ▸ Nat.lt_of_le_of_lt hk (by decide),h s i o G⟩
theorem ar_app {ctx:List Row} {c rt:Nat} {lab:Option String} {w:Bool}:V.lst (ctx.map rowV ++ [.lst [.int c,labV lab]]) = arV (ctx ++ [⟨c,lab,w,rt⟩]):=congrArg V.lst (List.map_append (f:=rowV) (l₂:=[⟨c,lab,w,rt⟩])).symm
theorem y_fit {y:Int} {m:Nat} (h1:0 <= y) (h2:y < (m:Int)):1 + y = ((1 + y.toNat:Nat):Int) /\ 1 + y.toNat <= m:=by omega
set_option tactic.hygienic true in
theorem ring_run {d:Nat} (hp:GPlans d):GRing d:=fun {N src cnt c rt z σ ctx Q R} hN hz hl G h=>by
  obtain ⟨n,rfl,hn⟩:=fuel (c:=4 * d + 5) hN
  have hn1:5 <= n:=Nat.le_trans (Nat.le_add_left _ _) hn
  refine run_call rfl rfl ?_
  refine run_idxL G.c (v:=.int c) rfl ?_
  refine run_fn rfl (one_run (things:=[.none,.str "'a",.str "'a",.str "'b"]) (Nat.le_trans (by decide) hn1) (show 0 < 4 by decide) (show 4 < 1000 by decide) G fun s x hx G=>?_)
  have key:∃ lab,x = labV lab:=by
    rcases hx with _ | ⟨_,hx⟩
    · exact ⟨none,rfl⟩
    rcases hx with _ | ⟨_,hx⟩
    · exact ⟨some "'a",rfl⟩
    rcases hx with _ | ⟨_,hx⟩
    · exact ⟨some "'a",rfl⟩
    rcases hx with _ | ⟨_,hx⟩
    · exact ⟨some "'b",rfl⟩
    exact absurd hx List.not_mem_nil
  obtain ⟨lab,rfl⟩:=key
  refine ⟨rfl,?_⟩
  refine run_setI G.c ⟨by decide,(show (0:Int) < 1 by decide),(show 1 < 100000 by decide)⟩ ?_
  have G:=G.putC (d:=c + 1)
  refine run_fn rfl (take_run (top:=6) (Nat.le_trans (by decide) hn1) (by decide) (by decide) G fun s y _ _ G=>?_)
  refine wp_k ?_
  refine run_isB (t:=(y == 0)) rfl ?_
  generalize (y == 0) = w
  refine run_glue (a:=ctx.map rowV) (b:=[.lst [.int c,labV lab]]) ?_ (show 1 < 100000 by decide) ?_
  · rw [List.length_map]
    exact Nat.lt_of_le_of_lt (Nat.le_trans (Nat.le_trans (Nat.le_add_right _ _) (Nat.le_add_right _ _)) hl) (by decide)
  rw [ar_app (w:=w) (rt:=rt)]
  refine run_fn rfl (take_run (top:=3) (Nat.le_trans (by decide) hn1) (by decide) (by decide) G fun s y h1 h2 G=>?_)
  have hy:=y_fit h1 h2
  refine run_fn rfl (hp (k:=1 + y.toNat) (y:=1 + y) ⟨hn,hz,by rw [List.length_append]; exact hl,G⟩ (fun q=>by rcases ctx with _ | _ <;> cases q) hy.1 hy.2 fun s i o G=>?_)
  have h:=h s w lab i _ hy.2 o G
  change Q (.tup [.str "ring",.int c,.bool w,labV lab,i.v]) s at h
  rw [Pl.l_v o.l] at h
  exact h
end Mine
end
section
set_option maxHeartbeats 1000000
set_option maxRecDepth 20000
set_option genSizeOf false
namespace Mine
theorem SzB_ge:∀ {d:Nat},3 <= SzB d
  | 0=>Nat.le_refl _
  | d + 1=>Nat.le_trans (by decide) (Nat.le_add_right 6 _)
theorem HB_ge {d k:Nat} (h:k <= 6):k <= HB d:=Nat.le_trans h (Nat.le_add_right _ _)
theorem leaf_at {y:Int} (h0:0 <= y) (h1:y < 6):∃ x:Pl,(x = .u8 \/ x = .bool \/ x = .unit \/ x = .ret) /\ atPlace [.str "u8",.str "u8",.str "u8",.str "bool",.str "unit",.tup [.str "return"]] y = M.ret x.v:=by
  obtain ⟨k,rfl⟩:=Int.eq_ofNat_of_zero_le h0
  have hk:k < 6:=Int.ofNat_lt.mp h1
  rcases k with _ | _ | _ | _ | _ | _ | k
  · exact ⟨.u8,.inl rfl,rfl⟩
  · exact ⟨.u8,.inl rfl,rfl⟩
  · exact ⟨.u8,.inl rfl,rfl⟩
  · exact ⟨.bool,.inr (.inl rfl),rfl⟩
  · exact ⟨.unit,.inr (.inr (.inl rfl)),rfl⟩
  · exact ⟨.ret,.inr (.inr (.inr rfl)),rfl⟩
  · exact absurd hk (Nat.not_lt.mpr (Nat.le_add_left 6 k))
theorem leaf_out {ctx:List Row} {c rt d:Nat} {x:Pl} (hx:x = .u8 \/ x = .bool \/ x = .unit \/ x = .ret):OutV ctx c rt d x /\ x.nx c = c:=by
  have h:=SzB_ge (d:=d)
  rcases hx with rfl | rfl | rfl | rfl
  · exact ⟨⟨trivial,rfl,Nat.le_of_succ_le h,HB_ge (show 3 <= 6 by decide)⟩,rfl⟩
  · exact ⟨⟨trivial,rfl,Nat.le_of_succ_le h,HB_ge (show 3 <= 6 by decide)⟩,rfl⟩
  · exact ⟨⟨trivial,rfl,Nat.le_of_succ_le h,HB_ge (show 6 <= 6 by decide)⟩,rfl⟩
  · exact ⟨⟨trivial,rfl,h,HB_ge (show 3 <= 6 by decide)⟩,rfl⟩
theorem ring_sz {c d k e:Nat} {w:Bool} {lab:Option String} {i:Pl} {ctx:List Row} (hk:k <= 3) (o:OutL ctx c d k i):(Pl.ring e w lab i).sz <= 4 + 3 * SzB d:=Nat.add_le_add_left (Nat.le_trans o.sz (Nat.mul_le_mul_right _ hk)) 4
section
variable {n src cnt c rt:Nat} {z:Int} {σ:Store} {ctx:List Row} {Q:V -> Store -> Prop} {R:Bool -> Store -> Prop} {ρ:Env}
noncomputable def valEnd:List St:=f_law_value.body.drop 1
theorem val_leaf {d:Nat} {y:Int} (h0:0 <= y) (h1:y < 6) (hw:ρ "way" = some (.int y)) (G:GS σ src cnt c) (h:∀ s x,OutV ctx c rt d x -> GS s src cnt (x.nx c) -> Q x.v s):wpB (callF tab n) R valEnd ρ (finQ Q) σ:=by
  obtain ⟨x,hx,e⟩:=leaf_at h0 h1
  obtain ⟨o,e2⟩:=leaf_out (ctx:=ctx) (c:=c) (rt:=rt) (d:=d) hx
  refine opt_get hw ?_
  refine wp_k ?_
  refine cmp_gt (decide_eq_false (Int.not_lt.mpr (Int.lt_add_one_iff.mp h1))) ?_
  refine opt_get hw ?_
  refine run_idxZ e ?_
  exact h σ x o (e2.symm ▸ G)
end
theorem val_head {C:Oracle} {ρ:Env} {R:Bool -> Store -> Prop} {Q:QF} {s:Store} {src:V} {z:Int} {a b:V} {t:Bool} {rest:List St} (r1:ρ "source" = some src) (r2:ρ "deep" = some (.int z)) (e:decide (z > 0) = t) (h:Run (C "_law_take" [src,cond t a b]) s (fun v s=>wpB C R rest (ρ.set "way" v) Q s) R) :
    wpB C R (.asg "way" (.call (.g "_law_take") [.var "source",.ite (.cmp .gt (.var "deep") (.k (.int 0))) (.k a) (.k b)]) :: rest) ρ Q s:=by
  refine opt_get r1 ?_
  refine opt_get r2 ?_
  refine wp_k ?_
  refine cmp_gt e ?_
  rcases t with _ | _
  · exact run_fn rfl h
  · exact run_fn rfl h
theorem value_run {d:Nat} (hr:∀ e,d = e + 1 -> GRing e):GVal d:=fun {N src cnt c rt z σ ctx Q R} A h=>by
  obtain ⟨n,rfl,hn⟩:=fuel (c:=4 * d + 2) A.hN
  have hn1:1 <= n:=Nat.le_trans (Nat.le_trans (by decide) (Nat.le_add_left 2 _)) hn
  have hz:=A.hz
  refine run_call rfl rfl ?_
  rcases d with _ | e
  · refine val_head rfl rfl (decide_eq_false (hz ▸ Int.lt_irrefl 0)) ?_
    refine take_run (top:=6) hn1 (by decide) (by decide) A.g fun s y h1 h2 G=>?_
    exact val_leaf h1 h2 rfl G h
  · refine val_head rfl rfl (decide_eq_true (hz ▸ Int.natCast_pos.mpr (Nat.succ_pos e))) ?_
    refine take_run (top:=8) hn1 (by decide) (by decide) A.g fun s y h1 h2 G=>?_
    by_cases q:y > 5
    · refine if_go ?_
      refine cmp_go ?_
      refine wp_v rfl ?_
      refine wp_k ?_
      refine cmp_gt (decide_eq_true q) ?_
      refine run_fn rfl (hr e rfl (rt:=rt) (z:=z - 1) hn ?_ ?_ G fun s w lab i k hk o G=>?_)
      · rw [hz]; exact Int.add_sub_cancel (e:Int) 1
      · rw [Nat.add_right_comm]; exact A.hl
      · refine h s (.ring c w lab i) ⟨⟨rfl,o.l,o.wf⟩,rfl,?_,?_⟩ G
        · exact Nat.le_trans (Nat.add_le_add_left (ring_sz hk o) 2) (Nat.le_of_eq (Nat.add_assoc 2 4 _).symm)
        · exact Nat.le_trans (Nat.add_le_add_right (Nat.add_le_add_right o.ht 6) 3) (Nat.le_of_eq (by unfold HB; rw [Nat.mul_succ]; rfl))
    · exact val_leaf h1 (Int.lt_add_one_iff.mpr (Int.not_lt.mp q)) rfl G h
end Mine
end
section
set_option maxHeartbeats 1000000
set_option maxRecDepth 20000
set_option genSizeOf false
namespace Mine
theorem rows_data:∀ {ctx:List Row},V.areData (ctx.map rowV) = true
  | []=>rfl
  | ⟨n,lab,w,rt⟩ :: l=>by
    show (V.areData [.int n,labV lab] && V.areData (l.map rowV)) = true
    rw [rows_data]
    rcases lab with _ | _ <;> rfl
structure EnvP (src cnt:Nat) (ctx:List Row) (z y:Int) (ρ:Env):Prop where
  so:ρ "source" = some (.obj src)
  ar:ρ "around" = some (arV ctx)
  ct:ρ "count" = some (.obj cnt)
  dp:ρ "deep" = some (.int z)
  wy:ρ "way" = some (.int y)
noncomputable def planRest:List St:=f_law_plan.body.drop 1
section
variable {d n src cnt c:Nat} {z y:Int} {σ:Store} {ctx:List Row} {Q:V -> Store -> Prop} {R:Bool -> Store -> Prop} {ρ:Env}
theorem plan_t1 {C:Oracle} {Q:QF} {a rest:List St} (E:EnvP src cnt ctx z y ρ) (h1:(y < 3 /\ z > 0) \/ ctx = [] -> wpB C R a ρ (nextQ (fun ρ s=>wpB C R rest ρ Q s) Q) σ) (h2:ctx ≠ [] -> wpB C R rest ρ Q σ) :
    wpB C R (.ifS (.orE [.andE [.cmp .lt (.var "way") (.k (.int 3)),.cmp .gt (.var "deep") (.k (.int 0))],.cmp .eq (.var "around") (.lstE false [])]) a [] :: rest) ρ Q σ:=by
  refine opt_get E.wy ?_
  refine wp_k ?_
  by_cases q1:y < 3
  · refine cmp_lt (decide_eq_true q1) ?_
    refine opt_get E.dp ?_
    refine wp_k ?_
    by_cases q2:z > 0
    · refine cmp_gt (decide_eq_true q2) ?_
      exact h1 (.inl ⟨q1,q2⟩)
    · refine cmp_gt (decide_eq_false q2) ?_
      refine opt_get E.ar ?_
      refine run_isB (veq_nilL (rows_data (ctx:=ctx))) ?_
      rcases ctx with _ | ⟨r,l⟩
      · exact h1 (.inr rfl)
      · exact h2 fun h=>nomatch h
  · refine cmp_lt (decide_eq_false q1) ?_
    refine opt_get E.ar ?_
    refine run_isB (veq_nilL (rows_data (ctx:=ctx))) ?_
    rcases ctx with _ | ⟨r,l⟩
    · exact h1 (.inr rfl)
    · exact h2 fun h=>nomatch h
theorem plan_t2 {C:Oracle} {Q:QF} {a rest:List St} (E:EnvP src cnt ctx z y ρ) (h1:z > 0 -> wpB C R a ρ (nextQ (fun ρ s=>wpB C R rest ρ Q s) Q) σ) (h2:wpB C R rest ρ Q σ) :
    wpB C R (.ifS (.andE [.cmp .eq (.var "way") (.k (.int 3)),.cmp .gt (.var "deep") (.k (.int 0))]) a [] :: rest) ρ Q σ:=by
  refine opt_get E.wy ?_
  refine wp_k ?_
  refine run_isB (t:=(y == 3)) rfl ?_
  rcases (y == 3) with _ | _
  · exact h2
  · refine opt_get E.dp ?_
    refine wp_k ?_
    by_cases q2:z > 0
    · refine cmp_gt (decide_eq_true q2) ?_
      exact h1 q2
    · refine cmp_gt (decide_eq_false q2) ?_
      exact h2
theorem plan_body (hr:∀ e,d = e + 1 -> GRing e) (hi:∀ e,d = e + 1 -> GPlans e) (hv:GVal d) (hn:4 * d + 3 <= n) (hz:z = d) (hl:ctx.length + d <= 90) (h0:ctx = [] -> 0 < d) (E:EnvP src cnt ctx z y ρ) (G:GS σ src cnt c)
    (h:∀ s p,OutP ctx c d p -> GS s src cnt (p.nx c) -> Q p.v s):wpB (callF tab n) R planRest ρ (finQ Q) σ:=by
  have h3:=SzB_ge (d:=d)
  have hn3:3 <= n:=Nat.le_trans (Nat.le_add_left _ _) hn
  have pre:∀ e,d = e + 1 -> z - 1 = e:=fun e q=>by rw [hz,q]; exact Int.add_sub_cancel (e:Int) 1
  have pos:z > 0 -> ∃ e,d = e + 1:=fun q=>⟨d - 1,(Nat.sub_add_cancel (Int.ofNat_lt.mp (hz ▸ q))).symm⟩
  refine plan_t1 E (fun q=>?_) fun hne=>plan_t2 E (fun q=>?_) ?_
  · obtain ⟨e,q⟩:∃ e,d = e + 1:=q.elim (fun q=>pos q.2) fun q=>pos (hz ▸ Int.natCast_pos.mpr (h0 q))
    have hz1:=pre e q
    subst q
    refine opt_get E.so ?_
    refine opt_get E.ar ?_
    refine opt_get E.ct ?_
    refine opt_get E.dp ?_
    refine run_fn rfl (hr e rfl (rt:=c) (z:=z - 1) (Nat.le_trans (by show 4 * e + 6 <= 4 * e + 4 + 3; exact Nat.le_succ _) hn) hz1 (by rw [Nat.add_right_comm]; exact hl) G fun s w lab i k hk o G=>?_)
    refine h s (.ring c w lab i) ⟨⟨rfl,o.l,o.wf⟩,rfl,?_,?_⟩ G
    · exact Nat.le_trans (ring_sz hk o) (Nat.add_le_add_right (by decide) _)
    · exact Nat.le_trans (Nat.add_le_add_right o.ht 6) (by unfold HB; rw [Nat.mul_succ]; exact Nat.add_le_add_left (Nat.add_le_add_left (show 6 <= 9 by decide) _) _)
  · obtain ⟨e,q⟩:=pos q
    have hz1:=pre e q
    subst q
    refine opt_get E.so ?_
    refine opt_get E.ar ?_
    refine opt_get E.ct ?_
    refine opt_get E.dp ?_
    refine opt_get E.so ?_
    refine run_fn rfl (take_run (top:=2) (Nat.le_trans (by decide) hn3) (by decide) (by decide) G fun s y h1 h2 G=>?_)
    have hy:=y_fit h1 h2
    refine run_fn rfl (hi e rfl (k:=1 + y.toNat) (z:=z - 1) (y:=1 + y) ⟨Nat.le_trans (by show 4 * e + 5 <= 4 * e + 4 + 3; exact Nat.le_succ_of_le (Nat.le_succ _)) hn,hz1,Nat.le_of_succ_le hl,G⟩ (fun q=>absurd q hne) hy.1 (Nat.le_succ_of_le hy.2) fun s i o G=>?_)
    have h:=h s (.ifp i) ⟨⟨o.l,o.wf⟩,rfl,?_,?_⟩ G
    · change Q (.tup [.str "if",i.v]) s at h
      rw [Pl.l_v o.l] at h
      exact h
    · exact Nat.add_le_add (show 1 <= 6 by decide) (Nat.le_trans o.sz (Nat.mul_le_mul_right _ (Nat.le_succ_of_le hy.2)))
    · exact Nat.le_trans (Nat.add_le_add_right o.ht 6) (by unfold HB; rw [Nat.mul_succ]; exact Nat.add_le_add_left (Nat.add_le_add_left (show 6 <= 9 by decide) _) _)
  · refine opt_get E.so ?_
    refine opt_get E.ar ?_
    refine run_fn rfl (goal_run hn3 hne (Nat.le_trans (Nat.le_trans (Nat.le_add_right _ _) hl) (by decide)) G fun s lab row hp G=>?_)
    refine ⟨rfl,?_⟩
    refine opt_get E.wy ?_
    refine wp_k ?_
    by_cases q:y < 8
    · refine cmp_lt (decide_eq_true q) ?_
      refine opt_get E.so ?_
      refine run_fn rfl (take_run (top:=4) (Nat.le_trans (by decide) hn3) (by decide) (by decide) G fun s u h1 h2 G=>?_)
      refine wp_k ?_
      refine run_isB (t:=(u == 0)) rfl ?_
      rcases (u == 0) with _ | _
      · refine opt_get E.so ?_
        refine opt_get E.ar ?_
        refine opt_get E.ct ?_
        refine opt_get E.dp ?_
        refine run_fn rfl (hv (rt:=row.rt) ⟨hn,hz,hl,G⟩ fun s x o G=>?_)
        exact h s (.brk row.num lab x) ⟨⟨row,hp,rfl,o.v,o.wf⟩,rfl,o.sz,o.ht⟩ G
      · exact h s (.brk row.num lab .no) ⟨⟨row,hp,rfl,rfl,trivial⟩,rfl,Nat.le_of_succ_le h3,HB_ge (show 3 <= 6 by decide)⟩ G
    · refine cmp_lt (decide_eq_false q) ?_
      refine opt_get E.wy ?_
      refine wp_k ?_
      refine run_isB (t:=(y == 8)) rfl ?_
      rcases (y == 8) with _ | _
      · exact h s .ret ⟨trivial,rfl,Nat.le_trans (by decide) h3,HB_ge (Nat.zero_le 6)⟩ G
      · exact h s (.cont lab) ⟨⟨row,hp⟩,rfl,Nat.le_trans (show 1 <= 3 by decide) h3,HB_ge (Nat.zero_le 6)⟩ G
end
theorem plan_run {d:Nat} (hr:∀ e,d = e + 1 -> GRing e) (hi:∀ e,d = e + 1 -> GPlans e) (hv:GVal d):GPlan d:=fun {N src cnt c z σ ctx Q R} A h0 h=>by
  obtain ⟨n,rfl,hn⟩:=fuel (c:=4 * d + 3) A.hN
  refine run_call rfl rfl ?_
  refine run_fn rfl (take_run (top:=10) (Nat.le_trans (Nat.le_trans (by decide) (Nat.le_add_left 3 _)) hn) (by decide) (by decide) A.g fun s y h1 h2 G=>?_)
  refine next_go ?_
  exact plan_body hr hi hv hn A.hz A.hl h0 ⟨rfl,rfl,rfl,rfl,rfl⟩ G h
set_option tactic.hygienic true in
theorem gen_all:∀ d,GPlan d
  | 0=>plan_run (fun e h=>by cases h) (fun e h=>by cases h) (value_run fun e h=>by cases h)
  | d + 1=>by
    have p:GPlans d:=plans_run (gen_all d)
    have r:GRing d:=ring_run p
    exact plan_run (fun e h=>by cases h; exact @r) (fun e h=>by cases h; exact @p) (value_run fun e h=>by cases h; exact @r)
end Mine
end
section
set_option maxHeartbeats 1000000
set_option maxRecDepth 20000
set_option genSizeOf false
namespace Mine
section
variable {n src cnt c:Nat} {σ:Store} {Q:V -> Store -> Prop} {R:Bool -> Store -> Prop} {ρ:Env}
theorem b_mul' {a b:Int} (h1:b.natAbs < 18446744073709551616) (h:Q (.int (a * b)) σ):Run (doBin .mul (.int a) (.int b)) σ Q R:=run_pos (by rw [decide_eq_true h1,Bool.or_true]) h
theorem bit_small {p:Bool}:(if p = true then (1:Int) else 0).natAbs < 18446744073709551616:=by rcases p with _ | _ <;> decide
theorem pool_rest {C:Oracle} {x:Int} (h1:ρ "cell" = some (.int x)) (h2:ρ "k" = some (.int 0)) (h:∀ a b:Int,0 <= b -> b < 2147483647 -> Q (.obj σ.n) (σ.push (.list [.int a,.int b]))):wpB C R (f_law_pool.body.drop 2) ρ (finQ Q) σ:=by
  refine opt_get h1 ?_
  refine opt_get h1 ?_
  refine opt_get h2 ?_
  refine opt_get h2 ?_
  refine opt_get h2 ?_
  refine b_mul' (b:=48271) (by decide) ?_
  refine b_mul' ?_ ?_
  rotate_left
  · exact h _ _ (Int.emod_nonneg _ (by decide)) (Int.emod_lt_of_pos _ (by decide))
  · exact bit_small
set_option tactic.hygienic true in
theorem if_no {C:Oracle} {ρ:Env} {R:Bool -> Store -> Prop} {Q:QF} {s:Store} {A:Store -> Prop} (h:Q .next ρ s):Run (truth (.bool false)) s (fun t s=>cnd t (A s) (wpB C R [] ρ Q s)) R:=h
theorem pool_run {N:Nat} {ns:List Int} (hN:1 <= N) (hl:ns.length <= 63) (h:∀ a b:Int,0 <= b -> b < 2147483647 -> Q (.obj σ.n) (σ.push (.list [.int a,.int b]))):Run (callF tab N "_law_pool" [.lst (ns.map .int),.int 0]) σ Q R:=by
  obtain ⟨n,rfl,hn⟩:=fuel hN
  have hz:(ns.map V.int).length < 100000:=by rw [List.length_map]; exact Nat.lt_of_le_of_lt hl (by decide)
  refine run_call rfl rfl ?_
  refine run_lenL (l:=ns.map V.int) hz ?_
  rcases ns with _ | ⟨x,r⟩
  · refine cmp_lt (a:=0) (b:=Int.ofNat 0) (t:=false) rfl ?_
    refine if_no ?_
    refine next_go ?_
    exact pool_rest (C:=callF tab n) (R:=R) (ρ:=(Env.sets (fun _=>none) f_law_pool.params [.lst (([]:List Int).map .int),.int 0]).set "cell" (.int 0)) rfl rfl h
  · refine cmp_lt (a:=0) (t:=true) (decide_eq_true (Int.ofNat_lt.mpr (show 0 < ((x :: r).map V.int).length from Nat.succ_pos _))) ?_
    refine at0 ?_
    exact pool_rest (C:=callF tab n) (R:=R) (ρ:=((Env.sets (fun _=>none) f_law_pool.params [.lst (.int x :: r.map .int),.int 0]).set "cell" (.int 0)).set "cell" (.int x)) rfl rfl h
theorem same_strs:∀ {l:List String},V.areData (l.map V.str) = true /\ (l.map V.str).all V.tiny = true /\ V.eqbs (l.map V.str) (l.map V.str) = true
  | []=>⟨rfl,rfl,rfl⟩
  | x :: l=>by
    obtain ⟨h1,h2,h3⟩:=same_strs (l:=l)
    exact ⟨h1,h2,by show ((x == x) && V.eqbs (l.map V.str) (l.map V.str)) = true; rw [beq_self_eq_true,h3]; rfl⟩
theorem same_words {l:List String}:veq (.lst (l.map V.str)) (.lst (l.map V.str)) = M.ret true:=by
  obtain ⟨h1,h2,h3⟩:=same_strs (l:=l)
  unfold veq
  rw [if_pos]
  · exact congrArg M.ret h3
  · show (V.areData _ && V.areData _ && ((l.map V.str).all V.tiny || (l.map V.str).all V.tiny)) = true
    rw [h1,h2]; rfl
theorem toldV_words {c:Nat} {i t:Pl}:∃ l:List String,toldV c i t = .lst (l.map V.str):=⟨nvW (totN c i t) :: (totI c i t).el.map (toldW (totI c i t).ev),by unfold toldV; rw [List.map_cons,List.map_map]; rfl⟩
noncomputable def toldDue:Ex:=.cmp .ne (.call (.g "_law_told") [.var "plans",.var "tail"]) (.call (.g "_law_due") [.var "plans",.var "tail"])
structure Lw (c:Nat) (i t:Pl):Prop where
  l:i.isL = true
  tt:t.isT = true
  wi:i.wf [] c 0
  wt:t.wf [] (i.nx c) (i.nx c)
  sz:i.sz + t.sz <= 890
  h1:i.ht <= 33
  h2:t.ht <= 33
  nx:c <= 4000
theorem Lw.told {m c:Nat} {i t:Pl} (A:Lw c i t) (hm:92 <= m) (hm2:m <= 800) (h1:Fine [] (totI c i t) -> ∀ s,Old σ s -> Q (toldV c i t) s) (h2:¬ Fine [] (totI c i t) -> ∀ s,Old σ s -> Q (.str "type") s):Run (callF tab (m + 1 + 2 + 1 + 2 + 1) "_law_told" [.lst (its i.v),t.v]) σ Q R:=by
  have hi:i.sz <= 900:=Nat.le_trans (Nat.le_trans (Nat.le_add_right _ _) A.sz) (by decide)
  have ht:t.sz <= 900:=Nat.le_trans (Nat.le_trans (Nat.le_add_left _ _) A.sz) (by decide)
  have hm3:92 <= m + 1 + 2:=Nat.le_trans hm (Nat.le_add_right m 3)
  refine told_run A.l A.tt (Nat.le_trans (Nat.add_le_add_left A.h1 15) (Nat.le_trans (by decide) hm3)) (Nat.le_trans (Nat.add_le_add_left A.h2 18) (Nat.le_trans (by decide) hm3)) hm2 (Nat.le_trans (Nat.add_le_add_right (Nat.add_le_add A.h1 A.h2) 12) (Nat.le_trans (by decide) (Nat.le_trans hm3 (Nat.le_add_right _ 3)))) A.wi A.wt ?_ hi ht (Nat.le_trans (tot_pp A.wi A.tt A.wt).len (Nat.le_trans A.sz (by decide))) h1 h2
  exact Nat.le_trans (t.nx_sz _) (Nat.le_trans (Nat.add_le_add_right (i.nx_sz c) _) (Nat.add_assoc c _ _ ▸ Nat.le_trans (Nat.add_le_add A.nx A.sz) (by decide)))
set_option tactic.hygienic true in
theorem cmp_stmt {m c:Nat} {i t:Pl} {Q:QF} (A:Lw c i t) (hm:92 <= m) (hm2:m <= 800) (r1:ρ "plans" = some (.lst (its i.v))) (r2:ρ "tail" = some t.v) (h:∀ s,Old σ s -> Q .next ρ s):wpB (callF tab (m + 1 + 2 + 1 + 2 + 1)) R [.ifS toldDue [.ret (.k (.bool false))] []] ρ Q σ:=by
  have due:∀ (P:V -> Store -> Prop) s,(∀ s' X all,Old s s' -> Gt [] X0 (t.nx (i.nx c)) [] false (totI c i t) X all -> P (X.due i t) s') -> Run (callF tab (m + 1 + 2 + 1 + 2 + 1) "_law_due" [.lst (its i.v),t.v]) s P R:=fun P s z =>
    due_run (Nat.le_trans (Nat.add_le_add_left A.h1 5) (Nat.le_trans (by decide) (Nat.le_trans hm (Nat.le_add_right m 7)))) (Nat.le_trans (Nat.add_le_add_left A.h2 6) (Nat.le_trans (by decide) (Nat.le_trans hm (Nat.le_add_right m 7)))) A.l A.wi A.tt A.wt A.sz z
  refine if_go ?_
  refine opt_get r1 ?_
  refine opt_get r2 ?_
  refine run_fn rfl (A.told hm hm2 (fun F s o=>?_) fun F s o=>?_)
  · obtain ⟨l,hl⟩:=toldV_words (c:=c) (i:=i) (t:=t)
    refine opt_get r1 ?_
    refine opt_get r2 ?_
    refine run_fn rfl (due _ s fun s' X all o2 G=>?_)
    rw [(due_told A.l A.wi A.tt A.wt G).1 F,hl]
    refine cmp_ne (a:=.lst (l.map V.str)) rfl same_words ?_
    exact h s' (o.trans o2)
  · refine opt_get r1 ?_
    refine opt_get r2 ?_
    refine run_fn rfl (due _ s fun s' X all o2 G=>?_)
    rw [(due_told A.l A.wi A.tt A.wt G).2 F]
    exact h s' (o.trans o2)
end
end Mine
end
section
set_option maxHeartbeats 1000000
set_option maxRecDepth 20000
set_option genSizeOf false
namespace Mine
noncomputable def turnBody:List St:=[.asg "plans" (.call (.g "_law_plans") [.var "source",.lstE false [],.var "count",.k (.int 3),.call (.g "_law_take") [.var "source",.k (.int 3)]]),.asg "tail" (.ite (.cmp .eq (.call (.g "_law_take") [.var "source",.k (.int 2)]) (.k (.int 0))) (.k (.str "u8")) (.call (.g "_law_ring") [.var "source",.lstE false [],.var "count",.k (.int 2)])),.ifS toldDue [.ret (.k (.bool false))] []]
theorem y_nat {y:Int} {m:Nat} (h1:0 <= y) (h2:y < (m:Int)):y = ((y.toNat:Nat):Int) /\ y.toNat < m:=by omega
theorem turn_run {m:Nat} {σ:Store} {src cnt c:Nat} {ρ:Env} {Q:QF} {R:Bool -> Store -> Prop} (hm:92 <= m) (hm2:m <= 800) (hc:c <= 2000) (G:GS σ src cnt c) (r1:ρ "source" = some (.obj src)) (r2:ρ "count" = some (.obj cnt))
    (h:∀ s ρ' c',c' <= c + 890 -> GS s src cnt c' -> ρ' "source" = some (.obj src) -> ρ' "count" = some (.obj cnt) -> Q .next ρ' s):wpB (callF tab (m + 1 + 2 + 1 + 2 + 1)) R turnBody ρ Q σ:=by
  have hn:92 <= m + 1 + 2 + 1 + 2 + 1:=Nat.le_trans hm (Nat.le_add_right m 7)
  refine opt_get r1 ?_
  refine opt_get r2 ?_
  refine opt_get r1 ?_
  refine run_fn rfl (take_run (top:=3) (Nat.le_trans (by decide) hn) (by decide) (by decide) G fun s y h1 h2 G=>?_)
  obtain ⟨hy,hk⟩:=y_nat h1 h2
  refine run_fn rfl (plans_run (gen_all 3) (ctx:=[]) (k:=y.toNat) (z:=3) ⟨Nat.le_trans (by decide) hn,rfl,(show 3 <= 90 by decide),G⟩ (fun _=>by decide) hy (Nat.le_of_lt hk) fun s i o G=>?_)
  have hsz:i.sz <= 318:=Nat.le_trans o.sz (Nat.mul_le_mul_right 159 (Nat.le_of_lt_succ hk))
  have next:∀ {t:Pl} {s:Store} {ρ':Env},t.isT = true -> t.wf [] (i.nx c) (i.nx c) -> t.sz <= 157 -> t.ht <= 33 -> GS s src cnt (t.nx (i.nx c)) -> ρ' "source" = some (.obj src) -> ρ' "count" = some (.obj cnt) -> ρ' "plans" = some (.lst (its i.v)) -> ρ' "tail" = some t.v -> wpB (callF tab (m + 1 + 2 + 1 + 2 + 1)) R [.ifS toldDue [.ret (.k (.bool false))] []] ρ' Q s:=fun {t s ρ'} t1 t2 t3 t4 G q1 q2 q3 q4=>by
    have A:Lw c i t:=⟨o.l,t1,o.wf,t2,Nat.le_trans (Nat.add_le_add hsz t3) (by decide),o.ht,t4,Nat.le_trans hc (by decide)⟩
    exact cmp_stmt A hm hm2 q3 q4 fun s o=>h s ρ' _ (Nat.le_trans (t.nx_sz _) (Nat.le_trans (Nat.add_le_add_right (i.nx_sz c) _) (Nat.add_assoc c _ _ ▸ Nat.add_le_add_left A.sz c))) (G.old o) q1 q2
  refine opt_get r1 ?_
  refine run_fn rfl (take_run (top:=2) (Nat.le_trans (by decide) hn) (by decide) (by decide) G fun s u _ _ G=>?_)
  refine wp_k ?_
  refine run_isB (t:=(u == 0)) rfl ?_
  rcases (u == 0) with _ | _
  · refine opt_get r1 ?_
    refine opt_get r2 ?_
    refine run_fn rfl (ring_run (plans_run (gen_all 2)) (ctx:=[]) (rt:=i.nx c) (z:=2) (Nat.le_trans (by decide) hn) rfl (show 3 <= 90 by decide) G fun s w lab j k hk o2 G=>?_)
    refine next_go ?_
    exact next (t:=.ring (i.nx c) w lab j) rfl ⟨rfl,o2.l,o2.wf⟩ (Nat.le_trans (ring_sz hk o2) (by decide)) (Nat.le_trans (Nat.add_le_add_right o2.ht 6) (by decide)) G r1 r2 rfl rfl
  · exact next (t:=.u8) (ρ':=(ρ.set "plans" (.lst (its i.v))).set "tail" (.str "u8")) rfl trivial (by decide) (by decide) G r1 r2 rfl rfl
end Mine
end
section
set_option maxHeartbeats 1000000
set_option maxRecDepth 20000
set_option genSizeOf false
namespace Mine
noncomputable def idleP:Pl:=.ring 1 false none (.cons (.brk 1 none .no) .nil)
noncomputable def outerP:Pl:=.ring 0 false (some "'a") (.cons idleP (.cons (.brk 0 (some "'a") .u8) .nil))
noncomputable def innerP:Pl:=.ring 1 false (some "'a") (.cons (.brk 1 (some "'a") .ret) (.cons (.brk 0 (some "'b") .bool) .nil))
noncomputable def twoQ:Pl:=.cons (.ring 0 false (some "'b") (.cons innerP .nil)) .nil
theorem outer_lw:Lw 0 .nil outerP :=
  ⟨rfl,rfl,trivial,⟨rfl,rfl,rfl,rfl,⟨rfl,rfl,rfl,rfl,⟨⟨1,none,false,1⟩,rfl,rfl,rfl,trivial⟩,trivial⟩,rfl,rfl,⟨⟨0,some "'a",false,0⟩,rfl,rfl,rfl,trivial⟩,trivial⟩,by decide,by decide,by decide,by decide⟩
theorem two_lw:Lw 0 twoQ .u8 :=
  ⟨rfl,rfl,⟨rfl,rfl,⟨rfl,rfl,rfl,rfl,⟨rfl,rfl,rfl,rfl,⟨⟨1,some "'a",false,1⟩,rfl,rfl,rfl,trivial⟩,rfl,rfl,⟨⟨0,some "'b",false,0⟩,rfl,rfl,rfl,trivial⟩,trivial⟩,trivial⟩,trivial⟩,trivial,by decide,by decide,by decide,by decide⟩
theorem fine_of {T:Inf} (f:Nat -> Kd) (h:T.ev.all (fun e=>decide (e.2 = f e.1)) = true) (b:T.bad = false):Fine [] T:=⟨fun g a c x y=>by
    have z:=fun e (he:e ∈ T.ev)=>of_decide_eq_true (List.all_eq_true.mp h e he)
    exact (z _ x).trans (z _ y).symm,b⟩
theorem outer_fine:Fine [] (totI 0 .nil outerP):=fine_of (fun g=>match g with | 0=>.u8 | _=>.unit) rfl rfl
theorem two_fine:Fine [] (totI 0 twoQ .u8):=fine_of (fun g=>.bool) rfl rfl
theorem told_fixed {m:Nat} {i t:Pl} {l:List String} {σ:Store} {Q:V -> Store -> Prop} {R:Bool -> Store -> Prop} (A:Lw 0 i t) (hm:92 <= m) (hm2:m <= 800) (F:Fine [] (totI 0 i t)) (e:toldV 0 i t = .lst (l.map .str)) (h:∀ s,Q (.lst (l.map .str)) s):Run (callF tab (m + 1 + 2 + 1 + 2 + 1) "_law_told" [.lst (its i.v),t.v]) σ Q R :=
  A.told hm hm2 (fun _ s _=>e ▸ h s) fun z=>absurd F z
theorem law_ok {m:Nat} (hm:92 <= m) (hm2:m <= 800) {ns:List Int} (hl:ns.length <= 63) {σ:Store}:Run (callF tab (m + 1 + 2 + 1 + 2 + 1 + 1) "law" [.lst (ns.map .int)]) σ (fun v _=>v = .bool true) (fun _ _=>False):=by
  have hn:92 <= m + 1 + 2 + 1 + 2 + 1:=Nat.le_trans hm (Nat.le_add_right m 7)
  refine run_call rfl rfl ?_
  refine run_fn rfl (told_fixed (l:=["u8","unit","u8"]) outer_lw hm hm2 outer_fine rfl fun s=>?_)
  refine run_fn rfl (told_fixed (l:=["u8","open","bool"]) two_lw hm hm2 two_fine rfl fun s=>?_)
  refine run_fn rfl (pool_run (Nat.le_trans (by decide) hn) hl fun a b h1 h2=>?_)
  refine ⟨rfl,?_⟩
  have G:GS ((s.push (.list [.int a,.int b])).push (.list [.int 0])) s.n (s.n + 1) 0:=⟨Nat.ne_of_lt (Nat.lt_succ_self _),⟨a,b,At.top.push,h1,h2⟩,At.top⟩
  refine fl_cons (v:=.int 0) ?_
  refine turn_run hm hm2 (Nat.zero_le _) G rfl rfl fun s ρ c hc G r1 r2=>?_
  refine fl_cons (v:=.int 1) ?_
  refine turn_run hm hm2 (Nat.le_trans hc (by decide)) G r1 r2 fun s ρ c hc G r1 r2=>?_
  exact fl_nil rfl
theorem run_true {x:M V} {σ:Store} (h:Run x σ (fun v _=>v = .bool true) (fun _ _=>False)):∃ σ',x σ = .ok (.bool true) σ':=by
  unfold Run at h
  generalize x σ = y at h ⊢
  rcases y with ⟨a,s⟩ | ⟨m,k,c,s⟩ | _
  · exact ⟨s,congrArg (fun v=>Res.ok v s) h⟩
  · exact h.elim
  · exact h.elim
theorem law_eq {ns:List Int} (hl:ns.length <= 63) {σ:Store}:∃ σ',callF tab (99 + 1) "law" [.lst (ns.map .int)] σ = .ok (.bool true) σ':=run_true (law_ok (m:=92) (Nat.le_refl _) (by decide) hl)
end Mine
end
section
set_option maxRecDepth 100000
set_option maxHeartbeats 0
namespace Mine
open PySem PySem.W PyProof.Rows
set_option tactic.hygienic true in
theorem not_cell:∀ {l:List (PySem.Str × NameKind)},l.all (fun x=>!(x.2 == .cell)) = true -> ∀ x,l.lookup x ≠ some .cell
  | [],_,x,h=>by cases h
  | (k,v) :: r,e,x,h=>by
    rw [List.all_cons,Bool.and_eq_true] at e
    rw [List.lookup_cons] at h
    split at h
    · cases h; exact absurd (show (!(NameKind.cell == NameKind.cell)) = true from e.1) (by decide)
    · exact not_cell e.2 x h
local macro_rules | `(tactic| k_qdec)=>`(tactic| decide +kernel)
theorem whole:PySem.Challenge.rw_sa0456_01.Holds:=by
  refine holds_law said fun sd=>?_
  refine W.holds_open (q:=view thePr [86]) (loose:=looseL) (Xt:=xlAt (view thePr [86]) []) (XP:=XL (view thePr [86]) []) (YP:=fun _ h=>∃ K,Frag.In K h /\ HF K) (N:=12486) left (fun w s e=>see_hf e) (fun w h h' ⟨K,x,y⟩ k=>⟨K,fun a o e=>k a o (x a o e),y⟩) (fun s e=>xl_of s e) XL.keeps (by rfl) (by rfl) (by rfl) (fun s e=>recFacts_of (by rfl)) (by rfl) sd (by decide +kernel) ⟨rfl,rfl,rfl,rfl,rfl,by decide +kernel⟩ ?hw ?hc
  case hw=>w_witness2
  intro w s₀ s₁ mg mb G Y fa o pm cd doc dV kV ho hd hcd hD hmg hg args vals as hpre hlay hrd hwl hlo
  obtain ⟨K,KX,KH⟩:=Y
  k_behind G ho hd hcd hD hmg hpre hlay hrd hwl hlo cd
  rename Top (view thePr [86]) _ _ _ _ _=>T0
  rename Fr _ _ _ _=>F
  rename IntsAre _ _=>hI
  rename (_:Shared).gens = #[]=>hg
  rename Heap.IsList _ _ _=>hl
  rename ¬ _ < _=>hlen
  obtain ⟨σ',hlaw⟩:=law_eq (Nat.le_of_not_lt (fun q=>hlen (Int.ofNat_lt.mpr q))) (σ:=σ₀)
  refine law_run KH KX T0.g T0.b T0.builtins T0.nolimit (by
    obtain ⟨mm,h1,_⟩:=(T0.seer (by kernel_rfl)).mods
    obtain ⟨o,_,_,e,_⟩:=h1
    exact ⟨o,e⟩) F (by rfl) hl hI rfl rfl (not_cell (by kernel_rfl)) (by kernel_rfl) hlaw (Nat.le_refl 99) ?_
  intro s' m' F' hg' hos' kp
  exact goodW_bool F' (hg'.trans hg) (fun _=>by rfl) (by kernel_rfl) hos'
end Mine
end
open PySem PySem.W PyProof.Rows
theorem PySem.Challenge.cw_sa0456_01_holds : PySem.Challenge.rw_sa0456_01.Holds :=
  Mine.whole
