import PyProof.Rows.All
import Wide.All
import OpenK.AllK
import Wide.FinOn
import Lean
import PySem.Challenge.RW_pq0384_01
set_option Elab.async false
set_option maxRecDepth 100000
set_option maxHeartbeats 8000000
set_option linter.all false
namespace Mine
inductive LV where
  | none
  | bool (b:Bool)
  | int (i:Int)
  | str (c:Nat)
  | txt (n:Nat)
  | tup (xs:List LV)
  | lst (xs:List LV)
  | dct (es:List (Nat × LV))
  | cell (i:Nat)
  | obj (c:Nat) (i:Nat)
  | any
inductive Cell where
  | dict (es:List (Nat × LV))
  | list (xs:List LV)
abbrev Sto:=List Cell
abbrev Loc:=List (Nat × LV)
inductive BOp where
  | add | sub | mul | mod
  deriving DecidableEq
inductive COp where
  | eq | ne | lt | gt | is | isnot | isin
  deriving DecidableEq
inductive MT where
  | one (x:Nat)
  | many (xs:List Nat)
mutual
inductive ME where
  | const (v:LV)
  | loc (x:Nat)
  | glob (x:Nat) (v:LV)
  | tup (es:MEs)
  | lst (es:MEs)
  | mlst (es:MEs)
  | dct (ks:List Nat) (es:MEs)
  | mdct (ks:List Nat) (es:MEs)
  | boolop (isAnd:Bool) (es:MEs)
  | not (e:ME)
  | ite (c a b:ME)
  | bin (op:BOp) (a b:ME)
  | cmp (op:COp) (a b:ME)
  | notin (a b:ME)
  | cmpD (a b:ME)
  | cmpLD (a b:ME)
  | sub (a i:ME)
  | slice (a:ME) (n:Nat)
  | attr (a:ME) (x:Nat)
  | call (f:Nat) (es:MEs)
  | meth (o:ME) (m:Nat) (es:MEs)
  | len (a:ME)
  | tupOf (a:ME)
  | lstOf (a:ME)
  | mlstOf (a:ME)
  | sortedW (ks:List Nat)
  | sorted2 (a:ME)
  | append (o v:ME)
  | pop (o:ME)
  | comp (elt:ME) (tg:MT) (src:MI) (conds:MEs)
  | fstr (es:MEs)
  | new (c:Nat)
  | dead
inductive MI where
  | val (e:ME)
  | range (a:ME)
  | range3 (a b c:ME)
  | zip (a b:ME)
inductive MEs where
  | nil
  | cons (e:ME) (es:MEs)
end
mutual
inductive MS where
  | expr (e:ME)
  | asg (x:Nat) (e:ME)
  | asgT (xs:List Nat) (e:ME)
  | setI (o k v:ME)
  | setA (o:ME) (x:Nat) (v:ME)
  | ite (c:ME) (a b:MSs)
  | forS (tg:MT) (src:MI) (body:MSs)
  | whileS (c:ME) (body:MSs)
  | ret (e:ME)
  | raise (msg spot:ME)
  | tryF (body fin:MSs)
  | tryE (body:MSs) (x y:Nat)
  | dead
inductive MSs where
  | nil
  | cons (s:MS) (ss:MSs)
end
inductive Out (α:Type) where
  | val (a:α)
  | exc (i:Int)
inductive Fl where
  | next
  | ret (v:LV)
  | exc (i:Int)
abbrev R (α:Type):=Option (Out α × Sto)
def bindR {α β:Type} (m:R α) (f:α→Sto→R β):R β:=match m with
  | some (.val a,σ)=>f a σ
  | some (.exc i,σ)=>some (.exc i,σ)
  | none=>none
@[simp] theorem bindR_val {α β:Type} (a:α) (σ:Sto) (f:α→Sto→R β):bindR (some (.val a,σ)) f=f a σ:=rfl
@[simp] theorem bindR_exc {α β:Type} (i:Int) (σ:Sto) (f:α→Sto→R β):bindR (some (.exc i,σ)) f=some (.exc i,σ):=rfl
@[simp] theorem bindR_none {α β:Type} (f:α→Sto→R β):bindR none f=none:=rfl
def onB {α:Type} (v:LV) (f:Bool→Option α):Option α:=match v with
  | .bool b=>f b
  | _=>none
@[simp] theorem onB_bool {α:Type} (b:Bool) (f:Bool→Option α):onB (.bool b) f=f b:=rfl
def lookA (k:Nat):List (Nat × LV)→Option LV
  | []=>none
  | (a,v)::r=>if a=k then some v else lookA k r
def putA (k:Nat) (v:LV):List (Nat × LV)→List (Nat × LV)
  | []=>[(k,v)]
  | (a,u)::r=>if a=k then (a,v)::r else (a,u)::putA k v r
mutual
def eqB:LV→LV→Bool
  | .none,.none=>true
  | .bool a,.bool b=>a == b
  | .bool a,.int j=>(if a then 1 else 0) == j
  | .int i,.bool b=>i == (if b then 1 else 0)
  | .int a,.int b=>a == b
  | .str a,.str b=>a == b
  | .tup a,.tup b=>eqBs a b
  | .lst a,.lst b=>eqBs a b
  | _,_=>false
def eqBs:List LV→List LV→Bool
  | [],[]=>true
  | a::r,b::t=>eqB a b && eqBs r t
  | _,_=>false
end
mutual
def dataL:LV→Bool
  | .none | .bool _ | .int _ | .str _=>true
  | .tup xs=>dataLs xs
  | .lst xs=>dataLs xs
  | _=>false
def dataLs:List LV→Bool
  | []=>true
  | x::r=>dataL x && dataLs r
end
mutual
def flat:Nat→LV→Bool
  | 0,.tup _ | 0,.lst _=>false
  | n + 1,.tup xs=>flats n xs
  | n + 1,.lst xs=>flats n xs
  | _,_=>true
def flats:Nat→List LV→Bool
  | _,[]=>true
  | n,x::r=>flat n x && flats n r
end
def eqL (a b:LV):Option Bool:=if dataL a && dataL b && (flat 8 a || flat 8 b) then some (eqB a b) else none
def inLs (x:LV) (xs:List LV):Option Bool:=if dataL x && dataLs xs && flat 8 x then some (xs.any fun y=>eqB y x) else none
def most:Nat:=400
def small (i:Int):Bool := -(2 ^ 30) < i && i < 2 ^ 30
def idx (n:Nat) (k:Int):Option Nat :=
  if small k then (if 0≤k then (if k < n then some k.toNat else none) else if 0≤k + n then some (k + n).toNat else none) else none
def subL (σ:Sto):LV→LV→Option LV
  | .tup xs,.int k=>(idx xs.length k).bind (xs[·]?)
  | .lst xs,.int k=>(idx xs.length k).bind (xs[·]?)
  | .dct es,.str c=>lookA c es
  | .cell i,.str c=>match σ[i]? with
    | some (.dict es)=>lookA c es
    | _=>none
  | .cell i,.int k=>match σ[i]? with
    | some (.list xs)=>(idx xs.length k).bind (xs[·]?)
    | _=>none
  | _,_=>none
def isinL (σ:Sto):LV→LV→Option Bool
  | x,.tup xs=>inLs x xs
  | x,.lst xs=>inLs x xs
  | .str c,.dct es=>some (lookA c es).isSome
  | x,.cell i=>match σ[i]?,x with
    | some (.dict es),.str c=>some (lookA c es).isSome
    | some (.list xs),x=>inLs x xs
    | _,_=>none
  | _,_=>none
def lenL (σ:Sto):LV→Option Nat
  | .tup xs=>if xs.length < most then some xs.length else none
  | .lst xs=>if xs.length < most then some xs.length else none
  | .cell i=>match σ[i]? with
    | some (.list xs)=>if xs.length < most then some xs.length else none
    | _=>none
  | _=>none
def itemsL (σ:Sto):LV→Option (List LV)
  | .tup xs=>some xs
  | .lst xs=>some xs
  | .cell i=>match σ[i]? with
    | some (.list xs)=>some xs
    | _=>none
  | _=>none
def noneL:LV→Option Bool
  | .none=>some true
  | .any=>none
  | _=>some false
def nameMost:Nat:=64
def txtL:LV→Option Nat
  | .str _=>some nameMost
  | .txt n=>some n
  | _=>none
def txtMost:Nat:=100000
def fmtL:LV→Option Nat
  | .str _=>some nameMost
  | .txt n=>if n≤txtMost then some n else none
  | .int i=>if small i then some 12 else none
  | _=>none
def binL:BOp→LV→LV→Option LV
  | .add,.int a,.int b=>if small a && small b then some (.int (a + b)) else none
  | .sub,.int a,.int b=>if small a && small b then some (.int (a - b)) else none
  | .mul,.int a,.int b=>if small a && small b then some (.int (a * b)) else none
  | .mod,.int a,.int b=>if 0 < b && small b then some (.int (a % b)) else none
  | .add,.lst a,.lst b=>if a.length + b.length < most then some (.lst (a++b)) else none
  | .add,a,b=>match txtL a,txtL b with
    | some m,some n=>if m + n≤txtMost then some (.txt (m + n)) else none
    | _,_=>none
  | _,_,_=>none
def cmpL (σ:Sto):COp→LV→LV→Option Bool
  | .eq,a,b=>eqL a b
  | .ne,a,b=>(eqL a b).map (!·)
  | .lt,.int a,.int b=>some (decide (a < b))
  | .gt,.int a,.int b=>some (decide (a > b))
  | .is,a,.none=>noneL a
  | .isnot,a,.none=>(noneL a).map (!·)
  | .isin,a,b=>isinL σ a b
  | _,_,_=>none
def dictOfL (σ:Sto):LV→Option (List (Nat × LV))
  | .dct es=>some es
  | .cell i=>match σ[i]? with
    | some (.dict es)=>some es
    | _=>none
  | _=>none
def subD (b:List (Nat × LV)):List (Nat × LV)→Option Bool
  | []=>some true
  | (k,v)::r=>match lookA k b with
    | none=>some false
    | some u=>(eqL v u).bind fun e=>(subD b r).map fun t=>e && t
def eqD (a b:List (Nat × LV)):Option Bool :=
  if decide ((a.map (·.1)).Nodup) && decide ((b.map (·.1)).Nodup) then (if a.length=b.length then subD b a else some false) else none
def oneItem (σ:Sto):LV→Option LV
  | .lst [x]=>some x
  | .cell i=>match σ[i]? with
    | some (.list [x])=>some x
    | _=>none
  | _=>none
def setAll:List Nat→List LV→Loc→Option Loc
  | [],[],ρ=>some ρ
  | x::xs,v::vs,ρ=>setAll xs vs (putA x v ρ)
  | _,_,_=>none
def bindT (tg:MT) (v:LV) (ρ:Loc):Option Loc:=match tg,v with
  | .one x,v=>some (putA x v ρ)
  | .many xs,.tup vs=>setAll xs vs ρ
  | _,_=>none
def lift {α:Type} (o:Option α) (σ:Sto):R α:=match o with
  | some a=>some (.val a,σ)
  | none=>none
@[simp] theorem lift_some {α:Type} (a:α) (σ:Sto):lift (some a) σ=some (.val a,σ):=rfl
@[simp] theorem lift_none {α:Type} (σ:Sto):lift (none:Option α) σ=none:=rfl
inductive Src where
  | seq (v:LV)
  | range (a c:Int) (n:Nat)
  | zip (x y:LV)
def itemAt (σ:Sto):Src→Nat→Option (Option LV)
  | .seq v,k=>(itemsL σ v).map (·[k]?)
  | .range a c n,k=>some (if k < n then some (.int (a + k * c)) else none)
  | .zip x y,k=>some (if k=0 then some (.tup [x,y]) else none)
def compM (cond:Loc→Sto→R Bool) (elt:Loc→Sto→R LV) (tg:MT) (ρ:Loc) (src:Src):Nat→Nat→Sto→R (List LV)
  | 0,_,_=>none
  | n + 1,k,σ=>match itemAt σ src k with
    | none=>none
    | some none=>some (.val [],σ)
    | some (some x)=>bindR (lift (bindT tg x ρ) σ) fun ρ' σ=>bindR (cond ρ' σ) fun b σ =>
      if b then bindR (elt ρ' σ) fun v σ=>bindR (compM cond elt tg ρ src n (k + 1) σ) fun vs σ=>some (.val (v::vs),σ)
      else compM cond elt tg ρ src n (k + 1) σ
structure Tab where
  call:Nat→List LV→Sto→R LV
  callQ:Nat→List LV→Sto→R LV
  rs:Bool
  meth:Nat→Nat→Option Nat
  init:Nat→Option Nat
  fld:Nat→Nat→Bool
mutual
def evalM (T:Tab):ME→Loc→Sto→R LV
  | .const v,_,σ=>some (.val v,σ)
  | .loc x,ρ,σ=>lift (lookA x ρ) σ
  | .glob _ v,_,σ=>some (.val v,σ)
  | .tup es,ρ,σ=>bindR (evalMs T es ρ σ) fun vs σ=>some (.val (.tup vs),σ)
  | .lst es,ρ,σ=>bindR (evalMs T es ρ σ) fun vs σ=>some (.val (.lst vs),σ)
  | .mlst es,ρ,σ=>bindR (evalMs T es ρ σ) fun vs σ=>some (.val (.cell σ.length),σ++[.list vs])
  | .dct ks es,ρ,σ=>bindR (evalMs T es ρ σ) fun vs σ=>some (.val (.dct (ks.zip vs)),σ)
  | .mdct ks es,ρ,σ=>bindR (evalMs T es ρ σ) fun vs σ=>some (.val (.cell σ.length),σ++[.dict (ks.zip vs)])
  | .boolop isAnd es,ρ,σ=>boolM T isAnd es ρ σ
  | .not e,ρ,σ=>bindR (evalM T e ρ σ) fun v σ=>onB v fun b=>some (.val (.bool (!b)),σ)
  | .ite c a b,ρ,σ=>bindR (evalM T c ρ σ) fun v σ=>onB v fun b' => if b' then evalM T a ρ σ else evalM T b ρ σ
  | .bin op a b,ρ,σ=>bindR (evalM T a ρ σ) fun x σ=>bindR (evalM T b ρ σ) fun y σ=>lift (binL op x y) σ
  | .cmp op a b,ρ,σ=>bindR (evalM T a ρ σ) fun x σ=>bindR (evalM T b ρ σ) fun y σ=>lift ((cmpL σ op x y).map .bool) σ
  | .notin a b,ρ,σ=>bindR (evalM T a ρ σ) fun x σ=>bindR (evalM T b ρ σ) fun y σ=>match y with
    | .tup ys=>lift ((inLs x ys).map fun r => .bool (!r)) σ
    | _=>none
  | .cmpD a b,ρ,σ=>bindR (evalM T a ρ σ) fun x σ=>bindR (evalM T b ρ σ) fun y σ=>match dictOfL σ x,dictOfL σ y with
    | some d,some e=>lift ((eqD d e).map fun r => .bool (!r)) σ
    | _,_=>none
  | .cmpLD a b,ρ,σ=>bindR (evalM T a ρ σ) fun x σ=>bindR (evalM T b ρ σ) fun y σ=>match oneItem σ x,oneItem σ y with
    | some (.cell i),some (.dct e)=>(match σ[i]? with
      | some (.dict d)=>lift ((eqD d e).map fun r => .bool (!r)) σ
      | _=>none)
    | _,_=>none
  | .sub a i,ρ,σ=>bindR (evalM T a ρ σ) fun x σ=>bindR (evalM T i ρ σ) fun y σ=>lift (subL σ x y) σ
  | .slice a n,ρ,σ=>bindR (evalM T a ρ σ) fun x σ=>match x with
    | .lst xs=>if xs.length < most then some (.val (.lst (xs.take n)),σ) else none
    | _=>none
  | .attr a x,ρ,σ=>bindR (evalM T a ρ σ) fun o σ=>match o with
    | .obj c i=>(match T.fld c x,σ[i]? with
      | true,some (.dict as)=>lift ((lookA x as).bind fun v=>match v with | .any=>none | v=>some v) σ
      | _,_=>none)
    | _=>none
  | .call f es,ρ,σ=>bindR (evalMs T es ρ σ) fun vs σ=>T.call f vs σ
  | .meth o m es,ρ,σ=>bindR (evalM T o ρ σ) fun v σ=>match v with
    | .obj c i=>(match σ[i]? with
      | some (.dict as)=>(match lookA m as,T.meth c m with
        | none,some f=>bindR (evalMs T es ρ σ) fun vs σ=>T.call f (.obj c i::vs) σ
        | _,_=>none)
      | _=>none)
    | _=>none
  | .len a,ρ,σ=>bindR (evalM T a ρ σ) fun v σ=>lift ((lenL σ v).map fun n => .int n) σ
  | .tupOf a,ρ,σ=>bindR (evalM T a ρ σ) fun v σ=>match v with
    | .lst xs=>if xs.length < most then some (.val (.tup xs),σ) else none
    | _=>none
  | .lstOf a,ρ,σ=>bindR (evalM T a ρ σ) fun v σ=>match v with
    | .lst xs=>if xs.length < most then some (.val (.lst xs),σ) else none
    | _=>none
  | .mlstOf a,ρ,σ=>bindR (evalM T a ρ σ) fun v σ=>match itemsL σ v with
    | some xs=>if xs.length < most then some (.val (.cell σ.length),σ++[.list xs]) else none
    | none=>none
  | .sortedW ks,_,σ=>if T.rs then some (.val (.lst (ks.map .str)),σ) else none
  | .sorted2 a,ρ,σ=>bindR (evalM T a ρ σ) fun v σ=>match v with
    | .tup [.str a,.str b]=>if T.rs then some (.val (.lst (if b < a then [.str b,.str a] else [.str a,.str b])),σ) else none
    | _=>none
  | .append o v,ρ,σ=>bindR (evalM T o ρ σ) fun l σ=>match l with
    | .cell i=>(match σ[i]? with
      | some (.list _)=>bindR (evalM T v ρ σ) fun x σ=>(match σ[i]? with
        | some (.list xs)=>if xs.length < most then some (.val .none,σ.set i (.list (xs++[x]))) else none
        | _=>none)
      | _=>none)
    | _=>none
  | .pop o,ρ,σ=>bindR (evalM T o ρ σ) fun l σ=>match l with
    | .cell i=>(match σ[i]? with
      | some (.list xs)=>(match xs.getLast? with
        | some x=>if xs.length < most then some (.val x,σ.set i (.list xs.dropLast)) else none
        | none=>none)
      | _=>none)
    | _=>none
  | .comp elt tg src conds,ρ,σ=>if T.rs then bindR (iterM T src ρ σ) fun src σ =>
      bindR (compM (allM T conds) (evalM T elt) tg ρ src most 0 σ) fun vs σ=>some (.val (.lst vs),σ) else none
  | .fstr es,ρ,σ=>bindR (fstrM T 0 es ρ σ) fun n σ=>some (.val (.txt n),σ)
  | .new c,_,σ=>match T.init c with
    | some f=>bindR (T.call f [.obj c σ.length] (σ++[.dict []])) fun u σ' => match u with
      | .none=>some (.val (.obj c σ.length),σ')
      | _=>none
    | none=>none
  | .dead,_,_=>none
def evalMs (T:Tab):MEs→Loc→Sto→R (List LV)
  | .nil,_,σ=>some (.val [],σ)
  | .cons e es,ρ,σ=>bindR (evalM T e ρ σ) fun v σ=>bindR (evalMs T es ρ σ) fun vs σ=>some (.val (v::vs),σ)
def boolM (T:Tab) (isAnd:Bool):MEs→Loc→Sto→R LV
  | .nil,_,_=>none
  | .cons e .nil,ρ,σ=>evalM T e ρ σ
  | .cons e es,ρ,σ=>bindR (evalM T e ρ σ) fun v σ=>onB v fun b=>if b == isAnd then boolM T isAnd es ρ σ else some (.val (.bool b),σ)
def allM (T:Tab):MEs→Loc→Sto→R Bool
  | .nil,_,σ=>some (.val true,σ)
  | .cons e es,ρ,σ=>bindR (evalM T e ρ σ) fun v σ=>onB v fun b=>if b then allM T es ρ σ else some (.val false,σ)
def fstrM (T:Tab):Nat→MEs→Loc→Sto→R Nat
  | n,.nil,_,σ=>some (.val n,σ)
  | n,.cons e es,ρ,σ=>bindR (evalM T e ρ σ) fun v σ=>match fmtL v with
    | some m=>if n + m≤txtMost then fstrM T (n + m) es ρ σ else none
    | none=>none
def iterM (T:Tab):MI→Loc→Sto→R Src
  | .val e,ρ,σ=>bindR (evalM T e ρ σ) fun v σ=>if (itemsL σ v).isSome then some (.val (.seq v),σ) else none
  | .range a,ρ,σ=>bindR (evalM T a ρ σ) fun v σ=>match v with
    | .int n=>if small n then some (.val (.range 0 1 n.toNat),σ) else none
    | _=>none
  | .range3 a b c,ρ,σ=>bindR (evalM T a ρ σ) fun v σ=>bindR (evalM T b ρ σ) fun u σ=>bindR (evalM T c ρ σ) fun w σ=>match v,u,w with
    | .int n,.int (-1),.int (-1)=>if small n then some (.val (.range n (-1) (n + 1).toNat),σ) else none
    | _,_,_=>none
  | .zip a b,ρ,σ=>bindR (evalM T a ρ σ) fun v σ=>bindR (evalM T b ρ σ) fun u σ=>match v,u with
    | .lst [x],.tup [y]=>some (.val (.zip x y),σ)
    | _,_=>none
end
abbrev RS:=Option (Fl × Loc × Sto)
def bindS {α:Type} (m:R α) (ρ:Loc) (f:α→Sto→RS):RS:=match m with
  | some (.val a,σ)=>f a σ
  | some (.exc i,σ)=>some (.exc i,ρ,σ)
  | none=>none
@[simp] theorem bindS_val {α:Type} (a:α) (σ:Sto) (ρ:Loc) (f:α→Sto→RS):bindS (some (.val a,σ)) ρ f=f a σ:=rfl
@[simp] theorem bindS_exc {α:Type} (i:Int) (σ:Sto) (ρ:Loc) (f:α→Sto→RS):bindS (some (.exc i,σ)) ρ f=some (.exc i,ρ,σ):=rfl
@[simp] theorem bindS_none {α:Type} (ρ:Loc) (f:α→Sto→RS):bindS none ρ f=none:=rfl
def seqS (m:RS) (f:Loc→Sto→RS):RS:=match m with
  | some (.next,ρ,σ)=>f ρ σ
  | x=>x
@[simp] theorem seqS_next (ρ:Loc) (σ:Sto) (f:Loc→Sto→RS):seqS (some (.next,ρ,σ)) f=f ρ σ:=rfl
@[simp] theorem seqS_ret (v:LV) (ρ:Loc) (σ:Sto) (f:Loc→Sto→RS):seqS (some (.ret v,ρ,σ)) f=some (.ret v,ρ,σ):=rfl
@[simp] theorem seqS_exc (i:Int) (ρ:Loc) (σ:Sto) (f:Loc→Sto→RS):seqS (some (.exc i,ρ,σ)) f=some (.exc i,ρ,σ):=rfl
@[simp] theorem seqS_none (f:Loc→Sto→RS):seqS none f=none:=rfl
def forM (body:Loc→Sto→RS) (tg:MT) (src:Src):Nat→Nat→Loc→Sto→RS
  | 0,_,_,_=>none
  | n + 1,k,ρ,σ=>match itemAt σ src k with
    | none=>none
    | some none=>some (.next,ρ,σ)
    | some (some x)=>match bindT tg x ρ with
      | some ρ' => seqS (body ρ' σ) fun ρ σ=>forM body tg src n (k + 1) ρ σ
      | none=>none
def whileM (cond:Loc→Sto→R LV) (body:Loc→Sto→RS):Nat→Loc→Sto→RS
  | 0,_,_=>none
  | n + 1,ρ,σ=>bindS (cond ρ σ) ρ fun v σ=>onB v fun b=>if b then seqS (body ρ σ) fun ρ σ=>whileM cond body n ρ σ else some (.next,ρ,σ)
def whileMost:Nat:=40
mutual
def execM (T:Tab):MS→Loc→Sto→RS
  | .expr e,ρ,σ=>bindS (evalM T e ρ σ) ρ fun _ σ=>some (.next,ρ,σ)
  | .asg x e,ρ,σ=>bindS (evalM T e ρ σ) ρ fun v σ=>some (.next,putA x v ρ,σ)
  | .asgT xs e,ρ,σ=>bindS (evalM T e ρ σ) ρ fun v σ=>if T.rs then (match bindT (.many xs) v ρ with
    | some ρ' => some (.next,ρ',σ)
    | none=>none) else none
  | .setI o k v,ρ,σ=>bindS (evalM T v ρ σ) ρ fun x σ=>bindS (evalM T o ρ σ) ρ fun d σ=>bindS (evalM T k ρ σ) ρ fun c σ=>match d,c with
    | .cell i,.str c=>(match σ[i]? with
      | some (.dict es)=>if es.length < most then some (.next,ρ,σ.set i (.dict (putA c x es))) else none
      | _=>none)
    | _,_=>none
  | .setA o a v,ρ,σ=>bindS (evalM T v ρ σ) ρ fun x σ=>bindS (evalM T o ρ σ) ρ fun d σ=>match d with
    | .obj c i=>(match T.fld c a,σ[i]? with
      | true,some (.dict es)=>if es.length < most then some (.next,ρ,σ.set i (.dict (putA a x es))) else none
      | _,_=>none)
    | _=>none
  | .ite c a b,ρ,σ=>bindS (evalM T c ρ σ) ρ fun v σ=>onB v fun b' => if b' then execMs T a ρ σ else execMs T b ρ σ
  | .forS tg src body,ρ,σ=>if T.rs then bindS (iterM T src ρ σ) ρ fun src σ=>forM (execMs T body) tg src most 0 ρ σ else none
  | .whileS c body,ρ,σ=>whileM (evalM T c) (execMs T body) whileMost ρ σ
  | .ret e,ρ,σ=>bindS (evalM T e ρ σ) ρ fun v σ=>some (.ret v,ρ,σ)
  | .raise msg spot,ρ,σ=>bindS (evalM T msg ρ σ) ρ fun m σ=>bindS (evalM T spot ρ σ) ρ fun v σ=>match txtL m,v with
    | some _,.int i=>if T.rs then some (.exc i,ρ,σ) else none
    | _,_=>none
  | .tryF body fin,ρ,σ=>match execMs T body ρ σ with
    | some (f,ρ,σ)=>(match execMs { T with call:=T.callQ,rs:=false } fin ρ σ with
      | some (.next,ρ,σ)=>some (f,ρ,σ)
      | _=>none)
    | none=>none
  | .tryE body x y,ρ,σ=>match execMs T body ρ σ with
    | some (.exc i,ρ,σ)=>some (.next,(putA y (.tup [.none,.int i]) ρ).filter (fun e=>e.1 != x),σ)
    | r=>r
  | .dead,_,_=>none
def execMs (T:Tab):MSs→Loc→Sto→RS
  | .nil,ρ,σ=>some (.next,ρ,σ)
  | .cons s ss,ρ,σ=>seqS (execM T s ρ σ) fun ρ σ=>execMs T ss ρ σ
end
structure Fn where
  params:List Nat
  body:MSs
def zipL:List Nat→List LV→Option Loc
  | [],[]=>some []
  | x::xs,v::vs=>(zipL xs vs).map ((x,v) :: ·)
  | _,_=>none
def callM (fns:Nat→Option Fn) (meth:Nat→Nat→Option Nat) (init:Nat→Option Nat) (fld:Nat→Nat→Bool):Bool→Nat→Nat→List LV→Sto→R LV
  | _,0,_,_,_=>none
  | q,n + 1,f,vs,σ=>match fns f with
    | none=>none
    | some fn=>match zipL fn.params vs with
      | none=>none
      | some ρ=>match execMs ⟨callM fns meth init fld q n,callM fns meth init fld false n,q,meth,init,fld⟩ fn.body ρ σ with
        | some (.next,_,σ)=>some (.val .none,σ)
        | some (.ret v,_,σ)=>some (.val v,σ)
        | some (.exc i,_,σ)=>some (.exc i,σ)
        | none=>none
end Mine
namespace Mine
def nameList:List String:=["","!=","*","+","++","-","->","..","/\\","<","<-","<->","<=","=","==",">",">=","BOOL","BOOLS","CALLS","INT","INTS","KNOWN","KNOWNS","KindFault","Kinds","Names","OPEN_CALLS","ROWS","SET","SETS","TEXT","TEXTS","TRUTHS","\\/","^","__init__","_law_array","_law_declared","_law_dip","_law_element","_law_expr","_law_fits","_law_item","_law_kind","_law_leaf","_law_let","_law_set_told","_law_spot","_law_stands","_law_within","_law_world","a","abs","all_different","alldifferent","append","array","array1d","array2","array2d","array_intersect","array_union","asked","asks","assert","assign","assigned","at_least","at_most","b","bad","base","bases","bin","bool","bool2int","call","called","card","cells","chain","chosen","circuit","common","comp","compared","concat","constraint","count","cumulative","decl","declared","decreasing","diff","dims","disjunctive","div","domain","due","element","env","exactly","exists","fault","feed","fits","fix","floors","forall","found","g","gathered","gen","generated","global_cardinality","global_cardinality_low_up","h","i","if","iffall","in","increasing","index","index_set","index_set_1of2","index_set_2of2","indexed","indexes","inner","int","int_any","intersect","inverse","is_assigned","is_outer","is_right","is_shown","is_var","item","items","join","joined","k","kind","kind_of","kind_text","kind_type","kinds","known","known_set","lap","late","law","len","length","let","lex_greater","lex_greatereq","lex_less","lex_lesseq","list","m","maker","many","max","maximum","min","minimum","mod","name","names","node","nodes","none","note_predicate","notes","nothing","nvalue","of_all","one","op","open_call","other","output","p","param","part","place","plain_kind","pop","pow","predicate","predicates","product","push","put","put_together","q","range","regular","reverse","row","s","scopes","script","seen","self","set","set2array","shape","show","sides","sign","some","sort","sorted","spot","str","subset","sum","superset","symdiff","t","table","text","told","tuple","turned","type_kind","un","union","v","value","value_precede","varies","waiting","want","want_each","wanted","way","what","within","x","xor","xorall","y","z","zip"]
def F_law:Fn:=⟨[205],
  (.cons (.asgT [105,163,176] (.tup (.cons (.mdct [80,188,217] (.cons (.lstOf (.slice (.loc 205) 60)) (.cons (.const (.int 0)) (.cons (.const (.int 0)) .nil)))) (.cons (.new 1) (.cons (.lst (.cons (.mdct [] .nil) (.cons (.mdct [] .nil) .nil))) .nil))))) (.cons (.asg 172 (.call 6 (.cons (.loc 105) (.cons (.const (.int 2)) (.cons (.sub (.tup (.cons (.const (.str 130)) (.cons (.const (.str 75)) .nil))) (.call 1 (.cons (.loc 105) (.cons (.const (.int 2)) .nil)))) .nil))))) (.cons (.asg 99 (.call 14 (.cons (.loc 172) (.cons (.comp (.tup (.cons (.loc 170) (.cons (.sub (.glob 51 (.dct [(118,(.tup [(.str 130),(.bool false),(.int 0)])),(243,(.tup [(.str 130),(.bool true),(.int 0)])),(70,(.tup [(.str 75),(.bool false),(.int 0)])),(246,(.tup [(.str 75),(.bool true),(.int 0)])),(203,(.tup [(.str 208),(.bool false),(.int 0)])),(223,(.tup [(.str 218),(.bool false),(.int 0)])),(52,(.tup [(.str 130),(.bool false),(.int 1)])),(232,(.tup [(.str 130),(.bool true),(.int 1)]))])) (.loc 170)) (.cons (.const (.bool true)) .nil)))) (.one 170) (.val (.sortedW [52,70,118,203,223,232,243,246])) .nil) (.cons (.loc 176) .nil))))) (.cons (.forS (.one 170) (.val (.sortedW [52,70,118,203,223,232,243,246])) (.cons (.expr (.meth (.attr (.loc 163) 171) 196 (.cons (.loc 170) (.cons (.sub (.glob 51 (.dct [(118,(.tup [(.str 130),(.bool false),(.int 0)])),(243,(.tup [(.str 130),(.bool true),(.int 0)])),(70,(.tup [(.str 75),(.bool false),(.int 0)])),(246,(.tup [(.str 75),(.bool true),(.int 0)])),(203,(.tup [(.str 208),(.bool false),(.int 0)])),(223,(.tup [(.str 218),(.bool false),(.int 0)])),(52,(.tup [(.str 130),(.bool false),(.int 1)])),(232,(.tup [(.str 130),(.bool true),(.int 1)]))])) (.loc 170)) (.cons (.const (.int 0)) .nil))))) .nil)) (.cons (.expr (.meth (.loc 163) 175 (.cons (.tup (.cons (.const (.str 192)) (.cons (.const (.int 0)) (.cons (.const (.str 185)) (.cons (.tup (.cons (.tup (.cons (.tup (.cons (.const (.str 130)) (.cons (.const (.bool true)) (.cons (.tup .nil) (.cons (.const .none) .nil))))) (.cons (.const (.str 162)) .nil))) .nil)) (.cons (.tup (.cons (.const (.str 75)) (.cons (.const (.int 0)) (.cons (.const (.bool true)) .nil)))) .nil)))))) .nil))) (.cons (.forS (.one 151) (.range (.const (.int 2))) (.cons (.tryE (.cons (.asg 226 (.tup (.cons (.meth (.loc 163) 242 (.cons (.loc 172) .nil)) (.cons (.const .none) .nil)))) .nil) 104 226) (.cons (.ite (.boolop false (.cons (.cmp .ne (.loc 226) (.loc 99)) (.cons (.cmpLD (.attr (.attr (.loc 163) 171) 204) (.lst (.cons (.glob 51 (.dct [(118,(.tup [(.str 130),(.bool false),(.int 0)])),(243,(.tup [(.str 130),(.bool true),(.int 0)])),(70,(.tup [(.str 75),(.bool false),(.int 0)])),(246,(.tup [(.str 75),(.bool true),(.int 0)])),(203,(.tup [(.str 208),(.bool false),(.int 0)])),(223,(.tup [(.str 218),(.bool false),(.int 0)])),(52,(.tup [(.str 130),(.bool false),(.int 1)])),(232,(.tup [(.str 130),(.bool true),(.int 1)]))])) .nil))) .nil))) (.cons (.ret (.const (.bool false))) .nil) .nil) (.cons (.ite (.boolop false (.cons (.cmpD (.attr (.attr (.loc 163) 171) 63) (.sub (.loc 176) (.const (.int 0)))) (.cons (.cmpD (.attr (.loc 163) 78) (.sub (.loc 176) (.const (.int 1)))) .nil))) (.cons (.ret (.const (.bool false))) .nil) .nil) .nil)))) (.cons (.ret (.const (.bool true))) .nil)))))))⟩
def F__law_dip:Fn:=⟨[105,164],
  (.cons (.asgT [80,188] (.tup (.cons (.sub (.loc 105) (.const (.str 80))) (.cons (.sub (.loc 105) (.const (.str 188))) .nil)))) (.cons (.setI (.loc 105) (.const (.str 188)) (.bin .add (.loc 188) (.const (.int 1)))) (.cons (.ite (.cmp .lt (.loc 188) (.len (.loc 80))) (.cons (.ret (.bin .mod (.sub (.loc 80) (.loc 188)) (.loc 164))) .nil) .nil) (.cons (.ret (.bin .mod (.bin .mod (.bin .add (.bin .add (.bin .add (.bin .mul (.bin .mul (.const (.int 5)) (.loc 188)) (.loc 188)) (.bin .mul (.const (.int 11)) (.loc 188))) (.bin .mul (.const (.int 3)) (.len (.loc 80)))) (.const (.int 4))) (.const (.int 89))) (.loc 164))) .nil))))⟩
def F__law_spot:Fn:=⟨[105],
  (.cons (.setI (.loc 105) (.const (.str 217)) (.bin .add (.sub (.loc 105) (.const (.str 217))) (.const (.int 3)))) (.cons (.ret (.sub (.loc 105) (.const (.str 217)))) .nil))⟩
def F__law_leaf:Fn:=⟨[105,72],
  (.cons (.asgT [217,240] (.tup (.cons (.call 2 (.cons (.loc 105) .nil)) (.cons (.call 1 (.cons (.loc 105) (.cons (.const (.int 12)) .nil))) .nil)))) (.cons (.ite (.cmp .eq (.loc 240) (.const (.int 11))) (.cons (.ret (.tup (.cons (.const (.str 170)) (.cons (.loc 217) (.cons (.sub (.tup (.cons (.const (.str 203)) (.cons (.const (.str 223)) (.cons (.const (.str 232)) (.cons (.const (.str 247)) (.cons (.const (.str 111)) (.cons (.const (.str 52)) .nil))))))) (.call 1 (.cons (.loc 105) (.cons (.const (.int 6)) .nil)))) .nil))))) .nil) .nil) (.cons (.ite (.cmp .eq (.loc 72) (.const (.str 75))) (.cons (.ret (.sub (.tup (.cons (.tup (.cons (.const (.str 75)) (.cons (.loc 217) (.cons (.const (.bool true)) .nil)))) (.cons (.tup (.cons (.const (.str 170)) (.cons (.loc 217) (.cons (.const (.str 70)) .nil)))) (.cons (.tup (.cons (.const (.str 170)) (.cons (.loc 217) (.cons (.const (.str 246)) .nil)))) (.cons (.tup (.cons (.const (.str 170)) (.cons (.loc 217) (.cons (.sub (.tup (.cons (.const (.str 70)) (.cons (.const (.str 246)) (.cons (.const (.str 117)) .nil)))) (.bin .mod (.loc 240) (.const (.int 3)))) .nil)))) .nil))))) (.bin .mod (.loc 240) (.const (.int 4))))) .nil) .nil) (.cons (.ite (.cmp .eq (.loc 72) (.const (.str 218))) (.cons (.ret (.ite (.cmp .eq (.bin .mod (.loc 240) (.const (.int 2))) (.const (.int 0))) (.tup (.cons (.const (.str 218)) (.cons (.loc 217) (.cons (.const (.str 198)) .nil)))) (.tup (.cons (.const (.str 170)) (.cons (.loc 217) (.cons (.const (.str 223)) .nil)))))) .nil) .nil) (.cons (.ite (.boolop true (.cons (.cmp .eq (.loc 72) (.const (.str 208))) (.cons (.cmp .lt (.loc 240) (.const (.int 5))) .nil))) (.cons (.ret (.tup (.cons (.const (.str 199)) (.cons (.loc 217) (.cons (.tup (.cons (.const (.str 130)) (.cons (.call 2 (.cons (.loc 105) .nil)) (.cons (.const (.int 1)) .nil)))) (.cons (.call 3 (.cons (.loc 105) (.cons (.const (.str 130)) .nil))) .nil)))))) .nil) .nil) (.cons (.ite (.cmp .eq (.loc 72) (.const (.str 208))) (.cons (.ret (.tup (.cons (.const (.str 170)) (.cons (.loc 217) (.cons (.const (.str 203)) .nil))))) .nil) .nil) (.cons (.ret (.ite (.cmp .lt (.loc 240) (.const (.int 7))) (.tup (.cons (.const (.str 170)) (.cons (.loc 217) (.cons (.sub (.tup (.cons (.const (.str 118)) (.cons (.const (.str 111)) (.cons (.const (.str 243)) (.cons (.const (.str 118)) (.cons (.const (.str 243)) (.cons (.const (.str 117)) (.cons (.const (.str 118)) .nil)))))))) (.loc 240)) .nil)))) (.tup (.cons (.const (.str 130)) (.cons (.loc 217) (.cons (.const (.int 2)) .nil)))))) .nil)))))))⟩
def F__law_expr:Fn:=⟨[105,108,72],
  (.cons (.asg 240 (.ite (.boolop true (.cons (.cmp .gt (.loc 108) (.const (.int 0))) (.cons (.cmp .lt (.sub (.loc 105) (.const (.str 188))) (.const (.int 60))) .nil))) (.call 1 (.cons (.loc 105) (.cons (.const (.int 6)) .nil))) (.const (.int 0)))) (.cons (.ite (.cmp .eq (.loc 240) (.const (.int 5))) (.cons (.ret (.call 6 (.cons (.loc 105) (.cons (.bin .sub (.loc 108) (.const (.int 1))) (.cons (.loc 72) .nil))))) .nil) .nil) (.cons (.ite (.boolop false (.cons (.cmp .lt (.loc 240) (.const (.int 2))) (.cons (.cmp .isin (.loc 72) (.tup (.cons (.const (.str 208)) (.cons (.const (.str 218)) .nil)))) .nil))) (.cons (.ret (.call 3 (.cons (.loc 105) (.cons (.loc 72) .nil)))) .nil) .nil) (.cons (.asg 217 (.call 2 (.cons (.loc 105) .nil))) (.cons (.ite (.boolop true (.cons (.cmp .eq (.loc 240) (.const (.int 2))) (.cons (.cmp .eq (.loc 72) (.const (.str 130))) .nil))) (.cons (.asg 57 (.tup (.cons (.const (.str 170)) (.cons (.bin .add (.loc 217) (.const (.int 1))) (.cons (.sub (.tup (.cons (.const (.str 232)) (.cons (.const (.str 52)) (.cons (.const (.str 232)) (.cons (.const (.str 111)) .nil))))) (.call 1 (.cons (.loc 105) (.cons (.const (.int 4)) .nil)))) .nil))))) (.cons (.ret (.tup (.cons (.const (.str 123)) (.cons (.loc 217) (.cons (.loc 57) (.cons (.tup (.cons (.call 4 (.cons (.loc 105) (.cons (.bin .sub (.loc 108) (.const (.int 1))) (.cons (.const (.str 130)) .nil)))) .nil)) .nil)))))) .nil)) .nil) (.cons (.ite (.cmp .eq (.loc 240) (.const (.int 2))) (.cons (.ret (.tup (.cons (.const (.str 77)) (.cons (.loc 217) (.cons (.const (.str 185)) (.cons (.tup (.cons (.call 4 (.cons (.loc 105) (.cons (.bin .sub (.loc 108) (.const (.int 1))) (.cons (.const (.str 130)) .nil)))) .nil)) .nil)))))) .nil) .nil) (.cons (.asg 213 (.ite (.cmp .eq (.loc 72) (.const (.str 130))) (.const (.str 3)) (.sub (.tup (.cons (.const (.str 9)) (.cons (.const (.str 8)) .nil))) (.bin .mod (.loc 240) (.const (.int 2)))))) (.cons (.asg 129 (.ite (.cmp .eq (.loc 213) (.const (.str 8))) (.const (.str 75)) (.const (.str 130)))) (.cons (.asg 180 (.call 4 (.cons (.loc 105) (.cons (.bin .sub (.loc 108) (.const (.int 1))) (.cons (.loc 129) .nil))))) (.cons (.ret (.tup (.cons (.const (.str 74)) (.cons (.loc 217) (.cons (.loc 213) (.cons (.loc 180) (.cons (.call 4 (.cons (.loc 105) (.cons (.const (.int 0)) (.cons (.loc 129) .nil)))) .nil))))))) .nil))))))))))⟩
def F__law_item:Fn:=⟨[105,108],
  (.cons (.asgT [217,240] (.tup (.cons (.call 2 (.cons (.loc 105) .nil)) (.cons (.call 1 (.cons (.loc 105) (.cons (.const (.int 8)) .nil))) .nil)))) (.cons (.ite (.cmp .eq (.loc 240) (.const (.int 0))) (.cons (.ret (.tup (.cons (.const (.str 88)) (.cons (.loc 217) (.cons (.call 4 (.cons (.loc 105) (.cons (.loc 108) (.cons (.const (.str 75)) .nil)))) .nil))))) .nil) .nil) (.cons (.ite (.boolop true (.cons (.cmp .eq (.loc 240) (.const (.int 1))) (.cons (.cmp .eq (.call 1 (.cons (.loc 105) (.cons (.const (.int 4)) .nil))) (.const (.int 3))) .nil))) (.cons (.ret (.sub (.tup (.cons (.tup (.cons (.const (.str 184)) (.cons (.loc 217) (.cons (.tup (.cons (.const (.str 130)) (.cons (.loc 217) (.cons (.const (.int 1)) .nil)))) .nil)))) (.cons (.tup (.cons (.const (.str 66)) (.cons (.loc 217) (.cons (.const (.str 111)) (.cons (.tup (.cons (.const (.str 130)) (.cons (.loc 217) (.cons (.const (.int 1)) .nil)))) .nil))))) .nil))) (.call 1 (.cons (.loc 105) (.cons (.const (.int 2)) .nil))))) .nil) .nil) (.cons (.asgT [72,210] (.tup (.cons (.sub (.tup (.cons (.const (.str 130)) (.cons (.const (.str 75)) (.cons (.const (.str 130)) (.cons (.const (.str 208)) (.cons (.const (.str 218)) .nil)))))) (.call 1 (.cons (.loc 105) (.cons (.const (.int 5)) .nil)))) (.cons (.call 1 (.cons (.loc 105) (.cons (.const (.int 6)) .nil))) .nil)))) (.cons (.asg 235 (.ite (.cmp .isin (.loc 72) (.tup (.cons (.const (.str 130)) (.cons (.const (.str 75)) .nil)))) (.cmp .lt (.call 1 (.cons (.loc 105) (.cons (.const (.int 3)) .nil))) (.const (.int 2))) (.cmp .eq (.call 1 (.cons (.loc 105) (.cons (.const (.int 9)) .nil))) (.const (.int 8))))) (.cons (.asg 95 (.ite (.cmp .eq (.loc 210) (.const (.int 4))) (.tup (.cons (.tup (.cons (.const (.str 131)) .nil)) .nil)) (.ite (.cmp .eq (.loc 210) (.const (.int 5))) (.tup (.cons (.call 3 (.cons (.loc 105) (.cons (.const (.str 208)) .nil))) .nil)) (.tup .nil)))) (.cons (.asg 98 (.ite (.boolop true (.cons (.cmp .isin (.loc 72) (.tup (.cons (.const (.str 130)) (.cons (.const (.str 208)) .nil)))) (.cons (.cmp .eq (.call 1 (.cons (.loc 105) (.cons (.const (.int 4)) .nil))) (.const (.int 3))) .nil))) (.call 3 (.cons (.loc 105) (.cons (.const (.str 208)) .nil))) (.const .none))) (.cons (.asgT [170,233] (.tup (.cons (.sub (.tup (.cons (.const (.str 111)) (.cons (.const (.str 117)) (.cons (.const (.str 118)) (.cons (.const (.str 243)) .nil))))) (.call 1 (.cons (.loc 105) (.cons (.const (.int 4)) .nil)))) (.cons (.const .none) .nil)))) (.cons (.ite (.boolop true (.cons (.cmp .lt (.call 1 (.cons (.loc 105) (.cons (.const (.int 4)) .nil))) (.const (.int 3))) (.cons (.cmp .eq (.loc 95) (.tup .nil)) .nil))) (.cons (.asg 233 (.call 4 (.cons (.loc 105) (.cons (.loc 108) (.cons (.loc 72) .nil))))) .nil) (.cons (.ite (.boolop true (.cons (.cmp .ne (.loc 95) (.tup .nil)) (.cons (.cmp .lt (.call 1 (.cons (.loc 105) (.cons (.const (.int 3)) .nil))) (.const (.int 2))) .nil))) (.cons (.asg 233 (.tup (.cons (.const (.str 57)) (.cons (.call 2 (.cons (.loc 105) .nil)) (.cons (.tupOf (.comp (.call 3 (.cons (.loc 105) (.cons (.loc 72) .nil))) (.one 151) (.range (.call 1 (.cons (.loc 105) (.cons (.const (.int 3)) .nil)))) .nil)) .nil))))) .nil) .nil) .nil)) (.cons (.ret (.tup (.cons (.const (.str 91)) (.cons (.loc 217) (.cons (.tup (.cons (.loc 72) (.cons (.loc 235) (.cons (.loc 95) (.cons (.loc 98) .nil))))) (.cons (.loc 170) (.cons (.loc 233) .nil))))))) .nil))))))))))⟩
def F__law_let:Fn:=⟨[105,108,72],
  (.cons (.asg 217 (.call 2 (.cons (.loc 105) .nil))) (.cons (.asg 140 (.comp (.call 5 (.cons (.loc 105) (.cons (.loc 108) .nil))) (.one 151) (.range (.bin .add (.const (.int 1)) (.call 1 (.cons (.loc 105) (.cons (.const (.int 3)) .nil))))) .nil)) (.cons (.ret (.tup (.cons (.const (.str 156)) (.cons (.loc 217) (.cons (.tupOf (.loc 140)) (.cons (.call 4 (.cons (.loc 105) (.cons (.loc 108) (.cons (.loc 72) .nil)))) .nil)))))) .nil)))⟩
def F__law_stands:Fn:=⟨[],
  (.cons (.ret (.dct [174,75,130,218,208] (.cons (.tup (.cons (.const (.str 174)) (.cons (.const (.str 75)) (.cons (.const (.str 130)) (.cons (.const (.str 218)) (.cons (.const (.str 208)) .nil)))))) (.cons (.tup (.cons (.const (.str 75)) (.cons (.const (.str 130)) .nil))) (.cons (.tup (.cons (.const (.str 130)) .nil)) (.cons (.tup (.cons (.const (.str 218)) .nil)) (.cons (.tup (.cons (.const (.str 208)) .nil)) .nil))))))) .nil)⟩
def F__law_fits:Fn:=⟨[144,72,235,212],
  (.cons (.ret (.boolop true (.cons (.cmp .eq (.sub (.loc 144) (.const (.int 2))) (.loc 212)) (.cons (.boolop false (.cons (.loc 235) (.cons (.not (.sub (.loc 144) (.const (.int 1)))) .nil))) (.cons (.cmp .isin (.loc 72) (.sub (.call 7 .nil) (.sub (.loc 144) (.const (.int 0))))) .nil))))) .nil)⟩
def F__law_array:Fn:=⟨[172,101,176],
  (.cons (.asgT [72,235] (.tup (.cons (.const (.str 174)) (.cons (.const (.bool false)) .nil)))) (.cons (.forS (.one 187) (.val (.sub (.loc 172) (.const (.int 2)))) (.cons (.asgT [144,71] (.call 14 (.cons (.loc 187) (.cons (.loc 101) (.cons (.loc 176) .nil))))) (.cons (.ite (.cmp .isnot (.loc 71) (.const .none)) (.cons (.ret (.tup (.cons (.const .none) (.cons (.loc 71) .nil)))) .nil) .nil) (.cons (.asg 214 (.comp (.loc 180) (.one 180) (.val (.sub (.call 7 .nil) (.loc 72))) (.cons (.cmp .isin (.loc 180) (.sub (.call 7 .nil) (.sub (.loc 144) (.const (.int 0))))) .nil))) (.cons (.ite (.boolop false (.cons (.cmp .ne (.sub (.loc 144) (.const (.int 2))) (.const (.int 0))) (.cons (.cmp .eq (.loc 214) (.lst .nil)) .nil))) (.cons (.ret (.tup (.cons (.const .none) (.cons (.sub (.loc 187) (.const (.int 1))) .nil)))) .nil) .nil) (.cons (.asgT [72,235] (.tup (.cons (.sub (.loc 214) (.const (.int 0))) (.cons (.boolop false (.cons (.loc 235) (.cons (.sub (.loc 144) (.const (.int 1))) .nil))) .nil)))) .nil)))))) (.cons (.ret (.tup (.cons (.tup (.cons (.loc 72) (.cons (.loc 235) (.cons (.const (.int 1)) .nil)))) (.cons (.const .none) .nil)))) .nil)))⟩
def F__law_set_told:Fn:=⟨[172,101,176],
  (.cons (.asgT [144,71] (.call 14 (.cons (.loc 172) (.cons (.loc 101) (.cons (.loc 176) .nil))))) (.cons (.ite (.cmp .isnot (.loc 71) (.const .none)) (.cons (.ret (.loc 71)) .nil) .nil) (.cons (.ret (.ite (.call 8 (.cons (.loc 144) (.cons (.const (.str 208)) (.cons (.const (.bool false)) (.cons (.const (.int 0)) .nil))))) (.const .none) (.sub (.loc 172) (.const (.int 1))))) .nil)))⟩
def F__law_declared:Fn:=⟨[139,101,176],
  (.cons (.asgT [72,235,95,98] (.sub (.loc 139) (.const (.int 2)))) (.cons (.ite (.boolop true (.cons (.loc 235) (.cons (.cmp .isin (.loc 72) (.tup (.cons (.const (.str 208)) (.cons (.const (.str 218)) .nil)))) .nil))) (.cons (.ret (.sub (.loc 139) (.const (.int 1)))) .nil) .nil) (.cons (.asg 214 (.ite (.cmp .isnot (.loc 98) (.const .none)) (.lst (.cons (.loc 98) .nil)) (.lst .nil))) (.cons (.asg 214 (.bin .add (.loc 214) (.comp (.loc 187) (.one 187) (.val (.loc 95)) (.cons (.cmp .ne (.loc 187) (.tup (.cons (.const (.str 131)) .nil))) .nil)))) (.cons (.forS (.one 187) (.val (.loc 214)) (.cons (.asg 71 (.call 10 (.cons (.loc 187) (.cons (.loc 101) (.cons (.loc 176) .nil))))) (.cons (.ite (.cmp .isnot (.loc 71) (.const .none)) (.cons (.ret (.loc 71)) .nil) .nil) .nil))) (.cons (.ite (.cmp .is (.sub (.loc 139) (.const (.int 4))) (.const .none)) (.cons (.ret (.ite (.boolop true (.cons (.cmp .eq (.loc 95) (.tup (.cons (.tup (.cons (.const (.str 131)) .nil)) .nil))) (.cons (.loc 235) .nil))) (.sub (.loc 139) (.const (.int 1))) (.const .none))) .nil) .nil) (.cons (.asgT [144,71] (.call 14 (.cons (.sub (.loc 139) (.const (.int 4))) (.cons (.loc 101) (.cons (.loc 176) .nil))))) (.cons (.ite (.cmp .isnot (.loc 71) (.const .none)) (.cons (.ret (.loc 71)) .nil) .nil) (.cons (.ret (.ite (.call 8 (.cons (.loc 144) (.cons (.loc 72) (.cons (.loc 235) (.cons (.len (.loc 95)) .nil))))) (.const .none) (.sub (.loc 139) (.const (.int 1))))) .nil)))))))))⟩
def F__law_within:Fn:=⟨[172,101,176],
  (.cons (.asgT [152,206] (.tup (.cons (.mlstOf (.loc 101)) (.cons (.mlst .nil) .nil)))) (.cons (.forS (.one 139) (.val (.sub (.loc 172) (.const (.int 2)))) (.cons (.ite (.cmp .eq (.sub (.loc 139) (.const (.int 0))) (.const (.str 91))) (.cons (.asg 71 (.call 11 (.cons (.loc 139) (.cons (.loc 152) (.cons (.loc 176) .nil))))) (.cons (.ite (.boolop true (.cons (.cmp .is (.loc 71) (.const .none)) (.cons (.cmp .isin (.sub (.loc 139) (.const (.int 3))) (.loc 206)) .nil))) (.cons (.asg 71 (.sub (.loc 139) (.const (.int 1)))) .nil) .nil) (.cons (.expr (.append (.loc 206) (.sub (.loc 139) (.const (.int 3))))) (.cons (.expr (.append (.loc 152) (.tup (.cons (.sub (.loc 139) (.const (.int 3))) (.cons (.tup (.cons (.sub (.sub (.loc 139) (.const (.int 2))) (.const (.int 0))) (.cons (.sub (.sub (.loc 139) (.const (.int 2))) (.const (.int 1))) (.cons (.len (.sub (.sub (.loc 139) (.const (.int 2))) (.const (.int 2)))) .nil)))) (.cons (.const (.bool false)) .nil)))))) .nil)))) (.cons (.ite (.cmp .eq (.sub (.loc 139) (.const (.int 0))) (.const (.str 88))) (.cons (.asgT [144,71] (.call 14 (.cons (.sub (.loc 139) (.const (.int 2))) (.cons (.loc 152) (.cons (.loc 176) .nil))))) (.cons (.ite (.boolop true (.cons (.cmp .is (.loc 71) (.const .none)) (.cons (.not (.call 8 (.cons (.loc 144) (.cons (.const (.str 75)) (.cons (.const (.bool true)) (.cons (.const (.int 0)) .nil)))))) .nil))) (.cons (.asg 71 (.sub (.loc 139) (.const (.int 1)))) .nil) .nil) .nil)) (.cons (.asg 71 (.sub (.loc 139) (.const (.int 1)))) .nil)) .nil)) (.cons (.ite (.cmp .isnot (.loc 71) (.const .none)) (.cons (.ret (.tup (.cons (.const .none) (.cons (.loc 71) .nil)))) .nil) .nil) .nil))) (.cons (.ret (.call 14 (.cons (.sub (.loc 172) (.const (.int 3))) (.cons (.loc 152) (.cons (.loc 176) .nil))))) .nil)))⟩
def F__law_element:Fn:=⟨[172,101,176],
  (.cons (.asgT [202,71] (.call 14 (.cons (.sub (.loc 172) (.const (.int 2))) (.cons (.loc 101) (.cons (.loc 176) .nil))))) (.cons (.ite (.boolop false (.cons (.cmp .isnot (.loc 71) (.const .none)) (.cons (.cmp .ne (.sub (.loc 202) (.const (.int 2))) (.const (.int 1))) .nil))) (.cons (.ret (.tup (.cons (.const .none) (.cons (.ite (.cmp .is (.loc 71) (.const .none)) (.sub (.loc 172) (.const (.int 1))) (.loc 71)) .nil)))) .nil) .nil) (.cons (.asgT [188,71] (.call 14 (.cons (.sub (.sub (.loc 172) (.const (.int 3))) (.const (.int 0))) (.cons (.loc 101) (.cons (.loc 176) .nil))))) (.cons (.ite (.boolop false (.cons (.cmp .isnot (.loc 71) (.const .none)) (.cons (.not (.call 8 (.cons (.loc 188) (.cons (.const (.str 130)) (.cons (.const (.bool true)) (.cons (.const (.int 0)) .nil)))))) .nil))) (.cons (.ret (.tup (.cons (.const .none) (.cons (.ite (.cmp .is (.loc 71) (.const .none)) (.sub (.sub (.sub (.loc 172) (.const (.int 3))) (.const (.int 0))) (.const (.int 1))) (.loc 71)) .nil)))) .nil) .nil) (.cons (.asg 235 (.boolop false (.cons (.sub (.loc 202) (.const (.int 1))) (.cons (.sub (.loc 188) (.const (.int 1))) .nil)))) (.cons (.ret (.ite (.boolop true (.cons (.loc 235) (.cons (.cmp .isin (.sub (.loc 202) (.const (.int 0))) (.tup (.cons (.const (.str 218)) (.cons (.const (.str 208)) .nil)))) .nil))) (.tup (.cons (.const .none) (.cons (.sub (.loc 172) (.const (.int 1))) .nil))) (.tup (.cons (.tup (.cons (.sub (.loc 202) (.const (.int 0))) (.cons (.loc 235) (.cons (.const (.int 0)) .nil)))) (.cons (.const .none) .nil))))) .nil))))))⟩
def F__law_kind:Fn:=⟨[172,101,176],
  (.cons (.asgT [181,217] (.tup (.cons (.sub (.loc 172) (.const (.int 0))) (.cons (.sub (.loc 172) (.const (.int 1))) .nil)))) (.cons (.ite (.cmp .isin (.loc 181) (.tup (.cons (.const (.str 130)) (.cons (.const (.str 75)) (.cons (.const (.str 218)) .nil))))) (.cons (.ret (.tup (.cons (.tup (.cons (.loc 181) (.cons (.const (.bool false)) (.cons (.const (.int 0)) .nil)))) (.cons (.const .none) .nil)))) .nil) .nil) (.cons (.ite (.cmp .eq (.loc 181) (.const (.str 170))) (.cons (.asg 149 (.comp (.tup (.cons (.loc 144) (.cons (.loc 135) .nil))) (.many [170,144,135]) (.val (.loc 101)) (.cons (.cmp .eq (.loc 170) (.sub (.loc 172) (.const (.int 2)))) .nil))) (.cons (.ite (.boolop true (.cons (.cmp .ne (.loc 149) (.lst .nil)) (.cons (.sub (.sub (.loc 149) (.const (.int (-1)))) (.const (.int 1))) .nil))) (.cons (.setI (.sub (.loc 176) (.const (.int 0))) (.sub (.loc 172) (.const (.int 2))) (.const (.bool true))) .nil) .nil) (.cons (.ret (.ite (.cmp .ne (.loc 149) (.lst .nil)) (.tup (.cons (.sub (.sub (.loc 149) (.const (.int (-1)))) (.const (.int 0))) (.cons (.const .none) .nil))) (.tup (.cons (.const .none) (.cons (.loc 217) .nil))))) .nil))) .nil) (.cons (.ite (.cmp .eq (.loc 181) (.const (.str 156))) (.cons (.ret (.call 12 (.cons (.loc 172) (.cons (.loc 101) (.cons (.loc 176) .nil))))) .nil) .nil) (.cons (.ite (.cmp .eq (.loc 181) (.const (.str 57))) (.cons (.ret (.call 9 (.cons (.loc 172) (.cons (.loc 101) (.cons (.loc 176) .nil))))) .nil) .nil) (.cons (.ite (.cmp .eq (.loc 181) (.const (.str 123))) (.cons (.ret (.call 13 (.cons (.loc 172) (.cons (.loc 101) (.cons (.loc 176) .nil))))) .nil) .nil) (.cons (.ite (.cmp .eq (.loc 181) (.const (.str 77))) (.cons (.asgT [144,71] (.call 14 (.cons (.sub (.sub (.loc 172) (.const (.int 3))) (.const (.int 0))) (.cons (.loc 101) (.cons (.loc 176) .nil))))) (.cons (.ite (.cmp .is (.loc 71) (.const .none)) (.cons (.setI (.sub (.loc 176) (.const (.int 1))) (.const (.str 185)) (.const (.bool true))) .nil) .nil) (.cons (.ite (.boolop true (.cons (.cmp .is (.loc 71) (.const .none)) (.cons (.not (.call 8 (.cons (.loc 144) (.cons (.const (.str 130)) (.cons (.const (.bool true)) (.cons (.const (.int 0)) .nil)))))) .nil))) (.cons (.asg 71 (.loc 217)) .nil) .nil) (.cons (.ret (.ite (.cmp .is (.loc 71) (.const .none)) (.tup (.cons (.tup (.cons (.const (.str 75)) (.cons (.const (.bool true)) (.cons (.const (.int 0)) .nil)))) (.cons (.const .none) .nil))) (.tup (.cons (.const .none) (.cons (.loc 71) .nil))))) .nil)))) .nil) (.cons (.asgT [180,71] (.call 14 (.cons (.sub (.loc 172) (.ite (.cmp .eq (.loc 181) (.const (.str 199))) (.const (.int 2)) (.const (.int 3)))) (.cons (.loc 101) (.cons (.loc 176) .nil))))) (.cons (.ite (.boolop true (.cons (.cmp .is (.loc 71) (.const .none)) (.cons (.cmp .eq (.loc 181) (.const (.str 199))) (.cons (.not (.call 8 (.cons (.loc 180) (.cons (.const (.str 130)) (.cons (.const (.bool false)) (.cons (.const (.int 0)) .nil)))))) .nil)))) (.cons (.asg 71 (.loc 217)) .nil) .nil) (.cons (.ite (.cmp .isnot (.loc 71) (.const .none)) (.cons (.ret (.tup (.cons (.const .none) (.cons (.loc 71) .nil)))) .nil) .nil) (.cons (.asgT [183,71] (.call 14 (.cons (.sub (.loc 172) (.ite (.cmp .eq (.loc 181) (.const (.str 199))) (.const (.int 3)) (.const (.int 4)))) (.cons (.loc 101) (.cons (.loc 176) .nil))))) (.cons (.ite (.cmp .isnot (.loc 71) (.const .none)) (.cons (.ret (.tup (.cons (.const .none) (.cons (.loc 71) .nil)))) .nil) .nil) (.cons (.ite (.cmp .eq (.loc 181) (.const (.str 199))) (.cons (.ret (.ite (.call 8 (.cons (.loc 183) (.cons (.const (.str 130)) (.cons (.const (.bool false)) (.cons (.const (.int 0)) .nil))))) (.tup (.cons (.tup (.cons (.const (.str 208)) (.cons (.const (.bool false)) (.cons (.const (.int 0)) .nil)))) (.cons (.const .none) .nil))) (.tup (.cons (.const .none) (.cons (.loc 217) .nil))))) .nil) .nil) (.cons (.asgT [72,214] (.tup (.cons (.sub (.dct [3,9,8] (.cons (.const (.str 130)) (.cons (.const (.str 130)) (.cons (.const (.str 75)) .nil)))) (.sub (.loc 172) (.const (.int 2)))) (.cons (.tup (.cons (.loc 180) (.cons (.loc 183) .nil))) .nil)))) (.cons (.asg 136 (.cmp .eq (.comp (.loc 144) (.one 144) (.val (.loc 214)) (.cons (.not (.call 8 (.cons (.loc 144) (.cons (.loc 72) (.cons (.const (.bool true)) (.cons (.const (.int 0)) .nil)))))) .nil)) (.lst .nil))) (.cons (.ite (.cmp .eq (.sub (.loc 172) (.const (.int 2))) (.const (.str 9))) (.cons (.asg 136 (.boolop true (.cons (.cmp .eq (.sub (.loc 180) (.const (.int 2))) (.const (.int 0))) (.cons (.cmp .eq (.sub (.loc 183) (.const (.int 2))) (.const (.int 0))) (.cons (.cmp .ne (.comp (.loc 143) (.one 143) (.val (.sub (.call 7 .nil) (.sub (.loc 180) (.const (.int 0))))) (.cons (.cmp .isin (.loc 143) (.sub (.call 7 .nil) (.sub (.loc 183) (.const (.int 0))))) .nil)) (.lst .nil)) .nil))))) (.cons (.asg 72 (.const (.str 75))) .nil)) .nil) (.cons (.ret (.ite (.loc 136) (.tup (.cons (.tup (.cons (.loc 72) (.cons (.boolop false (.cons (.sub (.loc 180) (.const (.int 1))) (.cons (.sub (.loc 183) (.const (.int 1))) .nil))) (.cons (.const (.int 0)) .nil)))) (.cons (.const .none) .nil))) (.tup (.cons (.const .none) (.cons (.loc 217) .nil))))) .nil)))))))))))))))))⟩
def F_kind_text:Fn:=⟨[144],
  (.cons (.asgT [72,138,95] (.loc 144)) (.cons (.asg 225 (.bin .add (.ite (.loc 138) (.const (.txt 4)) (.const (.str 0))) (.ite (.cmp .eq (.loc 72) (.const (.str 174))) (.const (.str 177)) (.loc 72)))) (.cons (.ret (.ite (.cmp .eq (.loc 95) (.const (.int 0))) (.loc 225) (.fstr (.cons (.const (.txt 9)) (.cons (.loc 95) (.cons (.const (.txt 15)) (.cons (.loc 225) .nil))))))) .nil)))⟩
def F_fits:Fn:=⟨[144,239],
  (.cons (.ite (.boolop false (.cons (.cmp .ne (.sub (.loc 144) (.const (.int 2))) (.sub (.loc 239) (.const (.int 2)))) (.cons (.boolop true (.cons (.sub (.loc 144) (.const (.int 1))) (.cons (.not (.sub (.loc 239) (.const (.int 1)))) .nil))) .nil))) (.cons (.ret (.const (.bool false))) .nil) .nil) (.cons (.ret (.boolop false (.cons (.cmp .isin (.sub (.loc 144) (.const (.int 0))) (.tup (.cons (.sub (.loc 239) (.const (.int 0))) (.cons (.const (.str 174)) .nil)))) (.cons (.boolop true (.cons (.cmp .eq (.sub (.loc 239) (.const (.int 0))) (.const (.str 130))) (.cons (.cmp .eq (.sub (.loc 144) (.const (.int 0))) (.const (.str 75))) .nil))) .nil)))) .nil))⟩
def F_want:Fn:=⟨[144,239,217,241],
  (.cons (.ite (.not (.call 16 (.cons (.loc 144) (.cons (.loc 239) .nil)))) (.cons (.raise (.fstr (.cons (.loc 241) (.cons (.const (.txt 2)) (.cons (.call 15 (.cons (.loc 239) .nil)) (.cons (.const (.txt 16)) (.cons (.call 15 (.cons (.loc 144) .nil)) .nil)))))) (.loc 217)) .nil) .nil) .nil)⟩
def F_common:Fn:=⟨[180,183,217,241],
  (.cons (.asg 73 (.tup (.cons (.sub (.loc 180) (.const (.int 0))) (.cons (.sub (.loc 183) (.const (.int 0))) .nil)))) (.cons (.ite (.boolop false (.cons (.cmp .ne (.sub (.loc 180) (.const (.int 2))) (.sub (.loc 183) (.const (.int 2)))) (.cons (.boolop true (.cons (.cmp .ne (.sub (.loc 180) (.const (.int 0))) (.sub (.loc 183) (.const (.int 0)))) (.cons (.notin (.const (.str 174)) (.loc 73)) (.cons (.cmp .ne (.sorted2 (.loc 73)) (.lst (.cons (.const (.str 75)) (.cons (.const (.str 130)) .nil)))) .nil)))) .nil))) (.cons (.raise (.fstr (.cons (.loc 241) (.cons (.const (.txt 2)) (.cons (.call 15 (.cons (.loc 180) .nil)) (.cons (.const (.txt 8)) (.cons (.call 15 (.cons (.loc 183) .nil)) .nil)))))) (.loc 217)) .nil) .nil) (.cons (.asg 72 (.ite (.boolop false (.cons (.cmp .eq (.sub (.loc 180) (.const (.int 0))) (.sub (.loc 183) (.const (.int 0)))) (.cons (.cmp .eq (.sub (.loc 183) (.const (.int 0))) (.const (.str 174))) .nil))) (.sub (.loc 180) (.const (.int 0))) (.ite (.cmp .eq (.sub (.loc 180) (.const (.int 0))) (.const (.str 174))) (.sub (.loc 183) (.const (.int 0))) (.const (.str 130))))) (.cons (.ret (.tup (.cons (.loc 72) (.cons (.boolop false (.cons (.sub (.loc 180) (.const (.int 1))) (.cons (.sub (.loc 183) (.const (.int 1))) .nil))) (.cons (.sub (.loc 180) (.const (.int 2))) .nil))))) .nil))))⟩
def F_Names___init__:Fn:=⟨[207],
  (.cons (.setA (.loc 207) 204 (.mlst (.cons (.mdct [] .nil) .nil))) (.cons (.setA (.loc 207) 63 (.mdct [] .nil)) .nil))⟩
def F_Names_push:Fn:=⟨[207],
  (.cons (.expr (.append (.attr (.loc 207) 204) (.mdct [] .nil))) .nil)⟩
def F_Names_pop:Fn:=⟨[207],
  (.cons (.expr (.pop (.attr (.loc 207) 204))) .nil)⟩
def F_Names_put:Fn:=⟨[207,170,144,217],
  (.cons (.ite (.cmp .isin (.loc 170) (.sub (.attr (.loc 207) 204) (.const (.int (-1))))) (.cons (.raise (.fstr (.cons (.loc 170) (.cons (.const (.txt 18)) .nil))) (.loc 217)) .nil) .nil) (.cons (.setI (.sub (.attr (.loc 207) 204) (.const (.int (-1)))) (.loc 170) (.loc 144)) .nil))⟩
def F_Names_kind_of:Fn:=⟨[207,170,217],
  (.cons (.forS (.one 188) (.range3 (.bin .sub (.len (.attr (.loc 207) 204)) (.const (.int 1))) (.const (.int (-1))) (.const (.int (-1)))) (.cons (.ite (.cmp .isin (.loc 170) (.sub (.attr (.loc 207) 204) (.loc 188))) (.cons (.ite (.cmp .eq (.loc 188) (.const (.int 0))) (.cons (.setI (.attr (.loc 207) 63) (.loc 170) (.const (.bool true))) .nil) .nil) (.cons (.ret (.sub (.sub (.attr (.loc 207) 204) (.loc 188)) (.loc 170))) .nil)) .nil) .nil)) (.cons (.raise (.fstr (.cons (.loc 170) (.cons (.const (.txt 16)) .nil))) (.loc 217)) .nil))⟩
def F_Kinds___init__:Fn:=⟨[207],
  (.cons (.setA (.loc 207) 171 (.new 0)) (.cons (.setA (.loc 207) 193 (.mdct [] .nil)) (.cons (.setA (.loc 207) 64 (.mdct [] .nil)) (.cons (.setA (.loc 207) 67 (.mdct [] .nil)) (.cons (.setA (.loc 207) 137 (.const (.bool false))) (.cons (.setA (.loc 207) 78 (.mdct [] .nil)) .nil))))))⟩
def F_Kinds_kind:Fn:=⟨[207,172],
  (.cons (.asgT [181,217] (.tup (.cons (.sub (.loc 172) (.const (.int 0))) (.cons (.sub (.loc 172) (.const (.int 1))) .nil)))) (.cons (.ite (.cmp .isin (.loc 181) (.tup (.cons (.const (.str 130)) (.cons (.const (.str 75)) (.cons (.const (.str 218)) .nil))))) (.cons (.ret (.tup (.cons (.loc 181) (.cons (.const (.bool false)) (.cons (.const (.int 0)) .nil))))) .nil) .nil) (.cons (.ite (.cmp .eq (.loc 181) (.const (.str 170))) (.cons (.ret (.meth (.attr (.loc 207) 171) 145 (.cons (.sub (.loc 172) (.const (.int 2))) (.cons (.loc 217) .nil)))) .nil) .nil) (.cons (.ite (.cmp .eq (.loc 181) (.const (.str 74))) (.cons (.ret (.meth (.loc 207) 81 (.cons (.loc 172) .nil))) .nil) .nil) (.cons (.ite (.cmp .eq (.loc 181) (.const (.str 230))) (.cons (.ret (.meth (.loc 207) 228 (.cons (.sub (.loc 172) (.const (.int 2))) (.cons (.meth (.loc 207) 144 (.cons (.sub (.loc 172) (.const (.int 3))) .nil)) (.cons (.loc 217) .nil))))) .nil) .nil) (.cons (.ite (.cmp .eq (.loc 181) (.const (.str 123))) (.cons (.ret (.meth (.loc 207) 127 (.cons (.meth (.loc 207) 144 (.cons (.sub (.loc 172) (.const (.int 2))) .nil)) (.cons (.sub (.loc 172) (.const (.int 3))) (.cons (.loc 217) .nil))))) .nil) .nil) (.cons (.ite (.cmp .eq (.loc 181) (.const (.str 77))) (.cons (.ret (.meth (.loc 207) 77 (.cons (.sub (.loc 172) (.const (.int 2))) (.cons (.comp (.meth (.loc 207) 144 (.cons (.loc 187) .nil)) (.one 187) (.val (.sub (.loc 172) (.const (.int 3)))) .nil) (.cons (.loc 217) .nil))))) .nil) .nil) (.cons (.ite (.cmp .isin (.loc 181) (.tup (.cons (.const (.str 57)) (.cons (.const (.str 59)) (.cons (.const (.str 208)) (.cons (.const (.str 199)) .nil)))))) (.cons (.ret (.meth (.loc 207) 112 (.cons (.loc 181) (.cons (.loc 172) .nil)))) .nil) .nil) (.cons (.ite (.cmp .isin (.loc 181) (.tup (.cons (.const (.str 113)) (.cons (.const (.str 85)) .nil)))) (.cons (.ret (.meth (.loc 207) 114 (.cons (.loc 181) (.cons (.loc 172) .nil)))) .nil) .nil) (.cons (.ite (.cmp .eq (.loc 181) (.const (.str 119))) (.cons (.ret (.meth (.loc 207) 82 (.cons (.loc 172) .nil))) .nil) .nil) (.cons (.ite (.cmp .eq (.loc 181) (.const (.str 156))) (.cons (.ret (.meth (.loc 207) 242 (.cons (.loc 172) .nil))) .nil) .nil) (.cons (.raise (.fstr (.cons (.loc 181) (.cons (.const (.txt 17)) .nil))) (.loc 217)) .nil))))))))))))⟩
def F_Kinds_known_set:Fn:=⟨[207,172,241],
  (.cons (.expr (.call 17 (.cons (.meth (.loc 207) 144 (.cons (.loc 172) .nil)) (.cons (.glob 29 (.tup [(.str 208),(.bool false),(.int 0)])) (.cons (.sub (.loc 172) (.const (.int 1))) (.cons (.loc 241) .nil)))))) .nil)⟩
def F_Kinds_chain:Fn:=⟨[207,172],
  (.cons (.asg 236 (.mlst .nil)) (.cons (.whileS (.cmp .eq (.sub (.loc 172) (.const (.int 0))) (.const (.str 74))) (.cons (.expr (.append (.loc 236) (.loc 172))) (.cons (.asg 172 (.sub (.loc 172) (.const (.int 3)))) .nil))) (.cons (.asg 110 (.meth (.loc 207) 144 (.cons (.loc 172) .nil))) (.cons (.whileS (.cmp .gt (.len (.loc 236)) (.const (.int 0))) (.cons (.asg 172 (.pop (.loc 236))) (.cons (.asg 110 (.meth (.loc 207) 142 (.cons (.sub (.loc 172) (.const (.int 2))) (.cons (.loc 110) (.cons (.meth (.loc 207) 144 (.cons (.sub (.loc 172) (.const (.int 4))) .nil)) (.cons (.sub (.loc 172) (.const (.int 1))) .nil)))))) .nil))) (.cons (.ret (.loc 110)) .nil)))))⟩
def F_Kinds_joined:Fn:=⟨[207,213,180,183,217],
  (.cons (.asg 138 (.boolop false (.cons (.sub (.loc 180) (.const (.int 1))) (.cons (.sub (.loc 183) (.const (.int 1))) .nil)))) (.cons (.ite (.cmp .isin (.loc 213) (.tup (.cons (.const (.str 3)) (.cons (.const (.str 5)) (.cons (.const (.str 2)) (.cons (.const (.str 97)) (.cons (.const (.str 169)) .nil))))))) (.cons (.expr (.call 17 (.cons (.loc 180) (.cons (.glob 20 (.tup [(.str 130),(.bool true),(.int 0)])) (.cons (.loc 217) (.cons (.loc 213) .nil)))))) (.cons (.expr (.call 17 (.cons (.loc 183) (.cons (.glob 20 (.tup [(.str 130),(.bool true),(.int 0)])) (.cons (.loc 217) (.cons (.loc 213) .nil)))))) (.cons (.ret (.tup (.cons (.const (.str 130)) (.cons (.loc 138) (.cons (.const (.int 0)) .nil))))) .nil))) .nil) (.cons (.ite (.cmp .eq (.loc 213) (.const (.str 35))) (.cons (.expr (.call 17 (.cons (.loc 180) (.cons (.glob 20 (.tup [(.str 130),(.bool true),(.int 0)])) (.cons (.loc 217) (.cons (.loc 213) .nil)))))) (.cons (.expr (.call 17 (.cons (.loc 183) (.cons (.glob 22 (.tup [(.str 130),(.bool false),(.int 0)])) (.cons (.loc 217) (.cons (.loc 213) .nil)))))) (.cons (.ret (.tup (.cons (.const (.str 130)) (.cons (.sub (.loc 180) (.const (.int 1))) (.cons (.const (.int 0)) .nil))))) .nil))) .nil) (.cons (.ite (.cmp .isin (.loc 213) (.tup (.cons (.const (.str 8)) (.cons (.const (.str 34)) (.cons (.const (.str 6)) (.cons (.const (.str 10)) (.cons (.const (.str 11)) (.cons (.const (.str 244)) .nil)))))))) (.cons (.expr (.call 17 (.cons (.loc 180) (.cons (.glob 17 (.tup [(.str 75),(.bool true),(.int 0)])) (.cons (.loc 217) (.cons (.loc 213) .nil)))))) (.cons (.expr (.call 17 (.cons (.loc 183) (.cons (.glob 17 (.tup [(.str 75),(.bool true),(.int 0)])) (.cons (.loc 217) (.cons (.loc 213) .nil)))))) (.cons (.ret (.tup (.cons (.const (.str 75)) (.cons (.loc 138) (.cons (.const (.int 0)) .nil))))) .nil))) .nil) (.cons (.ite (.cmp .isin (.loc 213) (.tup (.cons (.const (.str 231)) (.cons (.const (.str 94)) (.cons (.const (.str 222)) (.cons (.const (.str 132)) (.cons (.const (.str 219)) (.cons (.const (.str 221)) .nil)))))))) (.cons (.expr (.call 17 (.cons (.loc 180) (.cons (.glob 29 (.tup [(.str 208),(.bool false),(.int 0)])) (.cons (.loc 217) (.cons (.loc 213) .nil)))))) (.cons (.expr (.call 17 (.cons (.loc 183) (.cons (.glob 29 (.tup [(.str 208),(.bool false),(.int 0)])) (.cons (.loc 217) (.cons (.loc 213) .nil)))))) (.cons (.ret (.ite (.cmp .isin (.loc 213) (.tup (.cons (.const (.str 219)) (.cons (.const (.str 221)) .nil)))) (.tup (.cons (.const (.str 75)) (.cons (.const (.bool false)) (.cons (.const (.int 0)) .nil)))) (.glob 29 (.tup [(.str 208),(.bool false),(.int 0)])))) .nil))) .nil) (.cons (.ite (.cmp .eq (.loc 213) (.const (.str 121))) (.cons (.expr (.call 17 (.cons (.loc 180) (.cons (.glob 20 (.tup [(.str 130),(.bool true),(.int 0)])) (.cons (.loc 217) (.cons (.loc 213) .nil)))))) (.cons (.expr (.call 17 (.cons (.loc 183) (.cons (.glob 29 (.tup [(.str 208),(.bool false),(.int 0)])) (.cons (.loc 217) (.cons (.loc 213) .nil)))))) (.cons (.ret (.tup (.cons (.const (.str 75)) (.cons (.sub (.loc 180) (.const (.int 1))) (.cons (.const (.int 0)) .nil))))) .nil))) .nil) (.cons (.ite (.cmp .eq (.loc 213) (.const (.str 4))) (.cons (.ret (.meth (.loc 207) 197 (.cons (.loc 180) (.cons (.loc 183) (.cons (.loc 217) .nil))))) .nil) .nil) (.cons (.ret (.meth (.loc 207) 86 (.cons (.loc 213) (.cons (.loc 180) (.cons (.loc 183) (.cons (.loc 217) .nil)))))) .nil))))))))⟩
def F_Kinds_compared:Fn:=⟨[207,213,180,183,217],
  (.cons (.ite (.notin (.loc 213) (.tup (.cons (.const (.str 9)) (.cons (.const (.str 12)) (.cons (.const (.str 15)) (.cons (.const (.str 16)) (.cons (.const (.str 13)) (.cons (.const (.str 14)) (.cons (.const (.str 1)) .nil))))))))) (.cons (.raise (.fstr (.cons (.loc 213) (.cons (.const (.txt 16)) .nil))) (.loc 217)) .nil) .nil) (.cons (.asg 110 (.call 18 (.cons (.loc 180) (.cons (.loc 183) (.cons (.loc 217) (.cons (.loc 213) .nil)))))) (.cons (.ite (.cmp .ne (.sub (.loc 110) (.const (.int 2))) (.const (.int 0))) (.cons (.raise (.fstr (.cons (.loc 213) (.cons (.const (.txt 25)) .nil))) (.loc 217)) .nil) .nil) (.cons (.ret (.tup (.cons (.const (.str 75)) (.cons (.sub (.loc 110) (.const (.int 1))) (.cons (.const (.int 0)) .nil))))) .nil))))⟩
def F_Kinds_indexed:Fn:=⟨[207,144,128,217],
  (.cons (.ite (.boolop false (.cons (.cmp .eq (.sub (.loc 144) (.const (.int 2))) (.const (.int 0))) (.cons (.cmp .ne (.sub (.loc 144) (.const (.int 2))) (.len (.loc 128))) .nil))) (.cons (.raise (.fstr (.cons (.call 15 (.cons (.loc 144) .nil)) (.cons (.const (.txt 9)) (.cons (.len (.loc 128)) (.cons (.const (.txt 8)) .nil))))) (.loc 217)) .nil) .nil) (.cons (.asg 138 (.sub (.loc 144) (.const (.int 1)))) (.cons (.forS (.one 187) (.val (.loc 128)) (.cons (.asg 110 (.meth (.loc 207) 144 (.cons (.loc 187) .nil))) (.cons (.expr (.call 17 (.cons (.loc 110) (.cons (.glob 20 (.tup [(.str 130),(.bool true),(.int 0)])) (.cons (.sub (.loc 187) (.const (.int 1))) (.cons (.const (.str 123)) .nil)))))) (.cons (.asg 138 (.boolop false (.cons (.loc 138) (.cons (.sub (.loc 110) (.const (.int 1))) .nil)))) .nil)))) (.cons (.ite (.boolop true (.cons (.loc 138) (.cons (.cmp .isin (.sub (.loc 144) (.const (.int 0))) (.tup (.cons (.const (.str 218)) (.cons (.const (.str 208)) .nil)))) .nil))) (.cons (.raise (.fstr (.cons (.call 15 (.cons (.loc 144) .nil)) (.cons (.const (.txt 34)) .nil))) (.loc 217)) .nil) .nil) (.cons (.ret (.tup (.cons (.sub (.loc 144) (.const (.int 0))) (.cons (.loc 138) (.cons (.const (.int 0)) .nil))))) .nil)))))⟩
def F_Kinds_of_all:Fn:=⟨[207,173,241],
  (.cons (.asg 110 (.tup (.cons (.const (.str 174)) (.cons (.const (.bool false)) (.cons (.const (.int 0)) .nil))))) (.cons (.forS (.one 172) (.val (.loc 173)) (.cons (.asg 152 (.meth (.loc 207) 144 (.cons (.loc 172) .nil))) (.cons (.ite (.cmp .ne (.sub (.loc 152) (.const (.int 2))) (.const (.int 0))) (.cons (.raise (.fstr (.cons (.loc 241) (.cons (.const (.txt 36)) .nil))) (.sub (.loc 172) (.const (.int 1)))) .nil) .nil) (.cons (.asg 110 (.call 18 (.cons (.loc 110) (.cons (.loc 152) (.cons (.sub (.loc 172) (.const (.int 1))) (.cons (.loc 241) .nil)))))) .nil)))) (.cons (.ret (.loc 110)) .nil)))⟩
def F_Kinds_gathered:Fn:=⟨[207,181,172],
  (.cons (.ite (.cmp .eq (.loc 181) (.const (.str 199))) (.cons (.expr (.call 17 (.cons (.meth (.loc 207) 144 (.cons (.sub (.loc 172) (.const (.int 2))) .nil)) (.cons (.glob 22 (.tup [(.str 130),(.bool false),(.int 0)])) (.cons (.sub (.loc 172) (.const (.int 1))) (.cons (.const (.str 7)) .nil)))))) (.cons (.expr (.call 17 (.cons (.meth (.loc 207) 144 (.cons (.sub (.loc 172) (.const (.int 3))) .nil)) (.cons (.glob 22 (.tup [(.str 130),(.bool false),(.int 0)])) (.cons (.sub (.loc 172) (.const (.int 1))) (.cons (.const (.str 7)) .nil)))))) (.cons (.ret (.glob 29 (.tup [(.str 208),(.bool false),(.int 0)]))) .nil))) .nil) (.cons (.ite (.cmp .eq (.loc 181) (.const (.str 208))) (.cons (.expr (.call 17 (.cons (.meth (.loc 207) 179 (.cons (.sub (.loc 172) (.const (.int 2))) (.cons (.const (.str 208)) .nil))) (.cons (.glob 22 (.tup [(.str 130),(.bool false),(.int 0)])) (.cons (.sub (.loc 172) (.const (.int 1))) (.cons (.const (.str 208)) .nil)))))) (.cons (.ret (.glob 29 (.tup [(.str 208),(.bool false),(.int 0)]))) .nil)) .nil) (.cons (.ite (.cmp .eq (.loc 181) (.const (.str 57))) (.cons (.asg 110 (.meth (.loc 207) 179 (.cons (.sub (.loc 172) (.const (.int 2))) (.cons (.const (.str 57)) .nil)))) (.cons (.ret (.tup (.cons (.sub (.loc 110) (.const (.int 0))) (.cons (.sub (.loc 110) (.const (.int 1))) (.cons (.const (.int 1)) .nil))))) .nil)) .nil) (.cons (.asg 110 (.tup (.cons (.const (.str 174)) (.cons (.const (.bool false)) (.cons (.const (.int 0)) .nil))))) (.cons (.forS (.one 202) (.val (.sub (.loc 172) (.const (.int 2)))) (.cons (.ite (.cmp .ne (.len (.loc 202)) (.len (.sub (.sub (.loc 172) (.const (.int 2))) (.const (.int 0))))) (.cons (.raise (.const (.txt 22)) (.sub (.loc 172) (.const (.int 1)))) .nil) .nil) (.cons (.asg 110 (.call 18 (.cons (.loc 110) (.cons (.meth (.loc 207) 179 (.cons (.loc 202) (.cons (.const (.str 57)) .nil))) (.cons (.sub (.loc 172) (.const (.int 1))) (.cons (.const (.str 57)) .nil)))))) .nil))) (.cons (.ret (.tup (.cons (.sub (.loc 110) (.const (.int 0))) (.cons (.sub (.loc 110) (.const (.int 1))) (.cons (.const (.int 2)) .nil))))) .nil))))))⟩
def F_Kinds_within:Fn:=⟨[207,172],
  (.cons (.expr (.meth (.attr (.loc 207) 171) 195 .nil)) (.cons (.tryF (.cons (.forS (.one 139) (.val (.sub (.loc 172) (.const (.int 2)))) (.cons (.ite (.cmp .eq (.sub (.loc 139) (.const (.int 0))) (.const (.str 91))) (.cons (.asg 144 (.meth (.loc 207) 92 (.cons (.loc 139) (.cons (.const (.bool false)) .nil)))) (.cons (.expr (.meth (.attr (.loc 207) 171) 196 (.cons (.sub (.loc 139) (.const (.int 3))) (.cons (.loc 144) (.cons (.sub (.loc 139) (.const (.int 1))) .nil))))) .nil)) (.cons (.ite (.cmp .eq (.sub (.loc 139) (.const (.int 0))) (.const (.str 88))) (.cons (.expr (.call 17 (.cons (.meth (.loc 207) 144 (.cons (.sub (.loc 139) (.const (.int 2))) .nil)) (.cons (.glob 17 (.tup [(.str 75),(.bool true),(.int 0)])) (.cons (.sub (.loc 139) (.const (.int 1))) (.cons (.const (.str 88)) .nil)))))) .nil) (.cons (.raise (.fstr (.cons (.const (.txt 16)) (.cons (.sub (.loc 139) (.const (.int 0))) .nil))) (.sub (.loc 139) (.const (.int 1)))) .nil)) .nil)) .nil)) (.cons (.ret (.meth (.loc 207) 144 (.cons (.sub (.loc 172) (.const (.int 3))) .nil))) .nil)) (.cons (.expr (.meth (.attr (.loc 207) 171) 190 .nil)) .nil)) .nil))⟩
def F_Kinds_call:Fn:=⟨[207,170,148,217],
  (.cons (.asg 138 (.cmp .gt (.len (.comp (.loc 144) (.one 144) (.val (.loc 148)) (.cons (.sub (.loc 144) (.const (.int 1))) .nil))) (.const (.int 0)))) (.cons (.ite (.cmp .isin (.loc 170) (.attr (.loc 207) 193)) (.cons (.setI (.attr (.loc 207) 78) (.loc 170) (.const (.bool true))) (.cons (.expr (.meth (.loc 207) 238 (.cons (.loc 170) (.cons (.loc 148) (.cons (.sub (.attr (.loc 207) 193) (.loc 170)) (.cons (.loc 217) .nil)))))) (.cons (.ret (.tup (.cons (.const (.str 75)) (.cons (.const (.bool true)) (.cons (.const (.int 0)) .nil))))) .nil))) .nil) (.cons (.ite (.cmp .isin (.loc 170) (.glob 19 (.dct [(53,.any),(76,.any),(191,.any),(220,.any),(194,.any),(109,.any),(103,.any),(89,.any),(79,.any),(62,.any),(61,.any),(245,.any),(120,.any),(87,.any),(141,.any),(54,.any),(55,.any),(83,.any),(122,.any),(93,.any),(133,.any),(159,.any),(160,.any),(157,.any),(158,.any),(100,.any),(224,.any),(90,.any),(96,.any),(200,.any),(234,.any),(115,.any),(116,.any),(178,.any),(68,.any),(69,.any),(102,.any),(166,.any),(168,.any)]))) (.cons (.asgT [239,72] (.sub (.glob 19 (.dct [(53,.any),(76,.any),(191,.any),(220,.any),(194,.any),(109,.any),(103,.any),(89,.any),(79,.any),(62,.any),(61,.any),(245,.any),(120,.any),(87,.any),(141,.any),(54,.any),(55,.any),(83,.any),(122,.any),(93,.any),(133,.any),(159,.any),(160,.any),(157,.any),(158,.any),(100,.any),(224,.any),(90,.any),(96,.any),(200,.any),(234,.any),(115,.any),(116,.any),(178,.any),(68,.any),(69,.any),(102,.any),(166,.any),(168,.any)])) (.loc 170))) (.cons (.expr (.meth (.loc 207) 238 (.cons (.loc 170) (.cons (.loc 148) (.cons (.loc 239) (.cons (.loc 217) .nil)))))) (.cons (.ret (.tup (.cons (.loc 72) (.cons (.loc 138) (.cons (.const (.int 0)) .nil))))) .nil))) .nil) (.cons (.ite (.boolop true (.cons (.cmp .isin (.loc 170) (.glob 27 (.tup [(.str 167),(.str 165),(.str 211),(.str 107),(.str 155),(.str 124),(.str 125),(.str 126),(.str 58),(.str 60),(.str 209),(.str 201),(.str 215),(.str 65)]))) (.cons (.cmp .gt (.len (.loc 148)) (.const (.int 0))) .nil))) (.cons (.ret (.meth (.loc 207) 182 (.cons (.loc 170) (.cons (.loc 148) (.cons (.loc 217) .nil))))) .nil) .nil) (.cons (.raise (.fstr (.cons (.loc 170) (.cons (.const (.txt 19)) (.cons (.len (.loc 148)) (.cons (.const (.txt 10)) .nil))))) (.loc 217)) .nil)))))⟩
def F_Kinds_want_each:Fn:=⟨[207,170,148,239,217],
  (.cons (.ite (.cmp .ne (.len (.loc 148)) (.len (.loc 239))) (.cons (.raise (.fstr (.cons (.loc 170) (.cons (.const (.txt 5)) (.cons (.len (.loc 239)) (.cons (.const (.txt 16)) (.cons (.len (.loc 148)) .nil)))))) (.loc 217)) .nil) .nil) (.cons (.forS (.many [144,180]) (.zip (.loc 148) (.loc 239)) (.cons (.expr (.call 17 (.cons (.loc 144) (.cons (.loc 180) (.cons (.loc 217) (.cons (.loc 170) .nil)))))) .nil)) .nil))⟩
def F_Kinds_type_kind:Fn:=⟨[207,147,217],
  (.cons (.asgT [72,138,95,98] (.loc 147)) (.cons (.ite (.boolop true (.cons (.loc 138) (.cons (.cmp .isin (.loc 72) (.tup (.cons (.const (.str 218)) (.cons (.const (.str 208)) .nil)))) .nil))) (.cons (.raise (.fstr (.cons (.const (.txt 3)) (.cons (.loc 72) (.cons (.const (.txt 7)) .nil)))) (.loc 217)) .nil) .nil) (.cons (.ite (.cmp .isnot (.loc 98) (.const .none)) (.cons (.expr (.meth (.loc 207) 150 (.cons (.loc 98) (.cons (.const (.str 98)) .nil)))) .nil) .nil) (.cons (.forS (.one 187) (.val (.loc 95)) (.cons (.ite (.cmp .ne (.sub (.loc 187) (.const (.int 0))) (.const (.str 131))) (.cons (.expr (.meth (.loc 207) 150 (.cons (.loc 187) (.cons (.const (.txt 11)) .nil)))) .nil) .nil) .nil)) (.cons (.ret (.tup (.cons (.loc 72) (.cons (.loc 138) (.cons (.len (.loc 95)) .nil))))) .nil)))))⟩
def F_Kinds_declared:Fn:=⟨[207,139,134],
  (.cons (.asg 144 (.meth (.loc 207) 229 (.cons (.sub (.loc 139) (.const (.int 2))) (.cons (.sub (.loc 139) (.const (.int 1))) .nil)))) (.cons (.ite (.cmp .isnot (.sub (.loc 139) (.const (.int 4))) (.const .none)) (.cons (.expr (.call 17 (.cons (.meth (.loc 207) 144 (.cons (.sub (.loc 139) (.const (.int 4))) .nil)) (.cons (.loc 144) (.cons (.sub (.loc 139) (.const (.int 1))) (.cons (.sub (.loc 139) (.const (.int 3))) .nil)))))) .nil) (.cons (.ite (.cmp .gt (.len (.comp (.loc 187) (.one 187) (.val (.sub (.sub (.loc 139) (.const (.int 2))) (.const (.int 2)))) (.cons (.cmp .eq (.sub (.loc 187) (.const (.int 0))) (.const (.str 131))) .nil))) (.const (.int 0))) (.cons (.ite (.boolop true (.cons (.sub (.loc 144) (.const (.int 1))) (.cons (.not (.loc 134)) .nil))) (.cons (.raise (.fstr (.cons (.sub (.loc 139) (.const (.int 3))) (.cons (.const (.txt 34)) .nil))) (.sub (.loc 139) (.const (.int 1)))) .nil) .nil) .nil) .nil) .nil)) (.cons (.ret (.loc 144)) .nil)))⟩
def F_Kinds_plain_kind:Fn:=⟨[207,147],
  (.cons (.ret (.tup (.cons (.sub (.loc 147) (.const (.int 0))) (.cons (.sub (.loc 147) (.const (.int 1))) (.cons (.len (.sub (.loc 147) (.const (.int 2)))) .nil))))) .nil)⟩
def F_Kinds_note_predicate:Fn:=⟨[207,139],
  (.cons (.asg 170 (.sub (.loc 139) (.const (.int 2)))) (.cons (.ite (.boolop false (.cons (.cmp .isin (.loc 170) (.attr (.loc 207) 193)) (.cons (.cmp .isin (.loc 170) (.glob 19 (.dct [(53,.any),(76,.any),(191,.any),(220,.any),(194,.any),(109,.any),(103,.any),(89,.any),(79,.any),(62,.any),(61,.any),(245,.any),(120,.any),(87,.any),(141,.any),(54,.any),(55,.any),(83,.any),(122,.any),(93,.any),(133,.any),(159,.any),(160,.any),(157,.any),(158,.any),(100,.any),(224,.any),(90,.any),(96,.any),(200,.any),(234,.any),(115,.any),(116,.any),(178,.any),(68,.any),(69,.any),(102,.any),(166,.any),(168,.any)]))) (.cons (.cmp .isin (.loc 170) (.glob 27 (.tup [(.str 167),(.str 165),(.str 211),(.str 107),(.str 155),(.str 124),(.str 125),(.str 126),(.str 58),(.str 60),(.str 209),(.str 201),(.str 215),(.str 65)]))) .nil)))) (.cons (.raise (.fstr (.cons (.loc 170) (.cons (.const (.txt 23)) .nil))) (.sub (.loc 139) (.const (.int 1)))) .nil) .nil) (.cons (.setI (.attr (.loc 207) 193) (.loc 170) (.tupOf (.comp (.meth (.loc 207) 189 (.cons (.loc 147) .nil)) (.many [147,186]) (.val (.sub (.loc 139) (.const (.int 3)))) .nil))) .nil)))⟩
def fns:Nat→Option Fn
  | 0=>some F_law
  | 1=>some F__law_dip
  | 2=>some F__law_spot
  | 3=>some F__law_leaf
  | 4=>some F__law_expr
  | 5=>some F__law_item
  | 6=>some F__law_let
  | 7=>some F__law_stands
  | 8=>some F__law_fits
  | 9=>some F__law_array
  | 10=>some F__law_set_told
  | 11=>some F__law_declared
  | 12=>some F__law_within
  | 13=>some F__law_element
  | 14=>some F__law_kind
  | 15=>some F_kind_text
  | 16=>some F_fits
  | 17=>some F_want
  | 18=>some F_common
  | 19=>some F_Names___init__
  | 20=>some F_Names_push
  | 21=>some F_Names_pop
  | 22=>some F_Names_put
  | 23=>some F_Names_kind_of
  | 24=>some F_Kinds___init__
  | 25=>some F_Kinds_kind
  | 26=>some F_Kinds_known_set
  | 27=>some F_Kinds_chain
  | 28=>some F_Kinds_joined
  | 29=>some F_Kinds_compared
  | 30=>some F_Kinds_indexed
  | 31=>some F_Kinds_of_all
  | 32=>some F_Kinds_gathered
  | 33=>some F_Kinds_within
  | 34=>some F_Kinds_call
  | 35=>some F_Kinds_want_each
  | 36=>some F_Kinds_type_kind
  | 37=>some F_Kinds_declared
  | 38=>some F_Kinds_plain_kind
  | 39=>some F_Kinds_note_predicate
  | _=>none
def methIx:Nat→Nat→Option Nat
  | 0,195=>some 20
  | 0,190=>some 21
  | 0,196=>some 22
  | 0,145=>some 23
  | 1,144=>some 25
  | 1,150=>some 26
  | 1,81=>some 27
  | 1,142=>some 28
  | 1,86=>some 29
  | 1,127=>some 30
  | 1,179=>some 31
  | 1,112=>some 32
  | 1,242=>some 33
  | 1,77=>some 34
  | 1,238=>some 35
  | 1,229=>some 36
  | 1,92=>some 37
  | 1,189=>some 38
  | 1,175=>some 39
  | _,_=>none
def initIx:Nat→Option Nat
  | 0=>some 19
  | 1=>some 24
  | _=>none
def fldIx:Nat→Nat→Bool
  | 0,204=>true
  | 0,63=>true
  | 1,171=>true
  | 1,193=>true
  | 1,64=>true
  | 1,67=>true
  | 1,137=>true
  | 1,78=>true
  | _,_=>false
end Mine
namespace Mine
open PySem PySem.Calls PySem.W PyProof.Rows
def nm (c:Nat):Option Str:=(nameList[c]?).map Str.ofString
abbrev Frz:=Addr→Option Obj
abbrev Prv:=Addr→Option (Obj × Bool)
abbrev lstO (vs:List Value) (k:Nat):Obj:={ cls:=.type "list",data:=.seq vs.toArray k }
abbrev tupO (vs:List Value) (k:Nat):Obj:={ cls:=.type "tuple",data:=.seq vs.toArray k }
def clsA:Nat→Option Addr
  | 0=>some 257
  | 1=>some 494
  | _=>none
mutual
inductive Den (P:Params) (B:Frz) (ρ:Nat→Addr) (n:Nat):Value→LV→Prop
  | none:Den P B ρ n .none .none
  | bool (b):Den P B ρ n (.bool b) (.bool b)
  | int (i t):Den P B ρ n (.int i t) (.int i)
  | str {c x} (t):nm c=some x→Den P B ρ n (.str x t) (.str c)
  | txt {x m} (t):x.length≤m→Den P B ρ n (.str x t) (.txt m)
  | tup {a vs k xs}:B a=some (tupO vs k)→DenAll P B ρ n vs xs→Den P B ρ n (.ref a) (.tup xs)
  | lst {a vs k xs}:B a=some (lstO vs k)→DenAll P B ρ n vs xs→Den P B ρ n (.ref a) (.lst xs)
  | dct {a es k ps}:(a == sysModules)=false→B a=some (dictOf es k)→DenEs P B ρ n es ps→Den P B ρ n (.ref a) (.dct ps)
  | cell {i}:i < n→Den P B ρ n (.ref (ρ i)) (.cell i)
  | obj {a c i C}:i < n→clsA c=some C→B a=some (instObj C (ρ i))→Den P B ρ n (.ref a) (.obj c i)
  | any (v):Den P B ρ n v .any
inductive DenAll (P:Params) (B:Frz) (ρ:Nat→Addr) (n:Nat):List Value→List LV→Prop
  | nil:DenAll P B ρ n [] []
  | cons {v l vs ls}:Den P B ρ n v l→DenAll P B ρ n vs ls→DenAll P B ρ n (v::vs) (l::ls)
inductive DenEs (P:Params) (B:Frz) (ρ:Nat→Addr) (n:Nat):List DictEntry→List (Nat × LV)→Prop
  | nil:DenEs P B ρ n [] []
  | cons {c x t v l es ps}:nm c=some x→Den P B ρ n v l→DenEs P B ρ n es ps→DenEs P B ρ n (⟨PyData.keyHash P x,.str x t,v⟩::es) ((c,l)::ps)
end
structure Ext (B:Frz) (ρ:Nat→Addr) (n:Nat) (B':Frz) (ρ':Nat→Addr) (n':Nat):Prop where
  frz:∀ a o,B a=some o→B' a=some o
  rho:∀ i,i < n→ρ' i=ρ i
  le:n≤n'
theorem Ext.refl {B ρ n}:Ext B ρ n B ρ n:=⟨fun _ _ e=>e,fun _ _=>rfl,Nat.le_refl _⟩
theorem Ext.trans {B ρ n B' ρ' n' B'' ρ'' n''} (x:Ext B ρ n B' ρ' n') (y:Ext B' ρ' n' B'' ρ'' n''):Ext B ρ n B'' ρ'' n'' :=
  ⟨fun a o e=>y.frz a o (x.frz a o e),fun i h=>(y.rho i (Nat.lt_of_lt_of_le h x.le)).trans (x.rho i h),Nat.le_trans x.le y.le⟩
section
variable {P:Params} {B B':Frz} {ρ ρ':Nat→Addr} {n n':Nat}
mutual
theorem Den.ext (x:Ext B ρ n B' ρ' n'):∀ {v l},Den P B ρ n v l→Den P B' ρ' n' v l
  | _,_,.none => .none
  | _,_,.bool b => .bool b
  | _,_,.int i t => .int i t
  | _,_,.str t h => .str t h
  | _,_,.txt t h => .txt t h
  | _,_,.tup h r => .tup (x.frz _ _ h) (DenAll.ext x r)
  | _,_,.lst h r => .lst (x.frz _ _ h) (DenAll.ext x r)
  | _,_,.dct hm h r => .dct hm (x.frz _ _ h) (DenEs.ext x r)
  | _,_,.cell (i:=i) h=>by rw [← x.rho i h]; exact .cell (Nat.lt_of_lt_of_le h x.le)
  | _,_,.obj (i:=i) h hc hb => .obj (Nat.lt_of_lt_of_le h x.le) hc (by rw [x.rho i h]; exact x.frz _ _ hb)
  | _,_,.any v => .any v
theorem DenAll.ext (x:Ext B ρ n B' ρ' n'):∀ {vs ls},DenAll P B ρ n vs ls→DenAll P B' ρ' n' vs ls
  | _,_,.nil => .nil
  | _,_,.cons h r => .cons (Den.ext x h) (DenAll.ext x r)
theorem DenEs.ext (x:Ext B ρ n B' ρ' n'):∀ {es ps},DenEs P B ρ n es ps→DenEs P B' ρ' n' es ps
  | _,_,.nil => .nil
  | _,_,.cons h d r => .cons h (Den.ext x d) (DenEs.ext x r)
end
theorem DenAll.length:∀ {vs ls},DenAll P B ρ n vs ls→vs.length=ls.length
  | _,_,.nil=>rfl
  | _,_,.cons _ r=>congrArg (· + 1) r.length
theorem DenAll.get:∀ {vs:List Value} {ls:List LV},DenAll P B ρ n vs ls→∀ {i:Nat} {l:LV},ls[i]? = some l→∃ v,vs[i]? = some v∧Den P B ρ n v l
  | _,_,.nil,_,_,h=>by simp at h
  | _,_,.cons d r,0,_,h=>by simp at h; subst h; exact ⟨_,rfl,d⟩
  | _,_,.cons d r,i + 1,_,h=>by simp at h; obtain ⟨v,a,b⟩:=r.get h; exact ⟨v,by simpa using a,b⟩
theorem DenAll.app:∀ {vs ls us ks},DenAll P B ρ n vs ls→DenAll P B ρ n us ks→DenAll P B ρ n (vs++us) (ls++ks)
  | _,_,_,_,.nil,y=>y
  | _,_,_,_,.cons d r,y => .cons d (r.app y)
theorem DenAll.take:∀ {vs ls},DenAll P B ρ n vs ls→∀ k,DenAll P B ρ n (vs.take k) (ls.take k)
  | _,_,_,0=>by simp; exact .nil
  | _,_,.nil,_ + 1 => .nil
  | _,_,.cons d r,k + 1 => .cons d (r.take k)
theorem DenEs.length:∀ {es ps},DenEs P B ρ n es ps→es.length=ps.length
  | _,_,.nil=>rfl
  | _,_,.cons _ _ r=>congrArg (· + 1) r.length
end
def CellAt (P:Params) (B:Frz) (ρ:Nat→Addr) (n:Nat) (h:Heap) (a:Addr):Cell→Prop
  | .dict ps=>∃ es k,h.get? a=some (dictOf es k)∧DenEs P B ρ n es ps
  | .list xs=>∃ vs k,h.get? a=some (lstO vs k)∧DenAll P B ρ n vs xs
structure St (P:Params) (hb:Heap) (B:Frz) (Pv:Prv) (ρ:Nat→Addr) (σ:Sto) (h:Heap):Prop where
  base:∀ a o,hb.get? a=some o→B a=some o
  frz:∀ a o,B a=some o→h.get? a=some o
  prv:∀ a o f,Pv a=some (o,f)→B a=none∧(∃ sl,h.get? a=some { o with slots:=sl })∧(f=false→h.get? a=some o)
  cell:∀ i c,σ[i]? = some c→B (ρ i)=none∧Pv (ρ i)=none∧CellAt P B ρ σ.length h (ρ i) c
  inj:∀ i j,i < σ.length→j < σ.length→ρ i=ρ j→i=j
  abv:(hb.get? mainGlobals).isSome=true∧∀ i,i < σ.length→4≤ρ i
theorem CellAt.there {P B ρ n h a c} (x:CellAt P B ρ n h a c):∃ o,h.get? a=some o:=by
  cases c with
  | dict ps=>obtain ⟨_,_,e,_⟩:=x; exact ⟨_,e⟩
  | list xs=>obtain ⟨_,_,e,_⟩:=x; exact ⟨_,e⟩
theorem CellAt.ext {P B ρ n h a c B' ρ' n'} (x:CellAt P B ρ n h a c) (e:Ext B ρ n B' ρ' n'):CellAt P B' ρ' n' h a c:=by
  cases c with
  | dict ps=>obtain ⟨_,_,q,d⟩:=x; exact ⟨_,_,q,d.ext e⟩
  | list xs=>obtain ⟨_,_,q,d⟩:=x; exact ⟨_,_,q,d.ext e⟩
theorem CellAt.heap {P B ρ n h a c h'} (x:CellAt P B ρ n h a c) (e:∀ o,h.get? a=some o→h'.get? a=some o):CellAt P B ρ n h' a c:=by
  cases c with
  | dict ps=>obtain ⟨_,_,q,d⟩:=x; exact ⟨_,_,e _ q,d⟩
  | list xs=>obtain ⟨_,_,q,d⟩:=x; exact ⟨_,_,e _ q,d⟩
def ValAt (P:Params) (env:Env) (B:Frz) (ρ:Nat→Addr) (n:Nat) (m cm:Str→Option Value) (x:Str) (l:LV):Prop:=match env.kindOf x with
  | some .local=>∃ v,m x=some v∧Den P B ρ n v l
  | some .cell | some .free=>∃ v,(env.cells.lookup x).isSome=true∧cm x=some v∧Den P B ρ n v l
  | _=>True
theorem ValAt.ext {P:Params} {env:Env} {B B':Frz} {ρ ρ':Nat→Addr} {n n':Nat} {m cm:Str→Option Value} {x:Str} {l:LV} (e:Ext B ρ n B' ρ' n') (h:ValAt P env B ρ n m cm x l):ValAt P env B' ρ' n' m cm x l:=by
  unfold ValAt at h ⊢
  split at h
  · obtain ⟨v,a,b⟩:=h; exact ⟨v,a,b.ext e⟩
  · obtain ⟨v,a,b,c⟩:=h; exact ⟨v,a,b,c.ext e⟩
  · obtain ⟨v,a,b,c⟩:=h; exact ⟨v,a,b,c.ext e⟩
  · trivial
structure Lc (P:Params) (env:Env) (B:Frz) (Pv:Prv) (ρ:Nat→Addr) (n:Nat) (vars:Loc) (h:Heap) (m cm:Str→Option Value):Prop where
  ns:h.Ns env.locals m
  frL:B env.locals=none∧Pv env.locals=none∧∀ i,i < n→ρ i≠env.locals
  cell:∀ x c,env.cells.lookup x=some c→h.IsCell c (cm x)∧B c=none
  vals:∀ k l x,lookA k vars=some l→nm k=some x→ValAt P env B ρ n m cm x l
def OwnC (env:Env) (Pv:Prv):Prop:=(env.cells.Pairwise fun x y=>x.2≠y.2)∧∀ x c,env.cells.lookup x=some c→Pv c=none
section
variable {P:Params} {hb h h':Heap} {B:Frz} {Pv:Prv} {ρ:Nat→Addr} {σ:Sto} {env:Env} {vars:Loc} {m cm:Str→Option Value}
theorem St.keep (x:St P hb B Pv ρ σ h) (k:∀ b o,h.get? b=some o→h'.get? b=some o):St P hb B Pv ρ σ h' :=
  ⟨x.base,fun a o e=>k a o (x.frz a o e),fun a o f e=>⟨(x.prv a o f e).1,(let ⟨sl,q⟩:=(x.prv a o f e).2.1; ⟨sl,k _ _ q⟩),fun z=>k _ _ ((x.prv a o f e).2.2 z)⟩,
   fun i c e=>let ⟨a,b,d⟩:=x.cell i c e; ⟨a,b,d.heap fun o q=>k _ o q⟩,x.inj,x.abv⟩
theorem Lc.keep {n:Nat} (x:Lc P env B Pv ρ n vars h m cm) (k:∀ b o,h.get? b=some o→h'.get? b=some o):Lc P env B Pv ρ n vars h' m cm :=
  ⟨x.ns.keeps k,x.frL,fun y c e=>⟨(x.cell y c e).1.keeps k,(x.cell y c e).2⟩,x.vals⟩
theorem Lc.ext {n n':Nat} {B':Frz} {ρ':Nat→Addr} (x:Lc P env B Pv ρ n vars h m cm) (e:Ext B ρ n B' ρ' n') (h1:B' env.locals=none) (h2:∀ i,i < n' → ρ' i≠env.locals)
    (h3:∀ y c,env.cells.lookup y=some c→B' c=none):Lc P env B' Pv ρ' n' vars h m cm :=
  ⟨x.ns,⟨h1,x.frL.2.1,h2⟩,fun y c q=>⟨(x.cell y c q).1,h3 y c q⟩,fun k l y q hy=>(x.vals k l y q hy).ext e⟩
def frzAt (B:Frz) (a:Addr) (o:Obj):Frz:=fun b=>if b=a then some o else B b
theorem ext_frzAt {n:Nat} {a:Addr} {o:Obj} (hn:B a=none):Ext B ρ n (frzAt B a o) ρ n :=
  ⟨fun b o' e=>by
    unfold frzAt
    split
    · rename_i q; rw [q,hn] at e; cases e
    · exact e,fun _ _=>rfl,Nat.le_refl _⟩
theorem St.lt (x:St P hb B Pv ρ σ h) {a:Addr} {o:Obj} (e:B a=some o):a < h.objs.size:=Heap.lt_size (x.frz a o e)
theorem St.newB (x:St P hb B Pv ρ σ h):B h.objs.size=none:=by
  cases q:B h.objs.size with
  | none=>rfl
  | some o=>exact absurd (x.lt q) (Nat.lt_irrefl _)
theorem St.newP (x:St P hb B Pv ρ σ h):Pv h.objs.size=none:=by
  cases q:Pv h.objs.size with
  | none=>rfl
  | some o=>obtain ⟨_,⟨_,e⟩,_⟩:=x.prv _ _ _ q; exact absurd (Heap.lt_size e) (Nat.lt_irrefl _)
theorem St.cellLt (x:St P hb B Pv ρ σ h) {i:Nat} (hi:i < σ.length):ρ i < h.objs.size:=by
  obtain ⟨o,e⟩:=(x.cell i _ (List.getElem?_eq_getElem hi)).2.2.there
  exact Heap.lt_size e
theorem St.pushF (x:St P hb B Pv ρ σ h) (o:Obj) (hf:o.isFreed=false):St P hb (frzAt B h.objs.size o) Pv ρ σ (h.push o):=by
  have k:∀ b o',h.get? b=some o' → (h.push o).get? b=some o':=fun b o' e=>Heap.get?_push_of_some _ e
  have e:=ext_frzAt (ρ:=ρ) (n:=σ.length) (o:=o) x.newB
  refine ⟨fun a o' q=>e.frz _ _ (x.base a o' q),fun a o' q=>?_,fun a o' f q=>?_,fun i c q=>?_,x.inj,x.abv⟩
  · unfold frzAt at q; split at q
    · rename_i z; cases q; rw [z]; exact Heap.get?_push_size _ hf
    · exact k _ _ (x.frz _ _ q)
  · obtain ⟨a1,⟨sl,a2⟩,a3⟩:=x.prv a o' f q
    refine ⟨?_,⟨sl,k _ _ a2⟩,fun z=>k _ _ (a3 z)⟩
    unfold frzAt; rw [if_neg (Nat.ne_of_lt (Heap.lt_size a2))]; exact a1
  · obtain ⟨a1,a2,a3⟩:=x.cell i c q
    have hi:i < σ.length:=(List.getElem?_eq_some_iff.mp q).1
    refine ⟨?_,a2,(a3.ext e).heap fun o' z=>k _ _ z⟩
    unfold frzAt; rw [if_neg (Nat.ne_of_lt (x.cellLt hi))]; exact a1
theorem Lc.pushF (y:Lc P env B Pv ρ σ.length vars h m cm) (x:St P hb B Pv ρ σ h) (o:Obj):Lc P env (frzAt B h.objs.size o) Pv ρ σ.length vars (h.push o) m cm:=by
  refine (y.ext (ext_frzAt (o:=o) x.newB) ?_ y.frL.2.2 fun z c q=>?_).keep fun b o' e=>Heap.get?_push_of_some _ e
  · unfold frzAt; rw [if_neg (Nat.ne_of_lt y.ns.lt)]; exact y.frL.1
  · unfold frzAt; rw [if_neg (Nat.ne_of_lt (y.cell z c q).1.lt)]; exact (y.cell z c q).2
theorem frzAt_self (a:Addr) (o:Obj):frzAt B a o a=some o:=by unfold frzAt; rw [if_pos rfl]
def rhoAt (ρ:Nat→Addr) (n:Nat) (a:Addr):Nat→Addr:=fun i=>if i=n then a else ρ i
theorem ext_rhoAt {n:Nat} {a:Addr}:Ext B ρ n B (rhoAt ρ n a) (n + 1) :=
  ⟨fun _ _ e=>e,fun i h=>by unfold rhoAt; rw [if_neg (Nat.ne_of_lt h)],Nat.le_succ _⟩
theorem St.pushC (x:St P hb B Pv ρ σ h) (o:Obj) (c:Cell) (hf:o.isFreed=false)
    (hc:CellAt P B ρ σ.length (h.push o) h.objs.size c):St P hb B Pv (rhoAt ρ σ.length h.objs.size) (σ++[c]) (h.push o):=by
  have k:∀ b o',h.get? b=some o' → (h.push o).get? b=some o':=fun b o' e=>Heap.get?_push_of_some _ e
  have e:=ext_rhoAt (B:=B) (ρ:=ρ) (n:=σ.length) (a:=h.objs.size)
  have hl:(σ++[c]).length=σ.length + 1:=by simp
  refine ⟨x.base,fun a o' q=>k _ _ (x.frz a o' q),fun a o' f q=>let ⟨a1,⟨sl,a2⟩,a3⟩:=x.prv a o' f q; ⟨a1,⟨sl,k _ _ a2⟩,fun z=>k _ _ (a3 z)⟩,fun i c' q=>?_,fun i j hi hj q=>?_,x.abv.1,fun i hi=>?_⟩
  · rw [hl]
    by_cases hi:i < σ.length
    · rw [List.getElem?_append_left hi] at q
      obtain ⟨a1,a2,a3⟩:=x.cell i c' q
      rw [e.rho i hi]
      exact ⟨a1,a2,(a3.ext e).heap fun o' z=>k _ _ z⟩
    · have hi':i=σ.length:=by
        have:=(List.getElem?_eq_some_iff.mp q).1; rw [hl] at this; omega
      subst hi'
      simp at q; subst q
      have hr:rhoAt ρ σ.length h.objs.size σ.length=h.objs.size:=by unfold rhoAt; rw [if_pos rfl]
      rw [hr]
      exact ⟨x.newB,x.newP,hc.ext e⟩
  · rw [hl] at hi hj
    unfold rhoAt at q
    by_cases h1:i=σ.length
    · by_cases h2:j=σ.length
      · rw [h1,h2]
      · rw [if_pos h1,if_neg h2] at q
        have h3:=x.cellLt (show j < σ.length by omega)
        rw [← q] at h3
        exact absurd h3 (Nat.lt_irrefl _)
    · by_cases h2:j=σ.length
      · rw [if_neg h1,if_pos h2] at q
        have h3:=x.cellLt (show i < σ.length by omega)
        rw [q] at h3
        exact absurd h3 (Nat.lt_irrefl _)
      · rw [if_neg h1,if_neg h2] at q
        exact x.inj i j (by omega) (by omega) q
  · rw [hl] at hi
    unfold rhoAt; split
    · obtain ⟨o',h3⟩:=Option.isSome_iff_exists.mp x.abv.1
      exact Heap.lt_size (x.frz _ _ (x.base _ _ h3))
    · exact x.abv.2 i (by omega)
theorem Lc.pushC (y:Lc P env B Pv ρ σ.length vars h m cm) (o:Obj) (c:Cell) :
    Lc P env B Pv (rhoAt ρ σ.length h.objs.size) (σ++[c]).length vars (h.push o) m cm:=by
  have hl:(σ++[c]).length=σ.length + 1:=by simp
  rw [hl]
  refine (y.ext (ext_rhoAt) y.frL.1 (fun i hi=>?_) fun z c q=>(y.cell z c q).2).keep fun b o' e=>Heap.get?_push_of_some _ e
  unfold rhoAt; split
  · exact Nat.ne_of_gt y.ns.lt
  · exact y.frL.2.2 i (by omega)
theorem St.setC (x:St P hb B Pv ρ σ h) {i:Nat} (hi:i < σ.length) (c:Cell) (k:∀ b,b≠ρ i→h'.get? b=h.get? b)
    (hc:CellAt P B ρ σ.length h' (ρ i) c):St P hb B Pv ρ (σ.set i c) h':=by
  obtain ⟨b1,b2,_⟩:=x.cell i _ (List.getElem?_eq_getElem hi)
  have hl:(σ.set i c).length=σ.length:=List.length_set ..
  refine ⟨x.base,fun a o q=>(k a fun z=>by rw [z,b1] at q; cases q).trans (x.frz a o q),
    fun a o f q=>let ⟨a1,⟨sl,a2⟩,a3⟩:=x.prv a o f q; have kk:=k a fun z=>(by rw [z,b2] at q; cases q); ⟨a1,⟨sl,kk.trans a2⟩,fun z=>kk.trans (a3 z)⟩,fun j c' q=>?_,fun a b ha hb=>x.inj a b (hl ▸ ha) (hl ▸ hb),x.abv.1,fun a ha=>x.abv.2 a (hl ▸ ha)⟩
  rw [hl]
  by_cases hj:j=i
  · subst hj
    rw [List.getElem?_set_self hi] at q; cases q
    exact ⟨b1,b2,hc⟩
  · rw [List.getElem?_set_ne (Ne.symm hj)] at q
    obtain ⟨a1,a2,a3⟩:=x.cell j c' q
    refine ⟨a1,a2,a3.heap fun o z=>(k _ fun w=>hj (x.inj j i (List.getElem?_eq_some_iff.mp q).1 hi w)).trans z⟩
theorem Lc.setC (y:Lc P env B Pv ρ σ.length vars h m cm) (x:St P hb B Pv ρ σ h) {i:Nat} (hi:i < σ.length) (c:Cell) (k:∀ b,b≠ρ i→h'.get? b=h.get? b) :
    Lc P env B Pv ρ (σ.set i c).length vars h' m cm:=by
  rw [List.length_set]
  refine ⟨?_,y.frL,fun z d q=>⟨?_,(y.cell z d q).2⟩,y.vals⟩
  · obtain ⟨o,es,ep,ho,r⟩:=y.ns
    exact ⟨o,es,ep,(k _ fun z=>y.frL.2.2 i hi z.symm).trans ho,r⟩
  · obtain ⟨o,ho,hd⟩:=(y.cell z d q).1
    refine ⟨o,(k _ fun w=>?_).trans ho,hd⟩
    have:=(x.cell i _ (List.getElem?_eq_getElem hi)).2.2
    cases hc:σ[i] with
    | dict ps=>rw [hc] at this; obtain ⟨_,_,e,_⟩:=this; rw [← w,ho] at e; cases e; cases hd
    | list xs=>rw [hc] at this; obtain ⟨_,_,e,_⟩:=this; rw [← w,ho] at e; cases e; cases hd
theorem St.setL (x:St P hb B Pv ρ σ h) (y:Lc P env B Pv ρ σ.length vars h m cm) (hs:Heap.SameBut env.locals h h'):St P hb B Pv ρ σ h' :=
  ⟨x.base,fun a o q=>(hs.2 a fun z=>by rw [z,y.frL.1] at q; cases q).trans (x.frz a o q),
   fun a o f q=>let ⟨a1,⟨sl,a2⟩,a3⟩:=x.prv a o f q; have kk:=hs.2 a fun z=>(by rw [z,y.frL.2.1] at q; cases q); ⟨a1,⟨sl,kk.trans a2⟩,fun z=>kk.trans (a3 z)⟩,
   fun i c q=>let ⟨a1,a2,a3⟩:=x.cell i c q; ⟨a1,a2,a3.heap fun o z=>(hs.2 _ (y.frL.2.2 i (List.getElem?_eq_some_iff.mp q).1)).trans z⟩,x.inj,x.abv⟩
theorem St.setX (x:St P hb B Pv ρ σ h) {a:Addr} (h1:B a=none) (h2:Pv a=none) (h3:∀ i,i < σ.length→ρ i≠a) (k:∀ b o,b≠a→h.get? b=some o→h'.get? b=some o):St P hb B Pv ρ σ h' :=
  ⟨x.base,fun b o q=>k b o (fun z=>by rw [z,h1] at q; cases q) (x.frz b o q),
   fun b o f q=>let ⟨a1,⟨sl,a2⟩,a3⟩:=x.prv b o f q; have nb:b≠a:=fun z=>(by rw [z,h2] at q; cases q); ⟨a1,⟨sl,k _ _ nb a2⟩,fun z=>k _ _ nb (a3 z)⟩,
   fun i c q=>let ⟨a1,a2,a3⟩:=x.cell i c q; ⟨a1,a2,a3.heap fun o z=>k _ _ (h3 i (List.getElem?_eq_some_iff.mp q).1) z⟩,x.inj,x.abv⟩
end
end Mine
namespace Mine
open PySem PySem.Calls PySem.W PyProof.Rows
def NonF (o:Obj):Prop := ∀ vs,o.data ≠ .fields vs
def kfA:Addr:=88
def FrameOf (A:Around) (env:Env) (Pv:Prv):Prop :=
  ∃ fe outer L,A.frames=some (fe::outer)∧fe.frame=some L∧env.frame=some L∧fe.scope.kind ≠ .module∧(L=env.locals∨∃ o,Pv L=some (o,true)∧NonF o) ∧
    ∀ e' ∈ outer,e'.scope.kind ≠ .module∧∃ L' o,e'.frame=some L' ∧ Pv L' = some (o,true)∧NonF o
structure XAt (B:Frz) (Pv:Prv) (h:Heap) (ev:Value) (i:Int) (a d:Addr) (oe:Obj) (vs:Array Value) (es:List DictEntry) (k:Nat):Prop where
  isRef:ev = .ref a
  get:h.get? a=some oe
  cls:oe.cls = .ref kfA
  dict:oe.dict=some d
  data:oe.data = .fields vs
  size:5≤vs.size
  freshB:B a=none
  freshP:Pv a=none
  dic:B d=some (dictOf es k)
  spot:∃ t,(es.find? (·.key.isStr "spot")).map (·.val)=some (.int i t)
def Tr (B:Frz) (Pv:Prv) (h:Heap) (a:Addr) (vs:Array Value):Prop :=
  ∃ T oT ts,vs[1]? = some (.ref T)∧B T=none∧Pv T=none∧T≠a∧h.get? T=some oT∧oT.data = .fields ts∧3 < ts.size
def Xc (B:Frz) (Pv:Prv) (h:Heap) (ev:Value) (i:Int) (tr:Bool):Prop :=
  ∃ a d oe vs es k,XAt B Pv h ev i a d oe vs es k∧((tr=false∧vs[1]? = some .none)∨Tr B Pv h a vs)
theorem Xc.any {B Pv h ev i b} (x:Xc B Pv h ev i b):Xc B Pv h ev i false:=by
  obtain ⟨a,d,oe,vs,es,k,x,t⟩:=x
  exact ⟨a,d,oe,vs,es,k,x,t.imp (fun z=>⟨rfl,z.2⟩) id⟩
def Wob (env:Env) (B:Frz) (Pv:Prv) (h h':Heap):Prop :=
  ∀ b o,h.get? b=some o→(B b=none∧Pv b=none∧∃ vs,o.data = .fields vs) ∨
    ((∃ sl,h'.get? b=some { o with slots:=sl })∧(b=env.locals∨(∃ o',Pv b=some (o',true))∨h'.get? b=some o))
section
variable {P:Params} {hb h h' h'':Heap} {B:Frz} {Pv:Prv} {ρ:Nat→Addr} {σ:Sto} {env:Env} {vars:Loc} {m cm:Str→Option Value}
theorem Wob.refl:Wob env B Pv h h:=fun b o e => .inr ⟨⟨o.slots,e⟩,.inr (.inr e)⟩
theorem Wob.trans (x:Wob env B Pv h h') (y:Wob env B Pv h' h''):Wob env B Pv h h'':=fun b o e=>by
  rcases x b o e with z | ⟨⟨sl,q⟩,r⟩
  · exact .inl z
  · rcases y b _ q with ⟨a1,a2,vs,a3⟩ | ⟨⟨sl',q'⟩,r'⟩
    · exact .inl ⟨a1,a2,vs,a3⟩
    · refine .inr ⟨⟨sl',q'⟩,?_⟩
      rcases r with r | r | r
      · exact .inl r
      · exact .inr (.inl r)
      · rcases r' with r' | r' | r'
        · exact .inl r'
        · exact .inr (.inl r')
        · have e':({ o with slots:=sl }:Obj)=o:=Option.some.inj (q.symm.trans r)
          rw [e'] at r'; exact .inr (.inr r')
theorem Wob.keeps (k:∀ b o,h.get? b=some o→h'.get? b=some o):Wob env B Pv h h':=fun b o e => .inr ⟨⟨o.slots,k b o e⟩,.inr (.inr (k b o e))⟩
theorem Wob.but {a:Addr} (ha:B a=none) (hp:Pv a=none) (hf:∀ o,h.get? a=some o→∃ vs,o.data = .fields vs) (k:∀ b o,b≠a→h.get? b=some o→h'.get? b=some o):Wob env B Pv h h':=fun b o e=>by
  by_cases q:b=a
  · subst q; exact .inl ⟨ha,hp,hf o e⟩
  · exact .inr ⟨⟨o.slots,k b o q e⟩,.inr (.inr (k b o q e))⟩
theorem St.wob (x:St P hb B Pv ρ σ h) (y:Lc P env B Pv ρ σ.length vars h m cm) (w:Wob env B Pv h h'):St P hb B Pv ρ σ h':=by
  refine ⟨x.base,fun a o q=>?_,fun a o f q=>?_,fun i c q=>?_,x.inj,x.abv⟩
  · rcases w a o (x.frz a o q) with ⟨z,_⟩ | ⟨_,z | ⟨o',z⟩ | z⟩
    · rw [z] at q; cases q
    · rw [z,y.frL.1] at q; cases q
    · rw [(x.prv a o' _ z).1] at q; cases q
    · exact z
  · obtain ⟨a1,⟨sl,a2⟩,a3⟩:=x.prv a o f q
    refine ⟨a1,?_,fun hf=>?_⟩
    · rcases w a _ a2 with ⟨_,z,_⟩ | ⟨⟨sl',z⟩,_⟩
      · rw [z] at q; cases q
      · exact ⟨sl',z⟩
    · rcases w a _ (a3 hf) with ⟨_,z,_⟩ | ⟨_,z | ⟨o',z⟩ | z⟩
      · rw [z] at q; cases q
      · rw [z,y.frL.2.1] at q; cases q
      · rw [z] at q; cases q; cases hf
      · exact z
  · obtain ⟨a1,a2,a3⟩:=x.cell i c q
    refine ⟨a1,a2,a3.heap fun o z=>?_⟩
    have nf:∀ vs,o.data ≠ .fields vs:=by
      cases c with
      | dict ps=>obtain ⟨_,_,e,_⟩:=a3; rw [e] at z; cases z; intro vs q; cases q
      | list xs=>obtain ⟨_,_,e,_⟩:=a3; rw [e] at z; cases z; intro vs q; cases q
    rcases w _ o z with ⟨_,_,vs,u⟩ | ⟨_,u | ⟨o',u⟩ | u⟩
    · exact absurd u (nf vs)
    · exact absurd u (y.frL.2.2 i (List.getElem?_eq_some_iff.mp q).1)
    · rw [a2] at u; cases u
    · exact u
theorem Lc.wob {n:Nat} (y:Lc P env B Pv ρ n vars h m cm) (w:Wob env B Pv h h'):Lc P env B Pv ρ n vars h' m cm:=by
  refine ⟨?_,y.frL,fun z c q=>⟨?_,(y.cell z c q).2⟩,y.vals⟩
  · obtain ⟨o,es,ep,ho,hd,r⟩:=y.ns
    rcases w _ o ho with ⟨_,_,vs,u⟩ | ⟨⟨sl,u⟩,_⟩
    · rw [hd] at u; cases u
    · exact ⟨_,es,ep,u,hd,r⟩
  · obtain ⟨o,ho,hd⟩:=(y.cell z c q).1
    rcases w _ o ho with ⟨_,_,vs,u⟩ | ⟨⟨sl,u⟩,_⟩
    · rw [hd] at u; cases u
    · exact ⟨_,u,hd⟩
theorem Tr.keep {a vs} (x:Tr B Pv h a vs) (k:∀ T oT ts,vs[1]? = some (.ref T)→T≠a→h.get? T=some oT→oT.data = .fields ts→∃ oT' ts',h'.get? T=some oT' ∧ oT'.data = .fields ts' ∧ ts'.size=ts.size):Tr B Pv h' a vs:=by
  obtain ⟨T,oT,ts,a1,a2,a3,a4,a5,a6,a7⟩:=x
  obtain ⟨o',ts',b1,b2,b3⟩:=k T oT ts a1 a4 a5 a6
  exact ⟨T,o',ts',a1,a2,a3,a4,b1,b2,by omega⟩
theorem Xc.keep {ev i b} (x:Xc B Pv h ev i b) (k:∀ b o,h.get? b=some o→h'.get? b=some o):Xc B Pv h' ev i b:=by
  obtain ⟨a,d,oe,vs,es,n,x,t⟩:=x
  refine ⟨a,d,oe,vs,es,n,⟨x.isRef,k _ _ x.get,x.cls,x.dict,x.data,x.size,x.freshB,x.freshP,x.dic,x.spot⟩,t.imp id fun t=>t.keep fun T oT ts _ _ e q=>⟨oT,ts,k _ _ e,q,rfl⟩⟩
theorem upd_fields {a:Addr} {o:Obj} {vs:Array Value} {j:Nat} {v:Value} (ho:h.get? a=some o) (hd:o.data = .fields vs) :
    ∃ o',(h.update a (Obj.mapFields (·.setIfInBounds j v))).get? a=some o' ∧ o'.cls=o.cls∧o'.dict=o.dict∧o'.data = .fields (vs.setIfInBounds j v):=by
  obtain ⟨c,d,dt,sl⟩:=o
  dsimp only at hd; subst hd
  exact ⟨_,Heap.get?_update_self _ ho rfl,rfl,rfl,rfl⟩
end
section
variable {M:Model} {A:Around} {E:Value→Shared→Prop} {s:Shared} {P:Params} {hb:Heap} {B:Frz} {Pv:Prv} {ρ:Nat→Addr} {σ:Sto} {env:Env} {vars:Loc} {m cm:Str→Option Value} {ev:Value} {i:Int} {b:Bool} {Q:Unit→Shared→Prop}
theorem x_setT {j:Nat} {v:Value} {T:Addr} {oT:Obj} {ts:Array Value} {a d oe vs es k} (X:XAt B Pv s.heap ev i a d oe vs es k) (h1:vs[1]? = some (.ref T)) (h2:B T=none) (h3:Pv T=none) (h4:T≠a) (h5:s.heap.get? T=some oT) (h6:oT.data = .fields ts) (h7:3 < ts.size)
    (hj:j < ts.size) (h:∀ h',Wob env B Pv s.heap h' → XAt B Pv h' ev i a d oe vs es k→Tr B Pv h' a vs→Q () { s with heap:=h' }) :
    wpAny M A (setField (.ref T) j v) Q E s:=by
  refine wpAny_setField h5 h6 hj ?_
  obtain ⟨o',q1,_,_,q4⟩:=upd_fields (j:=j) (v:=v) h5 h6
  have kp:∀ b o,b≠T→s.heap.get? b=some o→(s.heap.update T (Obj.mapFields (·.setIfInBounds j v))).get? b=some o:=fun b o hb e=>(Heap.get?_update_other _ _ (Ne.symm hb)).trans e
  refine h _ (Wob.but h2 h3 (fun o e=>by rw [h5] at e; cases e; exact ⟨_,h6⟩) kp) ?_ ⟨T,o',_,h1,h2,h3,h4,q1,q4,by simpa using h7⟩
  exact ⟨X.isRef,kp _ _ (Ne.symm h4) X.get,X.cls,X.dict,X.data,X.size,X.freshB,X.freshP,X.dic,X.spot⟩
theorem x_setFlight {fl:Option Addr} (X:Xc B Pv s.heap ev i b) (h:∀ h',Wob env B Pv s.heap h' → Xc B Pv h' ev i b→Q () { s with heap:=h' }):wpAny M A (setFlight ev fl) Q E s:=by
  obtain ⟨a,d,oe,vs,es,k,X,t⟩:=X
  have hr:=X.isRef; subst hr
  unfold setFlight
  rcases t with ⟨hb,t⟩ | t
  · refine wpAny_bind (wpAny_field X.get X.data t ?_)
    rw [if_neg (by decide)]
    exact wpAny_pure (h _ Wob.refl ⟨a,d,oe,vs,es,k,X,.inl ⟨hb,t⟩⟩)
  · obtain ⟨T,oT,ts,h1,h2,h3,h4,h5,h6,h7⟩:=t
    refine wpAny_bind (wpAny_field X.get X.data h1 ?_)
    rw [if_pos (show (Value.ref T != Value.none)=true from by simp)]
    exact x_setT X h1 h2 h3 h4 h5 h6 h7 h7 fun h' w X' t' => h h' w ⟨a,d,oe,vs,es,k,X',.inr t'⟩
theorem funFrames (F:FrameOf A env Pv) (x:St P hb B Pv ρ σ s.heap) (y:Lc P env B Pv ρ σ.length vars s.heap m cm):∃ fe outer L,A.frames=some (fe::outer)∧fe.frame=some L∧env.frame=some L∧s.heap.FunFrames {} (fe::outer) ∧
    (∀ b∈(fe::outer).filterMap (·.frame),b=env.locals∨∃ o,Pv b=some (o,true)):=by
  obtain ⟨fe,outer,L,h1,h2,h3,h4,h5,h6⟩:=F
  have emp:∀ b,({}:Heap).get? b=none:=fun b=>by unfold Heap.get?; simp
  have prv:∀ b o,Pv b=some (o,true)→NonF o→∃ o,s.heap.get? b=some o∧∀ vs,o.data ≠ .fields vs:=fun b o e nf=>by
    obtain ⟨_,⟨sl,q⟩,_⟩:=x.prv b o _ e; exact ⟨_,q,nf⟩
  have out:∀ (l:List Env),(∀ e' ∈ l,e'.scope.kind ≠ .module∧∃ L' o,e'.frame=some L' ∧ Pv L' = some (o,true)∧NonF o)→s.heap.FunFrames {} l:=by
    intro l
    induction l with
    | nil=>intro _; trivial
    | cons e r ih =>
      intro hl
      obtain ⟨a1,L',o,a2,a3,a4⟩:=hl e (.head _)
      obtain ⟨o',b1,b2⟩:=prv L' o a3 a4
      exact ⟨a1,⟨L',o',a2,emp _,b1,b2⟩,ih fun e' he=>hl e' (.tail _ he)⟩
  refine ⟨fe,outer,L,h1,h2,h3,⟨h4,?_,out outer h6⟩,?_⟩
  · rcases h5 with h5 | ⟨o,h5,h5'⟩
    · obtain ⟨o,es,ep,ho,hd,_⟩:=y.ns
      exact ⟨L,o,h2,emp _,h5 ▸ ho,fun vs q=>by rw [hd] at q; cases q⟩
    · obtain ⟨o',b1,b2⟩:=prv L o h5 h5'
      exact ⟨L,o',h2,emp _,b1,b2⟩
  · intro b hb
    obtain ⟨e',he,hf⟩:=List.mem_filterMap.mp hb
    rcases List.mem_cons.mp he with rfl | he
    · rw [h2] at hf; cases hf; exact h5.imp id fun ⟨o,z,_⟩=>⟨o,z⟩
    · obtain ⟨_,L',o,a2,a3,_⟩:=h6 e' he
      rw [a2] at hf; cases hf; exact .inr ⟨o,a3⟩
theorem x_frameOf {Q:Value→Shared→Prop} (F:FrameOf A env Pv) (x:St P hb B Pv ρ σ s.heap) (y:Lc P env B Pv ρ σ.length vars s.heap m cm)
    (h:∀ L h',env.frame=some L→Wob env B Pv s.heap h' → (∀ b,b≠env.locals→Pv b=none→h'.get? b=s.heap.get? b)→Q (.ref L) { s with heap:=h' }):wpAny M A (PySem.frameOf env) Q E s:=by
  obtain ⟨fe,outer,L,h1,h2,h3,h4,h5⟩:=funFrames F x y
  unfold PySem.frameOf
  refine wpAny_bind (wpAny_frameEnvs h1 ?_)
  have hdw:((fe::outer).dropWhile fun x=>x.frame != env.frame)=fe::outer:=by simp [List.dropWhile,h2,h3]
  rw [hdw]
  unfold frameObject
  refine wpAny_bind (wpAny_bind (wpAny_readyFrames_fun h4 fun h₁ hs₁=>wpAny_pure ?_))
  rw [h2]
  refine wpAny_pure (h L h₁ h3 (fun b o e => .inr ⟨hs₁.2.2 b o e,?_⟩) fun b hb hp=>hs₁.2.1 b fun hm=>?_)
  · by_cases hm:b∈(fe::outer).filterMap (·.frame)
    · exact (h5 b hm).imp id .inl
    · exact .inr (.inr ((hs₁.2.1 b hm).trans e))
  · rcases h5 b hm with z | ⟨o,z⟩
    · exact hb z
    · rw [hp] at z; cases z
theorem x_entry {a d oe vs es k} {head:Value} {L:Addr} {hn:Bool} (F:FrameOf A env Pv) (hF:env.frame=some L) (x:St P hb B Pv ρ σ s.heap) (y:Lc P env B Pv ρ σ.length vars s.heap m cm) (X:XAt B Pv s.heap ev i a d oe vs es k)
    (h:∀ h',Wob env B Pv s.heap h' → Xc B Pv h' ev i true→Q () { s with heap:=h' }) :
    wpAny M A (do let fr ← PySem.frameOf env; let pl ← entryPlaceOf L hn; let t ← EntryCells.newEntry head fr .none (rawInt L) .none pl; setField ev 1 t) Q E s:=by
  have hr:=X.isRef; subst hr
  have hal:a≠env.locals:=fun q=>by
    obtain ⟨o,es',ep,ho,hd,_⟩:=y.ns
    rw [← q,X.get] at ho; cases ho; rw [X.data] at hd; cases hd
  refine wpAny_bind (x_frameOf F x y fun L' h₁ hL w₁ k₁=>?_)
  rw [hF] at hL; cases hL
  refine wpAny_bind (wpAny_entryPlaceOf fun pl hpl=>?_)
  unfold EntryCells.newEntry newFields
  refine wpAny_bind (wpAny_newObj_type ?_ (hpl.sizeOk5 _ _ _ _ _))
  have he₁:h₁.get? a=some oe:=(k₁ a hal X.freshP).trans X.get
  have x₁:=x.wob y w₁
  have hk₂:∀ b o,h₁.get? b=some o→(h₁.push { cls:=.type "traceback",dict:=none,data:=.fields ([head,.ref L,.none,rawInt L,.none]++(if pl.isEmpty then List.replicate 6 Value.none else pl)).toArray }).get? b=some o :=
    fun b o e=>Heap.get?_push_of_some _ e
  have hT₂:=Heap.get?_push_size h₁ (o:={ cls:=.type "traceback",dict:=none,data:=.fields ([head,.ref L,.none,rawInt L,.none]++(if pl.isEmpty then List.replicate 6 Value.none else pl)).toArray }) rfl
  generalize hh₂:h₁.push { cls:=.type "traceback",dict:=none,data:=.fields ([head,.ref L,.none,rawInt L,.none]++(if pl.isEmpty then List.replicate 6 Value.none else pl)).toArray }=h₂ at hk₂ hT₂ ⊢
  have hTa:h₁.objs.size≠a:=Nat.ne_of_gt (Heap.lt_size he₁)
  refine wpAny_setField (hk₂ _ _ he₁) X.data (by have:=X.size; omega) ?_
  obtain ⟨o',q1,q2,q3,q4⟩:=upd_fields (h:=h₂) (j:=1) (v:=.ref h₁.objs.size) (hk₂ _ _ he₁) X.data
  have kp:∀ b o,b≠a→h₂.get? b=some o→(h₂.update a (Obj.mapFields (·.setIfInBounds 1 (.ref h₁.objs.size)))).get? b=some o:=fun b o hb e=>(Heap.get?_update_other _ _ (Ne.symm hb)).trans e
  refine h _ ((w₁.trans (Wob.keeps hk₂)).trans (Wob.but X.freshB X.freshP (fun o e=>by rw [hk₂ _ _ he₁] at e; cases e; exact ⟨_,X.data⟩) kp)) ?_
  have hs:5≤(vs.setIfInBounds 1 (.ref h₁.objs.size)).size:=by simpa using X.size
  refine ⟨a,d,o',_,es,k,⟨rfl,q1,q2.trans X.cls,q3.trans X.dict,q4,hs,X.freshB,X.freshP,X.dic,X.spot⟩,.inr ⟨h₁.objs.size,_,_,?_,x₁.newB,x₁.newP,hTa,kp _ _ hTa hT₂,rfl,?_⟩⟩
  · have h5:=X.size
    rw [Array.getElem?_setIfInBounds_self_of_lt (by omega)]
  · simp only [List.size_toArray,List.length_append,List.length_cons]; omega
theorem x_note (F:FrameOf A env Pv) (x:St P hb B Pv ρ σ s.heap) (y:Lc P env B Pv ρ σ.length vars s.heap m cm) (X:Xc B Pv s.heap ev i b)
    (h:∀ h',St P hb B Pv ρ σ h' → Lc P env B Pv ρ σ.length vars h' m cm→Xc B Pv h' ev i true→Q () { s with heap:=h' }):wpAny M A (noteFrame ev env) Q E s:=by
  obtain ⟨L,hL⟩:∃ L,env.frame=some L:=let ⟨_,_,L,_,_,h3,_⟩:=F; ⟨L,h3⟩
  have fin:∀ h',Wob env B Pv s.heap h' → Xc B Pv h' ev i true→Q () { s with heap:=h' }:=fun h' w z=>h h' (x.wob y w) (y.wob w) z
  obtain ⟨a,d,oe,vs,es,k,X,t⟩:=X
  have hr:=X.isRef; subst hr
  unfold noteFrame
  simp only [hL]
  rcases t with ⟨_,t⟩ | t
  · refine wpAny_bind (wpAny_field X.get X.data t ?_)
    rw [if_neg (by decide)]
    exact x_entry F hL x y X fin
  · obtain ⟨T,oT,ts,h1,h2,h3,h4,h5,h6,h7⟩:=t
    refine wpAny_bind (wpAny_field X.get X.data h1 ?_)
    rw [if_pos (show (Value.ref T != Value.none)=true from by simp)]
    obtain ⟨fl,hfl⟩:∃ fl,ts[3]? = some fl:=⟨ts[3],Array.getElem?_eq_getElem h7⟩
    refine wpAny_bind (wpAny_field h5 h6 hfl ?_)
    split
    · exact wpAny_pure (fin _ Wob.refl ⟨a,d,oe,vs,es,k,X,.inr ⟨T,oT,ts,h1,h2,h3,h4,h5,h6,h7⟩⟩)
    · refine wpAny_bind (x_setT (env:=env) X h1 h2 h3 h4 h5 h6 h7 h7 fun h' w X' t' => ?_)
      exact x_entry (s:={ s with heap:=h' }) F hL (x.wob y w) (y.wob w) X' fun h'' w' z=>fin h'' (w.trans w') z
theorem x_flight {fl:Option Addr} (x:St P hb B Pv ρ σ s.heap) (y:Lc P env B Pv ρ σ.length vars s.heap m cm) (X:Xc B Pv s.heap ev i b)
    (h:∀ h',St P hb B Pv ρ σ h' → Lc P env B Pv ρ σ.length vars h' m cm→Xc B Pv h' ev i b→Q () { s with heap:=h' }):wpAny M A (setFlight ev fl) Q E s :=
  x_setFlight (env:=env) X fun h' w z=>h h' (x.wob y w) (y.wob w) z
theorem x_leaving (F:FrameOf A env Pv) (x:St P hb B Pv ρ σ s.heap) (y:Lc P env B Pv ρ σ.length vars s.heap m cm) (X:Xc B Pv s.heap ev i b)
    (h:∀ h',St P hb B Pv ρ σ h' → Lc P env B Pv ρ σ.length vars h' m cm→Xc B Pv h' ev i true→Q () { s with heap:=h' }):wpAny M A (leaving env ev) Q E s:=by
  unfold leaving
  refine wpAny_bind (x_note F x y X fun h' x' y' X' => ?_)
  exact x_flight (s:={ s with heap:=h' }) x' y' X' h
theorem x_noNone {α:Type} {what:String} {Q:α→Shared→Prop} {k:Sem α} (X:Xc B Pv s.heap ev i true) (h:wpAny M A k Q E s) :
    wpAny M A (do
      if (← field ev 1) == .none then unsupported what
      k) Q E s:=by
  obtain ⟨a,d,oe,vs,es,kk,X,t⟩:=X
  have hr:=X.isRef; subst hr
  rcases t with ⟨q,_⟩ | ⟨T,oT,ts,h1,_⟩
  · cases q
  · refine wpAny_bind (wpAny_field X.get X.data h1 ?_)
    rw [if_neg (by simp)]
    exact h
theorem x_cameBack {E:Value→Shared→Prop} (x:St P hb B Pv ρ σ s.heap) (y:Lc P env B Pv ρ σ.length vars s.heap m cm) (X:Xc B Pv s.heap ev i true)
    (h:∀ h',St P hb B Pv ρ σ h' → Lc P env B Pv ρ σ.length vars h' m cm→Xc B Pv h' ev i true→E ev { s with heap:=h' }):cameBackBy M A env E ev s:=by
  unfold cameBackBy
  refine x_noNone X ?_
  exact x_flight x y X h
theorem x_noted {E:Value→Shared→Prop} {A':Around} (F:FrameOf A' env Pv) (x:St P hb B Pv ρ σ s.heap) (y:Lc P env B Pv ρ σ.length vars s.heap m cm) (X:Xc B Pv s.heap ev i b)
    (h:∀ h',St P hb B Pv ρ σ h' → Lc P env B Pv ρ σ.length vars h' m cm→Xc B Pv h' ev i true→E ev { s with heap:=h' }):notedBy M A' env (cameBackBy M A env E) ev s:=by
  unfold notedBy
  refine x_note F x y X fun h' x' y' X' => ?_
  exact x_cameBack (s:={ s with heap:=h' }) x' y' X' h
end
end Mine
namespace Mine
open PySem PySem.Calls PySem.W PyProof.Rows
abbrev Okp:=Frz→(Nat→Addr)→Sto→Heap→Prop
def Rest (s s':Shared):Prop:=s'.gens=s.gens∧s'.os=s.os
theorem Rest.refl {s:Shared}:Rest s s:=⟨rfl,rfl⟩
theorem Rest.trans {s s' s'':Shared} (x:Rest s s') (y:Rest s' s''):Rest s s'':=⟨y.1.trans x.1,y.2.trans x.2⟩
def EP {α β:Type} (Ok:Okp) (Pv:Prv) (D:Frz→(Nat→Addr)→Nat→β→α→Prop) (B:Frz) (ρ:Nat→Addr) (σ:Sto) (s:Shared) (r:R α) (Q:β→Shared→Prop) (E:Value→Shared→Prop):Prop :=
  match r with
  | some (.val a,σ')=>∀ b B' ρ' s',Ext B ρ σ.length B' ρ' σ'.length→Ok B' ρ' σ' s'.heap→Rest s s' → D B' ρ' σ'.length b a→Q b s'
  | some (.exc i,σ')=>∀ ev B' ρ' s',Ext B ρ σ.length B' ρ' σ'.length→Ok B' ρ' σ' s'.heap→Rest s s' → Xc B' Pv s'.heap ev i false→E ev s'
  | none=>False
section
variable {α β γ δ:Type} {Ok:Okp} {Pv:Prv} {D:Frz→(Nat→Addr)→Nat→β→α→Prop} {D':Frz→(Nat→Addr)→Nat→δ→γ→Prop} {B B':Frz} {ρ ρ':Nat→Addr} {σ σ':Sto} {s s':Shared}
  {Q:β→Shared→Prop} {Q':δ→Shared→Prop} {E:Value→Shared→Prop}
theorem EP.from {r:R α} (h:EP Ok Pv D B ρ σ s r Q E) (x:Ext B ρ σ.length B' ρ' σ'.length) (t:Rest s s'):EP Ok Pv D B' ρ' σ' s' r Q E:=by
  unfold EP at h ⊢
  split
  · exact fun b B'' ρ'' s'' e o q d=>h b B'' ρ'' s'' (x.trans e) o (t.trans q) d
  · exact fun b B'' ρ'' s'' e o q d=>h b B'' ρ'' s'' (x.trans e) o (t.trans q) d
  · exact h
theorem EP.bind {m:R α} {f:α→Sto→R γ} (h:EP Ok Pv D' B ρ σ s (bindR m f) Q' E)
    (k:∀ a σ₁ b B₁ ρ₁ s₁,m=some (.val a,σ₁)→Ext B ρ σ.length B₁ ρ₁ σ₁.length→Ok B₁ ρ₁ σ₁ s₁.heap→Rest s s₁→D B₁ ρ₁ σ₁.length b a→EP Ok Pv D' B₁ ρ₁ σ₁ s₁ (f a σ₁) Q' E→Q b s₁) :
    EP Ok Pv D B ρ σ s m Q E:=by
  unfold EP
  split
  · rename_i a σ₁
    exact fun b B₁ ρ₁ s₁ e o t d=>k a σ₁ b B₁ ρ₁ s₁ rfl e o t d ((show EP Ok Pv D' B ρ σ s (f a σ₁) Q' E from h).from e t)
  · exact h
  · exact h
theorem EP.val {a:α} (h:EP Ok Pv D B ρ σ s (some (.val a,σ)) Q E) {b:β} (o:Ok B ρ σ s.heap) (d:D B ρ σ.length b a):Q b s:=h b B ρ s .refl o .refl d
theorem EP.val' {a:α} (h:EP Ok Pv D B ρ σ s (some (.val a,σ')) Q E) {b:β} (e:Ext B ρ σ.length B' ρ' σ'.length) (o:Ok B' ρ' σ' s'.heap) (t:Rest s s') (d:D B' ρ' σ'.length b a):Q b s':=h b B' ρ' s' e o t d
theorem EP.mono {r:R α} {Q₁:β→Shared→Prop} {E₁:Value→Shared→Prop} (h:EP Ok Pv D B ρ σ s r Q E) (hq:∀ b s',Q b s' → Q₁ b s') (he:∀ e s',E e s' → E₁ e s'):EP Ok Pv D B ρ σ s r Q₁ E₁:=by
  unfold EP at h ⊢
  split
  · exact fun b B'' ρ'' s'' e o q d=>hq _ _ (h b B'' ρ'' s'' e o q d)
  · exact fun b B'' ρ'' s'' e o q d=>he _ _ (h b B'' ρ'' s'' e o q d)
  · exact h
end
def OkE (P:Params) (hb:Heap) (env:Env) (Pv:Prv) (vars:Loc):Okp:=fun B ρ σ h=>St P hb B Pv ρ σ h∧∃ m cm,Lc P env B Pv ρ σ.length vars h m cm
def OkS (P:Params) (hb:Heap) (Pv:Prv):Okp:=fun B ρ σ h=>St P hb B Pv ρ σ h
structure Gd (w:World) (hb:Heap) (K:Frag) (mg mb:Str→Option Value):Prop where
  X:K.In hb
  g:hb.Ns mainGlobals mg
  b:hb.Ns builtinsNs mb
  nl:hb.NoLimit
  bi:∀ x:Str,x ≠ "__name__" → mb x=bootBuiltins x
section
variable {P:Params} {hb h h':Heap} {B:Frz} {Pv:Prv} {ρ:Nat→Addr} {σ:Sto} {env:Env} {vars:Loc}
theorem St.stays (x:St P hb B Pv ρ σ h):∀ b o,hb.get? b=some o→h.get? b=some o:=fun b o e=>x.frz b o (x.base b o e)
theorem OkE.keep (x:OkE P hb env Pv vars B ρ σ h) (k:∀ b o,h.get? b=some o→h'.get? b=some o):OkE P hb env Pv vars B ρ σ h' :=
  ⟨x.1.keep k,let ⟨m,cm,y⟩:=x.2; ⟨m,cm,y.keep k⟩⟩
theorem OkE.push (x:OkE P hb env Pv vars B ρ σ h) (o:Obj):OkE P hb env Pv vars B ρ σ (h.push o):=x.keep fun _ _ e=>Heap.get?_push_of_some _ e
theorem OkE.pushF (x:OkE P hb env Pv vars B ρ σ h) (o:Obj) (hf:o.isFreed=false:=by rfl):OkE P hb env Pv vars (frzAt B h.objs.size o) ρ σ (h.push o) :=
  ⟨x.1.pushF o hf,let ⟨m,cm,y⟩:=x.2; ⟨m,cm,y.pushF x.1 o⟩⟩
theorem OkE.pushC (x:OkE P hb env Pv vars B ρ σ h) (o:Obj) (c:Cell) (hf:o.isFreed=false) (hc:CellAt P B ρ σ.length (h.push o) h.objs.size c) :
    OkE P hb env Pv vars B (rhoAt ρ σ.length h.objs.size) (σ++[c]) (h.push o) :=
  ⟨x.1.pushC o c hf hc,let ⟨m,cm,y⟩:=x.2; ⟨m,cm,y.pushC o c⟩⟩
theorem OkE.setC (x:OkE P hb env Pv vars B ρ σ h) {i:Nat} (hi:i < σ.length) (c:Cell) (k:∀ b,b≠ρ i→h'.get? b=h.get? b) (hc:CellAt P B ρ σ.length h' (ρ i) c) :
    OkE P hb env Pv vars B ρ (σ.set i c) h' :=
  ⟨x.1.setC hi c k hc,let ⟨m,cm,y⟩:=x.2; ⟨m,cm,y.setC x.1 hi c k⟩⟩
theorem extSet {n:Nat} {c:Cell}:Ext B ρ σ.length B ρ (σ.set n c).length:=by rw [List.length_set]; exact .refl
theorem extApp {c:Cell} {a:Addr}:Ext B ρ σ.length B (rhoAt ρ σ.length a) (σ++[c]).length:=by
  rw [show (σ++[c]).length=σ.length + 1 from by simp]; exact ext_rhoAt
end
def UniqC (env:Env):Prop := ∀ y∈env.cells,env.cells.lookup y.1=some y.2
structure Cx (T:Tab) (A:Around) (env:Env) (sc:Scope) (Pv:Prv) (N:Nat):Prop where
  esc:env.scope=sc
  kind:sc.kind = .function
  glob:env.globals=mainGlobals
  bui:env.builtins=builtinsNs
  frm:FrameOf A env Pv
  hnd:T.rs=true→A.handled=none
  dep:A.depth + 4 * N≤980
  uni:A.units + 64 * N + 200≤cLine
  uq:UniqC env
  cls:∀ x,(sc.names.lookup x=some .cell∨sc.names.lookup x=some .free)→(env.cells.lookup x).isSome=true
section
variable (prog:Program) (w:World) (hb:Heap) (T:Tab) (N:Nat)
def Says {α β:Type} (D:Frz→(Nat→Addr)→Nat→β→α→Prop) (A:Around) (env:Env) (Pv:Prv) (vars:Loc) (B:Frz) (ρ:Nat→Addr) (σ:Sto) (s:Shared) (t:Sem β) (r:R α):Prop :=
  ∀ (Q:β→Shared→Prop) (E:Value→Shared→Prop),EP (OkE w.params hb env Pv vars) Pv D B ρ σ s r Q E→wpAny (model prog w) A t Q E s
abbrev DV (w:World):Frz→(Nat→Addr)→Nat→Value→LV→Prop:=fun B ρ n v l=>Den w.params B ρ n v l
abbrev DVs (w:World):Frz→(Nat→Addr)→Nat→List Value→List LV→Prop:=fun B ρ n v l=>DenAll w.params B ρ n v l
abbrev DEq {α:Type}:Frz→(Nat→Addr)→Nat→α→α→Prop:=fun _ _ _ a b=>a=b
def SE (sc:Scope) (e:PySem.Expr) (me:ME):Prop :=
  ∀ A env Pv vars B ρ σ s,Cx T A env sc Pv N→OkE w.params hb env Pv vars B ρ σ s.heap→Says prog w hb (DV w) A env Pv vars B ρ σ s (eval e env) (evalM T me vars σ)
def truthR (r:R LV):R Bool:=bindR r fun v σ=>onB v fun b=>some (.val b,σ)
theorem onB_cases {α:Type} {v:LV} {f:Bool→Option α} {p:Option α→Prop} (h:p (onB v f)) (hn:¬ p none):∃ b,v = .bool b∧p (f b):=by
  cases v <;> first | exact ⟨_,rfl,h⟩ | exact (hn h).elim
def SB (sc:Scope) (e:PySem.Expr) (me:ME):Prop :=
  ∀ A env Pv vars B ρ σ s,Cx T A env sc Pv N→OkE w.params hb env Pv vars B ρ σ s.heap→Says prog w hb DEq A env Pv vars B ρ σ s (isTrue e env (eval e env)) (truthR (evalM T me vars σ))
def SEs (sc:Scope) (es:List PySem.Expr) (mes:MEs):Prop :=
  ∀ A env Pv vars B ρ σ s pos,Cx T A env sc Pv N→OkE w.params hb env Pv vars B ρ σ s.heap→Says prog w hb (DVs w) A env Pv vars B ρ σ s (spliced (backTo pos (starEach es env))) (evalMs T mes vars σ)
end
theorem nm_lt {c:Nat} {x:Str} (h:nm c=some x):c < nameList.length:=by
  unfold nm at h
  cases q:nameList[c]? with
  | none=>rw [q] at h; cases h
  | some s=>exact (List.getElem?_eq_some_iff.mp q).1
theorem names_apart:(nameList.map Str.ofString).Nodup:=by decide +kernel
theorem nm_get (c:Nat):nm c=(nameList.map Str.ofString)[c]? := by unfold nm; rw [List.getElem?_map]
theorem nm_inj {a b:Nat} {x:Str} (ha:nm a=some x) (hb:nm b=some x):a=b:=by
  rw [nm_get] at ha hb
  obtain ⟨h1,h2⟩:=List.getElem?_eq_some_iff.mp ha
  obtain ⟨h3,h4⟩:=List.getElem?_eq_some_iff.mp hb
  exact (List.getElem_inj names_apart).mp (h2.trans h4.symm)
theorem names_short:(nameList.map Str.ofString).all (fun x=>decide (x.length≤nameMost))=true:=by decide +kernel
theorem nm_short {c:Nat} {x:Str} (h:nm c=some x):x.length≤nameMost:=by
  rw [nm_get] at h
  exact of_decide_eq_true (List.all_eq_true.mp names_short x (List.mem_of_getElem? h))
theorem names_debug:(nameList.map Str.ofString).all (fun x=>x != "__debug__" && x != "__classdict__" && x != "__class__" && x != "super")=true:=by decide +kernel
theorem nm_debug {c:Nat} {x:Str} (h:nm c=some x):(x == ("__debug__" : Str))=false∧(x == ("__classdict__" : Str))=false:=by
  rw [nm_get] at h
  have:=List.all_eq_true.mp names_debug x (List.mem_of_getElem? h)
  simp only [Bool.and_eq_true,bne_iff_ne,ne_eq] at this
  exact ⟨beq_eq_false_iff_ne.mpr this.1.1.1,beq_eq_false_iff_ne.mpr this.1.1.2⟩
section
variable {prog:Program} {w:World} {hb:Heap} {T:Tab} {N:Nat} {sc:Scope}
theorem SE_none {k pos}:SE prog w hb T N sc (.Constant .none k pos) (.const .none):=fun _ _ _ _ _ _ _ _ _ o Q E h=>PyProof.Rows.Constant_none (h.val o .none)
theorem SE_bool {b k pos}:SE prog w hb T N sc (.Constant (.bool b) k pos) (.const (.bool b)):=fun _ _ _ _ _ _ _ _ _ o Q E h=>PyProof.Rows.Constant_bool (h.val o (.bool b))
theorem SE_int {i k pos}:SE prog w hb T N sc (.Constant (.int i) k pos) (.const (.int i)):=fun _ _ _ _ _ _ _ _ _ o Q E h=>wpAny_Constant_int (EP.val' h .refl o Rest.refl (.int i _))
theorem SE_str {x c k pos} (hx:nm c=some x):SE prog w hb T N sc (.Constant (.str x) k pos) (.const (.str c)):=fun _ _ _ _ _ _ _ _ _ o Q E h=>Constant_str (EP.val' h .refl o ⟨rfl,rfl⟩ (.str _ hx))
theorem SE_txt {x m k pos} (hx:x.length≤m):SE prog w hb T N sc (.Constant (.str x) k pos) (.const (.txt m)):=fun _ _ _ _ _ _ _ _ _ o Q E h=>Constant_str (EP.val' h .refl o ⟨rfl,rfl⟩ (.txt _ hx))
def lexical (sc:Scope) (x:Str):Bool:=match sc.names.lookup x with
  | some .local | some .cell | some .free=>true
  | _=>false
theorem loadName_ {A:Around} {E:Value→Shared→Prop} {M:Model} {P:Params} {s:Shared} {env:Env} {B:Frz} {Pv:Prv} {ρ:Nat→Addr} {n:Nat} {vars:Loc} {m cm:Str→Option Value} {k:Nat} {l:LV} {x:Str} {Q:Value→Shared→Prop}
    (hk:env.scope.kind = .function) (y:Lc P env B Pv ρ n vars s.heap m cm) (hl:lookA k vars=some l) (hx:nm k=some x) (hlx:lexical env.scope x=true)
    (h:∀ v,Den P B ρ n v l→Q v s):wpAny M A (loadName env x) Q E s:=by
  have q:=y.vals k l x hl hx
  unfold ValAt at q
  unfold lexical at hlx
  have e:env.kindOf x=env.scope.names.lookup x:=rfl
  split at q
  · rename_i hq
    obtain ⟨v,hm,d⟩:=q
    exact wpAny_loadName_local hk hq y.ns hm (h v d)
  · rename_i hq
    obtain ⟨v,hc,hm,d⟩:=q
    obtain ⟨c,hc⟩:=Option.isSome_iff_exists.mp hc
    have hcell:=(y.cell x c hc).1
    rw [hm] at hcell
    exact wpAny_loadName_cell hk hq hc hcell (h v d)
  · rename_i hq
    obtain ⟨v,hc,hm,d⟩:=q
    obtain ⟨c,hc⟩:=Option.isSome_iff_exists.mp hc
    have hcell:=(y.cell x c hc).1
    rw [hm] at hcell
    exact wpAny_loadName_free hk hq hc hcell (h v d) (nm_debug hx).2
  · rename_i h1 h2 h3
    rw [← e] at hlx
    split at hlx
    · rename_i z; exact absurd z h1
    · rename_i z; exact absurd z h2
    · rename_i z; exact absurd z h3
    · cases hlx
theorem SE_loc {x:Str} {c:Nat} {pos} (hx:nm c=some x) (hlx:lexical sc x=true):SE prog w hb T N sc (.Name x pos) (.loc c):=fun A env Pv vars B ρ σ s cx o Q E h=>by
  obtain ⟨st,m,cm,y⟩:=o
  refine wpAny_Name ?_ (nm_debug hx).1
  unfold evalM at h
  cases hl:lookA c vars with
  | none=>rw [hl] at h; exact h.elim
  | some l=>rw [hl] at h; exact loadName_ (by rw [cx.esc,cx.kind]) y hl hx (by rw [cx.esc]; exact hlx) fun v d=>EP.val h ⟨st,m,cm,y⟩ d
theorem globName {A:Around} {E:Value→Shared→Prop} {M:Model} {P:Params} {s:Shared} {env:Env} {K:Frag} {mg mb:Str→Option Value} {B:Frz} {Pv:Prv} {ρ:Nat→Addr} {σ:Sto} {x:Str} {v:Value} {pos:Pos} {Q:Value→Shared→Prop} {N:Nat}
    (G:Gd w hb K mg mb) (cx:Cx T A env sc Pv N) (st:St P hb B Pv ρ σ s.heap) (hx:sc.names.lookup x=some .globalImplicit) (hv:nsIn K mainGlobals x=some (some v)) (hd:(x == ("__debug__" : Str))=false) (h:Q v s) :
    wpAny M A (eval (.Name x pos) env) Q E s:=by
  refine Name_function_global (by rw [cx.esc,cx.kind]) (by unfold Env.kindOf; rw [cx.esc]; exact hx) ?_ hd
  exact loadGlobal_global (by rw [cx.glob]; exact G.g.keeps st.stays) (mg_of G.X G.g hv) h
theorem globBuiltin {A:Around} {E:Value→Shared→Prop} {M:Model} {P:Params} {s:Shared} {env:Env} {K:Frag} {mg mb:Str→Option Value} {B:Frz} {Pv:Prv} {ρ:Nat→Addr} {σ:Sto} {x:Str} {v:Value} {pos:Pos} {Q:Value→Shared→Prop} {N:Nat}
    (G:Gd w hb K mg mb) (cx:Cx T A env sc Pv N) (st:St P hb B Pv ρ σ s.heap) (hx:sc.names.lookup x=some .globalImplicit) (hn:nsIn K mainGlobals x=some none) (hv:bootBuiltins x=some v) (hne:x ≠ "__name__") (hd:(x == ("__debug__" : Str))=false) (h:Q v s) :
    wpAny M A (eval (.Name x pos) env) Q E s:=by
  refine Name_function_global (by rw [cx.esc,cx.kind]) (by unfold Env.kindOf; rw [cx.esc]; exact hx) ?_ hd
  exact loadGlobal_builtin (by rw [cx.glob]; exact G.g.keeps st.stays) (mg_none_of G.X G.g hn) (by rw [cx.bui]; exact G.b.keeps st.stays) ((G.bi x hne).trans hv) h
theorem SE_glob {K:Frag} {mg mb:Str→Option Value} {x:Str} {c:Nat} {l:LV} {v:Value} {pos} (G:Gd w hb K mg mb) (hx:sc.names.lookup x=some .globalImplicit) (hv:nsIn K mainGlobals x=some (some v)) (hd:(x == ("__debug__" : Str))=false)
    (hl:Den w.params (fun a=>K.lookup a) (fun _=>0) 0 v l):SE prog w hb T N sc (.Name x pos) (.glob c l):=fun A env Pv vars B ρ σ s cx o Q E h=>by
  refine globName G cx o.1 hx hv hd ?_
  unfold evalM at h
  exact EP.val h o (hl.ext ⟨fun a o' e=>o.1.base a o' (G.X a o' e),fun i hi=>absurd hi (Nat.not_lt_zero _),Nat.zero_le _⟩)
theorem SEs_nil:SEs prog w hb T N sc [] .nil:=fun A env Pv vars B ρ σ s pos cx o Q E h=>by
  unfold evalMs at h
  exact args_nil (EP.val h o .nil)
theorem SEs_cons {e:PySem.Expr} {es:List PySem.Expr} {me:ME} {mes:MEs} (h1:SE prog w hb T N sc e me) (h2:SEs prog w hb T N sc es mes) (hs:isStarred e=false):SEs prog w hb T N sc (e::es) (.cons me mes) :=
  fun A env Pv vars B ρ σ s pos cx o Q E h=>by
  unfold evalMs at h
  have he:starEach (e::es) env=(false,eval e env)::starEach es env:=by cases e <;> first | rfl | cases hs
  refine args_cons (h1 A env Pv vars B ρ σ s cx o _ _ (EP.bind h fun a σ₁ b B₁ ρ₁ s₁ _ e₁ o₁ t₁ d₁ h₁=>?_)) he
  refine h2 A env Pv vars B₁ ρ₁ σ₁ s₁ pos cx o₁ _ _ (EP.bind h₁ fun vs σ₂ bs B₂ ρ₂ s₂ _ e₂ o₂ t₂ d₂ h₂=>?_)
  exact EP.val h₂ o₂ (.cons (d₁.ext e₂) d₂)
theorem sizeOf_most {n:Nat} (h:n≤100):n≤sizeLine:=by rw [sizeLine_eq]; omega
def MEs.len:MEs→Nat
  | .nil=>0
  | .cons _ r=>r.len + 1
theorem evalMs_length:∀ {mes:MEs} {vars:Loc} {σ:Sto} {vs:List LV} {σ':Sto},evalMs T mes vars σ=some (.val vs,σ')→vs.length=mes.len
  | .nil,_,_,_,_,h=>by unfold evalMs at h; cases h; rfl
  | .cons e es,vars,σ,vs,σ',h=>by
    unfold evalMs at h
    cases h1:evalM T e vars σ with
    | none=>rw [h1] at h; cases h
    | some p =>
      obtain ⟨a,σ₁⟩:=p
      rw [h1] at h
      cases a with
      | exc i=>cases h
      | val a =>
        rw [bindR_val] at h
        cases h2:evalMs T es vars σ₁ with
        | none=>rw [h2] at h; cases h
        | some p =>
          obtain ⟨b,σ₂⟩:=p
          rw [h2] at h
          cases b with
          | exc i=>cases h
          | val b=>cases h; exact congrArg (· + 1) (evalMs_length h2)
theorem SE_tup {es:List PySem.Expr} {mes:MEs} {k pos} (h1:SEs prog w hb T N sc es mes) (hl:mes.len≤100):SE prog w hb T N sc (.Tuple es k pos) (.tup mes):=fun A env Pv vars B ρ σ s cx o Q E h=>by
  unfold evalM at h
  refine Tuple_ (h1 A env Pv vars B ρ σ s pos cx o _ _ (EP.bind h fun a σ₁ b B₁ ρ₁ s₁ hm e₁ o₁ t₁ d₁ h₁=>?_))
  have hb:b.length≤100:=by rw [d₁.length,evalMs_length hm]; exact hl
  refine wpAny_newObj_type ?_ (by show b.toArray.size≤sizeLine; rw [List.size_toArray]; exact sizeOf_most hb)
  have o₂:=o₁.pushF (tupO b 0)
  have e₂:Ext B₁ ρ₁ σ₁.length (frzAt B₁ s₁.heap.objs.size (tupO b 0)) ρ₁ σ₁.length:=ext_frzAt o₁.1.newB
  exact EP.val' h₁ e₂ o₂ ⟨rfl,rfl⟩ (.tup (frzAt_self _ _) (d₁.ext e₂))
theorem SE_lst {es:List PySem.Expr} {mes:MEs} {pos} (h1:SEs prog w hb T N sc es mes) (hl:mes.len≤100):SE prog w hb T N sc (.List es pos) (.lst mes):=fun A env Pv vars B ρ σ s cx o Q E h=>by
  unfold evalM at h
  refine List_ (h1 A env Pv vars B ρ σ s pos cx o _ _ (EP.bind h fun a σ₁ b B₁ ρ₁ s₁ hm e₁ o₁ t₁ d₁ h₁=>?_))
  have hb:b.length≤100:=by rw [d₁.length,evalMs_length hm]; exact hl
  refine wpAny_newObj_type ?_ (by show b.toArray.size≤sizeLine; rw [List.size_toArray]; exact sizeOf_most hb)
  have o₂:=o₁.pushF (lstO b 0)
  have e₂:Ext B₁ ρ₁ σ₁.length (frzAt B₁ s₁.heap.objs.size (lstO b 0)) ρ₁ σ₁.length:=ext_frzAt o₁.1.newB
  exact EP.val' h₁ e₂ o₂ ⟨rfl,rfl⟩ (.lst (frzAt_self _ _) (d₁.ext e₂))
theorem SE_mlst {es:List PySem.Expr} {mes:MEs} {pos} (h1:SEs prog w hb T N sc es mes) (hl:mes.len≤100):SE prog w hb T N sc (.List es pos) (.mlst mes):=fun A env Pv vars B ρ σ s cx o Q E h=>by
  unfold evalM at h
  refine List_ (h1 A env Pv vars B ρ σ s pos cx o _ _ (EP.bind h fun a σ₁ b B₁ ρ₁ s₁ hm e₁ o₁ t₁ d₁ h₁=>?_))
  have hb:b.length≤100:=by rw [d₁.length,evalMs_length hm]; exact hl
  refine wpAny_newObj_type ?_ (by show b.toArray.size≤sizeLine; rw [List.size_toArray]; exact sizeOf_most hb)
  have hc:CellAt w.params B₁ ρ₁ σ₁.length (s₁.heap.push (lstO b 0)) s₁.heap.objs.size (.list a):=⟨b,0,Heap.get?_push_size _ rfl,d₁⟩
  have o₂:=o₁.pushC (lstO b 0) (.list a) rfl hc
  refine EP.val' h₁ extApp o₂ ⟨rfl,rfl⟩ ?_
  have:=Den.cell (P:=w.params) (B:=B₁) (ρ:=rhoAt ρ₁ σ₁.length s₁.heap.objs.size) (n:=(σ₁++[Cell.list a]).length) (i:=σ₁.length) (by simp)
  rwa [show rhoAt ρ₁ σ₁.length s₁.heap.objs.size σ₁.length=s₁.heap.objs.size from by unfold rhoAt; rw [if_pos rfl]] at this
theorem truthy_den {A:Around} {E:Value→Shared→Prop} {M:Model} {s:Shared} {B:Frz} {ρ:Nat→Addr} {n:Nat} {P:Params} {v:Value} {b:Bool} {Q:Bool→Shared→Prop} (d:Den P B ρ n v (.bool b)) (h:Q b s):wpAny M A (truthy v) Q E s:=by
  cases d; exact wpAny_truthy_bool h
theorem SE_not {e:PySem.Expr} {me:ME} {pos} (h1:SE prog w hb T N sc e me):SE prog w hb T N sc (.UnaryOp .Not e pos) (.not me):=fun A env Pv vars B ρ σ s cx o Q E h=>by
  unfold evalM at h
  refine UnaryOp_ (h1 A env Pv vars B ρ σ s cx o _ _ (EP.bind h fun a σ₁ b B₁ ρ₁ s₁ hm e₁ o₁ t₁ d₁ h₁=>?_))
  obtain ⟨c,rfl,h₁⟩:=onB_cases (p:=fun r=>EP _ _ _ _ _ _ _ r _ _) h₁ id
  exact not_of (truthy_den d₁ (EP.val h₁ o₁ (.bool _)))
theorem SB_of_plain {e:PySem.Expr} {me:ME} (h1:SE prog w hb T N sc e me) (hp:∀ env,isTrue e env (eval e env)=(do let v ← eval e env; standAt e.pos; holding [v] (truthy v))):SB prog w hb T N sc e me:=fun A env Pv vars B ρ σ s cx o Q E h=>by
  unfold truthR at h
  rw [hp]
  refine wpAny_bind (h1 A env Pv vars B ρ σ s cx o _ _ (EP.bind h fun a σ₁ b B₁ ρ₁ s₁ hm e₁ o₁ t₁ d₁ h₁=>?_))
  obtain ⟨c,rfl,h₁⟩:=onB_cases (p:=fun r=>EP _ _ _ _ _ _ _ r _ _) h₁ id
  exact wpAny_bind (wpAny_standAt (wpAny_holding (truthy_den d₁ (EP.val h₁ o₁ rfl))))
end
end Mine
namespace Mine
open PySem PySem.Calls PySem.W PyProof.Rows
theorem truth_bind {α:Type} (r:R LV) (f:Bool→Sto→R α):bindR r (fun v σ=>onB v fun b=>f b σ)=bindR (truthR r) f:=by
  unfold truthR
  match r with
  | none=>rfl
  | some (.exc i,σ)=>rfl
  | some (.val v,σ)=>rw [bindR_val,bindR_val]; cases v <;> rfl
theorem truth_truth (r:R LV) (f:Bool→Sto→R LV):truthR (bindR r fun v σ=>onB v fun b=>f b σ)=bindR (truthR r) fun b σ=>truthR (f b σ):=by
  unfold truthR
  match r with
  | none=>rfl
  | some (.exc i,σ)=>rfl
  | some (.val v,σ)=>rw [bindR_val,bindR_val]; cases v <;> rfl
section
variable {prog:Program} {w:World} {hb:Heap} {T:Tab} {N:Nat} {sc:Scope}
theorem SB_not {e:PySem.Expr} {me:ME} {pos} (h1:SB prog w hb T N sc e me):SB prog w hb T N sc (.UnaryOp .Not e pos) (.not me):=fun A env Pv vars B ρ σ s cx o Q E h=>by
  have e1:truthR (evalM T (.not me) vars σ)=bindR (truthR (evalM T me vars σ)) fun b σ=>some (.val (!b),σ):=by
    conv=>lhs; unfold evalM
    exact truth_truth _ _
  rw [e1] at h
  exact isTrue_not (h1 A env Pv vars B ρ σ s cx o _ _ (EP.bind h fun a σ₁ b B₁ ρ₁ s₁ hm e₁ o₁ t₁ d₁ h₁=>by cases d₁; exact EP.val h₁ o₁ rfl))
theorem SE_ite {c a b:PySem.Expr} {mc ma mb:ME} {pos} (h1:SB prog w hb T N sc c mc) (h2:SE prog w hb T N sc a ma) (h3:SE prog w hb T N sc b mb):SE prog w hb T N sc (.IfExp c a b pos) (.ite mc ma mb):=fun A env Pv vars B ρ σ s cx o Q E h=>by
  unfold evalM at h
  rw [truth_bind _ (fun c σ=>if c then evalM T ma vars σ else evalM T mb vars σ)] at h
  refine IfExp_ (h1 A env Pv vars B ρ σ s cx o _ _ (EP.bind h fun q σ₁ q' B₁ ρ₁ s₁ hm e₁ o₁ t₁ d₁ h₁=>?_))
  cases d₁
  cases q with
  | true=>exact h2 A env Pv vars B₁ ρ₁ σ₁ s₁ cx o₁ _ _ h₁
  | false=>exact h3 A env Pv vars B₁ ρ₁ σ₁ s₁ cx o₁ _ _ h₁
def opB (b:Bool):BoolOp:=if b then .And else .Or
def SEb (prog:Program) (w:World) (hb:Heap) (T:Tab) (N:Nat) (sc:Scope) (isAnd:Bool) (es:List PySem.Expr) (mes:MEs):Prop :=
  ∀ A env Pv vars B ρ σ s pos,Cx T A env sc Pv N→OkE w.params hb env Pv vars B ρ σ s.heap→Says prog w hb (DV w) A env Pv vars B ρ σ s (eval (.BoolOp (opB isAnd) es pos) env) (boolM T isAnd mes vars σ)
def SBb (prog:Program) (w:World) (hb:Heap) (T:Tab) (N:Nat) (sc:Scope) (isAnd:Bool) (es:List PySem.Expr) (mes:MEs):Prop :=
  ∀ A env Pv vars B ρ σ s,Cx T A env sc Pv N→OkE w.params hb env Pv vars B ρ σ s.heap→Says prog w hb DEq A env Pv vars B ρ σ s (allTrue (opB isAnd) es env) (truthR (boolM T isAnd mes vars σ))
theorem SEb_one {i:Bool} {e:PySem.Expr} {me:ME} (h1:SE prog w hb T N sc e me):SEb prog w hb T N sc i [e] (.cons me .nil):=fun A env Pv vars B ρ σ s pos cx o Q E h=>by
  unfold boolM at h
  exact BoolOp_one (h1 A env Pv vars B ρ σ s cx o _ _ h)
theorem SEb_cons {i:Bool} {e e₂:PySem.Expr} {es:List PySem.Expr} {me me₂:ME} {mes:MEs} (h1:SE prog w hb T N sc e me) (h2:SEb prog w hb T N sc i (e₂::es) (.cons me₂ mes)):SEb prog w hb T N sc i (e::e₂::es) (.cons me (.cons me₂ mes)) :=
  fun A env Pv vars B ρ σ s pos cx o Q E h=>by
  have eb:boolM T i (.cons me (.cons me₂ mes)) vars σ=bindR (evalM T me vars σ) fun v σ=>onB v fun b=>if b == i then boolM T i (.cons me₂ mes) vars σ else some (.val (.bool b),σ):=by
    conv=>lhs; unfold boolM
  rw [eb] at h
  have step:∀ {v:Value} {s₁:Shared} {B₁ ρ₁} {σ₁:Sto} {a:LV},OkE w.params hb env Pv vars B₁ ρ₁ σ₁ s₁.heap→Den w.params B₁ ρ₁ σ₁.length v a →
      EP (OkE w.params hb env Pv vars) Pv (DV w) B₁ ρ₁ σ₁ s₁ (onB a fun b=>if b == i then boolM T i (.cons me₂ mes) vars σ₁ else some (.val (.bool b),σ₁)) Q E →
      ∃ b,v = .bool b∧if b == i then wpAny (model prog w) A (eval (.BoolOp (opB i) (e₂::es) pos) env) Q E s₁ else Q v s₁:=by
    intro v s₁ B₁ ρ₁ σ₁ a o₁ d h₁
    obtain ⟨b,rfl,hz⟩:=onB_cases (p:=fun r=>EP _ _ _ _ _ _ _ r _ _) h₁ id
    cases d
    refine ⟨b,rfl,?_⟩
    cases hq:(b == i) with
    | true=>rw [hq] at hz; exact h2 A env Pv vars B₁ ρ₁ σ₁ s₁ pos cx o₁ _ _ hz
    | false=>rw [hq] at hz; exact EP.val hz o₁ (.bool _)
  cases i with
  | true =>
    refine BoolOp_and (h1 A env Pv vars B ρ σ s cx o _ _ (EP.bind h fun a σ₁ b B₁ ρ₁ s₁ hm e₁ o₁ t₁ d₁ h₁=>?_))
    obtain ⟨c,rfl,z⟩:=step o₁ d₁ h₁
    refine wpAny_truthy_bool ?_
    cases c <;> exact z
  | false =>
    refine BoolOp_or (h1 A env Pv vars B ρ σ s cx o _ _ (EP.bind h fun a σ₁ b B₁ ρ₁ s₁ hm e₁ o₁ t₁ d₁ h₁=>?_))
    obtain ⟨c,rfl,z⟩:=step o₁ d₁ h₁
    refine wpAny_truthy_bool ?_
    cases c <;> exact z
theorem SBb_one {i:Bool} {e:PySem.Expr} {me:ME} (h1:SB prog w hb T N sc e me):SBb prog w hb T N sc i [e] (.cons me .nil):=fun A env Pv vars B ρ σ s cx o Q E h=>by
  unfold boolM at h
  rw [arm_allTrue_cons]
  refine wpAny_bind (h1 A env Pv vars B ρ σ s cx o _ _ ?_)
  refine EP.mono h (fun b s' q=>?_) fun _ _ q=>q
  cases i <;> cases b <;> exact wpAny_pure q
theorem SBb_cons {i:Bool} {e e₂:PySem.Expr} {es:List PySem.Expr} {me me₂:ME} {mes:MEs} (h1:SB prog w hb T N sc e me) (h2:SBb prog w hb T N sc i (e₂::es) (.cons me₂ mes)):SBb prog w hb T N sc i (e::e₂::es) (.cons me (.cons me₂ mes)) :=
  fun A env Pv vars B ρ σ s cx o Q E h=>by
  have eb:truthR (boolM T i (.cons me (.cons me₂ mes)) vars σ)=bindR (truthR (evalM T me vars σ)) fun b σ=>if b == i then truthR (boolM T i (.cons me₂ mes) vars σ) else some (.val b,σ):=by
    conv=>lhs; unfold boolM
    rw [truth_truth _ (fun b σ=>if b == i then boolM T i (.cons me₂ mes) vars σ else some (.val (.bool b),σ))]
    congr 1; funext b σ; cases (b == i) <;> rfl
  rw [eb] at h
  rw [arm_allTrue_cons]
  refine wpAny_bind (h1 A env Pv vars B ρ σ s cx o _ _ (EP.bind h fun a σ₁ b B₁ ρ₁ s₁ hm e₁ o₁ t₁ d₁ h₁=>?_))
  cases d₁
  have nx:∀ {s₁:Shared} {B₁ ρ₁} {σ₁:Sto},OkE w.params hb env Pv vars B₁ ρ₁ σ₁ s₁.heap→EP (OkE w.params hb env Pv vars) Pv DEq B₁ ρ₁ σ₁ s₁ (truthR (boolM T i (.cons me₂ mes) vars σ₁)) Q E →
      wpAny (model prog w) A (allTrue (opB i) (e₂::es) env) Q E s₁:=fun o₁ h₁=>h2 A env Pv vars _ _ _ _ cx o₁ _ _ h₁
  cases i <;> cases a
  · exact nx o₁ h₁
  · exact wpAny_pure (EP.val h₁ o₁ rfl)
  · exact wpAny_pure (EP.val h₁ o₁ rfl)
  · exact nx o₁ h₁
theorem SE_boolop {i:Bool} {es:List PySem.Expr} {mes:MEs} {pos} (h1:SEb prog w hb T N sc i es mes):SE prog w hb T N sc (.BoolOp (opB i) es pos) (.boolop i mes):=fun A env Pv vars B ρ σ s cx o Q E h=>by
  unfold evalM at h
  exact h1 A env Pv vars B ρ σ s pos cx o _ _ h
theorem SB_boolop {i:Bool} {es:List PySem.Expr} {mes:MEs} {pos} (h1:SBb prog w hb T N sc i es mes):SB prog w hb T N sc (.BoolOp (opB i) es pos) (.boolop i mes):=fun A env Pv vars B ρ σ s cx o Q E h=>by
  rw [arm_isTrue_BoolOp]
  refine h1 A env Pv vars B ρ σ s cx o _ _ ?_
  have e1:evalM T (.boolop i mes) vars σ=boolM T i mes vars σ:=by conv=>lhs; unfold evalM
  rwa [e1] at h
def full (L:Addr) (h:Heap):List (Addr × Obj):=(List.range h.objs.size).filterMap fun a=>if a=L then none else (h.get? a).map (a,·)
theorem full_mem {L:Addr} {h:Heap} {a:Addr} {o:Obj}:(a,o)∈full L h ↔ a≠L∧h.get? a=some o:=by
  unfold full
  rw [List.mem_filterMap]
  constructor
  · rintro ⟨b,_,q⟩
    split at q
    · cases q
    · rename_i hb
      cases hg:h.get? b with
      | none=>rw [hg] at q; cases q
      | some o' => rw [hg] at q; cases q; exact ⟨hb,hg⟩
  · rintro ⟨ha,hg⟩
    exact ⟨a,List.mem_range.mpr (Heap.lt_size hg),by rw [if_neg ha,hg]; rfl⟩
theorem emp_get (b:Addr):({}:Heap).get? b=none:=by unfold Heap.get?; simp
theorem full_news {L:Addr} {h:Heap}:News {} L h (full L h):=fun p hp=>by
  obtain ⟨a,o⟩:=p
  obtain ⟨h1,h2⟩:=full_mem.mp hp
  exact ⟨h2,h1,emp_get _⟩
theorem emp_fr {L:Addr} {h:Heap} {m:Str→Option Value} (n:h.Ns L m):Fr {} L h m:=⟨n,fun b o e=>(by rw [emp_get] at e; cases e),Nat.zero_le _⟩
section
variable {P:Params} {h h':Heap} {B:Frz} {Pv:Prv} {ρ:Nat→Addr} {σ:Sto} {env:Env} {vars:Loc} {m cm:Str→Option Value}
theorem keep_of_news {L:Addr} {l:List (Addr × Obj)} (N:News {} L h' l) (hl:∀ p∈full L h,p∈l):∀ b o,b≠L→h.get? b=some o→h'.get? b=some o :=
  fun b o hb e=>(N (b,o) (hl _ (full_mem.mpr ⟨hb,e⟩))).1
theorem Lc.setNs (y:Lc P env B Pv ρ σ.length vars h m cm) (n:h'.Ns env.locals m) (k:∀ b o,b≠env.locals→h.get? b=some o→h'.get? b=some o):Lc P env B Pv ρ σ.length vars h' m cm:=by
  refine ⟨n,y.frL,fun z c q=>⟨?_,(y.cell z c q).2⟩,y.vals⟩
  obtain ⟨o,ho,hd⟩:=(y.cell z c q).1
  refine ⟨o,k _ _ (fun w=>?_) ho,hd⟩
  obtain ⟨o',es,ep,ho',hd',_⟩:=y.ns
  rw [← w,ho] at ho'; cases ho'; rw [hd] at hd'; cases hd'
theorem OkE.news (x:St P hb B Pv ρ σ h) (y:Lc P env B Pv ρ σ.length vars h m cm) {l:List (Addr × Obj)} (F:Fr {} env.locals h' m) (N:News {} env.locals h' l) (hl:∀ p∈full env.locals h,p∈l):OkE P hb env Pv vars B ρ σ h':=by
  have k:=keep_of_news N hl
  exact ⟨x.setX y.frL.1 y.frL.2.1 y.frL.2.2 k,m,cm,y.setNs F.ns k⟩
end
theorem OkE.newsF {P:Params} {hb h:Heap} {B:Frz} {Pv:Prv} {ρ:Nat→Addr} {σ:Sto} {env:Env} {vars:Loc} {m cm:Str→Option Value} {o:Obj} {h':Heap}
    (x:St P hb B Pv ρ σ h) (y:Lc P env B Pv ρ σ.length vars h m cm) (F:Fr {} env.locals h' m) (N:News {} env.locals h' ((h.objs.size,o)::full env.locals h)) :
    OkE P hb env Pv vars (frzAt B h.objs.size o) ρ σ h':=by
  obtain ⟨x',m',cm',y'⟩:=OkE.news x y F N fun p hp => .tail _ hp
  have hn:=(N _ (.head _)).1
  have e:=ext_frzAt (ρ:=ρ) (n:=σ.length) (o:=o) x.newB
  refine ⟨⟨fun a o' q=>e.frz _ _ (x'.base a o' q),fun a o' q=>?_,fun a o' f q=>⟨?_,(x'.prv a o' f q).2⟩,fun i c q=>?_,x'.inj,x'.abv⟩,m',cm',(y'.ext e ?_ y'.frL.2.2 fun z c q=>?_)⟩
  · unfold frzAt at q; split at q
    · rename_i z; cases q; rw [z]; exact hn
    · exact x'.frz _ _ q
  · unfold frzAt; split
    · rename_i z; rw [z,x.newP] at q; cases q
    · exact (x'.prv a o' f q).1
  · obtain ⟨a1,a2,a3⟩:=x'.cell i c q
    have hi:i < σ.length:=(List.getElem?_eq_some_iff.mp q).1
    refine ⟨?_,a2,a3.ext e⟩
    unfold frzAt; rw [if_neg (Nat.ne_of_lt (x.cellLt hi))]; exact a1
  · unfold frzAt; rw [if_neg (Nat.ne_of_lt y.ns.lt)]; exact y.frL.1
  · unfold frzAt; split
    · rename_i w
      exact absurd (y.cell z c q).1.lt (by rw [w]; exact Nat.lt_irrefl _)
    · exact (y.cell z c q).2
theorem sm (i:Int) (h:small i=true) : -(2 ^ 30) < i∧i < 2 ^ 30:=by unfold small at h; simpa using h
theorem txt_of {P:Params} {B:Frz} {ρ:Nat→Addr} {n m:Nat} {v:Value} {l:LV} (d:Den P B ρ n v l) (h:txtL l=some m):∃ x t,v = .str x t∧x.length≤m:=by
  unfold txtL at h
  split at h
  · cases h; cases d; rename_i hx; exact ⟨_,_,rfl,nm_short hx⟩
  · cases h; cases d; rename_i hx; exact ⟨_,_,rfl,hx⟩
  · cases h
theorem bin_says {op:BOp} {pop:Operator} {A:Around} {env:Env} {Pv:Prv} {vars:Loc} {B:Frz} {ρ:Nat→Addr} {σ:Sto} {s:Shared} {a b:Value} {x y:LV}
    (hop:(op = .add∧pop = .Add)∨(op = .sub∧pop = .Sub)∨(op = .mul∧pop = .Mult)∨(op = .mod∧pop = .Mod)) (o:OkE w.params hb env Pv vars B ρ σ s.heap)
    (da:Den w.params B ρ σ.length a x) (db:Den w.params B ρ σ.length b y):Says prog w hb (DV w) A env Pv vars B ρ σ s (binaryOp pop a b) (lift (binL op x y) σ):=fun Q E h=>by
  unfold binL at h
  split at h
  · split at h
    · cases da; cases db
      obtain ⟨_,rfl⟩:BOp.add = .add∧pop = .Add:=by rcases hop with z | z | z | z <;> (first | exact z | cases z.1)
      exact PyProof.Rows.add_int (EP.val' h .refl o ⟨rfl,rfl⟩ (.int _ _))
    · exact h.elim
  · split at h
    · cases da; cases db
      obtain ⟨_,rfl⟩:BOp.sub = .sub∧pop = .Sub:=by rcases hop with z | z | z | z <;> (first | exact z | cases z.1)
      exact sub_int' (EP.val' h .refl o ⟨rfl,rfl⟩ (.int _ _))
    · exact h.elim
  · split at h
    · rename_i hs
      cases da; cases db
      obtain ⟨_,rfl⟩:BOp.mul = .mul∧pop = .Mult:=by rcases hop with z | z | z | z <;> (first | exact z | cases z.1)
      obtain ⟨h1,h2⟩:=Bool.and_eq_true_iff.mp hs
      have h1:=sm _ h1
      have h2:=sm _ h2
      exact PyProof.Rows.mul_int (EP.val' h .refl o ⟨rfl,rfl⟩ (.int _ _)) (by mul_fits)
    · exact h.elim
  · split at h
    · rename_i hs
      cases da; cases db
      obtain ⟨_,rfl⟩:BOp.mod = .mod∧pop = .Mod:=by rcases hop with z | z | z | z <;> (first | exact z | cases z.1)
      have h1:=of_decide_eq_true (Bool.and_eq_true_iff.mp hs).1
      exact mod_int' (by omega) (EP.val' h .refl o ⟨rfl,rfl⟩ (by rw [Int.fmod_eq_emod_of_nonneg _ (by omega)]; exact .int _ _))
    · exact h.elim
  · split at h
    · rename_i hs
      obtain ⟨_,rfl⟩:BOp.add = .add∧pop = .Add:=by rcases hop with z | z | z | z <;> (first | exact z | cases z.1)
      obtain ⟨st,m,cm,lc⟩:=o
      cases da; rename_i a1 vs k b1 r1
      cases db; rename_i a2 us k' b2 r2
      have g1:s.heap.IsList a1 vs.toArray:=⟨_,st.frz _ _ b1,rfl,_,rfl⟩
      have g2:s.heap.IsList a2 us.toArray:=⟨_,st.frz _ _ b2,rfl,_,rfl⟩
      refine add_lists (emp_fr lc.ns) full_news g1 g2 (fun h' F N=>?_) (by rw [r1.length,r2.length]; have:=sizeLine_eq; unfold most at hs; omega)
      have o':=OkE.newsF st lc F N
      have e':Ext B ρ σ.length (frzAt B s.heap.objs.size (lstO (vs++us) 0)) ρ σ.length:=ext_frzAt st.newB
      exact EP.val' h e' o' ⟨rfl,rfl⟩ (.lst (frzAt_self _ _) ((r1.app r2).ext e'))
    · exact h.elim
  · split at h
    · rename_i h1 h2
      split at h
      · rename_i hs
        obtain ⟨_,rfl⟩:BOp.add = .add∧pop = .Add:=by rcases hop with z | z | z | z <;> (first | exact z | cases z.1)
        obtain ⟨x1,t1,rfl,l1⟩:=txt_of da h1
        obtain ⟨x2,t2,rfl,l2⟩:=txt_of db h2
        refine PyProof.Rows.add_str (fun t' tk=>EP.val' h .refl o ⟨rfl,rfl⟩ (.txt _ ?_)) (by have:=sizeLine_eq; unfold txtMost at hs; omega)
        rw [Str.length_append]; omega
      · exact h.elim
    · exact h.elim
  · exact h.elim
theorem SE_bin {op:BOp} {pop:Operator} {a b:PySem.Expr} {ma mb:ME} {pos} (hop:(op = .add∧pop = .Add)∨(op = .sub∧pop = .Sub)∨(op = .mul∧pop = .Mult)∨(op = .mod∧pop = .Mod))
    (h1:SE prog w hb T N sc a ma) (h2:SE prog w hb T N sc b mb):SE prog w hb T N sc (.BinOp a pop b pos) (.bin op ma mb):=fun A env Pv vars B ρ σ s cx o Q E h=>by
  unfold evalM at h
  refine wpAny_BinOp (h1 A env Pv vars B ρ σ s cx o _ _ (EP.bind h fun x σ₁ v B₁ ρ₁ s₁ _ e₁ o₁ t₁ d₁ h₁=>?_))
  refine h2 A env Pv vars B₁ ρ₁ σ₁ s₁ cx o₁ _ _ (EP.bind h₁ fun y σ₂ u B₂ ρ₂ s₂ _ e₂ o₂ t₂ d₂ h₂=>?_)
  exact bin_says hop o₂ (d₁.ext e₂) d₂ Q E h₂
end
end Mine
namespace Mine
open PySem PySem.Calls PySem.W PyProof.Rows PySem.SeqAt
mutual
def py:LV→PyData
  | .none => .none
  | .bool b => .bool b
  | .int i => .int i
  | .str c => .str ((nm c).getD Str.empty)
  | .tup xs => .tuple (pys xs)
  | .lst xs => .list (pys xs)
  | _ => .none
def pys:List LV→List PyData
  | []=>[]
  | x::r=>py x::pys r
end
mutual
def okN:LV→Bool
  | .str c=>(nm c).isSome
  | .tup xs=>okNs xs
  | .lst xs=>okNs xs
  | _=>true
def okNs:List LV→Bool
  | []=>true
  | x::r=>okN x && okNs r
end
section
variable {P:Params} {B:Frz} {ρ:Nat→Addr} {n:Nat} {h:Heap}
mutual
theorem Den.okN:∀ {v l},Den P B ρ n v l→okN l=true
  | _,_,.none=>rfl
  | _,_,.bool _=>rfl
  | _,_,.int _ _=>rfl
  | _,_,.str _ h=>by unfold Mine.okN; rw [h]; rfl
  | _,_,.txt _ _=>rfl
  | _,_,.tup _ r=>by unfold Mine.okN; exact r.okN
  | _,_,.lst _ r=>by unfold Mine.okN; exact r.okN
  | _,_,.dct _ _ _=>rfl
  | _,_,.cell _=>rfl
  | _,_,.obj _ _ _=>rfl
  | _,_,.any _=>rfl
theorem DenAll.okN:∀ {vs ls},DenAll P B ρ n vs ls→okNs ls=true
  | _,_,.nil=>rfl
  | _,_,.cons d r=>by unfold okNs; rw [d.okN,r.okN]; rfl
end
mutual
theorem Den.reads (k:∀ a o,B a=some o→h.get? a=some o):∀ {v l},Den P B ρ n v l→dataL l=true→∃ as,Reads h v (py l) as
  | _,_,.none,_=>⟨_,by unfold py; exact .none⟩
  | _,_,.bool b,_=>⟨_,by unfold py; exact .bool b⟩
  | _,_,.int i t,_=>⟨_,by unfold py; exact .int i t⟩
  | _,_,.str t hx,_=>⟨_,by unfold py; rw [hx]; exact .str _ t⟩
  | _,_,.tup hb r,hd=>by
    unfold dataL at hd
    obtain ⟨as,q⟩:=r.reads k hd
    exact ⟨_,by unfold py; exact reads_tuple_at (k _ _ hb) rfl rfl (by simpa using q)⟩
  | _,_,.lst hb r,hd=>by
    unfold dataL at hd
    obtain ⟨as,q⟩:=r.reads k hd
    exact ⟨_,by unfold py; exact reads_list_at (k _ _ hb) rfl rfl (by simpa using q)⟩
  | _,_,.txt _ _,hd=>by cases hd
  | _,_,.dct _ _ _,hd=>by cases hd
  | _,_,.cell _,hd=>by cases hd
  | _,_,.obj _ _ _,hd=>by cases hd
  | _,_,.any _,hd=>by cases hd
theorem DenAll.reads (k:∀ a o,B a=some o→h.get? a=some o):∀ {vs ls},DenAll P B ρ n vs ls→dataLs ls=true→∃ as,ReadsAll h vs (pys ls) as
  | _,_,.nil,_=>⟨_,by unfold pys; exact .nil⟩
  | _,_,.cons d r,hd=>by
    unfold dataLs at hd
    obtain ⟨h1,h2⟩:=Bool.and_eq_true_iff.mp hd
    obtain ⟨as,q⟩:=d.reads k h1
    obtain ⟨bs,q'⟩:=r.reads k h2
    exact ⟨_,by unfold pys; exact .cons q q'⟩
end
theorem names_ok:(nameList.map Str.ofString).all PyData.strOk=true:=by decide +kernel
theorem nm_ok {c:Nat} {x:Str} (h:nm c=some x):PyData.strOk x=true:=by
  rw [nm_get] at h
  exact List.all_eq_true.mp names_ok x (List.mem_of_getElem? h)
mutual
theorem py_lay:∀ l,okN l=true→(py l).canLay0=true
  | .none,_ | .bool _,_ | .int _,_=>rfl
  | .str c,h=>by
    unfold okN at h
    obtain ⟨x,hx⟩:=Option.isSome_iff_exists.mp h
    unfold py PyData.canLay0; rw [hx]; exact nm_ok hx
  | .tup xs,h=>by unfold okN at h; unfold py PyData.canLay0; exact pys_lay xs h
  | .lst xs,h=>by unfold okN at h; unfold py PyData.canLay0; exact pys_lay xs h
  | .txt _,_ | .dct _,_ | .cell _,_ | .obj _ _,_ | .any,_=>rfl
theorem pys_lay:∀ ls,okNs ls=true→PyData.canLayAll0 (pys ls)=true
  | [],_=>rfl
  | x::r,h=>by
    unfold okNs at h
    obtain ⟨h1,h2⟩:=Bool.and_eq_true_iff.mp h
    unfold pys PyData.canLayAll0; rw [py_lay x h1,pys_lay r h2]; rfl
end
mutual
theorem py_depth:∀ (n:Nat) l,flat n l=true→(py l).depth≤n
  | n,.none,_ | n,.bool _,_ | n,.int _,_ | n,.str _,_ | n,.txt _,_ | n,.dct _,_ | n,.cell _,_ | n,.obj _ _,_ | n,.any,_=>by unfold py; simp [PyData.depth]
  | 0,.tup _,h=>by simp [flat] at h
  | 0,.lst _,h=>by simp [flat] at h
  | n + 1,.tup xs,h=>by unfold flat at h; unfold py PyData.depth; exact Nat.succ_le_succ (pys_depth n xs h)
  | n + 1,.lst xs,h=>by unfold flat at h; unfold py PyData.depth; exact Nat.succ_le_succ (pys_depth n xs h)
theorem pys_depth:∀ (n:Nat) ls,flats n ls=true→PyData.depthAll (pys ls)≤n
  | _,[],_=>by unfold pys; simp [PyData.depthAll]
  | n,x::r,h=>by
    unfold flats at h
    obtain ⟨h1,h2⟩:=Bool.and_eq_true_iff.mp h
    unfold pys PyData.depthAll
    exact Nat.max_le.mpr ⟨py_depth n x h1,pys_depth n r h2⟩
end
mutual
theorem py_eqv:∀ a b,okN a=true→okN b=true→dataL a=true→dataL b=true→PyData.eqv (py a) (py b)=eqB a b
  | .none,b,_,_,_,hb=>by cases b <;> first | rfl | cases hb
  | .bool _,b,_,_,_,hb=>by cases b <;> first | rfl | cases hb
  | .int _,b,_,_,_,hb=>by cases b <;> first | rfl | cases hb
  | .str c,b,ha,hb',_,hb=>by
    cases b with
    | str d =>
      unfold okN at ha hb'
      obtain ⟨x,hx⟩:=Option.isSome_iff_exists.mp ha
      obtain ⟨y,hy⟩:=Option.isSome_iff_exists.mp hb'
      unfold py eqB PyData.eqv
      rw [hx,hy]
      show (x == y)=(c == d)
      by_cases q:c=d
      · subst q; rw [hx] at hy; cases hy; simp
      · have:x≠y:=fun z=>q (nm_inj hx (z ▸ hy))
        rw [beq_eq_false_iff_ne.mpr this,beq_eq_false_iff_ne.mpr q]
    | _=>first | rfl | cases hb
  | .tup xs,b,ha,hb',hda,hb=>by
    cases b with
    | tup ys =>
      unfold okN at ha hb'; unfold dataL at hda hb
      unfold py eqB PyData.eqv
      exact pys_eqv xs ys ha hb' hda hb
    | _=>first | rfl | cases hb
  | .lst xs,b,ha,hb',hda,hb=>by
    cases b with
    | lst ys =>
      unfold okN at ha hb'; unfold dataL at hda hb
      unfold py eqB PyData.eqv
      exact pys_eqv xs ys ha hb' hda hb
    | _=>first | rfl | cases hb
  | .txt _,_,_,_,h,_ | .dct _,_,_,_,h,_ | .cell _,_,_,_,h,_ | .obj _ _,_,_,_,h,_ | .any,_,_,_,h,_=>by cases h
theorem pys_eqv:∀ a b,okNs a=true→okNs b=true→dataLs a=true→dataLs b=true→PyData.eqvAll (pys a) (pys b)=eqBs a b
  | [],[],_,_,_,_=>rfl
  | [],_::_,_,_,_,_=>rfl
  | _::_,[],_,_,_,_=>rfl
  | x::r,y::t,ha,hb,hda,hdb=>by
    unfold okNs at ha hb; unfold dataLs at hda hdb
    obtain ⟨a1,a2⟩:=Bool.and_eq_true_iff.mp ha
    obtain ⟨b1,b2⟩:=Bool.and_eq_true_iff.mp hb
    obtain ⟨c1,c2⟩:=Bool.and_eq_true_iff.mp hda
    obtain ⟨d1,d2⟩:=Bool.and_eq_true_iff.mp hdb
    unfold pys eqBs PyData.eqvAll
    rw [py_eqv x y a1 b1 c1 d1,pys_eqv r t a2 b2 c2 d2]
end
end
section
variable {P:Params} {B:Frz} {ρ:Nat→Addr} {n:Nat}
theorem nm_eq {c d:Nat} {x y:Str} (hx:nm c=some x) (hy:nm d=some y):(x == y)=(c == d):=by
  by_cases q:c=d
  · subst q; rw [hx] at hy; cases hy; simp
  · have:x≠y:=fun z=>q (nm_inj hx (z ▸ hy))
    rw [beq_eq_false_iff_ne.mpr this,beq_eq_false_iff_ne.mpr q]
theorem DenEs.find:∀ {es:List DictEntry} {ps:List (Nat × LV)},DenEs P B ρ n es ps→∀ {c:Nat} {x:Str},nm c=some x →
    match lookA c ps with
    | some l=>∃ v,(es.find? (·.key.isStr x)).map (·.val)=some v∧Den P B ρ n v l
    | none=>es.find? (·.key.isStr x)=none
  | _,_,.nil,_,_,_=>rfl
  | _,_,.cons (c:=c') (x:=x') (t:=t') hc d r,c,x,hx=>by
    have e:((Value.str x' t').isStr x)=(c' == c):=nm_eq hc hx
    unfold lookA
    rw [List.find?_cons]
    dsimp only
    rw [e]
    by_cases q:c' = c
    · rw [if_pos q,show (c' == c)=true from by simp [q]]
      exact ⟨_,rfl,d⟩
    · rw [if_neg q,show (c' == c)=false from by simp [q]]
      exact r.find hx
theorem DenEs.noRef:∀ {es:List DictEntry} {ps:List (Nat × LV)},DenEs P B ρ n es ps→es.any (·.refKey)=false
  | _,_,.nil=>rfl
  | _,_,.cons _ _ r=>by rw [List.any_cons,r.noRef]; rfl
theorem DenEs.getL {es:List DictEntry} {ps:List (Nat × LV)} (d:DenEs P B ρ n es ps) {c:Nat} {x:Str} (hx:nm c=some x) :
    match lookA c ps with
    | some l=>∃ v,PySem.W.getL x es=some (some v)∧Den P B ρ n v l
    | none=>PySem.W.getL x es=some none:=by
  have:=d.find hx
  cases q:lookA c ps with
  | some l =>
    rw [q] at this
    obtain ⟨v,hv,dv⟩:=this
    refine ⟨v,?_,dv⟩
    unfold PySem.W.getL
    cases z:es.find? (·.key.isStr x) with
    | none=>rw [z] at hv; cases hv
    | some e=>rw [z] at hv; cases hv; rfl
  | none =>
    rw [q] at this
    unfold PySem.W.getL
    have this:es.find? (·.key.isStr x)=none:=this
    rw [this,d.noRef]; rfl
theorem DenEs.put:∀ {es:List DictEntry} {ps:List (Nat × LV)},DenEs P B ρ n es ps→∀ {c:Nat} {x:Str} {v:Value} {l:LV} (t:Tok),nm c=some x→Den P B ρ n v l →
    DenEs P B ρ n (putL x (PyData.keyHash P x) (.str x t) v es) (putA c l ps)
  | _,_,.nil,_,_,_,_,t,hx,d => .cons hx d .nil
  | _,_,.cons (c:=c') (x:=x') (t:=t') (v:=v') (es:=es') hc d' r,c,x,v,l,t,hx,d=>by
    unfold putA putL
    have e:((Value.str x' t').isStr x)=(c' == c):=nm_eq hc hx
    by_cases q:c' = c
    · rw [if_pos q,if_pos (show (Value.str x' t').isStr x=true from e.trans (by simp [q]))]
      exact .cons hc d r
    · rw [if_neg q,if_neg (show ¬ (Value.str x' t').isStr x=true from by rw [e]; simp [q])]
      exact .cons hc d' (r.put t hx d)
theorem DenEs.putLen (c:Nat) (l:LV):∀ ps:List (Nat × LV),(putA c l ps).length≤ps.length + 1
  | []=>Nat.le_refl _
  | (a,u)::r=>by
    unfold putA
    split
    · exact Nat.le_succ _
    · exact Nat.succ_le_succ (putLen c l r)
theorem DenEs.keys (prog:Program) (w:World):∀ {es:List DictEntry} {ps:List (Nat × LV)},DenEs w.params B ρ n es ps→∀ e∈es,∃ x t,e.key = .str x t∧e.hash=PyData.keyHash w.params x
  | _,_,.cons _ _ _,_,.head _=>⟨_,_,rfl,rfl⟩
  | _,_,.cons _ _ r,_,.tail _ m=>r.keys prog w _ m
theorem DenEs.keysOf {prog:Program} {w:World} {es:List DictEntry} {ps:List (Nat × LV)} (d:DenEs w.params B ρ n es ps):KeysOf (strKind prog w) es.toArray:=fun e he=>by
  obtain ⟨x,t,e1,e2⟩:=d.keys prog w e (by simpa using he)
  exact ⟨x,by rw [e1]; exact strKind_is prog w x t,e2⟩
theorem DenEs.mapOf {prog:Program} {w:World} {h:Heap} {a k:Nat} {es:List DictEntry} {ps:List (Nat × LV)} (d:DenEs w.params B ρ n es ps) (hg:h.get? a=some (dictOf es k)) :
    h.MapOf (strKind prog w) a (fun x=>(es.find? (·.key.isStr x)).map (·.val)) :=
  ⟨_,es.toArray,k,hg,⟨rfl,rfl,rfl⟩,rfl,d.keysOf,fun x=>by
    unfold findBy
    rw [List.find?_toArray]
    congr 2
    funext e
    exact (isStr_of x e.key).symm⟩
end
section
variable {prog:Program} {w:World} {hb:Heap} {T:Tab} {N:Nat} {sc:Scope} {A:Around} {E:Value→Shared→Prop} {s:Shared} {B:Frz} {Pv:Prv} {ρ:Nat→Addr} {σ:Sto} {env:Env} {vars:Loc}
theorem notMod {P:Params} (st:St P hb B Pv ρ σ s.heap) {i:Nat} (hi:i < σ.length):(ρ i == sysModules)=false :=
  beq_eq_false_iff_ne.mpr (Nat.ne_of_gt (Nat.lt_of_lt_of_le (by decide) (st.abv.2 i hi)))
theorem dictSet_den {d k:Nat} {es:List DictEntry} {ps:List (Nat × LV)} {c:Nat} {x:Str} {t:Tok} {v:Value} {l:LV} {Q:Unit→Shared→Prop} (hg:s.heap.get? d=some (dictOf es k)) (D:DenEs w.params B ρ σ.length es ps) (hx:nm c=some x)
    (dv:Den w.params B ρ σ.length v l) (hz:ps.length < most)
    (h:∀ h' es' k',(∀ b,b≠d→h'.get? b=s.heap.get? b)→h'.get? d=some (dictOf es' k')→DenEs w.params B ρ σ.length es' (putA c l ps)→Q () { s with heap:=h',toks:=s.toks + 1 }) :
    wpAny (model prog w) A (dictSet d (.str x t) v) Q E s:=by
  have hl:=D.length
  have hD:=D.put t hx dv
  have hput:=putL_find x (PyData.keyHash w.params x) (.str x t) v es
  unfold dictSet
  try with_reducible refine wpAny_holding ?_
  refine wpAny_bind ((strKind prog w).pyHash (strKind_is prog w x t) ?_)
  unfold dictSetHashed
  try with_reducible refine wpAny_holding ?_
  refine wpAny_bind (wpAny_dictFind_of (s:={ s with toks:=s.toks + 1 }) (strKind_is prog w x t) hg rfl D.keysOf ?_)
  have hidx:(es.toArray.findIdx? fun e=>(strKind prog w).is x e.key)=es.findIdx? fun e=>e.key.isStr x:=by
    rw [List.findIdx?_toArray]; congr 1; funext e; exact (isStr_of x e.key).symm
  rw [hidx]
  cases hi:es.findIdx? fun e=>e.key.isStr x with
  | some i =>
    rw [hi] at hput
    refine wpAny_bind (wpAny_rule (wpAny_bind (wpAny_updateDict (s:={ s with toks:=s.toks + 1 }) hg rfl (wpAny_point ?_) (by simp))))
    refine h _ (es.modify i fun e=>⟨e.hash,e.key,v⟩) k (fun b hb=>Heap.get?_update_other _ _ (Ne.symm hb)) ?_ (by rw [← hput] at hD; exact hD)
    have:=Heap.get?_update_self (Obj.mapDict (·.modify i fun e=>{ e with val:=v })) hg rfl
    rw [this]
    simp [Obj.mapDict,dictOf]
  | none =>
    rw [hi] at hput
    refine wpAny_bind (wpAny_rule (wpAny_updateDictKeys (s:={ s with toks:=s.toks + 1 }) hg rfl ?_ (by rw [List.size_toArray,sizeLine_eq]; unfold most at hz; omega) (by simp)))
    refine h _ (es++[⟨PyData.keyHash w.params x,.str x t,v⟩]) (k + 1) (fun b hb=>Heap.get?_update_other _ _ (Ne.symm hb)) ?_ (by rw [← hput] at hD; exact hD)
    have:=Heap.get?_update_self (Obj.mapDictKeys (·.push ⟨hashStr w x,.str x t,v⟩)) hg rfl
    rw [show ((strKind prog w).hash x)=hashStr w x from rfl,this]
    simp only [Obj.mapDictKeys,dictOf,List.push_toArray]
    rfl
theorem setItem_den {d k:Nat} {es:List DictEntry} {ps:List (Nat × LV)} {c:Nat} {x:Str} {t:Tok} {v:Value} {l:LV} {Q:Unit→Shared→Prop} (hg:s.heap.get? d=some (dictOf es k)) (D:DenEs w.params B ρ σ.length es ps) (hx:nm c=some x)
    (dv:Den w.params B ρ σ.length v l) (hz:ps.length < most)
    (h:∀ h' es' k',(∀ b,b≠d→h'.get? b=s.heap.get? b)→h'.get? d=some (dictOf es' k')→DenEs w.params B ρ σ.length es' (putA c l ps)→Q () { s with heap:=h',toks:=s.toks + 1 }) :
    wpAny (model prog w) A (setItem (.ref d) (.str x t) v) Q E s:=by
  have hm:=D.mapOf (prog:=prog) hg
  unfold setItem
  try with_reducible refine wpAny_holding ?_
  refine wpAny_bind (wpAny_sequenceKey hm.typeIs (by decide) ?_)
  refine wpAny_bind (wpAny_callSpecial?_slot (name:=Str.ofString "__setitem__") hm.typeIs slot_dict_setitem
    (wpAny_call_entry slot_dict_setitem hm.typeIs entry_dict_setitem ?_ (args_dict_setitem _ _ _)))
  show wpAny _ _ (Builtin.Dict.notOrdered "__setitem__" ⟨[.ref d,.str x t,v],[]⟩ >>= _) _ _ s
  refine wpAny_bind (wpAny_notOrdered_dict hm.typeIs ?_)
  show wpAny _ _ (dictSet d (.str x t) v >>= _) _ _ s
  exact wpAny_bind (dictSet_den hg D hx dv hz fun h' es' k' a b c=>wpAny_pure ⟨.none,rfl,wpAny_pure (h h' es' k' a b c)⟩)
end
end Mine
namespace Mine
open PySem PySem.Calls PySem.W PyProof.Rows PySem.SeqAt
section
variable {prog:Program} {w:World} {hb:Heap} {T:Tab} {N:Nat} {sc:Scope} {A:Around} {E:Value→Shared→Prop} {s:Shared} {B:Frz} {Pv:Prv} {ρ:Nat→Addr} {σ:Sto} {env:Env} {vars:Loc}
theorem cell_dict {P:Params} {h:Heap} (st:St P hb B Pv ρ σ h) {i:Nat} {ps:List (Nat × LV)} (hc:σ[i]? = some (.dict ps)):∃ es k,h.get? (ρ i)=some (dictOf es k)∧DenEs P B ρ σ.length es ps:=(st.cell i _ hc).2.2
theorem cell_list {P:Params} {h:Heap} (st:St P hb B Pv ρ σ h) {i:Nat} {xs:List LV} (hc:σ[i]? = some (.list xs)):∃ vs k,h.get? (ρ i)=some (lstO vs k)∧DenAll P B ρ σ.length vs xs:=(st.cell i _ hc).2.2
theorem lt_cell {σ:Sto} {i:Nat} {c:Cell} (hc:σ[i]? = some c):i < σ.length:=(List.getElem?_eq_some_iff.mp hc).1
theorem eq_says {a b:Value} {x y:LV} {r:Bool} {Q:Value→Shared→Prop} {P:Params} (k:∀ a o,B a=some o→s.heap.get? a=some o) (da:Den P B ρ n a x) (db:Den P B ρ n b y) (h:eqL x y=some r) (hu:A.units + 200≤cLine) (hq:Q (.bool r) s) :
    wpAny (model prog w) A (compareOp .Eq a b) Q E s:=by
  unfold eqL at h
  split at h
  · rename_i hc
    simp only [Bool.and_eq_true,Bool.or_eq_true] at hc
    obtain ⟨⟨h1,h2⟩,h3⟩:=hc
    cases h
    obtain ⟨as,ra⟩:=da.reads k h1
    obtain ⟨bs,rb⟩:=db.reads k h2
    refine compareEq_reads ra rb (py_lay _ da.okN) (py_lay _ db.okN) ?_ (by rw [py_eqv _ _ da.okN db.okN h1 h2]; exact hq)
    have:min (py x).depth (py y).depth≤8:=h3.elim (fun z=>Nat.le_trans (Nat.min_le_left _ _) (py_depth 8 x z)) fun z=>Nat.le_trans (Nat.min_le_right _ _) (py_depth 8 y z)
    omega
  · cases h
theorem ne_says {a b:Value} {x y:LV} {r:Bool} {Q:Value→Shared→Prop} {P:Params} (k:∀ a o,B a=some o→s.heap.get? a=some o) (da:Den P B ρ n a x) (db:Den P B ρ n b y) (h:eqL x y=some r) (hu:A.units + 200≤cLine) (hq:Q (.bool (!r)) s) :
    wpAny (model prog w) A (compareOp .NotEq a b) Q E s:=by
  unfold eqL at h
  split at h
  · rename_i hc
    simp only [Bool.and_eq_true,Bool.or_eq_true] at hc
    obtain ⟨⟨h1,h2⟩,h3⟩:=hc
    cases h
    obtain ⟨as,ra⟩:=da.reads k h1
    obtain ⟨bs,rb⟩:=db.reads k h2
    refine compareNe_reads ra rb (py_lay _ da.okN) (py_lay _ db.okN) ?_ (by rw [py_eqv _ _ da.okN db.okN h1 h2]; exact hq)
    have:min (py x).depth (py y).depth≤8:=h3.elim (fun z=>Nat.le_trans (Nat.min_le_left _ _) (py_depth 8 x z)) fun z=>Nat.le_trans (Nat.min_le_right _ _) (py_depth 8 y z)
    omega
  · cases h
theorem any_eqv {x:LV} (hx:okN x=true) (hd:dataL x=true):∀ ys:List LV,okNs ys=true→dataLs ys=true→((pys ys).any fun y=>PyData.eqv y (py x))=ys.any fun y=>eqB y x
  | [],_,_=>rfl
  | y::r,h1,h2=>by
    unfold okNs at h1; unfold dataLs at h2
    obtain ⟨a1,a2⟩:=Bool.and_eq_true_iff.mp h1
    obtain ⟨b1,b2⟩:=Bool.and_eq_true_iff.mp h2
    unfold pys
    rw [List.any_cons,List.any_cons,py_eqv y x a1 hx b1 hd,any_eqv hx hd r a2 b2]
theorem inTup_says {c a:Value} {x:LV} {xs:List LV} {r:Bool} {Q:Value→Shared→Prop} {P:Params} (k:∀ a o,B a=some o→s.heap.get? a=some o) (da:Den P B ρ n a x) (dc:Den P B ρ n c (.tup xs)) (h:inLs x xs=some r) (hu:A.units + 200≤cLine)
    (hq:Q (.bool r) s):wpAny (model prog w) A (compareOp .In a c) Q E s:=by
  unfold inLs at h
  split at h
  · rename_i hc
    simp only [Bool.and_eq_true] at hc
    obtain ⟨⟨h1,h2⟩,h3⟩:=hc
    cases h
    obtain ⟨as,ra⟩:=da.reads k h1
    obtain ⟨bs,rb⟩:=dc.reads k (by unfold dataL; exact h2)
    have ok:=dc.okN
    unfold okN at ok
    unfold py at rb
    have hdep:=py_depth 8 x h3
    exact in_tuple_reads rb ra (pys_lay _ ok) (py_lay _ da.okN) (by have:=Nat.min_le_right (PyData.depthAll (pys xs)) (py x).depth; omega) (by rw [any_eqv da.okN h1 xs ok h2]; exact hq)
  · cases h
theorem notInTup_says {c a:Value} {x:LV} {xs:List LV} {r:Bool} {Q:Value→Shared→Prop} {P:Params} (k:∀ a o,B a=some o→s.heap.get? a=some o) (da:Den P B ρ n a x) (dc:Den P B ρ n c (.tup xs)) (h:inLs x xs=some r) (hu:A.units + 200≤cLine)
    (hq:Q (.bool (!r)) s):wpAny (model prog w) A (compareOp .NotIn a c) Q E s:=by
  unfold inLs at h
  split at h
  · rename_i hc
    simp only [Bool.and_eq_true] at hc
    obtain ⟨⟨h1,h2⟩,h3⟩:=hc
    cases h
    obtain ⟨as,ra⟩:=da.reads k h1
    obtain ⟨bs,rb⟩:=dc.reads k (by unfold dataL; exact h2)
    have ok:=dc.okN
    unfold okN at ok
    unfold py at rb
    have hdep:=py_depth 8 x h3
    exact notIn_tuple_reads rb ra (pys_lay _ ok) (py_lay _ da.okN) (by have:=Nat.min_le_right (PyData.depthAll (pys xs)) (py x).depth; omega) (by rw [any_eqv da.okN h1 xs ok h2]; exact hq)
  · cases h
theorem inLst_says {c:Addr} {a:Value} {vs:List Value} {m:Nat} {x:LV} {xs:List LV} {r:Bool} {Q:Value→Shared→Prop} {P:Params} (k:∀ a o,B a=some o→s.heap.get? a=some o) (da:Den P B ρ n a x) (hg:s.heap.get? c=some (lstO vs m)) (dc:DenAll P B ρ n vs xs)
    (h:inLs x xs=some r) (hu:A.units + 200≤cLine) (hq:Q (.bool r) s):wpAny (model prog w) A (compareOp .In a (.ref c)) Q E s:=by
  unfold inLs at h
  split at h
  · rename_i hc
    simp only [Bool.and_eq_true] at hc
    obtain ⟨⟨h1,h2⟩,h3⟩:=hc
    cases h
    obtain ⟨as,ra⟩:=da.reads k h1
    obtain ⟨bs,rb⟩:=dc.reads k h2
    have ok:=dc.okN
    have hdep:=py_depth 8 x h3
    exact in_list_reads (reads_list_at hg rfl rfl (by simpa using rb)) ra (pys_lay _ ok) (py_lay _ da.okN) (by have:=Nat.min_le_right (PyData.depthAll (pys xs)) (py x).depth; omega) (by rw [any_eqv da.okN h1 xs ok h2]; exact hq)
  · cases h
theorem inDict_says {d k:Nat} {es:List DictEntry} {ps:List (Nat × LV)} {c:Nat} {a:Value} {Q:Value→Shared→Prop} (da:Den w.params B ρ n a (.str c)) (hg:s.heap.get? d=some (dictOf es k)) (D:DenEs w.params B ρ n es ps) (hd:(d == sysModules)=false)
    (hq:∀ tk,Q (.bool (lookA c ps).isSome) { s with toks:=tk }):wpAny (model prog w) A (compareOp .In a (.ref d)) Q E s:=by
  cases da
  rename_i x t hx
  refine wpAny_in_of (strKind_is prog w x t) hd (D.mapOf hg) ?_
  have:=D.find hx
  cases q:lookA c ps with
  | some l =>
    rw [q] at this
    obtain ⟨v,hv,_⟩:=this
    rw [hv]
    rw [q] at hq
    exact hq _
  | none =>
    rw [q] at this
    have this:es.find? (·.key.isStr x)=none:=this
    rw [this]
    rw [q] at hq
    exact hq _
def opC:COp→CmpOp
  | .eq => .Eq | .ne => .NotEq | .lt => .Lt | .gt => .Gt | .is => .Is | .isnot => .IsNot | .isin => .In
theorem none_of {P:Params} {v:Value} {l:LV} {r:Bool} (d:Den P B ρ n v l) (h:noneL l=some r):(v == Value.none)=r:=by
  cases d <;> first | (cases h; done) | (cases h; rfl) | (cases h; simp)
theorem cmp_says {op:COp} {a b:Value} {x y:LV} (o:OkE w.params hb env Pv vars B ρ σ s.heap) (da:Den w.params B ρ σ.length a x) (db:Den w.params B ρ σ.length b y) (hu:A.units + 200≤cLine) :
    Says prog w hb (DV w) A env Pv vars B ρ σ s (compareOp (opC op) a b) (lift ((cmpL σ op x y).map .bool) σ):=fun Q E h=>by
  have fin:∀ {r:Bool},cmpL σ op x y=some r→∀ tk,Q (.bool r) { s with toks:=tk }:=fun {r} e tk=>by
    rw [e] at h
    exact EP.val' (b:=Value.bool r) h .refl o ⟨rfl,rfl⟩ (.bool r)
  have fin':∀ {r:Bool},cmpL σ op x y=some r→Q (.bool r) s:=fun e=>fin e s.toks
  have no:∀ {p:Prop},cmpL σ op x y=none→p:=fun e=>by rw [e] at h; exact h.elim
  clear h
  have k:=o.1.frz
  cases hr:cmpL σ op x y with
  | none=>exact no hr
  | some r =>
    unfold cmpL at hr
    split at hr
    · exact eq_says k da db hr hu (fin' (by unfold cmpL; exact hr))
    · obtain ⟨r',h1,h2⟩:=Option.map_eq_some_iff.mp hr
      subst h2
      exact ne_says k da db h1 hu (fin' (by unfold cmpL; exact hr))
    · cases hr; cases da; cases db
      exact PyProof.Rows.lt_int (fin' (by unfold cmpL; rfl))
    · cases hr; cases da; cases db
      exact PyProof.Rows.gt_int (fin' (by unfold cmpL; rfl))
    · cases db
      refine is_none_gen ?_
      rw [none_of da hr]; exact fin' (by unfold cmpL; exact hr)
    · obtain ⟨r',h1,h2⟩:=Option.map_eq_some_iff.mp hr
      subst h2
      cases db
      refine isnot_none_gen ?_
      rw [none_of da h1]; exact fin' (by unfold cmpL; exact hr)
    · have hr0:=hr
      unfold isinL at hr
      split at hr
      · exact inTup_says k da db hr hu (fin' (by unfold cmpL; exact hr0))
      · cases db
        rename_i hb' r'
        exact inLst_says k da (k _ _ hb') r' hr hu (fin' (by unfold cmpL; exact hr0))
      · cases hr
        cases db
        rename_i hm hb' r'
        exact inDict_says da (k _ _ hb') r' hm (fin (by unfold cmpL; exact hr0))
      · cases db
        rename_i i _ hi
        split at hr
        · rename_i ps c hc
          cases hr
          obtain ⟨es,kk,hg,D⟩:=cell_dict o.1 hc
          exact inDict_says da hg D (notMod o.1 hi) (fin (by unfold cmpL; exact hr0))
        · rename_i xs hc
          obtain ⟨vs,kk,hg,D⟩:=cell_list o.1 hc
          exact inLst_says k da hg D hr hu (fin' (by unfold cmpL; exact hr0))
        · cases hr
      · cases hr
    · cases hr
def notSet:PySem.Expr→Bool
  | .Set .. => false
  | _=>true
theorem marks_of {op:CmpOp} {e:PySem.Expr} (h:notSet e=true):behindInMarks op e=false:=by cases e <;> first | rfl | cases h
theorem Cx.u {A:Around} {env:Env} {Pv:Prv} (cx:Cx T A env sc Pv N):A.units + 200≤cLine:=by have:=cx.uni; omega
theorem SE_cmp {op:COp} {a b:PySem.Expr} {ma mb:ME} {pos} (h1:SE prog w hb T N sc a ma) (h2:SE prog w hb T N sc b mb) (hs:notSet b=true):SE prog w hb T N sc (.Compare a [opC op] [b] pos) (.cmp op ma mb):=fun A env Pv vars B ρ σ s cx o Q E h=>by
  unfold evalM at h
  refine wpAny_Compare1 (h1 A env Pv vars B ρ σ s cx o _ _ (EP.bind h fun x σ₁ v B₁ ρ₁ s₁ _ e₁ o₁ t₁ d₁ h₁=>?_)) (marks_of hs)
  refine h2 A env Pv vars B₁ ρ₁ σ₁ s₁ cx o₁ _ _ (EP.bind h₁ fun y σ₂ u B₂ ρ₂ s₂ _ e₂ o₂ t₂ d₂ h₂=>?_)
  exact cmp_says o₂ (d₁.ext e₂) d₂ cx.u Q E h₂
theorem SB_cmp {op:COp} {a b:PySem.Expr} {ma mb:ME} {pos} (h1:SE prog w hb T N sc a ma) (h2:SE prog w hb T N sc b mb) (hs:notSet b=true):SB prog w hb T N sc (.Compare a [opC op] [b] pos) (.cmp op ma mb):=fun A env Pv vars B ρ σ s cx o Q E h=>by
  unfold evalM truthR at h
  have e1:∀ (r:R LV) (f:LV→Sto→R LV) (g:LV→Sto→R Bool),bindR (bindR r f) g=bindR r fun v σ=>bindR (f v σ) g:=fun r f g=>by
    match r with
    | none=>rfl
    | some (.exc i,σ)=>rfl
    | some (.val v,σ)=>rfl
  rw [e1] at h
  refine wpAny_isTrue_Compare1 (h1 A env Pv vars B ρ σ s cx o _ _ (EP.bind h fun x σ₁ v B₁ ρ₁ s₁ _ e₁ o₁ t₁ d₁ h₁=>?_)) (marks_of hs)
  rw [e1] at h₁
  refine h2 A env Pv vars B₁ ρ₁ σ₁ s₁ cx o₁ _ _ (EP.bind h₁ fun y σ₂ u B₂ ρ₂ s₂ _ e₂ o₂ t₂ d₂ h₂=>?_)
  refine cmp_says o₂ (d₁.ext e₂) d₂ cx.u _ _ (EP.bind h₂ fun z σ₃ c B₃ ρ₃ s₃ _ e₃ o₃ t₃ d₃ h₃=>?_)
  obtain ⟨c',rfl,hz⟩:=onB_cases (p:=fun r=>EP _ _ _ _ _ _ _ r _ _) h₃ id
  exact truthy_den d₃ (EP.val hz o₃ rfl)
theorem idx_seq {n:Nat} {k:Int} {j:Nat} (h:idx n k=some j):seqIndex? k n=some j ∧ -(2 ^ 63)≤k∧k < 2 ^ 63:=by
  unfold idx at h
  split at h
  · rename_i hs
    obtain ⟨s1,s2⟩:=sm k hs
    refine ⟨?_,by omega,by omega⟩
    unfold seqIndex?
    split at h
    · rename_i h0
      split at h
      · rename_i h1
        cases h
        rw [if_neg (show ¬ k < 0 from by omega)]
        dsimp only
        rw [if_pos (by simp; omega)]
      · cases h
    · rename_i h0
      split at h
      · rename_i h1
        cases h
        rw [if_pos (show k < 0 from by omega)]
        dsimp only
        rw [if_pos (by simp; omega)]
      · cases h
  · cases h
theorem getItem_lst {l:Addr} {vs:List Value} {m:Nat} {k:Int} {u:Tok} {j:Nat} {v:Value} {Q:Value→Shared→Prop} (hg:s.heap.get? l=some (lstO vs m)) (hj:idx vs.length k=some j) (hx:vs[j]? = some v) (h:Q v s) :
    wpAny (model prog w) A (getItem (.ref l) (.int k u)) Q E s:=by
  have hl:s.heap.IsList l vs.toArray:=⟨_,hg,rfl,_,rfl⟩
  unfold idx at hj
  split at hj
  · rename_i hs
    obtain ⟨s1,s2⟩:=sm k hs
    split at hj
    · split at hj
      · cases hj
        exact wpAny_getItem_list hl (by omega) (by omega) (by simpa using hx) h
      · cases hj
    · split at hj
      · cases hj
        exact wpAny_getItem_list_neg hl (by omega) (by simp; omega) (by omega) (by simpa using hx) h
      · cases hj
  · cases hj
def notSlice:PySem.Expr→Bool
  | .Slice .. => false
  | _=>true
theorem sub_plain {slice:PySem.Expr} {o i:Value} (h:notSlice slice=true):subscripted slice false o i=operate [o,i] (getItem o i):=by cases slice <;> first | rfl | cases h
theorem get_of_idx {P:Params} {vs:List Value} {xs:List LV} {k:Int} {l:LV} (D:DenAll P B ρ n vs xs) (h:(idx xs.length k).bind (xs[·]?)=some l):∃ j v,idx vs.length k=some j∧vs[j]? = some v∧Den P B ρ n v l:=by
  rw [← D.length] at h
  obtain ⟨j,h1,h2⟩:=Option.bind_eq_some_iff.mp h
  obtain ⟨v,h3,h4⟩:=D.get h2
  exact ⟨j,v,h1,h3,h4⟩
theorem sub_says {value slice:PySem.Expr} {a b:Value} {x y:LV} (hs:notSlice slice=true) (o:OkE w.params hb env Pv vars B ρ σ s.heap) (da:Den w.params B ρ σ.length a x) (db:Den w.params B ρ σ.length b y) :
    Says prog w hb (DV w) A env Pv vars B ρ σ s (subscriptTail value slice a b) (lift (subL σ x y) σ):=fun Q E h=>by
  cases hr:subL σ x y with
  | none=>rw [hr] at h; exact h.elim
  | some r =>
    rw [hr] at h
    have fin:∀ v tk,Den w.params B ρ σ.length v r→Q v { s with toks:=tk }:=fun v tk d=>EP.val' (b:=v) h .refl o ⟨rfl,rfl⟩ d
    have fin':∀ v,Den w.params B ρ σ.length v r→Q v s:=fun v d=>fin v s.toks d
    have k:=o.1.frz
    have dic:∀ {d kk:Nat} {es:List DictEntry} {ps:List (Nat × LV)} {c:Nat},s.heap.get? d=some (dictOf es kk)→DenEs w.params B ρ σ.length es ps→Den w.params B ρ σ.length b (.str c)→lookA c ps=some r→wpAny (model prog w) A (subscriptTail value slice (.ref d) b) Q E s:=by
      intro d kk es ps c hg D db hl
      cases db
      rename_i x' t hx
      have:=D.find hx
      rw [hl] at this
      obtain ⟨v,hv,dv⟩:=this
      have hm:=D.mapOf (prog:=prog) hg
      exact tail_any hm.typeIs slot_dict_getitem.lookup (wpAny_getItem_of (strKind_is prog w x' t) hm hv (fin v _ dv)) (sub_plain hs)
    have lst:∀ {d kk:Nat} {vs:List Value} {xs:List LV} {i:Int},s.heap.get? d=some (lstO vs kk)→DenAll w.params B ρ σ.length vs xs→Den w.params B ρ σ.length b (.int i)→(idx xs.length i).bind (xs[·]?)=some r→wpAny (model prog w) A (subscriptTail value slice (.ref d) b) Q E s:=by
      intro d kk vs xs i hg D db hl
      cases db
      obtain ⟨j,v,h1,h2,h3⟩:=get_of_idx D hl
      have hL:s.heap.IsList d vs.toArray:=⟨_,hg,rfl,_,rfl⟩
      exact tail_any hL.typeIs slot_list_getitem.lookup (getItem_lst hg h1 h2 (fin' v h3)) (sub_plain hs)
    clear h
    unfold subL at hr
    split at hr
    · cases da
      rename_i hb' D
      cases db
      obtain ⟨j,v,h1,h2,h3⟩:=get_of_idx D hr
      obtain ⟨q1,q2,q3⟩:=idx_seq h1
      exact item_tupleT ⟨_,k _ _ hb',rfl,_,rfl⟩ q2 q3 q1 h2 (fin' v h3) (sub_plain hs)
    · cases da
      rename_i hb' D
      exact lst (k _ _ hb') D db hr
    · cases da
      rename_i hm hb' D
      exact dic (k _ _ hb') D db hr
    · cases da
      rename_i hi
      split at hr
      · rename_i ps hc
        obtain ⟨es,kk,hg,D⟩:=cell_dict o.1 hc
        exact dic hg D db hr
      · cases hr
    · cases da
      rename_i hi
      split at hr
      · rename_i xs hc
        obtain ⟨vs,kk,hg,D⟩:=cell_list o.1 hc
        exact lst hg D db hr
      · cases hr
    · cases hr
theorem SE_sub {a b:PySem.Expr} {ma mb:ME} {pos} (h1:SE prog w hb T N sc a ma) (h2:SE prog w hb T N sc b mb) (hs:notSlice b=true):SE prog w hb T N sc (.Subscript a b pos) (.sub ma mb):=fun A env Pv vars B ρ σ s cx o Q E h=>by
  unfold evalM at h
  refine Subscript_ (h1 A env Pv vars B ρ σ s cx o _ _ (EP.bind h fun x σ₁ v B₁ ρ₁ s₁ _ e₁ o₁ t₁ d₁ h₁=>?_))
  refine h2 A env Pv vars B₁ ρ₁ σ₁ s₁ cx o₁ _ _ (EP.bind h₁ fun y σ₂ u B₂ ρ₂ s₂ _ e₂ o₂ t₂ d₂ h₂=>?_)
  exact sub_says hs o₂ (d₁.ext e₂) d₂ Q E h₂
end
end Mine
namespace Mine
open PySem PySem.Calls PySem.W PyProof.Rows PySem.SeqAt
section
variable {P:Params} {hb h h':Heap} {B:Frz} {Pv:Prv} {ρ:Nat→Addr} {σ:Sto} {env:Env} {vars:Loc}
theorem St.addF (x:St P hb B Pv ρ σ h) {o:Obj} (k:∀ b o,h.get? b=some o→h'.get? b=some o) (hD:h'.get? h.objs.size=some o):St P hb (frzAt B h.objs.size o) Pv ρ σ h':=by
  have x':=x.keep k
  have e:=ext_frzAt (ρ:=ρ) (n:=σ.length) (o:=o) x.newB
  refine ⟨fun a o' q=>e.frz _ _ (x'.base a o' q),fun a o' q=>?_,fun a o' f q=>⟨?_,(x'.prv a o' f q).2⟩,fun i c q=>?_,x'.inj,x'.abv⟩
  · unfold frzAt at q; split at q
    · rename_i z; cases q; rw [z]; exact hD
    · exact x'.frz _ _ q
  · unfold frzAt; split
    · rename_i z; rw [z,x.newP] at q; cases q
    · exact (x'.prv a o' f q).1
  · obtain ⟨a1,a2,a3⟩:=x'.cell i c q
    have hi:i < σ.length:=(List.getElem?_eq_some_iff.mp q).1
    refine ⟨?_,a2,a3.ext e⟩
    unfold frzAt; rw [if_neg (Nat.ne_of_lt (x.cellLt hi))]; exact a1
theorem OkE.addF (x:OkE P hb env Pv vars B ρ σ h) {o:Obj} (k:∀ b o,h.get? b=some o→h'.get? b=some o) (hD:h'.get? h.objs.size=some o):OkE P hb env Pv vars (frzAt B h.objs.size o) ρ σ h':=by
  obtain ⟨st,m,cm,y⟩:=x
  have y':=y.keep k
  refine ⟨st.addF k hD,m,cm,y'.ext (ext_frzAt st.newB) ?_ y'.frL.2.2 fun z c q=>?_⟩
  · unfold frzAt; rw [if_neg (Nat.ne_of_lt y.ns.lt)]; exact y.frL.1
  · unfold frzAt; rw [if_neg (Nat.ne_of_lt (y.cell z c q).1.lt)]; exact (y.cell z c q).2
theorem OkE.addC (x:OkE P hb env Pv vars B ρ σ h) (c:Cell) (k:∀ b o,h.get? b=some o→h'.get? b=some o) (hc:CellAt P B ρ σ.length h' h.objs.size c) :
    OkE P hb env Pv vars B (rhoAt ρ σ.length h.objs.size) (σ++[c]) h':=by
  obtain ⟨st,m,cm,y⟩:=x
  have st':=st.keep k
  have hl:(σ++[c]).length=σ.length + 1:=by simp
  have e:=ext_rhoAt (B:=B) (ρ:=ρ) (n:=σ.length) (a:=h.objs.size)
  refine ⟨⟨st'.base,st'.frz,st'.prv,fun i c' q=>?_,fun i j hi hj q=>?_,st'.abv.1,fun i hi=>?_⟩,m,cm,?_⟩
  · rw [hl]
    by_cases hi:i < σ.length
    · rw [List.getElem?_append_left hi] at q
      obtain ⟨a1,a2,a3⟩:=st'.cell i c' q
      rw [e.rho i hi]
      exact ⟨a1,a2,a3.ext e⟩
    · have hi':i=σ.length:=by
        have:=(List.getElem?_eq_some_iff.mp q).1; rw [hl] at this; omega
      subst hi'
      simp at q; subst q
      have hr:rhoAt ρ σ.length h.objs.size σ.length=h.objs.size:=by unfold rhoAt; rw [if_pos rfl]
      rw [hr]
      exact ⟨st.newB,st.newP,hc.ext e⟩
  · rw [hl] at hi hj
    unfold rhoAt at q
    by_cases h1:i=σ.length
    · by_cases h2:j=σ.length
      · rw [h1,h2]
      · rw [if_pos h1,if_neg h2] at q
        have h3:=st.cellLt (show j < σ.length by omega)
        rw [← q] at h3
        exact absurd h3 (Nat.lt_irrefl _)
    · by_cases h2:j=σ.length
      · rw [if_neg h1,if_pos h2] at q
        have h3:=st.cellLt (show i < σ.length by omega)
        rw [q] at h3
        exact absurd h3 (Nat.lt_irrefl _)
      · rw [if_neg h1,if_neg h2] at q
        exact st.inj i j (by omega) (by omega) q
  · rw [hl] at hi
    unfold rhoAt; split
    · obtain ⟨o',h3⟩:=Option.isSome_iff_exists.mp st.abv.1
      exact Heap.lt_size (st.frz _ _ (st.base _ _ h3))
    · exact st.abv.2 i (by omega)
  · have y':=y.keep k
    rw [hl]
    refine y'.ext ext_rhoAt y'.frL.1 (fun i hi=>?_) fun z c q=>(y'.cell z c q).2
    unfold rhoAt; split
    · exact Nat.ne_of_gt y.ns.lt
    · exact y.frL.2.2 i (by omega)
theorem den_new {c:Cell} {a:Addr}:Den P B (rhoAt ρ σ.length a) (σ++[c]).length (.ref a) (.cell σ.length):=by
  have:=Den.cell (P:=P) (B:=B) (ρ:=rhoAt ρ σ.length a) (n:=(σ++[c]).length) (i:=σ.length) (by simp)
  rwa [show rhoAt ρ σ.length a σ.length=a from by unfold rhoAt; rw [if_pos rfl]] at this
end
section
variable {prog:Program} {w:World} {hb:Heap} {T:Tab} {N:Nat} {sc:Scope} {K:Frag} {mg mb:Str→Option Value}
structure BN (K:Frag) (sc:Scope) (x:Str) (v:Value):Prop where
  sc:sc.names.lookup x=some .globalImplicit
  no:nsIn K mainGlobals x=some none
  yes:bootBuiltins x=some v
  ne:x ≠ "__name__"
  dbg:(x == ("__debug__" : Str))=false
theorem star1 {e:PySem.Expr} {env:Env} {pos:Pos} (hs:isStarred e=false):backTo pos (starEach [e] env)=[(false,eval e env)]:=by cases e <;> first | rfl | cases hs
theorem call_b1 {A:Around} {E:Value→Shared→Prop} {s:Shared} {env:Env} {Pv:Prv} {vars:Loc} {B:Frz} {ρ:Nat→Addr} {σ:Sto} {x:Str} {f:Value} {e:PySem.Expr} {np pos:Pos} {Q:Value→Shared→Prop}
    (G:Gd w hb K mg mb) (cx:Cx T A env sc Pv N) (o:OkE w.params hb env Pv vars B ρ σ s.heap) (n:BN K sc x f) (hf:(∃ id,f = .builtin id)∨∃ t,f = .type t) (hs:isStarred e=false)
    (h:wpAny (model prog w) A (eval e env) (fun v s₁=>wpAny (model prog w) A (call f [v]) Q E s₁) E s):wpAny (model prog w) A (eval (.Call (.Name x np) [e] [] pos) env) Q E s:=by
  refine Call_ (globBuiltin G cx o.1 n.sc n.no n.yes n.ne n.dbg ?_)
  rw [star1 hs]
  rcases hf with ⟨id,rfl⟩ | ⟨t,rfl⟩
  · refine callWith_builtin rfl (evalArgs_plain (spliced_cons (wpAny_mono h (fun v s₁ h₁=>spliced_nil h₁) fun _ _ z=>z)))
  · refine PyProof.Rows.callWith_type rfl (evalArgs_plain (spliced_cons (wpAny_mono h (fun v s₁ h₁=>spliced_nil h₁) fun _ _ z=>z)))
theorem len_fit {n:Nat} (h:n < most):(n:Int) < 2 ^ 63:=by unfold most at h; omega
theorem SE_len {e:PySem.Expr} {me:ME} {x:Str} {np pos} (G:Gd w hb K mg mb) (n:BN K sc x (.builtin "len")) (h1:SE prog w hb T N sc e me) (hs:isStarred e=false):SE prog w hb T N sc (.Call (.Name x np) [e] [] pos) (.len me) :=
  fun A env Pv vars B ρ σ s cx o Q E h=>by
  unfold evalM at h
  refine call_b1 G cx o n (.inl ⟨_,rfl⟩) hs (h1 A env Pv vars B ρ σ s cx o _ _ (EP.bind h fun a σ₁ v B₁ ρ₁ s₁ _ e₁ o₁ t₁ d₁ h₁=>?_))
  cases hl:lenL σ₁ a with
  | none=>rw [hl] at h₁; exact h₁.elim
  | some m =>
    rw [hl] at h₁
    have fin:∀ tk tk',Q (.int m tk) { s₁ with toks:=tk' }:=fun tk tk' => EP.val' (b:=Value.int m tk) h₁ .refl o₁ ⟨rfl,rfl⟩ (.int _ _)
    unfold lenL at hl
    split at hl
    · split at hl
      · rename_i hm; cases hl
        cases d₁; rename_i hb' D
        rw [← D.length] at fin hm
        have:=PyProof.Rows.len_tuple (prog:=prog) (w:=w) (A:=A) (E:=E) (s:=s₁) (t:=_) (Q:=Q) ⟨_,o₁.1.frz _ _ hb',rfl,_,rfl⟩ (by simpa using len_fit hm) (by simpa using fin _ _)
        exact this
      · cases hl
    · split at hl
      · rename_i hm; cases hl
        cases d₁; rename_i hb' D
        rw [← D.length] at fin hm
        exact PyProof.Rows.len_list ⟨_,o₁.1.frz _ _ hb',rfl,_,rfl⟩ (by simpa using len_fit hm) (by simpa using fin _ _)
      · cases hl
    · split at hl
      · rename_i xs hc
        split at hl
        · rename_i hm; cases hl
          cases d₁
          obtain ⟨vs,kk,hg,D⟩:=cell_list o₁.1 hc
          rw [← D.length] at fin hm
          exact PyProof.Rows.len_list ⟨_,hg,rfl,_,rfl⟩ (by simpa using len_fit hm) (by simpa using fin _ _)
        · cases hl
      · cases hl
    · cases hl
theorem most_size {n:Nat} (h:n < most):n≤sizeLine:=by rw [sizeLine_eq]; unfold most at h; omega
theorem SE_tupOf {e:PySem.Expr} {me:ME} {x:Str} {np pos} (G:Gd w hb K mg mb) (n:BN K sc x (.type "tuple")) (h1:SE prog w hb T N sc e me) (hs:isStarred e=false):SE prog w hb T N sc (.Call (.Name x np) [e] [] pos) (.tupOf me) :=
  fun A env Pv vars B ρ σ s cx o Q E h=>by
  unfold evalM at h
  refine call_b1 G cx o n (.inr ⟨_,rfl⟩) hs (h1 A env Pv vars B ρ σ s cx o _ _ (EP.bind h fun a σ₁ v B₁ ρ₁ s₁ _ e₁ o₁ t₁ d₁ h₁=>?_))
  split at h₁
  · split at h₁
    · rename_i xs hm
      cases d₁; rename_i vs k hb' D
      have hz:vs.length≤sizeLine:=by rw [D.length]; exact most_size hm
      refine call_tuple_list ⟨_,o₁.1.frz _ _ hb',rfl,_,rfl⟩ (fun h' hk=>?_) (by rw [List.size_toArray]; exact hz)
      have o₂:=(o₁.keep hk).pushF (tupO vs 0)
      have e₂:Ext B₁ ρ₁ σ₁.length (frzAt B₁ h'.objs.size (tupO vs 0)) ρ₁ σ₁.length:=ext_frzAt (o₁.keep hk).1.newB
      exact EP.val' h₁ e₂ o₂ ⟨rfl,rfl⟩ (.tup (frzAt_self _ _) (D.ext e₂))
    · exact h₁.elim
  · exact h₁.elim
theorem SE_lstOf {e:PySem.Expr} {me:ME} {x:Str} {np pos} (G:Gd w hb K mg mb) (n:BN K sc x (.type "list")) (h1:SE prog w hb T N sc e me) (hs:isStarred e=false):SE prog w hb T N sc (.Call (.Name x np) [e] [] pos) (.lstOf me) :=
  fun A env Pv vars B ρ σ s cx o Q E h=>by
  unfold evalM at h
  refine call_b1 G cx o n (.inr ⟨_,rfl⟩) hs (h1 A env Pv vars B ρ σ s cx o _ _ (EP.bind h fun a σ₁ v B₁ ρ₁ s₁ _ e₁ o₁ t₁ d₁ h₁=>?_))
  split at h₁
  · split at h₁
    · rename_i xs hm
      cases d₁; rename_i vs k hb' D
      have hz:vs.length≤sizeLine:=by rw [D.length]; exact most_size hm
      refine call_list_seq _ (.inl rfl) (o₁.1.frz _ _ hb') rfl rfl (fun h' c' hk hD=>?_) (by rw [List.size_toArray]; exact hz)
      have o₂:=o₁.addF hk hD
      have e₂:Ext B₁ ρ₁ σ₁.length (frzAt B₁ s₁.heap.objs.size (lstO vs c')) ρ₁ σ₁.length:=ext_frzAt o₁.1.newB
      exact EP.val' h₁ e₂ o₂ ⟨rfl,rfl⟩ (.lst (frzAt_self _ _) (D.ext e₂))
    · exact h₁.elim
  · exact h₁.elim
theorem SE_mlstOf {e:PySem.Expr} {me:ME} {x:Str} {np pos} (G:Gd w hb K mg mb) (n:BN K sc x (.type "list")) (h1:SE prog w hb T N sc e me) (hs:isStarred e=false):SE prog w hb T N sc (.Call (.Name x np) [e] [] pos) (.mlstOf me) :=
  fun A env Pv vars B ρ σ s cx o Q E h=>by
  unfold evalM at h
  refine call_b1 G cx o n (.inr ⟨_,rfl⟩) hs (h1 A env Pv vars B ρ σ s cx o _ _ (EP.bind h fun a σ₁ v B₁ ρ₁ s₁ _ e₁ o₁ t₁ d₁ h₁=>?_))
  have go:∀ {T':String} {it:Addr} {ob:Obj} {vs:List Value} {xs:List LV} {m:Nat},(T' = "list" ∨ T' = "tuple")→s₁.heap.get? it=some ob→ob.cls = .type T' → ob.data = .seq vs.toArray m→DenAll w.params B₁ ρ₁ σ₁.length vs xs→xs.length < most →
      EP (OkE w.params hb env Pv vars) Pv (DV w) B₁ ρ₁ σ₁ s₁ (some (.val (.cell σ₁.length),σ₁++[.list xs])) Q E→wpAny (model prog w) A (call (.type "list") [.ref it]) Q E s₁:=by
    intro T' it ob vs xs m hT hg hc hd D hm h₂
    have hz:vs.length≤sizeLine:=by rw [D.length]; exact most_size hm
    refine call_list_seq it hT hg hc hd (fun h' c' hk hD=>?_) (by rw [List.size_toArray]; exact hz)
    have o₂:=o₁.addC (.list xs) hk ⟨vs,c',hD,D⟩
    exact EP.val' h₂ extApp o₂ ⟨rfl,rfl⟩ den_new
  split at h₁
  · rename_i xs hi
    split at h₁
    · rename_i hm
      unfold itemsL at hi
      split at hi
      · cases hi; cases d₁; rename_i hb' D
        exact go (.inr rfl) (o₁.1.frz _ _ hb') rfl rfl D hm h₁
      · cases hi; cases d₁; rename_i hb' D
        exact go (.inl rfl) (o₁.1.frz _ _ hb') rfl rfl D hm h₁
      · split at hi
        · rename_i hc
          cases hi; cases d₁
          obtain ⟨vs,kk,hg,D⟩:=cell_list o₁.1 hc
          exact go (.inl rfl) hg rfl rfl D hm h₁
        · cases hi
      · cases hi
    · exact h₁.elim
  · exact h₁.elim
theorem SE_slice {e:PySem.Expr} {me:ME} {n:Nat} {k kp p pos} (h1:SE prog w hb T N sc e me) (ht:∀ o r,letTemporaryGo e o r=pure ()):SE prog w hb T N sc (.Subscript e (.Slice none (some (.Constant (.int n) k kp)) none p) pos) (.slice me n) :=
  fun A env Pv vars B ρ σ s cx o Q E h=>by
  unfold evalM at h
  refine wpAny_Subscript_list_slice (h1 A env Pv vars B ρ σ s cx o _ _ (EP.bind h fun a σ₁ v B₁ ρ₁ s₁ _ e₁ o₁ t₁ d₁ h₁=>?_)) ht
  split at h₁
  · split at h₁
    · rename_i xs hm
      cases d₁; rename_i a1 vs k' hb' D
      rw [evalPart_none,evalPart_some]
      refine wpAny_pure (wpAny_Constant_int ?_)
      have hz:vs.length≤sizeLine:=by rw [D.length]; exact most_size hm
      refine ⟨a1,vs.toArray,none,some (n:Int),rfl,⟨_,o₁.1.frz _ _ hb',rfl,_,rfl⟩,by rw [List.size_toArray]; exact hz,.none,.int _ _,?_⟩
      rw [slicePick_upto']
      have o₂:=(o₁.push { cls:=.type "slice",data:=.fields #[.none,.int n s₁.toks,.none] }).pushF (lstO (vs.take n) 0)
      rw [Heap.size_push] at o₂
      have e₂:Ext B₁ ρ₁ σ₁.length (frzAt B₁ (s₁.heap.objs.size + 1) (lstO (vs.take n) 0)) ρ₁ σ₁.length:=by
        have:=(o₁.push { cls:=.type "slice",data:=.fields #[.none,.int n s₁.toks,.none] }).1.newB
        rw [Heap.size_push] at this
        exact ext_frzAt this
      exact EP.val' h₁ e₂ o₂ ⟨rfl,rfl⟩ (.lst (frzAt_self _ _) ((D.take n).ext e₂))
    · exact h₁.elim
  · exact h₁.elim
def plainBase:PySem.Expr→Bool
  | .Name .. | .Attribute .. | .Subscript .. => true
  | _=>false
theorem base_of {o:PySem.Expr} {x:Str} {env:Env} (h:plainBase o=true):attributeBase o x env (eval o env)=eval o env:=by cases o <;> first | rfl | cases h
theorem SE_append {e e₂:PySem.Expr} {me me₂:ME} {x:Str} {apos pos:Pos} (h1:SE prog w hb T N sc e me) (h2:SE prog w hb T N sc e₂ me₂) (hx:x = "append") (hp:plainBase e=true) (hs:isStarred e₂=false) (hl:(apos.endLine == pos.line)=true) :
    SE prog w hb T N sc (.Call (.Attribute e x apos) [e₂] [] pos) (.append me me₂):=fun A env Pv vars B ρ σ s cx o Q E h=>by
  unfold evalM at h
  subst hx
  refine wpAny_Call_method_lateS (base_of hp) (by rw [star1 hs]; rfl) hl (h1 A env Pv vars B ρ σ s cx o _ _ (EP.bind h fun a σ₁ v B₁ ρ₁ s₁ _ e₁ o₁ t₁ d₁ h₁=>?_))
  rw [star1 hs]
  split at h₁
  · rename_i i _
    split at h₁
    · rename_i xs0 hc
      cases d₁; rename_i hi
      obtain ⟨vs,kk,hg,D⟩:=cell_list o₁.1 hc
      refine ⟨"list",_,PySem.F.plainAttrs_list,PySem.F.slot_list_append,PySem.F.type_list_append,⟨_,hg,rfl⟩,fun b e=>(by cases e; exact ⟨_,hg,rfl⟩),?_⟩
      refine P.append_list (h2 A env Pv vars B₁ ρ₁ σ₁ s₁ cx o₁ _ _ (EP.bind h₁ fun y σ₂ u B₂ ρ₂ s₂ _ e₂ o₂ t₂ d₂ h₂=>?_))
      split at h₂
      · rename_i xs hc₂
        split at h₂
        · rename_i hm
          obtain ⟨vs₂,k₂,hg₂,D₂⟩:=cell_list o₂.1 hc₂
          rw [e₂.rho i hi] at hg₂
          have hi₂:=Nat.lt_of_lt_of_le hi e₂.le
          refine ⟨vs₂.toArray,k₂,by rw [List.size_toArray,D₂.length]; exact most_size hm,hg₂,?_⟩
          have o₃:=o₂.setC (h':=s₂.heap.update (ρ₁ i) (Obj.mapSeq fun xs=>xs.push u)) hi₂ (.list (xs++[y])) (fun b hb=>Heap.get?_update_other _ _ (by rw [e₂.rho i hi] at hb; exact Ne.symm hb)) ⟨vs₂++[u],k₂ + 1,by
            rw [e₂.rho i hi,Heap.get?_update_self _ hg₂ (by rw [mapSeq_push]; rfl),mapSeq_push]; simp,D₂.app (.cons d₂ .nil)⟩
          exact EP.val' h₂ extSet o₃ ⟨rfl,rfl⟩ .none
        · exact h₂.elim
      · exact h₂.elim
    · exact h₁.elim
  · exact h₁.elim
theorem DenAll.last {P:Params} {B:Frz} {ρ:Nat→Addr} {n:Nat}:∀ {vs:List Value} {ls:List LV},DenAll P B ρ n vs ls→∀ {l:LV},ls.getLast? = some l →
    ∃ us u,vs=us++[u]∧DenAll P B ρ n us ls.dropLast∧Den P B ρ n u l
  | _,_,.nil,_,h=>by cases h
  | _,_,.cons (v:=v) d .nil,_,h=>by
    simp at h; subst h
    exact ⟨[],v,rfl,.nil,d⟩
  | _,_,.cons (v:=v) d (.cons d' r'),_,h=>by
    obtain ⟨us,u,e,a,b⟩:=DenAll.last (.cons d' r') (by simpa [List.getLast?_cons_cons] using h)
    exact ⟨v::us,u,by rw [e]; rfl,.cons d a,b⟩
theorem SE_pop {e:PySem.Expr} {me:ME} {x:Str} {apos pos:Pos} (h1:SE prog w hb T N sc e me) (hx:x = "pop") (hp:plainBase e=true) (hl:(apos.endLine == pos.line)=true) :
    SE prog w hb T N sc (.Call (.Attribute e x apos) [] [] pos) (.pop me):=fun A env Pv vars B ρ σ s cx o Q E h=>by
  unfold evalM at h
  subst hx
  refine Call_method0 (base_of hp) hl (h1 A env Pv vars B ρ σ s cx o _ _ (EP.bind h fun a σ₁ v B₁ ρ₁ s₁ _ e₁ o₁ t₁ d₁ h₁=>?_))
  split at h₁
  · rename_i i _
    split at h₁
    · rename_i xs hc
      split at h₁
      · rename_i y hy
        split at h₁
        · rename_i hm
          cases d₁; rename_i hi
          obtain ⟨vs,kk,hg,D⟩:=cell_list o₁.1 hc
          obtain ⟨us,u,rfl,D',d'⟩:=D.last hy
          refine ⟨"list",_,PySem.F.plainAttrs_list,PySem.F.slot_list_pop,PySem.F.type_list_pop,⟨_,hg,rfl⟩,fun b e=>(by cases e; exact ⟨_,hg,rfl⟩),?_⟩
          have hk:(us++[u]).toArray.size - 1=us.length:=by rw [List.size_toArray,List.length_append]; rfl
          refine P.pop_list hg (y:=u) (by rw [hk]; simp) ?_ (by rw [List.size_toArray,D.length]; exact most_size hm)
          have q:=PySem.IsL.update hg (fun xs=>xs.eraseIdxIfInBounds ((us++[u]).toArray.size - 1))
          have ke:=kl_erase us [] u
          rw [List.append_nil] at ke
          have e0:(us++[u]).toArray.eraseIdxIfInBounds ((us++[u]).toArray.size - 1)=us.toArray:=by rw [hk]; exact ke
          have o₃:=o₁.setC (h':=s₁.heap.update (ρ₁ i) (Obj.mapSeq fun xs=>xs.eraseIdxIfInBounds ((us++[u]).toArray.size - 1))) hi (.list xs.dropLast) (fun b hb=>Heap.get?_update_other _ _ (Ne.symm hb)) ⟨us,_,by rw [e0] at q; exact q,D'⟩
          exact EP.val' h₁ extSet o₃ ⟨rfl,rfl⟩ (by unfold DV; rw [List.length_set]; exact d')
        · exact h₁.elim
      · exact h₁.elim
    · exact h₁.elim
  · exact h₁.elim
end
end Mine
namespace Mine
open PySem PySem.Calls PySem.W PyProof.Rows PySem.SeqAt
def PLe (Pv Pv':Prv):Prop := ∀ a x,Pv a=some x→Pv' a=some x
def prvAt (Pv:Prv) (d:Addr) (o:Obj) (f:Bool):Prv:=fun b=>if b=d then some (o,f) else Pv b
theorem prvAt_le {Pv:Prv} {d:Addr} {o:Obj} {f:Bool} (h:Pv d=none):PLe Pv (prvAt Pv d o f):=fun a x e=>by
  unfold prvAt; split
  · rename_i q; rw [q,h] at e; cases e
  · exact e
theorem prvAt_self {Pv:Prv} {d:Addr} {o:Obj} {f:Bool}:prvAt Pv d o f d=some (o,f):=by unfold prvAt; rw [if_pos rfl]
theorem prvAt_ne {Pv:Prv} {d b:Addr} {o:Obj} {f:Bool} (h:b≠d):prvAt Pv d o f b=Pv b:=by unfold prvAt; rw [if_neg h]
theorem PLe.none {Pv Pv':Prv} (x:PLe Pv Pv') {a:Addr} (h:Pv' a=none):Pv a=none:=by
  cases q:Pv a with
  | none=>rfl
  | some y=>rw [x a y q] at h; cases h
theorem FrameOf.up {A:Around} {env:Env} {Pv Pv':Prv} (x:PLe Pv Pv') (F:FrameOf A env Pv):FrameOf A env Pv':=by
  obtain ⟨fe,outer,L,h1,h2,h3,h4,h5,h6⟩:=F
  refine ⟨fe,outer,L,h1,h2,h3,h4,h5.imp id fun ⟨o,a,b⟩=>⟨o,x _ _ a,b⟩,fun e' he=>?_⟩
  obtain ⟨a,L',o,b,c,d⟩:=h6 e' he
  exact ⟨a,L',o,b,x _ _ c,d⟩
theorem Xc.down {B:Frz} {Pv Pv':Prv} {h:Heap} {ev:Value} {i:Int} {b:Bool} (x:PLe Pv Pv') (X:Xc B Pv' h ev i b):Xc B Pv h ev i b:=by
  obtain ⟨a,d,oe,vs,es,k,X,t⟩:=X
  refine ⟨a,d,oe,vs,es,k,⟨X.isRef,X.get,X.cls,X.dict,X.data,X.size,X.freshB,x.none X.freshP,X.dic,X.spot⟩,t.imp id ?_⟩
  rintro ⟨T,oT,ts,a1,a2,a3,r⟩
  exact ⟨T,oT,ts,a1,a2,x.none a3,r⟩
theorem Cx.up {T:Tab} {A:Around} {env:Env} {sc:Scope} {Pv Pv':Prv} {N:Nat} (x:PLe Pv Pv') (c:Cx T A env sc Pv N):Cx T A env sc Pv' N:={ c with frm:=c.frm.up x }
structure Own (B:Frz) (Pv:Prv) (ρ:Nat→Addr) (n:Nat) (env:Env) (d:Addr):Prop where
  b:B d=none
  p:Pv d=none
  r:∀ i,i < n→ρ i≠d
  l:d≠env.locals
  c:∀ x c,env.cells.lookup x=some c→c≠d
section
variable {P:Params} {hb h h':Heap} {B:Frz} {Pv:Prv} {ρ:Nat→Addr} {σ:Sto} {env:Env} {vars:Loc} {d:Addr} {o:Obj} {f:Bool} {m cm:Str→Option Value}
theorem OkE.fresh (x:OkE P hb env Pv vars B ρ σ h):Own B Pv ρ σ.length env h.objs.size:=by
  obtain ⟨st,m,cm,y⟩:=x
  exact ⟨st.newB,st.newP,fun i hi=>Nat.ne_of_lt (st.cellLt hi),Nat.ne_of_gt y.ns.lt,fun z c q=>Nat.ne_of_lt (y.cell z c q).1.lt⟩
theorem St.hide (x:St P hb B Pv ρ σ h) (w:B d=none) (r:∀ i,i < σ.length→ρ i≠d) (p:Pv d=none) (hd:h.get? d=some o):St P hb B (prvAt Pv d o f) ρ σ h:=by
  refine ⟨x.base,x.frz,fun a o' f' q=>?_,fun i c q=>?_,x.inj,x.abv⟩
  · by_cases e:a=d
    · subst e; rw [prvAt_self] at q; cases q; exact ⟨w,⟨o.slots,hd⟩,fun _=>hd⟩
    · rw [prvAt_ne e] at q; exact x.prv a o' f' q
  · obtain ⟨a1,a2,a3⟩:=x.cell i c q
    exact ⟨a1,by rw [prvAt_ne (r i (List.getElem?_eq_some_iff.mp q).1)]; exact a2,a3⟩
theorem St.show (x:St P hb B (prvAt Pv d o f) ρ σ h) (p:Pv d=none):St P hb B Pv ρ σ h :=
  ⟨x.base,x.frz,fun a o' f' q=>x.prv a o' f' (prvAt_le p _ _ q),fun i c q=>let ⟨a1,a2,a3⟩:=x.cell i c q; ⟨a1,(prvAt_le p).none a2,a3⟩,x.inj,x.abv⟩
theorem OkE.hide (x:OkE P hb env Pv vars B ρ σ h) (w:Own B Pv ρ σ.length env d) (hd:h.get? d=some o):OkE P hb env (prvAt Pv d o f) vars B ρ σ h:=by
  obtain ⟨st,m,cm,y⟩:=x
  exact ⟨st.hide w.b w.r w.p hd,m,cm,y.ns,⟨y.frL.1,by rw [prvAt_ne (Ne.symm w.l)]; exact y.frL.2.1,y.frL.2.2⟩,y.cell,y.vals⟩
theorem OkE.show {B₀:Frz} {ρ₀:Nat→Addr} {n₀:Nat} (x:OkE P hb env (prvAt Pv d o false) vars B ρ σ h) (w:Own B₀ Pv ρ₀ n₀ env d):OkE P hb env Pv vars B ρ σ h∧Own B Pv ρ σ.length env d∧h.get? d=some o:=by
  obtain ⟨st,m,cm,y⟩:=x
  obtain ⟨a1,_,a3⟩:=st.prv d o false prvAt_self
  refine ⟨⟨st.show w.p,m,cm,y.ns,⟨y.frL.1,(prvAt_le w.p).none y.frL.2.1,y.frL.2.2⟩,y.cell,y.vals⟩,⟨a1,w.p,fun i hi e=>?_,w.l,w.c⟩,a3 rfl⟩
  obtain ⟨_,b2,_⟩:=st.cell i _ (List.getElem?_eq_getElem hi)
  rw [e,prvAt_self] at b2; cases b2
theorem OkE.turn (x:OkE P hb env Pv vars B ρ σ h) (w:Own B Pv ρ σ.length env d) (k:∀ b o,b≠d→h.get? b=some o→h'.get? b=some o):OkE P hb env Pv vars B ρ σ h':=by
  obtain ⟨st,m,cm,y⟩:=x
  refine ⟨st.setX w.b w.p w.r k,m,cm,?_,y.frL,fun z c q=>⟨?_,(y.cell z c q).2⟩,y.vals⟩
  · obtain ⟨o,es,ep,ho,r⟩:=y.ns
    exact ⟨o,es,ep,k _ _ (Ne.symm w.l) ho,r⟩
  · obtain ⟨o,ho,hd⟩:=(y.cell z c q).1
    exact ⟨o,k _ _ (w.c z c q) ho,hd⟩
theorem OkE.ownF (x:OkE P hb env Pv vars B ρ σ h) (w:Own B Pv ρ σ.length env d) (hd:h.get? d=some o):OkE P hb env Pv vars (frzAt B d o) ρ σ h∧Ext B ρ σ.length (frzAt B d o) ρ σ.length:=by
  obtain ⟨st,m,cm,y⟩:=x
  have e:Ext B ρ σ.length (frzAt B d o) ρ σ.length:=ext_frzAt w.b
  refine ⟨⟨⟨fun a o' q=>e.frz _ _ (st.base a o' q),fun a o' q=>?_,fun a o' f' q=>⟨?_,(st.prv a o' f' q).2⟩,fun i c q=>?_,st.inj,st.abv⟩,m,cm,y.ext e ?_ y.frL.2.2 fun z c q=>?_⟩,e⟩
  · unfold frzAt at q; split at q
    · rename_i z; cases q; rw [z]; exact hd
    · exact st.frz _ _ q
  · unfold frzAt; split
    · rename_i z; rw [z,w.p] at q; cases q
    · exact (st.prv a o' f' q).1
  · obtain ⟨a1,a2,a3⟩:=st.cell i c q
    refine ⟨?_,a2,a3.ext e⟩
    unfold frzAt; rw [if_neg (w.r i (List.getElem?_eq_some_iff.mp q).1)]; exact a1
  · unfold frzAt; rw [if_neg (Ne.symm w.l)]; exact y.frL.1
  · unfold frzAt; rw [if_neg (w.c z c q)]; exact (y.cell z c q).2
theorem OkE.ownC (x:OkE P hb env Pv vars B ρ σ h) (w:Own B Pv ρ σ.length env d) (h4:4≤d) {c:Cell} (hc:CellAt P B ρ σ.length h d c) :
    OkE P hb env Pv vars B (rhoAt ρ σ.length d) (σ++[c]) h∧Ext B ρ σ.length B (rhoAt ρ σ.length d) (σ++[c]).length:=by
  obtain ⟨st,m,cm,y⟩:=x
  have hl:(σ++[c]).length=σ.length + 1:=by simp
  have e:=ext_rhoAt (B:=B) (ρ:=ρ) (n:=σ.length) (a:=d)
  refine ⟨⟨⟨st.base,st.frz,st.prv,fun i c' q=>?_,fun i j hi hj q=>?_,st.abv.1,fun i hi=>?_⟩,m,cm,?_⟩,by rw [hl]; exact e⟩
  · rw [hl]
    by_cases hi:i < σ.length
    · rw [List.getElem?_append_left hi] at q
      obtain ⟨a1,a2,a3⟩:=st.cell i c' q
      rw [e.rho i hi]
      exact ⟨a1,a2,a3.ext e⟩
    · have hi':i=σ.length:=by
        have:=(List.getElem?_eq_some_iff.mp q).1; rw [hl] at this; omega
      subst hi'
      simp at q; subst q
      have hr:rhoAt ρ σ.length d σ.length=d:=by unfold rhoAt; rw [if_pos rfl]
      rw [hr]
      exact ⟨w.b,w.p,hc.ext e⟩
  · rw [hl] at hi hj
    unfold rhoAt at q
    by_cases h1:i=σ.length
    · by_cases h2:j=σ.length
      · rw [h1,h2]
      · rw [if_pos h1,if_neg h2] at q
        exact absurd q.symm (w.r j (by omega))
    · by_cases h2:j=σ.length
      · rw [if_neg h1,if_pos h2] at q
        exact absurd q (w.r i (by omega))
      · rw [if_neg h1,if_neg h2] at q
        exact st.inj i j (by omega) (by omega) q
  · rw [hl] at hi
    unfold rhoAt; split
    · exact h4
    · exact st.abv.2 i (by omega)
  · rw [hl]
    refine y.ext ext_rhoAt y.frL.1 (fun i hi=>?_) fun z c q=>(y.cell z c q).2
    unfold rhoAt; split
    · exact w.l
    · exact y.frL.2.2 i (by omega)
theorem den_own {c:Cell}:Den P B (rhoAt ρ σ.length d) (σ++[c]).length (.ref d) (.cell σ.length):=den_new
theorem St.four (x:St P hb B Pv ρ σ h):4≤h.objs.size:=by
  obtain ⟨o',h3⟩:=Option.isSome_iff_exists.mp x.abv.1
  exact Heap.lt_size (x.frz _ _ (x.base _ _ h3))
end
section
variable {prog:Program} {w:World} {hb:Heap} {T:Tab} {N:Nat} {sc:Scope} {K:Frag} {mg mb:Str→Option Value}
theorem EP.hidden {α β:Type} {D:Frz→(Nat→Addr)→Nat→β→α→Prop} {env:Env} {vars:Loc} {B:Frz} {Pv:Prv} {ρ:Nat→Addr} {σ:Sto} {s:Shared} {r:R α} {Q:β→Shared→Prop} {E:Value→Shared→Prop} {d:Addr} {o:Obj}
    (w':Own B Pv ρ σ.length env d) (h:EP (fun B ρ σ h=>OkE w.params hb env Pv vars B ρ σ h∧Own B Pv ρ σ.length env d∧h.get? d=some o) Pv D B ρ σ s r Q E):EP (OkE w.params hb env (prvAt Pv d o false) vars) (prvAt Pv d o false) D B ρ σ s r Q E:=by
  unfold EP at h ⊢
  split
  · exact fun b B'' ρ'' s'' e k q dd=>h b B'' ρ'' s'' e (k.show w') q dd
  · exact fun b B'' ρ'' s'' e k q dd=>h b B'' ρ'' s'' e (k.show w') q (dd.down (prvAt_le w'.p))
  · exact h
inductive SEl (prog:Program) (w:World) (hb:Heap) (T:Tab) (N:Nat) (sc:Scope):List PySem.Expr→MEs→Prop
  | nil:SEl prog w hb T N sc [] .nil
  | cons {e me es mes}:SE prog w hb T N sc e me→SEl prog w hb T N sc es mes→SEl prog w hb T N sc (e::es) (.cons me mes)
inductive KeyEs:List PySem.Expr→List Nat→Prop
  | nil:KeyEs [] []
  | cons {x c k p es cs}:nm c=some x→KeyEs es cs→KeyEs (.Constant (.str x) k p::es) (c::cs)
inductive Prs (P:Params) (B:Frz) (ρ:Nat→Addr) (n:Nat):List Nat→List (Value × Value)→List LV→Prop
  | nil:Prs P B ρ n [] [] []
  | cons {c x t v l cs ps ls}:nm c=some x→Den P B ρ n v l→Prs P B ρ n cs ps ls→Prs P B ρ n (c::cs) ((.str x t,v)::ps) (l::ls)
def pairsOf (ks vals:List PySem.Expr) (env:Env) (pos:Pos):List (Sem Value × Sem Value):=(evalEach ks env).zip ((evalEach vals env).map fun v=>do let x ← v; standAt pos; pure x)
theorem pairs_shape (env:Env) (pos:Pos):∀ (ks vals:List PySem.Expr),(evalEachOpt (ks.map some) env).zip ((evalEach vals env).map fun v=>do let x ← v; standAt pos; pure x)=(pairsOf ks vals env pos).map fun p=>(some p.1,p.2)
  | [],_=>rfl
  | _::_,[]=>rfl
  | k::ks,v::vals=>by
    exact congrArg (_ :: ·) (pairs_shape env pos ks vals)
theorem pairs_len (env:Env) (pos:Pos):∀ (ks vals:List PySem.Expr),(pairsOf ks vals env pos).length≤ks.length
  | [],_=>Nat.le_refl _
  | _::_,[]=>Nat.zero_le _
  | k::ks,v::vals=>Nat.succ_le_succ (pairs_len env pos ks vals)
theorem pairs_says:∀ {ks:List PySem.Expr} {cs:List Nat} {vals:List PySem.Expr} {mes:MEs},KeyEs ks cs→SEl prog w hb T N sc vals mes→ks.length=vals.length→∀ {A env Pv vars B ρ σ s pos},Cx T A env sc Pv N→OkE w.params hb env Pv vars B ρ σ s.heap →
    Says prog w hb (fun B ρ n ps ls=>Prs w.params B ρ n cs ps ls) A env Pv vars B ρ σ s (evalPairs (pairsOf ks vals env pos)) (evalMs T mes vars σ)
  | _,_,_,_,.nil,.nil,_,A,env,Pv,vars,B,ρ,σ,s,pos,cx,o=>fun Q E h=>by
    unfold evalMs at h
    exact evalPairs_nil (EP.val h o .nil)
  | _,_,_,_,.cons (x:=x) (k:=k') hx hk,.cons h1 h2,hl,A,env,Pv,vars,B,ρ,σ,s,pos,cx,o=>fun Q E h=>by
    unfold evalMs at h
    refine evalPairs_cons (Constant_str ?_)
    dsimp only
    refine wpAny_bind (h1 A env Pv vars B ρ σ { s with toks:=s.toks + 1 } cx o _ _ (EP.bind (h.from (s':={ s with toks:=s.toks + 1 }) .refl ⟨rfl,rfl⟩) fun a σ₁ b B₁ ρ₁ s₁ hm e₁ o₁ t₁ d₁ h₁=>?_))
    refine wpAny_bind (wpAny_standAt (wpAny_pure ?_))
    exact pairs_says hk h2 (Nat.succ.inj hl) cx o₁ _ _ (EP.bind h₁ fun vs σ₂ ps B₂ ρ₂ s₂ hm₂ e₂ o₂ t₂ d₂ h₂=>EP.val h₂ o₂ (.cons hx (d₁.ext e₂) d₂))
  | _,_,_,_,.nil,.cons _ _,hl,_,_,_,_,_,_,_,_,_,_,_=>by cases hl
  | _,_,_,_,.cons _ _,.nil,hl,_,_,_,_,_,_,_,_,_,_,_=>by cases hl
def putAll:List Nat→List LV→List (Nat × LV)→List (Nat × LV)
  | c::cs,v::vs,ps=>putAll cs vs (putA c v ps)
  | _,_,ps=>ps
theorem putA_new (c:Nat) (v:LV):∀ (ps:List (Nat × LV)),c∉ps.map (·.1)→putA c v ps=ps++[(c,v)]
  | [],_=>rfl
  | (a,u)::r,h=>by
    unfold putA
    rw [if_neg (fun q=>h (by simp [q])),putA_new c v r (fun q=>h (by simp [q]))]; rfl
theorem putAll_zip:∀ (cs:List Nat) (vs:List LV) (ps:List (Nat × LV)),cs.Nodup→(∀ c∈cs,c∉ps.map (·.1))→putAll cs vs ps=ps++cs.zip vs
  | [],_,ps,_,_=>by simp [putAll]
  | _::_,[],ps,_,_=>by simp [putAll]
  | c::cs,v::vs,ps,hn,hd=>by
    unfold putAll
    rw [putA_new c v ps (hd c (.head _)),putAll_zip cs vs _ (List.nodup_cons.mp hn).2 fun c' hc' => ?_]
    · simp
    · simp only [List.map_append,List.map_cons,List.map_nil,List.mem_append,List.mem_singleton,not_or]
      exact ⟨hd c' (.tail _ hc'),fun q=>(List.nodup_cons.mp hn).1 (q ▸ hc')⟩
theorem store_says {A:Around} {E:Value→Shared→Prop} {d:Addr} {B:Frz} {ρ:Nat→Addr} {σ:Sto}:∀ {cs:List Nat} {l:List (Value × Value)} {vs:List LV},Prs w.params B ρ σ.length cs l vs→∀ {s:Shared} {es k ps} {Q:PUnit→Shared→Prop},
    s.heap.get? d=some (dictOf es k)→DenEs w.params B ρ σ.length es ps→ps.length + l.length≤20 →
    (∀ h' es' k' tk,(∀ b,b≠d→h'.get? b=s.heap.get? b)→h'.get? d=some (dictOf es' k')→DenEs w.params B ρ σ.length es' (putAll cs vs ps)→Q .unit { s with heap:=h',toks:=tk }) →
    wpAny (model prog w) A (forIn l PUnit.unit fun (x:Value × Value) (_:PUnit)=>(do dictSet d x.1 x.2; pure (ForInStep.yield PUnit.unit):Sem (ForInStep PUnit))) Q E s
  | _,_,_,.nil,s,es,k,ps,Q,hg,D,hz,h=>by
    rw [List.forIn_nil]
    exact wpAny_pure (h s.heap es k s.toks (fun _ _=>rfl) hg D)
  | _,_,_,.cons (l:=l') (c:=c) hx dv r,s,es,k,ps,Q,hg,D,hz,h=>by
    rw [List.forIn_cons]
    rw [List.length_cons] at hz
    refine wpAny_bind (wpAny_bind (dictSet_den hg D hx dv (by unfold most; omega) fun h' es' k' a b c' => wpAny_pure ?_))
    refine store_says (s:={ s with heap:=h',toks:=s.toks + 1 }) r b c' (by have:=DenEs.putLen c l' ps; omega) fun h'' es'' k'' tk a' b' c'' => ?_
    exact h h'' es'' k'' tk (fun b hb=>(a' b hb).trans (a b hb)) b' c''
theorem prs_len {P:Params} {B:Frz} {ρ:Nat→Addr} {n:Nat}:∀ {cs:List Nat} {l:List (Value × Value)} {vs:List LV},Prs P B ρ n cs l vs→l.length=cs.length
  | _,_,_,.nil=>rfl
  | _,_,_,.cons _ _ r=>congrArg (· + 1) (prs_len r)
theorem key_len:∀ {ks:List PySem.Expr} {cs:List Nat},KeyEs ks cs→ks.length=cs.length
  | _,_,.nil=>rfl
  | _,_,.cons _ r=>congrArg (· + 1) (key_len r)
theorem dict_says {A:Around} {E:Value→Shared→Prop} {env:Env} {Pv:Prv} {vars:Loc} {B:Frz} {ρ:Nat→Addr} {σ:Sto} {s:Shared} {ks vals:List PySem.Expr} {cs:List Nat} {mes:MEs} {pos:Pos} {Q:Value→Shared→Prop}
    (hk:KeyEs ks cs) (h2:SEl prog w hb T N sc vals mes) (hl:ks.length=vals.length) (h15:cs.length≤15) (hn:cs.Nodup) (hne:(pairsOf ks vals env pos)≠[]) (cx:Cx T A env sc Pv N) (o:OkE w.params hb env Pv vars B ρ σ s.heap)
    (h:EP (OkE w.params hb env Pv vars) Pv (fun B ρ n (b:Nat × List Value) a=>True) B ρ σ s (evalMs T mes vars σ) (fun _ _=>True) E)
    (hq:∀ d vs σ₁ B₁ ρ₁ s₁ es k,evalMs T mes vars σ=some (.val vs,σ₁)→Ext B ρ σ.length B₁ ρ₁ σ₁.length→OkE w.params hb env Pv vars B₁ ρ₁ σ₁ s₁.heap→Rest s s₁→Own B₁ Pv ρ₁ σ₁.length env d→4≤d→s₁.heap.get? d=some (dictOf es k) →
      DenEs w.params B₁ ρ₁ σ₁.length es (cs.zip vs)→Q (.ref d) s₁) :
    wpAny (model prog w) A (eval (.Dict (ks.map some) vals pos) env) Q E s:=by
  have hlen:(pairsOf ks vals env pos).length≤15:=Nat.le_trans (pairs_len ..) (by rw [key_len hk]; exact h15)
  rw [arm_eval_Dict,pairs_shape,dictDisplay_pairs _ hne (by omega)]
  refine wpAny_bind (wpAny_standAt (wpAny_bind ?_))
  unfold subDict
  refine wpAny_bind (wpAny_alloc ?_)
  refine wpAny_bind (wpAny_holding ?_)
  rw [if_pos hlen]
  have w0:=o.fresh
  have o0:OkE w.params hb env (prvAt Pv s.heap.objs.size emptyDict false) vars B ρ σ (s.heap.push emptyDict):=(o.push emptyDict).hide w0 (Heap.get?_push_size _ rfl)
  refine wpAny_bind (pairs_says (s:={ s with heap:=s.heap.push emptyDict }) hk h2 hl (cx.up (prvAt_le w0.p)) o0 _ _ (EP.hidden w0 ?_))
  unfold EP at h ⊢
  cases hm:evalMs T mes vars σ with
  | none=>rw [hm] at h; exact h
  | some p =>
    obtain ⟨r,σ₁⟩:=p
    cases r with
    | exc i=>rw [hm] at h; exact fun ev B' ρ' s' e o' t X=>h ev B' ρ' s' e o'.1 ⟨t.1,t.2⟩ X
    | val vs =>
      intro ps B₁ ρ₁ s₁ e ⟨o₁,w₁,hd⟩ t D
      refine wpAny_holding (wpAny_bind ?_)
      refine store_says (es:=[]) (k:=0) D hd .nil (by rw [prs_len D]; simp; omega) fun h' es' k' tk a b c=>wpAny_pure (wpAny_pure (wpAny_pure ?_))
      rw [putAll_zip cs vs [] hn (fun _ _=>by simp)] at c
      exact hq _ vs σ₁ B₁ ρ₁ { s₁ with heap:=h',toks:=tk } es' k' hm e (o₁.turn w₁ fun b' o' hb' e' => (a b' hb').trans e') ⟨t.1,t.2⟩ w₁ (Nat.le_trans o.1.four (Nat.le_refl _)) b c
theorem SE_dct {ks vals:List PySem.Expr} {cs:List Nat} {mes:MEs} {pos:Pos} (hk:KeyEs ks cs) (h2:SEl prog w hb T N sc vals mes) (hl:ks.length=vals.length) (h15:cs.length≤15) (hn:cs.Nodup) (h0:ks≠[]) :
    SE prog w hb T N sc (.Dict (ks.map some) vals pos) (.dct cs mes):=fun A env Pv vars B ρ σ s cx o Q E h=>by
  unfold evalM at h
  have hne:(pairsOf ks vals env pos)≠[]:=by
    cases ks with
    | nil=>exact absurd rfl h0
    | cons k ks=>cases vals with
      | nil=>cases hl
      | cons v vals=>intro q; cases q
  refine dict_says hk h2 hl h15 hn hne cx o ?_ fun d vs σ₁ B₁ ρ₁ s₁ es k hm e₁ o₁ t₁ w₁ h4 hg D=>?_
  · exact EP.bind (D':=DV w) h fun _ _ _ _ _ _ _ _ _ _ _ _=>trivial
  · obtain ⟨o₂,e₂⟩:=o₁.ownF w₁ hg
    rw [hm] at h
    refine EP.val' (h.from e₁ t₁) e₂ o₂ Rest.refl (.dct ?_ (frzAt_self _ _) (D.ext e₂))
    exact beq_eq_false_iff_ne.mpr (Nat.ne_of_gt (Nat.lt_of_lt_of_le (by decide) h4))
theorem SE_mdct {ks vals:List PySem.Expr} {cs:List Nat} {mes:MEs} {pos:Pos} (hk:KeyEs ks cs) (h2:SEl prog w hb T N sc vals mes) (hl:ks.length=vals.length) (h15:cs.length≤15) (hn:cs.Nodup) (h0:ks≠[]) :
    SE prog w hb T N sc (.Dict (ks.map some) vals pos) (.mdct cs mes):=fun A env Pv vars B ρ σ s cx o Q E h=>by
  unfold evalM at h
  have hne:(pairsOf ks vals env pos)≠[]:=by
    cases ks with
    | nil=>exact absurd rfl h0
    | cons k ks=>cases vals with
      | nil=>cases hl
      | cons v vals=>intro q; cases q
  refine dict_says hk h2 hl h15 hn hne cx o ?_ fun d vs σ₁ B₁ ρ₁ s₁ es k hm e₁ o₁ t₁ w₁ h4 hg D=>?_
  · exact EP.bind (D':=DV w) h fun _ _ _ _ _ _ _ _ _ _ _ _=>trivial
  · obtain ⟨o₂,e₂⟩:=o₁.ownC w₁ h4 (c:=.dict (cs.zip vs)) ⟨es,k,hg,D⟩
    rw [hm] at h
    exact EP.val' (h.from e₁ t₁) e₂ o₂ Rest.refl den_own
theorem SE_mdct0 {pos:Pos}:SE prog w hb T N sc (.Dict [] [] pos) (.mdct [] .nil):=fun A env Pv vars B ρ σ s cx o Q E h=>by
  unfold evalM evalMs at h
  rw [arm_eval_Dict]
  refine wpAny_bind (wpAny_standAt ?_)
  show wpAny _ _ (dictDisplay []) _ _ _
  have e0:dictDisplay []=(do let d ← alloc emptyDict; pure (.ref d)):=by with_unfolding_all rfl
  rw [e0]
  refine wpAny_bind (wpAny_alloc (wpAny_pure ?_))
  have o₂:=o.pushC emptyDict (.dict []) rfl ⟨[],0,Heap.get?_push_size _ rfl,.nil⟩
  exact EP.val' h extApp o₂ ⟨rfl,rfl⟩ den_new
end
end Mine
namespace Mine
open PySem PySem.Calls PySem.W PyProof.Rows PySem.SeqAt
structure ClsOk (K:Frag) (C:Addr):Prop where
  ga:findIn K (.ref C) "__getattribute__" = some (some (.builtin "object.__getattribute__"))
  hasD:hasDictIn K C=true
  sa:findIn K (.ref C) "__setattr__" = some (some (.builtin "object.__setattr__"))
  over:plainOver K C=true
structure FldOk (K:Frag) (C:Addr) (x:Str):Prop where
  attr:∃ attr,findIn K (.ref C) x=some attr∧noGet K attr=true
  taker:takerIn K C x=some none
structure ClsTab (K:Frag) (T:Tab):Prop where
  cls:∀ c C,clsA c=some C→ClsOk K C
  fld:∀ c C a x,T.fld c a=true→clsA c=some C→nm a=some x→FldOk K C x
section
variable {prog:Program} {w:World} {hb:Heap} {T:Tab} {N:Nat} {sc:Scope} {K:Frag} {mg mb:Str→Option Value}
theorem den_handed {P:Params} {B:Frz} {ρ:Nat→Addr} {n:Nat} {v:Value} {l:LV} (d:Den P B ρ n v l) (h:l ≠ .any):handedIn v=true:=by
  cases d <;> first | rfl | exact absurd rfl h
theorem inst_at {P:Params} {B:Frz} {Pv:Prv} {ρ:Nat→Addr} {σ:Sto} {h:Heap} {v:Value} {c i:Nat} {ps:List (Nat × LV)} (st:St P hb B Pv ρ σ h) (d:Den P B ρ σ.length v (.obj c i)) (hc:σ[i]? = some (.dict ps)) :
    ∃ a C es k,v = .ref a∧clsA c=some C∧InstAt h a (instObj C (ρ i)) C (some (dictOf es k))∧h.get? (ρ i)=some (dictOf es k)∧DenEs P B ρ σ.length es ps:=by
  cases d; rename_i a C hcl hi hb'
  obtain ⟨es,k,hg,D⟩:=cell_dict st hc
  exact ⟨a,C,es,k,rfl,hcl,⟨st.frz _ _ hb',rfl,rfl,hg⟩,hg,D⟩
theorem get_says {A:Around} {E:Value→Shared→Prop} {s:Shared} {P:Params} {B:Frz} {Pv:Prv} {ρ:Nat→Addr} {σ:Sto} {v:Value} {c i a:Nat} {ps:List (Nat × LV)} {x:Str} {u:LV} {Q:Value→Shared→Prop} {expr:Bool}
    (X:K.In hb) (CT:ClsTab K T) (st:St P hb B Pv ρ σ s.heap) (d:Den P B ρ σ.length v (.obj c i)) (hc:σ[i]? = some (.dict ps)) (hf:T.fld c a=true) (hx:nm a=some x) (hl:lookA a ps=some u) (hu:u ≠ .any)
    (h:∀ v,Den P B ρ σ.length v u→Q v { s with toks:=s.toks + 1 }):wpAny (model prog w) A (getAttr v x expr) Q E s:=by
  obtain ⟨ad,C,es,k,rfl,hcl,I,hg,D⟩:=inst_at st d hc
  have ck:=CT.cls c C hcl
  have fk:=CT.fld c C a x hf hcl hx
  obtain ⟨attr,fa,fn⟩:=fk.attr
  have:=D.getL hx
  rw [hl] at this
  obtain ⟨v,hv,dv⟩:=this
  exact get_value (fun b o e=>st.stays b o (X b o e)) I ck.ga (findObj_own ck.hasD fa fn (by rw [lookIn_dict]; exact hv)) (den_handed dv hu) (h v dv)
theorem SE_attr {e:PySem.Expr} {me:ME} {x:Str} {a:Nat} {pos:Pos} (X:K.In hb) (CT:ClsTab K T) (h1:SE prog w hb T N sc e me) (hx:nm a=some x) (he:∀ env,eval (.Attribute e x pos) env=(do
      let o ← eval e env
      standAt pos.atName
      let r ← holding [o] (getAttr o x true)
      letTemporaryGo e o r
      pure r)):SE prog w hb T N sc (.Attribute e x pos) (.attr me a):=fun A env Pv vars B ρ σ s cx o Q E h=>by
  unfold evalM at h
  refine Attribute_any_ (h1 A env Pv vars B ρ σ s cx o _ _ (EP.bind h fun l σ₁ v B₁ ρ₁ s₁ _ e₁ o₁ t₁ d₁ h₁=>?_)) (he env)
  split at h₁
  · split at h₁
    · rename_i hf hc
      cases hl:lookA a _ with
      | none=>rw [hl] at h₁; exact h₁.elim
      | some u =>
        rw [hl] at h₁
        by_cases hu:u = .any
        · subst hu; exact h₁.elim
        · rw [Option.bind_some] at h₁
          have h₁:EP (OkE w.params hb env Pv vars) Pv (DV w) B₁ ρ₁ σ₁ s₁ (some (.val u,σ₁)) Q E:=by
            cases u <;> first | exact absurd rfl hu | exact h₁
          exact get_says X CT o₁.1 d₁ hc hf hx hl hu fun v dv=>EP.val' h₁ .refl o₁ ⟨rfl,rfl⟩ dv
    · exact h₁.elim
  · exact h₁.elim
def SP (prog:Program) (w:World) (hb:Heap) (T:Tab) (N:Nat) (sc:Scope) (e:PySem.Expr) (me:ME):Prop :=
  ∀ A env Pv vars B ρ σ s,Cx T A env sc Pv N→OkE w.params hb env Pv vars B ρ σ s.heap→∀ (Q:Value→Shared→Prop) (E:Value→Shared→Prop),
    EP (OkE w.params hb env Pv vars) Pv (fun B ρ n v l=>∃ m,fmtL l=some m∧∃ x t,v=Value.str x t∧x.length≤m) B ρ σ s (bindR (evalM T me vars σ) fun v σ=>if (fmtL v).isSome then some (.val v,σ) else none) Q E→wpAny (model prog w) A (eval e env) Q E s
theorem small_text {a:Int} (h:small a=true):(Str.ofString (toString a)).length≤12:=by
  have h:=sm a h
  have e:=int_text_length_le10 (a:=a) (k:=10) (by decide) (by omega)
  rw [PySem.ofString_length]; omega
theorem small_log {a:Int} (h:small a=true):a.natAbs.log2 < 1920:=by
  have h:=sm a h
  have:a.natAbs < 2 ^ 30:=by omega
  have h0:a.natAbs=0∨a.natAbs≠0:=Nat.eq_zero_or_pos _ |>.imp id (Nat.ne_of_gt)
  rcases h0 with h0 | h0
  · rw [h0]; decide
  · exact Nat.lt_of_lt_of_le ((Nat.log2_lt h0).mpr this) (by decide)
theorem SP_str {x:Str} {me:ME} {m:Nat} {k p} (hx:me = .const (.txt m)∧x.length≤m∨∃ c,nm c=some x∧me = .const (.str c)):SP prog w hb T N sc (.Constant (.str x) k p) me:=fun A env Pv vars B ρ σ s cx o Q E h=>by
  refine Constant_str ?_
  rcases hx with ⟨rfl,hm⟩ | ⟨c,hc,rfl⟩
  · unfold evalM at h
    rw [bindR_val] at h
    split at h
    · rename_i hs
      have hm':fmtL (.txt m)=some m:=by
        unfold fmtL at hs ⊢
        dsimp only at hs ⊢
        split
        · rfl
        · rename_i q; rw [if_neg q] at hs; cases hs
      exact EP.val' (s:=s) h .refl (s':={ s with toks:=s.toks + 1 }) o ⟨rfl,rfl⟩ ⟨m,hm',x,_,rfl,hm⟩
    · exact h.elim
  · unfold evalM at h
    exact EP.val' (s:=s) h .refl (s':={ s with toks:=s.toks + 1 }) o ⟨rfl,rfl⟩ ⟨_,rfl,x,_,rfl,nm_short hc⟩
theorem SP_fmt {e:PySem.Expr} {me:ME} {pos:Pos} (h1:SE prog w hb T N sc e me):SP prog w hb T N sc (.FormattedValue e (-1) none pos) me:=fun A env Pv vars B ρ σ s cx o Q E h=>by
  refine PyProof.Rows.FormattedValue_plain (h1 A env Pv vars B ρ σ s cx o _ _ (EP.bind h fun l σ₁ v B₁ ρ₁ s₁ _ e₁ o₁ t₁ d₁ h₁=>?_))
  split at h₁
  · rename_i hs
    obtain ⟨m,hm⟩:=Option.isSome_iff_exists.mp hs
    have go:∀ {x:Str} {tt:Tok},v = .str x tt→x.length≤m→x.length≤sizeLine→wpAny (model prog w) A (formatField v Str.empty) Q E s₁:=fun {x tt} hv hx hz=>by
      subst hv
      have:=PyProof.Rows.formatField_str (M:=model prog w) (A:=A) (E:=E) (s:=s₁) (t:=tt) (Q:=Q) (fun t' tk=>EP.val' h₁ .refl (s':={ s₁ with toks:=tk }) o₁ ⟨rfl,rfl⟩ ⟨m,hm,_,t',rfl,hx⟩) hz
      exact this
    unfold fmtL at hm
    split at hm
    · cases hm; cases d₁; rename_i hx
      have:=nm_short hx
      exact go rfl this (by have:=sizeLine_eq; unfold nameMost at *; omega)
    · split at hm
      · rename_i hle
        cases hm; cases d₁; rename_i hx
        exact go rfl hx (by have:=sizeLine_eq; unfold txtMost at hle; omega)
      · cases hm
    · split at hm
      · rename_i hsm
        cases hm; cases d₁
        refine PyProof.Rows.formatField_int_small (small_log hsm) ?_
        exact EP.val' h₁ .refl (s':={ s₁ with toks:=s₁.toks + 1 + 1 }) o₁ ⟨rfl,rfl⟩ ⟨12,by unfold fmtL; exact if_pos hsm,_,_,rfl,small_text hsm⟩
      · cases hm
    · cases hm
  · exact h₁.elim
inductive SPl (prog:Program) (w:World) (hb:Heap) (T:Tab) (N:Nat) (sc:Scope):List PySem.Expr→MEs→Prop
  | nil:SPl prog w hb T N sc [] .nil
  | cons {e me es mes}:SP prog w hb T N sc e me→SPl prog w hb T N sc es mes→SPl prog w hb T N sc (e::es) (.cons me mes)
theorem join_says:∀ {es:List PySem.Expr} {mes:MEs},SPl prog w hb T N sc es mes→∀ {A env Pv vars B ρ σ s n out Q E},Cx T A env sc Pv N→OkE w.params hb env Pv vars B ρ σ s.heap→out.length≤n→n≤txtMost →
    EP (OkE w.params hb env Pv vars) Pv (DV w) B ρ σ s (bindR (fstrM T n mes vars σ) fun n σ=>some (.val (.txt n),σ)) Q E→wpAny (model prog w) A (joinParts out (evalEach es env)) Q E s
  | _,_,.nil,A,env,Pv,vars,B,ρ,σ,s,n,out,Q,E,cx,o,ho,hn,h=>by
    unfold fstrM at h
    refine PyProof.Rows.joinParts_nil ?_ (by have:=sizeLine_eq; unfold txtMost at hn; omega)
    exact EP.val' h .refl (s':={ s with toks:=s.toks + 1 }) o ⟨rfl,rfl⟩ (.txt _ ho)
  | _,_,.cons (me:=me) (mes:=mes) h1 h2,A,env,Pv,vars,B,ρ,σ,s,n,out,Q,E,cx,o,ho,hn,h=>by
    unfold fstrM at h
    refine PyProof.Rows.joinParts_cons (h1 A env Pv vars B ρ σ s cx o _ _ ?_)
    cases hm:evalM T me vars σ with
    | none=>rw [hm] at h; exact h.elim
    | some p =>
      obtain ⟨r,σ₁⟩:=p
      rw [hm] at h
      cases r with
      | exc i=>exact h
      | val l =>
        rw [bindR_val] at h
        rw [bindR_val]
        cases hf:fmtL l with
        | none=>rw [hf] at h; exact h.elim
        | some m =>
          rw [hf] at h
          dsimp only at h
          rw [if_pos (by rfl)]
          intro v B₁ ρ₁ s₁ e₁ o₁ t₁ d₁
          obtain ⟨m',hm',x,t,rfl,hx⟩:=d₁
          rw [hf] at hm'; cases hm'
          split at h
          · rename_i hle
            refine ⟨?_,join_says h2 cx o₁ ?_ hle (h.from e₁ t₁)⟩
            · rw [strLen_append]; have:=sizeLine_eq; unfold txtMost at hle; omega
            · rw [strLen_append]; omega
          · exact h.elim
theorem SE_fstr {e₁ e₂:PySem.Expr} {es:List PySem.Expr} {mes:MEs} {pos:Pos} (h:SPl prog w hb T N sc (e₁::e₂::es) mes):SE prog w hb T N sc (.JoinedStr (e₁::e₂::es) pos) (.fstr mes):=fun A env Pv vars B ρ σ s cx o Q E h' => by
  unfold evalM at h'
  exact PyProof.Rows.JoinedStr_many (join_says h cx o (by decide) (Nat.zero_le _) h')
end
end Mine
namespace Mine
open PySem PySem.Calls PySem.W PyProof.Rows PySem.SeqAt
def enter (env:Env) (h:Heap) (Pv:Prv):Prv:=fun b=>match Pv b with
  | some x=>some x
  | none=>if b=env.locals then (h.get? b).map (·,true) else if env.cells.any (fun y=>y.2 == b) then (h.get? b).map (·,false) else none
def Frames (A:Around) (Pv:Prv):Prop := ∃ outer,A.frames=some outer∧∀ e' ∈ outer,e'.scope.kind ≠ .module∧∃ L' o,e'.frame=some L' ∧ Pv L' = some (o,true)∧NonF o
theorem enter_le {env:Env} {h:Heap} {Pv:Prv}:PLe Pv (enter env h Pv):=fun a x e=>by unfold enter; rw [e]
section
variable {P:Params} {hb h h':Heap} {B B':Frz} {Pv:Prv} {ρ ρ':Nat→Addr} {σ σ':Sto} {env:Env} {vars:Loc} {m cm:Str→Option Value}
theorem lookup_of_any {l:List (Str × Addr)}:∀ {b:Addr},l.any (fun y=>y.2 == b)=true→∃ y∈l,y.2=b:=fun h=>by
  obtain ⟨y,hy,e⟩:=List.any_eq_true.mp h
  exact ⟨y,hy,beq_iff_eq.mp e⟩
theorem lookup_mem {l:List (Str × Addr)} {x:Str} {c:Addr} (h:l.lookup x=some c):(x,c)∈l:=by
  induction l with
  | nil=>cases h
  | cons y r ih =>
    obtain ⟨k,v⟩:=y
    rw [List.lookup_cons] at h
    split at h
    · rename_i q; cases h; rw [beq_iff_eq.mp q]; exact .head _
    · exact .tail _ (ih h)
theorem enter_loc (y:Lc P env B Pv ρ σ.length vars h m cm):∃ o,h.get? env.locals=some o∧(∀ vs,o.data ≠ .fields vs)∧enter env h Pv env.locals=some (o,true):=by
  obtain ⟨o,es,ep,ho,hd,_⟩:=y.ns
  refine ⟨o,ho,fun vs q=>(by rw [hd] at q; cases q),?_⟩
  unfold enter
  rw [y.frL.2.1]
  dsimp only
  rw [if_pos rfl,ho]; rfl
theorem enter_cell (u:UniqC env) (y:Lc P env B Pv ρ σ.length vars h m cm) (st:St P hb B Pv ρ σ h) {x:Str} {c:Addr} (hc:env.cells.lookup x=some c) :
    ∃ o f sl,enter env h Pv c=some (o,f)∧h.get? c=some { o with slots:=sl }:=by
  obtain ⟨o,ho,hd⟩:=(y.cell x c hc).1
  unfold enter
  cases q:Pv c with
  | some z=>obtain ⟨o',f⟩:=z; obtain ⟨_,⟨sl,e⟩,_⟩:=st.prv c o' f q; exact ⟨o',f,sl,rfl,e⟩
  | none =>
    dsimp only
    split
    · exact ⟨o,true,o.slots,by rw [ho]; rfl,ho⟩
    · rw [if_pos (List.any_eq_true.mpr ⟨_,lookup_mem hc,by simp⟩)]
      exact ⟨o,false,o.slots,by rw [ho]; rfl,ho⟩
theorem OkE.enter (u:UniqC env) (x:OkE P hb env Pv vars B ρ σ h):St P hb B (enter env h Pv) ρ σ h:=by
  obtain ⟨st,m,cm,y⟩:=x
  refine ⟨st.base,st.frz,fun a o f q=>?_,fun i c q=>?_,st.inj,st.abv⟩
  · unfold Mine.enter at q
    cases hp:Pv a with
    | some z=>rw [hp] at q; cases q; exact st.prv a o f hp
    | none =>
      rw [hp] at q
      dsimp only at q
      split at q
      · rename_i e
        cases hg:h.get? a with
        | none=>rw [hg] at q; cases q
        | some o' => rw [hg] at q; cases q; exact ⟨by rw [e]; exact y.frL.1,⟨o.slots,rfl⟩,fun _=>rfl⟩
      · split at q
        · rename_i e
          obtain ⟨z,hz,rfl⟩:=lookup_of_any e
          cases hg:h.get? z.2 with
          | none=>rw [hg] at q; cases q
          | some o' => rw [hg] at q; cases q; exact ⟨(y.cell z.1 z.2 (u z hz)).2,⟨o.slots,rfl⟩,fun _=>rfl⟩
        · cases q
  · obtain ⟨a1,a2,a3⟩:=st.cell i c q
    refine ⟨a1,?_,a3⟩
    unfold Mine.enter
    rw [a2]
    dsimp only
    rw [if_neg (y.frL.2.2 i (List.getElem?_eq_some_iff.mp q).1)]
    split
    · rename_i e
      obtain ⟨z,hz,e⟩:=lookup_of_any e
      obtain ⟨o,ho,hd⟩:=(y.cell z.1 z.2 (u z hz)).1
      rw [e] at ho
      cases c with
      | dict ps=>obtain ⟨_,_,e',_⟩:=a3; rw [ho] at e'; cases e'; cases hd
      | list ps=>obtain ⟨_,_,e',_⟩:=a3; rw [ho] at e'; cases e'; cases hd
    · rfl
theorem OkE.leave (u:UniqC env) (x:OkE P hb env Pv vars B ρ σ h) (e:Ext B ρ σ.length B' ρ' σ'.length) (st':St P hb B' (Mine.enter env h Pv) ρ' σ' h'):OkE P hb env Pv vars B' ρ' σ' h':=by
  obtain ⟨st,m,cm,y⟩:=x
  obtain ⟨o,ho,hof,hel⟩:=enter_loc y
  obtain ⟨l1,⟨sl,l2⟩,_⟩:=st'.prv _ _ _ hel
  refine ⟨⟨st'.base,st'.frz,fun a o f q=>st'.prv a o f (enter_le a _ q),fun i c q=>let ⟨a1,a2,a3⟩:=st'.cell i c q; ⟨a1,enter_le.none a2,a3⟩,st'.inj,st'.abv⟩,m,cm,?_⟩
  refine ⟨?_,⟨l1,y.frL.2.1,fun i hi q=>?_⟩,fun z c q=>?_,fun k l z q hz=>(y.vals k l z q hz).ext e⟩
  · obtain ⟨o',es,ep,ho',hd',r⟩:=y.ns
    rw [ho] at ho'; cases ho'
    exact ⟨_,es,ep,l2,hd',r⟩
  · have:=(st'.cell i _ (List.getElem?_eq_getElem hi)).2.1
    rw [q,hel] at this; cases this
  · obtain ⟨o',f,sl',h1,h2⟩:=enter_cell u y st q
    obtain ⟨c1,⟨sl'',c2⟩,_⟩:=st'.prv _ _ _ h1
    obtain ⟨o2,ho2,hd2⟩:=(y.cell z c q).1
    rw [h2] at ho2; cases ho2
    exact ⟨⟨_,c2,hd2⟩,c1⟩
theorem FrameOf.enter {A:Around} (x:OkE P hb env Pv vars B ρ σ h) (F:FrameOf A env Pv):Frames A (enter env h Pv):=by
  obtain ⟨st,m,cm,y⟩:=x
  obtain ⟨fe,outer,L,h1,h2,h3,h4,h5,h6⟩:=F
  refine ⟨_,h1,fun e' he=>?_⟩
  rcases List.mem_cons.mp he with rfl | he
  · refine ⟨h4,L,?_⟩
    rcases h5 with rfl | ⟨o,a,b⟩
    · obtain ⟨o,_,hof,hel⟩:=enter_loc y
      exact ⟨o,h2,hel,hof⟩
    · exact ⟨o,h2,enter_le _ _ a,b⟩
  · obtain ⟨a,L',o,b,c,d⟩:=h6 e' he
    exact ⟨a,L',o,b,enter_le _ _ c,d⟩
theorem EP.enter {α β:Type} {D:Frz→(Nat→Addr)→Nat→β→α→Prop} {s:Shared} {r:R α} {Q:β→Shared→Prop} {E:Value→Shared→Prop} (u:UniqC env) (x:OkE P hb env Pv vars B ρ σ s.heap) (h:EP (OkE P hb env Pv vars) Pv D B ρ σ s r Q E) :
    EP (OkS P hb (Mine.enter env s.heap Pv)) (Mine.enter env s.heap Pv) D B ρ σ s r Q E:=by
  unfold EP at h ⊢
  split
  · exact fun b B'' ρ'' s'' e k q dd=>h b B'' ρ'' s'' e (x.leave u e k) q dd
  · exact fun b B'' ρ'' s'' e k q dd=>h b B'' ρ'' s'' e (x.leave u e k) q (dd.down enter_le)
  · exact h
end
def SCall (prog:Program) (w:World) (hb:Heap) (call:Nat→List LV→Sto→R LV) (rs:Bool) (adr:Nat→Option Addr) (N:Nat):Prop :=
  ∀ f a,adr f=some a→∀ A Pv B ρ σ s vs ls,Frames A Pv→(rs=true→A.handled=none)→A.depth + 4 * N≤983→A.units + 64 * N + 139≤cLine→St w.params hb B Pv ρ σ s.heap→DenAll w.params B ρ σ.length vs ls →
    ∀ R:Result→Shared→Prop,EP (OkS w.params hb Pv) Pv (DV w) B ρ σ s (call f ls σ) (fun v s' => R (.ok (.ret v)) s') (fun e s' => R (.error e) s')→codeAny (model prog w) A (.call (.ref a) ⟨vs,[]⟩) R s
structure CallTab (prog:Program) (w:World) (hb:Heap) (K:Frag) (T:Tab) (adr:Nat→Option Addr) (N:Nat):Prop where
  call:SCall prog w hb T.call T.rs adr N
  keep:∀ f a,adr f=some a→keepIn K (.ref a)=true∧typeIn K (.ref a)=some (.type "function")
  meth:∀ c C m x f,T.meth c m=some f→clsA c=some C→nm m=some x→∃ a,adr f=some a∧findIn K (.ref C) x=some (some (.ref a))
  ga:∀ c C,clsA c=some C→findIn K (.ref C) "__getattr__" = some none
  init:∀ c f,T.init c=some f→∃ C a,clsA c=some C∧adr f=some a∧makesIn K C=true∧findIn K (.ref C) "__init__" = some (some (.ref a))∧keepIn K (.ref C)=true
section
variable {prog:Program} {w:World} {hb:Heap} {T:Tab} {N:Nat} {sc:Scope} {K:Frag} {mg mb:Str→Option Value} {adr:Nat→Option Addr}
theorem call_says {A:Around} {env:Env} {Pv:Prv} {vars:Loc} {B:Frz} {ρ:Nat→Addr} {σ:Sto} {s:Shared} {f:Nat} {a:Addr} {vs:List Value} {ls:List LV} (CT:CallTab prog w hb K T adr N) (cx:Cx T A env sc Pv N) (o:OkE w.params hb env Pv vars B ρ σ s.heap)
    (ha:adr f=some a) (d:DenAll w.params B ρ σ.length vs ls):Says prog w hb (DV w) A env Pv vars B ρ σ s (call (.ref a) vs) (T.call f ls σ):=fun Q E h=>by
  refine wpAny_call ?_
  exact CT.call f a ha A _ B ρ σ s vs ls (cx.frm.enter o) cx.hnd (by have:=cx.dep; omega) (by have:=cx.uni; omega) (o.enter cx.uq) d _ (EP.enter cx.uq o h)
def noStar (es:List PySem.Expr):Bool:=es.all fun e => !isStarred e
theorem noStar_each {env:Env}:∀ {es:List PySem.Expr},noStar es=true→starEach es env=es.map fun e=>(false,eval e env)
  | [],_=>rfl
  | e::es,h=>by
    unfold noStar at h
    rw [List.all_cons,Bool.and_eq_true] at h
    have:=noStar_each (env:=env) (es:=es) h.2
    rw [List.map_cons,← this]
    cases e <;> first | rfl | cases h.1
theorem noStar_any {es:List PySem.Expr} {env:Env} {pos:Pos} (h:noStar es=true):(backTo pos (starEach es env)).any (·.1)=false:=by
  rw [noStar_each h]
  unfold backTo
  simp
theorem args_says {A:Around} {E:Value→Shared→Prop} {env:Env} {s:Shared} {f:Value} {first:List Value} {pos:Pos} {es:List PySem.Expr} {Q:Value→Shared→Prop} (hk:keepIn K f=true) (hn:noStar es=true) (X:K.In s.heap)
    (h:wpAny (model prog w) A (spliced (backTo pos (starEach es env))) (fun vs s₁=>K.In s₁.heap∧wpAny (model prog w) A (call f (first++vs)) Q E s₁) E s):wpAny (model prog w) A (callWith pos f first (backTo pos (starEach es env)) []) Q E s:=by
  cases es with
  | nil =>
    refine callWith_K0 X hk ?_
    have h':wpAny (model prog w) A (pure []) (fun vs s₁=>K.In s₁.heap∧wpAny (model prog w) A (call f (first++vs)) Q E s₁) E s:=h
    exact fun Γ p hΓ=>(h' Γ p hΓ).2 Γ p hΓ
  | cons e rest =>
    have hn':=hn
    unfold noStar at hn'
    rw [List.all_cons,Bool.and_eq_true] at hn'
    refine callWith_K X hk h ?_ (noStar_any hn'.2)
    have h1:=hn'.1
    cases e <;> first | rfl | cases h1
theorem SE_call {x:Str} {np pos:Pos} {f:Nat} {a:Addr} {es:List PySem.Expr} {mes:MEs} (G:Gd w hb K mg mb) (CT:CallTab prog w hb K T adr N) (ha:adr f=some a) (hx:sc.names.lookup x=some .globalImplicit) (hv:nsIn K mainGlobals x=some (some (.ref a))) (hd:(x == ("__debug__" : Str))=false)
    (h1:SEs prog w hb T N sc es mes) (hn:noStar es=true):SE prog w hb T N sc (.Call (.Name x np) es [] pos) (.call f mes):=fun A env Pv vars B ρ σ s cx o Q E h=>by
  unfold evalM at h
  refine Call_ (globName G cx o.1 hx hv hd ?_)
  refine args_says (CT.keep f a ha).1 hn (fun b o' e=>o.1.stays b o' (G.X b o' e)) ?_
  refine h1 A env Pv vars B ρ σ s pos cx o _ _ (EP.bind h fun ls σ₁ vs B₁ ρ₁ s₁ _ e₁ o₁ t₁ d₁ h₁=>⟨fun b o' e=>o₁.1.stays b o' (G.X b o' e),?_⟩)
  exact call_says CT cx o₁ ha d₁ _ _ h₁
theorem Call_meth {A:Around} {E:Value→Shared→Prop} {s:Shared} {env:Env} {o:PySem.Expr} {name:Str} {apos pos:Pos} {args:List PySem.Expr} {Q:Value→Shared→Prop} (hbase:attributeBase o name env (eval o env)=eval o env)
    (hfew:noStar args=true) (h30:args.length < 30) (hline:(apos.endLine == pos.line)=true)
    (h:wpAny (model prog w) A (eval o env) (fun ov s₁=>∀ pl,wpAny (model prog w) A (getMethod ov name pl) (fun p s₂=>wpAny (model prog w) A (callWith pos p.1 p.2 (backTo pos (starEach args env)) []) Q E s₂) E s₁) E s) :
    wpAny (model prog w) A (eval (.Call (.Attribute o name apos) args [] pos) env) Q E s:=by
  rw [arm_eval_Call,hbase]
  refine wpAny_bind (wpAny_mono h (fun ov s₁ h₁=>?_) fun _ _ e=>e)
  refine wpAny_bind (wpAny_standAt ?_)
  have hform:methodCallForm (args.length + ([]:List Keyword).length) (backTo pos (starEach args env)) (backToKw pos (keywordEach [] env))=true:=by
    have h1:(backTo pos (starEach args env)).all (fun x => !x.1)=true:=by
      rw [noStar_each hfew]; unfold backTo; simp
    show ((backTo pos (starEach args env)).all (fun x => !x.1) && (List.all (backToKw pos (keywordEach [] env)) (fun x=>x.1.isSome)) && decide (args.length + 0 + 0 < 30))=true
    rw [h1]
    have:(List.all (backToKw pos (keywordEach [] env)) (fun x=>x.1.isSome))=true:=rfl
    rw [this]
    simpa using h30
  have hpos:methodCallPos true o env apos pos=pure pos:=by unfold methodCallPos; simp [hline]
  unfold methodCall
  rw [hform]
  refine wpAny_bind (wpAny_holding (wpAny_mono (h₁ _) (fun p s₂ h₂=>?_) fun _ _ e=>e))
  exact wpAny_bind (wpAny_of_eq hpos h₂)
theorem SE_meth {e:PySem.Expr} {me:ME} {x:Str} {m:Nat} {apos pos:Pos} {es:List PySem.Expr} {mes:MEs} (X:K.In hb) (CL:ClsTab K T) (CT:CallTab prog w hb K T adr N) (h1:SE prog w hb T N sc e me) (h2:SEs prog w hb T N sc es mes) (hx:nm m=some x) (hp:plainBase e=true)
    (hn:noStar es=true) (h30:es.length < 30) (hl:(apos.endLine == pos.line)=true):SE prog w hb T N sc (.Call (.Attribute e x apos) es [] pos) (.meth me m mes):=fun A env Pv vars B ρ σ s cx o Q E h=>by
  unfold evalM at h
  refine Call_meth (base_of hp) hn h30 hl (h1 A env Pv vars B ρ σ s cx o _ _ (EP.bind h fun l σ₁ v B₁ ρ₁ s₁ _ e₁ o₁ t₁ d₁ h₁=>fun pl=>?_))
  split at h₁
  · rename_i c i _
    split at h₁
    · rename_i as hc
      split at h₁
      · rename_i f hla hme
        obtain ⟨a,C,es',k,rfl,hcl,I,hg,D⟩:=inst_at o₁.1 d₁ hc
        have ck:=CL.cls c C hcl
        obtain ⟨fa,hfa,hfi⟩:=CT.meth c C m x f hme hcl hx
        have XX:K.In s₁.heap:=fun b o' e=>o₁.1.stays b o' (X b o' e)
        have hsh:shadowIn (some (dictOf es' k)) x=some false:=by
          have:=D.getL hx
          rw [hla] at this
          unfold shadowIn
          dsimp only
          rw [lookIn_dict,this]; rfl
        refine method_fn XX I ck.ga (CT.ga c C hcl) hfi (CT.keep f fa hfa).2 hsh ?_
        refine args_says (CT.keep f fa hfa).1 hn XX ?_
        refine h2 A env Pv vars B₁ ρ₁ σ₁ s₁ pos cx o₁ _ _ (EP.bind h₁ fun ls σ₂ vs B₂ ρ₂ s₂ _ e₂ o₂ t₂ d₂ h₂=>⟨fun b o' e=>o₂.1.stays b o' (X b o' e),?_⟩)
        exact call_says CT cx o₂ hfa (.cons (d₁.ext e₂) d₂) _ _ h₂
      · exact h₁.elim
    · exact h₁.elim
  · exact h₁.elim
theorem SE_new {x:Str} {np pos:Pos} {c:Nat} {C:Addr} (G:Gd w hb K mg mb) (CT:CallTab prog w hb K T adr N) (hC:clsA c=some C) (hx:sc.names.lookup x=some .globalImplicit) (hv:nsIn K mainGlobals x=some (some (.ref C))) (hd:(x == ("__debug__" : Str))=false) :
    SE prog w hb T N sc (.Call (.Name x np) [] [] pos) (.new c):=fun A env Pv vars B ρ σ s cx o Q E h=>by
  unfold evalM at h
  split at h
  · rename_i f hi
    obtain ⟨C',a,hC',ha,hm,hf,hk⟩:=CT.init c f hi
    rw [hC] at hC'; cases hC'
    refine Call_ (globName G cx o.1 hx hv hd ?_)
    have XX:K.In s.heap:=fun b o' e=>o.1.stays b o' (G.X b o' e)
    refine callWith_K0 XX hk (wpAny_call ?_)
    obtain ⟨hh,g,dr,tk,os⟩:=s
    refine make_core (makes_of XX hm) (looks_findIn XX hf) (fun self=>bind_fn XX self (CT.keep f a ha).2) (.inl rfl) ?_
    have o1:=(o.pushC emptyDict (.dict []) rfl ⟨[],0,Heap.get?_push_size _ rfl,.nil⟩)
    have o2:=o1.pushF (instObj C hh.objs.size)
    rw [Heap.size_push] at o2
    have e1:Ext B ρ σ.length B (rhoAt ρ σ.length hh.objs.size) (σ++[Cell.dict []]).length:=extApp
    have n1:B (hh.objs.size + 1)=none:=by have:=o1.1.newB; rwa [Heap.size_push] at this
    have e2:Ext B (rhoAt ρ σ.length hh.objs.size) (σ++[Cell.dict []]).length (frzAt B (hh.objs.size + 1) (instObj C hh.objs.size)) (rhoAt ρ σ.length hh.objs.size) (σ++[Cell.dict []]).length:=ext_frzAt n1
    have dself:Den w.params (frzAt B (hh.objs.size + 1) (instObj C hh.objs.size)) (rhoAt ρ σ.length hh.objs.size) (σ++[Cell.dict []]).length (.ref (hh.objs.size + 1)) (.obj c σ.length):=by
      refine .obj (C:=C) (by simp) hC ?_
      rw [show rhoAt ρ σ.length hh.objs.size σ.length=hh.objs.size from by unfold rhoAt; rw [if_pos rfl]]
      exact frzAt_self _ _
    have h':EP (OkE w.params hb env Pv vars) Pv (DV w) (frzAt B (hh.objs.size + 1) (instObj C hh.objs.size)) (rhoAt ρ σ.length hh.objs.size) (σ++[Cell.dict []]) ⟨(hh.push emptyDict).push (instObj C hh.objs.size),g,dr,tk,os⟩ (bindR (T.call f [.obj c σ.length] (σ++[Cell.dict []])) fun u σ' => match u with
      | .none=>some (.val (.obj c σ.length),σ')
      | _=>none) Q E:=EP.from h (e1.trans e2) ⟨rfl,rfl⟩
    have h'':EP (OkE w.params hb env Pv vars) Pv (DV w) (frzAt B (hh.objs.size + 1) (instObj C hh.objs.size)) (rhoAt ρ σ.length hh.objs.size) (σ++[Cell.dict []]) ⟨(hh.push emptyDict).push (instObj C hh.objs.size),g,dr,tk,os⟩ (T.call f [.obj c σ.length] (σ++[Cell.dict []]))
        (fun v s' => v=Value.none∧Q (.ref (hh.objs.size + 1)) s') E:=EP.bind h' fun u σ₃ v B₃ ρ₃ s₃ _ e₃ o₃ t₃ d₃ h₃=>by
      split at h₃
      · cases d₃
        exact ⟨rfl,EP.val h₃ o₃ (dself.ext e₃)⟩
      · exact h₃.elim
    have d1:(A.under (.builtin "type.__call__" ⟨[.ref C],[]⟩)).depth + 4 * N≤983:=by
      have:=cx.dep
      show A.depth + 1 + 4 * N≤983
      omega
    have d2:(A.under (.builtin "type.__call__" ⟨[.ref C],[]⟩)).units + 64 * N + 139≤cLine:=by
      have:=cx.uni
      show A.units + 1 + 64 * N + 139≤cLine
      omega
    have fr:Frames (A.under (.builtin "type.__call__" ⟨[.ref C],[]⟩)) (Mine.enter env ((hh.push emptyDict).push (instObj C hh.objs.size)) Pv):=cx.frm.enter o2
    have hnd:T.rs=true→(A.under (.builtin "type.__call__" ⟨[.ref C],[]⟩)).handled=none:=cx.hnd
    have ent:=EP.enter (s:=⟨(hh.push emptyDict).push (instObj C hh.objs.size),g,dr,tk,os⟩) cx.uq o2 h''
    exact CT.call f a ha _ _ _ _ _ ⟨(hh.push emptyDict).push (instObj C hh.objs.size),g,dr,tk,os⟩ _ _ fr hnd d1 d2 (o2.enter cx.uq) (.cons dself .nil) _ ent
  · exact h.elim
end
end Mine
namespace Mine
open PySem PySem.Calls PySem.W PyProof.Rows PySem.SeqAt
abbrev Ob:=Addr→Option Obj
def prvs (Pv:Prv) (O:Ob):Prv:=fun b=>match O b with
  | some o=>some (o,false)
  | none=>Pv b
def one (d:Addr) (o:Obj):Ob:=fun b=>if b=d then some o else none
theorem one_self {d:Addr} {o:Obj}:one d o d=some o:=by unfold one; rw [if_pos rfl]
theorem one_some {d b:Addr} {o o':Obj} (h:one d o b=some o'):b=d∧o' = o:=by
  unfold one at h; split at h
  · rename_i q; cases h; exact ⟨q,rfl⟩
  · cases h
structure Owns (B:Frz) (Pv:Prv) (ρ:Nat→Addr) (n:Nat) (env:Env) (O:Ob) (h:Heap):Prop where
  own:∀ d o,O d=some o→Own B Pv ρ n env d
  held:∀ d o,O d=some o→h.get? d=some o
theorem Owns.le {B:Frz} {Pv:Prv} {ρ:Nat→Addr} {n:Nat} {env:Env} {O:Ob} {h:Heap} (w:Owns B Pv ρ n env O h):PLe Pv (prvs Pv O):=fun a x e=>by
  unfold prvs
  cases q:O a with
  | none=>exact e
  | some o=>rw [(w.own a o q).p] at e; cases e
theorem Owns.one {B:Frz} {Pv:Prv} {ρ:Nat→Addr} {n:Nat} {env:Env} {d:Addr} {o:Obj} {h:Heap} (w:Own B Pv ρ n env d) (e:h.get? d=some o):Owns B Pv ρ n env (one d o) h :=
  ⟨fun b o' q=>by obtain ⟨rfl,rfl⟩:=one_some q; exact w,fun b o' q=>by obtain ⟨rfl,rfl⟩:=one_some q; exact e⟩
section
variable {P:Params} {hb h h':Heap} {B:Frz} {Pv:Prv} {ρ:Nat→Addr} {σ:Sto} {env:Env} {vars:Loc} {O:Ob} {m cm:Str→Option Value}
theorem prvs_some {d:Addr} {o:Obj} (h:O d=some o):prvs Pv O d=some (o,false):=by unfold prvs; rw [h]
theorem prvs_none {d:Addr} (h:O d=none):prvs Pv O d=Pv d:=by unfold prvs; rw [h]
theorem OkE.hideS (x:OkE P hb env Pv vars B ρ σ h) (w:Owns B Pv ρ σ.length env O h):OkE P hb env (prvs Pv O) vars B ρ σ h:=by
  obtain ⟨st,m,cm,y⟩:=x
  have ne:∀ a,(∀ d o,O d=some o→d≠a)→prvs Pv O a=Pv a:=fun a k=>by
    cases q:O a with
    | none=>exact prvs_none q
    | some o=>exact absurd rfl (k a o q)
  refine ⟨⟨st.base,st.frz,fun a o' f' q=>?_,fun i c q=>?_,st.inj,st.abv⟩,m,cm,y.ns,⟨y.frL.1,by rw [ne _ fun d o q=>(w.own d o q).l]; exact y.frL.2.1,y.frL.2.2⟩,y.cell,y.vals⟩
  · cases e:O a with
    | some o2=>rw [prvs_some e] at q; cases q; exact ⟨(w.own a _ e).b,⟨_,w.held a _ e⟩,fun _=>w.held a _ e⟩
    | none=>rw [prvs_none e] at q; exact st.prv a o' f' q
  · obtain ⟨a1,a2,a3⟩:=st.cell i c q
    exact ⟨a1,by rw [ne _ fun d o q' => Ne.symm ((w.own d o q').r i (List.getElem?_eq_some_iff.mp q).1)]; exact a2,a3⟩
theorem OkE.showS {B₀:Frz} {ρ₀:Nat→Addr} {n₀:Nat} {h₀:Heap} (x:OkE P hb env (prvs Pv O) vars B ρ σ h) (w:Owns B₀ Pv ρ₀ n₀ env O h₀):OkE P hb env Pv vars B ρ σ h∧Owns B Pv ρ σ.length env O h:=by
  obtain ⟨st,m,cm,y⟩:=x
  refine ⟨⟨⟨st.base,st.frz,fun a o' f' q=>st.prv a o' f' (w.le _ _ q),fun i c q=>let ⟨a1,a2,a3⟩:=st.cell i c q; ⟨a1,w.le.none a2,a3⟩,st.inj,st.abv⟩,m,cm,y.ns,⟨y.frL.1,w.le.none y.frL.2.1,y.frL.2.2⟩,y.cell,y.vals⟩,fun d o q=>?_,fun d o q=>(st.prv d o false (prvs_some q)).2.2 rfl⟩
  have w0:=w.own d o q
  refine ⟨(st.prv d o false (prvs_some q)).1,w0.p,fun i hi e=>?_,w0.l,w0.c⟩
  obtain ⟨_,b2,_⟩:=st.cell i _ (List.getElem?_eq_getElem hi)
  rw [e,prvs_some q] at b2; cases b2
end
theorem EP.hiddenS {α β:Type} {D:Frz→(Nat→Addr)→Nat→β→α→Prop} {w:World} {hb:Heap} {env:Env} {vars:Loc} {B:Frz} {Pv:Prv} {ρ:Nat→Addr} {σ:Sto} {s:Shared} {r:R α} {Q:β→Shared→Prop} {E:Value→Shared→Prop} {O:Ob}
    (w':Owns B Pv ρ σ.length env O s.heap) (h:EP (fun B ρ σ h=>OkE w.params hb env Pv vars B ρ σ h∧Owns B Pv ρ σ.length env O h) Pv D B ρ σ s r Q E):EP (OkE w.params hb env (prvs Pv O) vars) (prvs Pv O) D B ρ σ s r Q E:=by
  unfold EP at h ⊢
  split
  · exact fun b B'' ρ'' s'' e k q dd=>h b B'' ρ'' s'' e (k.showS w') q dd
  · exact fun b B'' ρ'' s'' e k q dd=>h b B'' ρ'' s'' e (k.showS w') q (dd.down w'.le)
  · exact h
abbrev ItP:=Nat→Ob→Frz→(Nat→Addr)→Nat→Prop
structure Walker (prog:Program) (w:World) (hb:Heap) (A:Around) (target:PySem.Expr) (src:Src) (I:Addr) (It:ItP):Prop where
  ext:∀ {k O B ρ n B' ρ' n'},It k O B ρ n→Ext B ρ n B' ρ' n' → It k O B' ρ' n'
  step:∀ {k O s env Pv vars B ρ σ x} {Q:Value→Shared→Prop} {E:Value→Shared→Prop},OkE w.params hb env Pv vars B ρ σ s.heap→Owns B Pv ρ σ.length env O s.heap→It k O B ρ σ.length→itemAt σ src k=some (some x) →
    (∀ v B' s' O',Ext B ρ σ.length B' ρ σ.length→OkE w.params hb env Pv vars B' ρ σ s'.heap→Rest s s' → Owns B' Pv ρ σ.length env O' s'.heap→It (k + 1) O' B' ρ σ.length→Den w.params B' ρ σ.length v x→Q v s') →
    wpAny (model prog w) A (pyNext (.ref I)) (fun r s₁=>∃ v,r=some v∧wpAny (model prog w) A (letOwnedTupleGo target (.ref I) v) (fun _ s₂=>Q v s₂) E s₁) E s
  stop:∀ {k O s env Pv vars B ρ σ} {Q:Shared→Prop} {E:Value→Shared→Prop},OkE w.params hb env Pv vars B ρ σ s.heap→Owns B Pv ρ σ.length env O s.heap→It k O B ρ σ.length→itemAt σ src k=some none →
    (∀ s',OkE w.params hb env Pv vars B ρ σ s'.heap→Rest s s' → Q s')→wpAny (model prog w) A (pyNext (.ref I)) (fun r s₁=>r=none∧Q s₁) E s
  self:∀ {k O s env Pv B ρ n} {Q:Value→Shared→Prop} {E:Value→Shared→Prop},Owns B Pv ρ n env O s.heap→It k O B ρ n→Q (.ref I) s→wpAny (model prog w) A (pyIter (.ref I)) Q E s
section
variable {prog:Program} {w:World} {hb:Heap} {A:Around} {target:PySem.Expr}
theorem letGo_listiter {E:Value→Shared→Prop} {I t:Addr} {i:Nat} {v:Value} {Q':Unit→Shared→Prop} {s':Shared} (hit:s'.heap.IsListIter I t i) (h:Q' () s'):wpAny (model prog w) A (letOwnedTupleGo target (.ref I) v) Q' E s':=by
  obtain ⟨o,ho,hc,hd⟩:=hit
  unfold letOwnedTupleGo
  cases target <;> first
    | exact wpAny_pure h
    | (cases v <;> first
        | exact wpAny_pure h
        | (refine wpAny_bind (wpAny_load ho ?_)
           rw [hc,hd]
           exact wpAny_pure h))
theorem letGo_rangeiter {E:Value→Shared→Prop} {I:Addr} {a b c:Int} {v:Value} {Q':Unit→Shared→Prop} {s':Shared} (ho:IsRangeIter s'.heap I a b c) (h:Q' () s'):wpAny (model prog w) A (letOwnedTupleGo target (.ref I) v) Q' E s':=by
  unfold letOwnedTupleGo
  cases target <;> first
    | exact wpAny_pure h
    | (cases v <;> first
        | exact wpAny_pure h
        | (refine wpAny_bind (wpAny_load ho ?_)
           exact wpAny_pure h))
def isL:LV→Bool
  | .lst _ | .cell _=>true
  | _=>false
theorem seq_list {env:Env} {Pv:Prv} {vars:Loc} {B:Frz} {ρ:Nat→Addr} {σ:Sto} {s:Shared} {ax:Addr} {l:LV} {xs:List LV} (o:OkE w.params hb env Pv vars B ρ σ s.heap) (d:Den w.params B ρ σ.length (.ref ax) l) (hl:isL l=true) (hi:itemsL σ l=some xs) :
    ∃ vs m,s.heap.get? ax=some (lstO vs m)∧DenAll w.params B ρ σ.length vs xs:=by
  unfold itemsL at hi
  split at hi
  · cases hl
  · cases hi; cases d; rename_i hb' D; exact ⟨_,_,o.1.frz _ _ hb',D⟩
  · split at hi
    · rename_i hc; cases hi; cases d; exact cell_list o.1 hc
    · cases hi
  · cases hi
def LIt (P:Params) (I:Addr) (l:LV):ItP:=fun k O B ρ n=>∃ ax o,O=one I o∧o.cls = .type "list_iterator" ∧ o.data = .fields #[.ref ax,.int k 0]∧Den P B ρ n (.ref ax) l
theorem walker_list {I:Addr} {l:LV} (hh:A.handled=none) (hl:isL l=true):Walker prog w hb A target (.seq l) I (LIt w.params I l) where
  ext:=fun ⟨ax,o,a,b,c,d⟩ e=>⟨ax,o,a,b,c,d.ext e⟩
  step:=fun {k O s env Pv vars B ρ σ x Q E} o w' it hx h=>by
    obtain ⟨ax,oI,rfl,hc,hd,dl⟩:=it
    obtain ⟨xs,hxs,hx⟩:=Option.map_eq_some_iff.mp hx
    obtain ⟨vs,m,hg,D⟩:=seq_list o dl hl hxs
    have hg1:=w'.held I oI one_self
    have own:=w'.own I oI one_self
    obtain ⟨v,hv,dv⟩:=D.get hx
    refine wpAny_pyNext_list_item ⟨oI,hg1,hc,hd⟩ ⟨_,hg,rfl,_,rfl⟩ (x:=v) (by simpa using hv) fun h' hit' hs' => ⟨v,rfl,?_⟩
    refine letGo_listiter (s':={ s with heap:=h' }) hit' ?_
    obtain ⟨o',g',c',d'⟩:=hit'
    have ok':=o.turn own (h':=h') fun b o'' hb' e=>(hs'.2 b hb').trans e
    exact h v B { s with heap:=h' } (one I o') .refl ok' ⟨rfl,rfl⟩ (Owns.one own g') ⟨ax,o',rfl,c',d',dl⟩ dv
  stop:=fun {k O s env Pv vars B ρ σ Q E} o w' it hx h=>by
    obtain ⟨ax,oI,rfl,hc,hd,dl⟩:=it
    obtain ⟨xs,hxs,hx⟩:=Option.map_eq_some_iff.mp hx
    obtain ⟨vs,m,hg,D⟩:=seq_list o dl hl hxs
    have hg1:=w'.held I oI one_self
    have own:=w'.own I oI one_self
    have hlen:vs.length≤k:=by rw [D.length]; exact List.getElem?_eq_none_iff.mp hx
    refine wpAny_pyNext_list_end hh ⟨oI,hg1,hc,hd⟩ ⟨_,hg,rfl,_,rfl⟩ (by simpa using hlen) fun h' he' => ⟨rfl,?_⟩
    exact h { s with heap:=h' } (o.turn own (h':=h') fun b o'' hb' e=>he' b o'' hb' e) ⟨rfl,rfl⟩
  self:=fun {k O s env Pv B ρ n Q E} w' it h=>by
    obtain ⟨ax,oI,rfl,hc,hd,dl⟩:=it
    exact wpAny_pyIter_listiter ⟨oI,w'.held I oI one_self,hc,hd⟩ h
def TIt (P:Params) (I:Addr) (xs:List LV):ItP:=fun k O B ρ n=>∃ ax o,O=one I o∧o.cls = .type "tuple_iterator" ∧ o.data = .fields #[.ref ax,.int k 0]∧Den P B ρ n (.ref ax) (.tup xs)
theorem walker_tuple {I:Addr} {xs:List LV} (hh:A.handled=none):Walker prog w hb A target (.seq (.tup xs)) I (TIt w.params I xs) where
  ext:=fun ⟨ax,o,a,b,c,d⟩ e=>⟨ax,o,a,b,c,d.ext e⟩
  step:=fun {k O s env Pv vars B ρ σ x Q E} o w' it hx h=>by
    obtain ⟨ax,oI,rfl,hc,hd,dl⟩:=it
    have hx:xs[k]? = some x:=Option.some.inj hx
    have dl':=dl
    cases dl; rename_i vs m hg D
    have hg:=o.1.frz _ _ hg
    have hg1:=w'.held I oI one_self
    have own:=w'.own I oI one_self
    obtain ⟨v,hv,dv⟩:=D.get hx
    refine wpAny_pyNext_tuple_item ⟨oI,hg1,hc,hd⟩ ⟨_,hg,rfl,_,rfl⟩ (x:=v) (by simpa using hv) fun h' hit' hs' => ⟨v,rfl,?_⟩
    refine letGo_tupleiter (s':={ s with heap:=h' }) hit' ?_
    obtain ⟨o',g',c',d'⟩:=hit'
    have ok':=o.turn own (h':=h') fun b o'' hb' e=>(hs'.2 b hb').trans e
    exact h v B { s with heap:=h' } (one I o') .refl ok' ⟨rfl,rfl⟩ (Owns.one own g') ⟨ax,o',rfl,c',d',dl'⟩ dv
  stop:=fun {k O s env Pv vars B ρ σ Q E} o w' it hx h=>by
    obtain ⟨ax,oI,rfl,hc,hd,dl⟩:=it
    have hx:xs[k]? = none:=Option.some.inj hx
    cases dl; rename_i vs m hg D
    have hg:=o.1.frz _ _ hg
    have hg1:=w'.held I oI one_self
    have own:=w'.own I oI one_self
    have hlen:vs.length≤k:=by rw [D.length]; exact List.getElem?_eq_none_iff.mp hx
    refine wpAny_pyNext_tuple_end hh ⟨oI,hg1,hc,hd⟩ ⟨_,hg,rfl,_,rfl⟩ (by simpa using hlen) fun h' he' => ⟨rfl,?_⟩
    exact h { s with heap:=h' } (o.turn own (h':=h') fun b o'' hb' e=>he' b o'' hb' e) ⟨rfl,rfl⟩
  self:=fun {k O s env Pv B ρ n Q E} w' it h=>by
    obtain ⟨ax,oI,rfl,hc,hd,dl⟩:=it
    exact wpAny_pyIter_tupleiter ⟨oI,w'.held I oI one_self,hc,hd⟩ h
abbrev rangeO (a left c:Int):Obj:={ cls:=.type "range_iterator",dict:=none,data:=.fields #[rawInt a,rawInt left,rawInt c],slots := #[] }
def RIt (I:Addr) (a c:Int) (n:Nat):ItP:=fun k O B ρ m=>O=one I (rangeO (a + (k:Nat) * c) ((n:Int) - (k:Nat)) c)
theorem walker_range {I:Addr} {a c:Int} {n:Nat} (hh:A.handled=none):Walker prog w hb A target (.range a c n) I (RIt I a c n) where
  ext:=fun h _=>h
  step:=fun {k O s env Pv vars B ρ σ x Q E} o w' it hx h=>by
    cases it
    have hg1:=w'.held I _ one_self
    have own:=w'.own I _ one_self
    unfold itemAt at hx
    dsimp only at hx
    have hx:=Option.some.inj hx
    split at hx
    · rename_i hk
      cases hx
      refine wpAny_pyNext_range_item hg1 (by omega) fun h' hit' hs' => ⟨_,rfl,?_⟩
      refine letGo_rangeiter (s':={ s with heap:=h',toks:=s.toks + 1 }) hit' ?_
      have ok':=o.turn own (h':=h') fun b o'' hb' e=>(hs'.2 b hb').trans e
      have e1:a + ((k + 1:Nat):Int) * c=a + (k:Int) * c + c:=by push_cast; rw [Int.add_mul,Int.one_mul,Int.add_assoc]
      have e2:(n:Int) - ((k + 1:Nat):Int)=(n:Int) - (k:Int) - 1:=by push_cast; omega
      refine h _ B { s with heap:=h',toks:=s.toks + 1 } (one I (rangeO (a + ((k + 1:Nat):Int) * c) ((n:Int) - ((k + 1:Nat):Int)) c)) .refl ok' ⟨rfl,rfl⟩ (Owns.one own ?_) rfl (.int _ _)
      rw [e1,e2]; exact hit'
    · cases hx
  stop:=fun {k O s env Pv vars B ρ σ Q E} o w' it hx h=>by
    cases it
    have hg1:=w'.held I _ one_self
    have own:=w'.own I _ one_self
    unfold itemAt at hx
    dsimp only at hx
    have hx:=Option.some.inj hx
    split at hx
    · cases hx
    · rename_i hk
      refine wpAny_pyNext_range_end hh hg1 (by omega) fun h' he' => ⟨rfl,?_⟩
      exact h { s with heap:=h' } (o.turn own (h':=h') fun b o'' hb' e=>he' b o'' hb' e) ⟨rfl,rfl⟩
  self:=fun {k O s env Pv B ρ n Q E} w' it h=>by
    cases it
    exact wpAny_pyIter_rangeiter (w'.held I _ one_self) h
def Made (prog:Program) (w:World) (hb:Heap) (A:Around) (target:PySem.Expr) (env:Env) (Pv:Prv) (vars:Loc) (src:Src) (Q:Value→Shared→Prop) (B:Frz) (ρ:Nat→Addr) (σ:Sto) (s:Shared):Prop :=
  ∀ I O It s',Walker prog w hb A target src I It→OkE w.params hb env Pv vars B ρ σ s'.heap→Rest s s' → Owns B Pv ρ σ.length env O s'.heap→It 0 O B ρ σ.length→Q (.ref I) s'
theorem make_seq {env:Env} {Pv:Prv} {vars:Loc} {B:Frz} {ρ:Nat→Addr} {σ:Sto} {s:Shared} {v:Value} {l:LV} {Q:Value→Shared→Prop} {E:Value→Shared→Prop} (hh:A.handled=none) (o:OkE w.params hb env Pv vars B ρ σ s.heap) (d:Den w.params B ρ σ.length v l)
    (hi:(itemsL σ l).isSome=true) (h:Made prog w hb A target env Pv vars (.seq l) Q B ρ σ s):wpAny (model prog w) A (pyIter v) Q E s:=by
  obtain ⟨xs,hi⟩:=Option.isSome_iff_exists.mp hi
  have fin:∀ {oI:Obj} (It:ItP),oI.isFreed=false→(∀ I,I=s.heap.objs.size→Walker prog w hb A target (.seq l) I It)→It 0 (one s.heap.objs.size oI) B ρ σ.length→Q (.ref s.heap.objs.size) { s with heap:=s.heap.push oI }:=fun {oI} It hf W it =>
    h s.heap.objs.size (one s.heap.objs.size oI) It { s with heap:=s.heap.push oI } (W _ rfl) (o.push oI) ⟨rfl,rfl⟩ (Owns.one o.fresh (Heap.get?_push_size _ hf)) it
  by_cases hl:isL l=true
  · have hr:∃ ax,v = .ref ax:=by
      unfold itemsL at hi
      split at hi
      · cases hl
      · cases d; exact ⟨_,rfl⟩
      · cases d; exact ⟨_,rfl⟩
      · cases hi
    obtain ⟨ax,rfl⟩:=hr
    obtain ⟨vs,m,hg,D⟩:=seq_list o d hl hi
    refine wpAny_pyIter_list ⟨_,hg,rfl,_,rfl⟩ ?_
    exact fin (LIt w.params s.heap.objs.size l) rfl (fun I hI=>hI ▸ walker_list hh hl) ⟨ax,_,rfl,rfl,rfl,d⟩
  · unfold itemsL at hi
    split at hi
    · cases hi
      have d':=d
      cases d; rename_i ax vs m hg D
      refine wpAny_pyIter_tuple ⟨_,o.1.frz _ _ hg,rfl,_,rfl⟩ ?_
      exact fin (TIt w.params s.heap.objs.size xs) rfl (fun I hI=>hI ▸ walker_tuple hh) ⟨ax,_,rfl,rfl,rfl,d'⟩
    · exact absurd rfl hl
    · exact absurd rfl hl
    · cases hi
end
end Mine
namespace Mine
open PySem PySem.Calls PySem.W PyProof.Rows PySem.SeqAt
def Storable (own:Bool) (sc:Scope) (x:Str):Prop:=sc.names.lookup x=some .local∨(own=true∧sc.names.lookup x=some .cell)
inductive TgL (own:Bool) (sc:Scope):List PySem.Expr→List Nat→Prop
  | nil:TgL own sc [] []
  | cons {x p es k ks}:nm k=some x→Storable own sc x→TgL own sc es ks→TgL own sc (.Name x p::es) (k::ks)
inductive Tg (own:Bool) (sc:Scope):PySem.Expr→MT→Prop
  | one {x k p}:nm k=some x→Storable own sc x→Tg own sc (.Name x p) (.one k)
  | many {es ks n p}:TgL own sc es ks→Tg own sc (.Tuple es n p) (.many ks)
theorem cells_eq {l:List (Str × Addr)}:(l.Pairwise fun x y=>x.2≠y.2)→∀ {a b:Str × Addr},a∈l→b∈l→a.2=b.2→a=b:=by
  induction l with
  | nil=>intro _ a b h; cases h
  | cons y r ih =>
    intro hp a b ha hb e
    obtain ⟨h1,h2⟩:=List.pairwise_cons.mp hp
    rcases List.mem_cons.mp ha with rfl | ha
    · rcases List.mem_cons.mp hb with rfl | hb
      · rfl
      · exact absurd e (h1 b hb)
    · rcases List.mem_cons.mp hb with q | hb
      · rw [q] at e; exact absurd e.symm (h1 a ha)
      · exact ih h2 ha hb e
section
variable {P:Params} {hb h h':Heap} {B:Frz} {Pv:Prv} {ρ:Nat→Addr} {σ:Sto} {env:Env} {vars:Loc} {m cm:Str→Option Value}
theorem lookA_put {k k':Nat} {l l':LV}:∀ {vars:Loc},lookA k' (putA k l vars)=some l' → (k' = k∧l' = l)∨(k' ≠ k∧lookA k' vars=some l')
  | [],h=>by
    unfold putA lookA at h
    split at h
    · rename_i q; cases h; exact .inl ⟨q.symm,rfl⟩
    · cases h
  | (a,u)::r,h=>by
    unfold putA at h
    split at h
    · rename_i q
      unfold lookA at h
      split at h
      · rename_i q'; cases h; exact .inl ⟨by rw [← q',q],rfl⟩
      · rename_i q'; exact .inr ⟨by rw [q] at q'; exact Ne.symm q',by unfold lookA; rw [if_neg q']; exact h⟩
    · rename_i q
      unfold lookA at h
      split at h
      · rename_i q'; cases h; exact .inr ⟨by rw [← q']; exact q,by unfold lookA; rw [if_pos q']⟩
      · rename_i q'
        rcases lookA_put h with z | ⟨z1,z2⟩
        · exact .inl z
        · exact .inr ⟨z1,by unfold lookA; rw [if_neg q']; exact z2⟩
theorem OkE.stLocal {v:Value} {l:LV} {x:Str} {k:Nat} (st:St P hb B Pv ρ σ h) (y:Lc P env B Pv ρ σ.length vars h m cm) (hs:Heap.SameBut env.locals h h') (hn:h'.Ns env.locals (fun z=>if z=x then some v else m z)) (hl:env.kindOf x=some .local) (hx:nm k=some x)
    (d:Den P B ρ σ.length v l):OkE P hb env Pv (putA k l vars) B ρ σ h':=by
  refine ⟨st.setL y hs,_,cm,hn,y.frL,fun z c q=>⟨?_,(y.cell z c q).2⟩,fun k' l' z hz hnm=>?_⟩
  · obtain ⟨o,ho,hd⟩:=(y.cell z c q).1
    refine ⟨o,(hs.2 c fun w=>?_).trans ho,hd⟩
    obtain ⟨o',es,ep,ho',hd',_⟩:=y.ns
    rw [← w,ho] at ho'; cases ho'; rw [hd] at hd'; cases hd'
  · rcases lookA_put hz with ⟨rfl,rfl⟩ | ⟨hne,hz⟩
    · rw [hx] at hnm; cases hnm
      unfold ValAt; rw [hl]
      exact ⟨v,if_pos rfl,d⟩
    · have hxz:z≠x:=fun e=>hne (nm_inj hnm (e ▸ hx))
      have:=y.vals k' l' z hz hnm
      unfold ValAt at this ⊢
      simp only [if_neg hxz]
      exact this
theorem OkE.stCell {v:Value} {l:LV} {x:Str} {k:Nat} {c:Addr} (w:OwnC env Pv) (st:St P hb B Pv ρ σ h) (y:Lc P env B Pv ρ σ.length vars h m cm) (hc:env.cells.lookup x=some c) (hs:Heap.SameBut c h h') (hn:h'.IsCell c (some v)) (hl:env.kindOf x=some .cell) (hx:nm k=some x)
    (d:Den P B ρ σ.length v l):OkE P hb env Pv (putA k l vars) B ρ σ h':=by
  obtain ⟨o,ho,hd⟩:=(y.cell x c hc).1
  have hcL:c≠env.locals:=fun e=>by
    obtain ⟨o',es,ep,ho',hd',_⟩:=y.ns
    rw [← e,ho] at ho'; cases ho'; rw [hd] at hd'; cases hd'
  refine ⟨st.setX (y.cell x c hc).2 (w.2 x c hc) (fun i hi e=>?_) fun b o' hb' e=>(hs.2 b hb').trans e,m,fun z=>if z=x then some v else cm z,?_,y.frL,fun z c' q=>⟨?_,(y.cell z c' q).2⟩,fun k' l' z hz hnm=>?_⟩
  · have a3:=(st.cell i _ (List.getElem?_eq_getElem hi)).2.2
    rw [e] at a3
    cases hc':σ[i] with
    | dict ps=>rw [hc'] at a3; obtain ⟨_,_,e',_⟩:=a3; rw [ho] at e'; cases e'; cases hd
    | list ps=>rw [hc'] at a3; obtain ⟨_,_,e',_⟩:=a3; rw [ho] at e'; cases e'; cases hd
  · obtain ⟨o',es,ep,ho',r⟩:=y.ns
    exact ⟨o',es,ep,(hs.2 _ (Ne.symm hcL)).trans ho',r⟩
  · by_cases e:z=x
    · subst e
      rw [hc] at q; cases q
      rw [if_pos rfl]; exact hn
    · rw [if_neg e]
      obtain ⟨o',ho',hd'⟩:=(y.cell z c' q).1
      refine ⟨o',(hs.2 _ fun e2=>?_).trans ho',hd'⟩
      have m1:=lookup_mem hc
      have m2:=lookup_mem q
      rw [e2] at m2
      exact e (congrArg Prod.fst (cells_eq w.1 m2 m1 rfl))
  · rcases lookA_put hz with ⟨rfl,rfl⟩ | ⟨hne,hz⟩
    · rw [hx] at hnm; cases hnm
      unfold ValAt; rw [hl]
      exact ⟨v,by rw [hc]; rfl,if_pos rfl,d⟩
    · have hxz:z≠x:=fun e=>hne (nm_inj hnm (e ▸ hx))
      have:=y.vals k' l' z hz hnm
      unfold ValAt at this ⊢
      simp only [if_neg hxz]
      exact this
end
section
variable {prog:Program} {w:World} {hb:Heap} {A:Around} {E:Value→Shared→Prop} {s:Shared} {B:Frz} {Pv:Prv} {ρ:Nat→Addr} {σ:Sto} {env:Env} {vars:Loc} {own:Bool} {sc:Scope}
theorem store_says' {v:Value} {l:LV} {x:Str} {k:Nat} {Q:Unit→Shared→Prop} (he:env.scope=sc) (hk:sc.kind = .function) (hw:own=true→OwnC env Pv) (hx:nm k=some x) (hst:Storable own sc x) (hcs:∀ x,sc.names.lookup x=some .cell→(env.cells.lookup x).isSome=true)
    (o:OkE w.params hb env Pv vars B ρ σ s.heap) (d:Den w.params B ρ σ.length v l) (h:∀ s',OkE w.params hb env Pv (putA k l vars) B ρ σ s'.heap→Rest s s' → Q () s'):wpAny (model prog w) A (storeName env x v) Q E s:=by
  obtain ⟨st,m,cm,y⟩:=o
  rcases hst with hl | ⟨ho,hl⟩
  · have hl':env.kindOf x=some .local:=by unfold Env.kindOf; rw [he]; exact hl
    refine wpAny_storeName_local hl' y.ns (fun h' hn hs=>?_) (by rw [he,hk]; rfl)
    exact h { s with heap:=h',toks:=s.toks + 1 } (OkE.stLocal st y hs hn hl' hx d) ⟨rfl,rfl⟩
  · have hl':env.kindOf x=some .cell:=by unfold Env.kindOf; rw [he]; exact hl
    obtain ⟨c,hc⟩:=Option.isSome_iff_exists.mp (hcs x hl)
    refine wpAny_storeName_cell (by rw [he,hk]) hl' hc (y.cell x c hc).1 fun h' hn hs=>?_
    exact h { s with heap:=h' } (OkE.stCell (hw ho) st y hc hs hn hl' hx d) ⟨rfl,rfl⟩
theorem each_says {Q:Unit→Shared→Prop} (he:env.scope=sc) (hk:sc.kind = .function) (hw:own=true→OwnC env Pv) (hcs:∀ x,sc.names.lookup x=some .cell→(env.cells.lookup x).isSome=true):∀ {es:List PySem.Expr} {ks:List Nat},TgL own sc es ks→∀ {vs:List Value} {ls:List LV} {s:Shared} {vars vars':Loc},
    OkE w.params hb env Pv vars B ρ σ s.heap→DenAll w.params B ρ σ.length vs ls→setAll ks ls vars=some vars' → (∀ s',OkE w.params hb env Pv vars' B ρ σ s'.heap→Rest s s' → Q () s') →
    wpAny (model prog w) A (assignInOrder ((assignEach es env).map (·.2)) vs) Q E s
  | _,_,.nil,_,_,s,vars,vars',o,.nil,hs,h=>by cases hs; exact assignInOrder_nil (h s o Rest.refl)
  | _,_,.cons hx hst r,_,_,s,vars,vars',o,.cons d dr,hs,h=>by
    unfold setAll at hs
    refine assignInOrder_cons (wpAny_assign_Name (store_says' he hk hw hx hst hcs o d fun s' o' t' => ?_))
    exact each_says he hk hw hcs r o' dr hs fun s'' o'' t'' => h s'' o'' (t'.trans t'')
  | _,_,.nil,_,_,_,_,_,_,.cons _ _,hs,_=>by cases hs
  | _,_,.cons _ _ _,_,_,_,_,_,_,.nil,hs,_=>by cases hs
theorem tgl_len (env:Env):∀ {es:List PySem.Expr} {ks:List Nat},TgL own sc es ks→(assignEach es env).length=ks.length∧(assignEach es env).findIdx? (·.1)=none
  | _,_,.nil=>⟨rfl,rfl⟩
  | _,_,.cons (x:=x) (p:=p) (es:=es) (ks:=ks) _ _ r=>by
    obtain ⟨a,b⟩:=tgl_len env r
    have e:assignEach (.Name x p::es) env=(false,assign (.Name x p) env)::assignEach es env:=rfl
    rw [e]
    exact ⟨congrArg (· + 1) a,by rw [List.findIdx?_cons,b]; rfl⟩
theorem setAll_len:∀ {ks:List Nat} {ls:List LV} {vars vars':Loc},setAll ks ls vars=some vars' → ks.length=ls.length
  | [],[],_,_,_=>rfl
  | _::_,_::_,_,_,h=>by unfold setAll at h; exact congrArg (· + 1) (setAll_len h)
  | [],_::_,_,_,h=>by cases h
  | _::_,[],_,_,h=>by cases h
theorem assign_says {target:PySem.Expr} {tg:MT} {v:Value} {l:LV} {vars':Loc} {Q:Unit→Shared→Prop} (ht:Tg own sc target tg) (he:env.scope=sc) (hk:sc.kind = .function) (hw:own=true→OwnC env Pv) (hcs:∀ x,sc.names.lookup x=some .cell→(env.cells.lookup x).isSome=true) (hh:A.handled=none)
    (o:OkE w.params hb env Pv vars B ρ σ s.heap) (d:Den w.params B ρ σ.length v l) (hb':bindT tg l vars=some vars') (h:∀ s',OkE w.params hb env Pv vars' B ρ σ s'.heap→Rest s s' → Q () s'):wpAny (model prog w) A (assign target env v) Q E s:=by
  cases ht with
  | one hx hst =>
    unfold bindT at hb'
    cases hb'
    exact wpAny_assign_Name (store_says' he hk hw hx hst hcs o d h)
  | many hl =>
    unfold bindT at hb'
    split at hb'
    · rename_i q; cases q
    · rename_i q; cases q
      cases d; rename_i a vs k hB D
      obtain ⟨n1,n2⟩:=tgl_len env hl
      refine wpAny_assign_Tuple hh ⟨_,o.1.frz _ _ hB,rfl,_,rfl⟩ (by rw [n1,setAll_len hb',List.size_toArray,D.length]) n2 fun h' he' => ?_
      have o':=o.turn o.fresh (h':=h') fun b o' hb e=>he' b o' hb e
      exact each_says (s:={ s with heap:=h' }) he hk hw hcs hl o' D hb' fun s' o'' t' => h s' o'' ⟨t'.1,t'.2⟩
    · cases hb'
end
end Mine
namespace Mine
open PySem PySem.Calls PySem.W PyProof.Rows PySem.SeqAt
theorem Xc.but {B:Frz} {Pv:Prv} {h h':Heap} {C:Addr} {ev:Value} {i:Int} {b:Bool} (x:Xc B Pv h ev i b) (hC:∀ o,h.get? C=some o→∀ vs,o.data ≠ .fields vs) (k:∀ b o,b≠C→h.get? b=some o→h'.get? b=some o):Xc B Pv h' ev i b:=by
  obtain ⟨a,d,oe,vs,es,n,x,t⟩:=x
  refine ⟨a,d,oe,vs,es,n,⟨x.isRef,k _ _ (fun e=>hC oe (e ▸ x.get) vs x.data) x.get,x.cls,x.dict,x.data,x.size,x.freshB,x.freshP,x.dic,x.spot⟩,t.imp id ?_⟩
  rintro ⟨T,oT,ts,a1,a2,a3,a4,a5,a6,a7⟩
  exact ⟨T,oT,ts,a1,a2,a3,a4,k _ _ (fun e=>hC oT (e ▸ a5) ts a6) a5,a6,a7⟩
theorem ns_fields {h:Heap} {C:Addr} {m:Str→Option Value} (n:h.Ns C m):∀ o,h.get? C=some o→∀ vs,o.data ≠ .fields vs:=fun o e vs q=>by
  obtain ⟨o',es,ep,ho,hd,_⟩:=n
  rw [e] at ho; cases ho; rw [q] at hd; cases hd
section
variable {M:Model} {A:Around} {E:Value→Shared→Prop} {s:Shared} {P:Params} {hb:Heap} {B:Frz} {Pv:Prv} {ρ:Nat→Addr} {σ:Sto} {env:Env} {vars:Loc} {ev:Value} {i:Int}
theorem x_passOn' {α:Type} {what:String} {Q:α→Shared→Prop} {env₀:Env} (o:OkE P hb env Pv vars B ρ σ s.heap) (X:Xc B Pv s.heap ev i true)
    (h:∀ h',OkE P hb env Pv vars B ρ σ h' → Xc B Pv h' ev i true→E ev { s with heap:=h' }):wpAny M A (PySem.passOn (α:=α) what ev env₀) Q E s:=by
  obtain ⟨st,m,cm,y⟩:=o
  unfold PySem.passOn
  refine x_noNone X ?_
  exact wpAny_bind (x_flight st y X fun h' a b c=>wpAny_throw (h h' ⟨a,m,cm,b⟩ c))
theorem x_note' {Q:Unit→Shared→Prop} {b:Bool} (F:FrameOf A env Pv) (o:OkE P hb env Pv vars B ρ σ s.heap) (X:Xc B Pv s.heap ev i b)
    (h:∀ h',OkE P hb env Pv vars B ρ σ h' → Xc B Pv h' ev i true→Q () { s with heap:=h' }):wpAny M A (noteFrame ev env) Q E s:=by
  obtain ⟨st,m,cm,y⟩:=o
  exact x_note F st y X fun h' a b c=>h h' ⟨a,m,cm,b⟩ c
end
def relabelS (scope sc:Scope):Scope:={ scope with names:=scope.names.map fun (n,k)=>if (k == .free && sc.kind == .function && sc.names.lookup n == some .cell) then (n,.cell) else (n,k) }
theorem relabel_eq {scope:Scope} {env:Env} {sc:Scope} (h:env.scope=sc):relabel scope env=relabelS scope sc:=by
  subst h; rfl
theorem relabel_lookup {scope sc:Scope} {x:Str}:(relabelS scope sc).names.lookup x=(scope.names.lookup x).map fun k=>if (k == .free && sc.kind == .function && sc.names.lookup x == some .cell) then .cell else k:=by
  unfold relabelS
  dsimp only
  induction scope.names with
  | nil=>rfl
  | cons y r ih =>
    obtain ⟨n,k⟩:=y
    rw [List.map_cons]
    dsimp only
    by_cases e:x=n
    · subst e
      simp only [List.lookup_cons,beq_self_eq_true,Option.map_some]
      split
      · simp
      · simp
    · have e':(x == n)=false:=beq_eq_false_iff_ne.mpr e
      rw [show List.lookup x ((n,k)::r)=List.lookup x r from by rw [List.lookup_cons,e'],← ih]
      split
      · rw [List.lookup_cons,e']
      · rw [List.lookup_cons,e']
theorem lookup_mem' {l:List (Str × NameKind)} {x:Str} {c:NameKind} (h:l.lookup x=some c):(x,c)∈l:=by
  induction l with
  | nil=>cases h
  | cons y r ih =>
    obtain ⟨k,v⟩:=y
    rw [List.lookup_cons] at h
    split at h
    · rename_i q; cases h; rw [beq_iff_eq.mp q]; exact .head _
    · exact .tail _ (ih h)
theorem closure_of {scope:Scope} {env:Env} (h:∀ y∈scope.names,y.2 = .free→(env.cells.lookup y.1).isSome=true):∃ cl,closureFor scope env=pure cl∧(∀ y∈cl,env.cells.lookup y.1=some y.2)∧∀ y∈scope.names,y.2 = .free→(cl.lookup y.1).isSome=true:=by
  have key:∀ (l:List (Str × NameKind)) (acc:List (Str × Addr)),(∀ y∈l,y.2 = .free→(env.cells.lookup y.1).isSome=true)→(∀ y∈acc,env.cells.lookup y.1=some y.2) →
      ∃ cl,(forIn l acc fun (x:Str × NameKind) (r:List (Str × Addr))=>(if (x.2 == NameKind.free)=true then do
          let c ← cellOf env x.1
          pure (ForInStep.yield ((x.1,c)::r)) else pure (ForInStep.yield r):Sem (ForInStep (List (Str × Addr)))))=pure cl∧(∀ y∈cl,env.cells.lookup y.1=some y.2)∧(∀ y∈l,y.2 = .free→(cl.lookup y.1).isSome=true)∧∀ x,(acc.lookup x).isSome=true→(cl.lookup x).isSome=true:=by
    intro l
    induction l with
    | nil=>intro acc _ ha; exact ⟨acc,rfl,ha,(fun _ h=>nomatch h),fun _ h=>h⟩
    | cons y r ih =>
      intro acc hl ha
      rw [List.forIn_cons]
      by_cases e:y.2 = .free
      · obtain ⟨c,hc⟩:=Option.isSome_iff_exists.mp (hl y (.head _) e)
        have hc':cellOf env y.1=pure c:=by unfold cellOf; rw [hc]
        obtain ⟨cl,h1,h2,h3,h4⟩:=ih ((y.1,c)::acc) (fun z hz=>hl z (.tail _ hz)) fun z hz=>by
          rcases List.mem_cons.mp hz with rfl | hz
          · exact hc
          · exact ha z hz
        refine ⟨cl,?_,h2,fun z hz hf=>?_,fun x hx=>h4 x ?_⟩
        · rw [if_pos (by rw [e]; rfl),hc']
          simpa using h1
        · rcases List.mem_cons.mp hz with rfl | hz
          · exact h4 _ (by rw [List.lookup_cons,beq_self_eq_true]; rfl)
          · exact h3 z hz hf
        · rw [List.lookup_cons]
          split
          · rfl
          · exact hx
      · obtain ⟨cl,h1,h2,h3,h4⟩:=ih acc (fun z hz=>hl z (.tail _ hz)) ha
        refine ⟨cl,?_,h2,fun z hz hf=>?_,h4⟩
        · rw [if_neg (by simpa using e)]
          simpa using h1
        · rcases List.mem_cons.mp hz with rfl | hz
          · exact absurd hf e
          · exact h3 z hz hf
  obtain ⟨cl,h1,h2,h3,_⟩:=key scope.names [] h (fun _ h=>nomatch h)
  refine ⟨cl,?_,h2,h3⟩
  unfold closureFor
  simpa using h1
theorem EP.trans {α β γ δ:Type} {Ok Ok':Okp} {Pv Pv':Prv} {D:Frz→(Nat→Addr)→Nat→δ→γ→Prop} {D':Frz→(Nat→Addr)→Nat→β→α→Prop} {B:Frz} {ρ:Nat→Addr} {σ:Sto} {s:Shared} {Q:δ→Shared→Prop} {Q':β→Shared→Prop} {E E':Value→Shared→Prop}
    {m:R α} {f:α→Sto→R γ} (h:EP Ok Pv D B ρ σ s (bindR m f) Q E)
    (val:∀ a σ₁ b B₁ ρ₁ s₁,m=some (.val a,σ₁)→Ext B ρ σ.length B₁ ρ₁ σ₁.length→Ok' B₁ ρ₁ σ₁ s₁.heap→Rest s s₁→D' B₁ ρ₁ σ₁.length b a→EP Ok Pv D B₁ ρ₁ σ₁ s₁ (f a σ₁) Q E→Q' b s₁)
    (exc:∀ i σ₁ ev B₁ ρ₁ s₁,Ext B ρ σ.length B₁ ρ₁ σ₁.length→Ok' B₁ ρ₁ σ₁ s₁.heap→Rest s s₁→Xc B₁ Pv' s₁.heap ev i false→(∀ ev B' ρ' s',Ext B ρ σ.length B' ρ' σ₁.length→Ok B' ρ' σ₁ s'.heap→Rest s s' → Xc B' Pv s'.heap ev i false→E ev s')→E' ev s₁) :
    EP Ok' Pv' D' B ρ σ s m Q' E':=by
  unfold EP
  split
  · rename_i a σ₁
    exact fun b B₁ ρ₁ s₁ e o t d=>val a σ₁ b B₁ ρ₁ s₁ rfl e o t d ((show EP Ok Pv D B ρ σ s (f a σ₁) Q E from h).from e t)
  · rename_i i σ₁
    exact fun ev B₁ ρ₁ s₁ e o t X=>exc i σ₁ ev B₁ ρ₁ s₁ e o t X h
  · exact h
def tgNames:MT→List Nat
  | .one k=>[k]
  | .many ks=>ks
structure CompOk (scope sc:Scope) (target:PySem.Expr) (tg:MT):Prop where
  kind:scope.kind = .function
  loc:∀ y∈scope.names,y.2 = .local→scope.names.lookup y.1=some .local
  nocell:∀ y∈scope.names,y.2 ≠ .cell
  free:∀ y∈scope.names,y.2 = .free→sc.names.lookup y.1=some .cell∨sc.names.lookup y.1=some .free
  tgt:∀ x k,nm k=some x→scope.names.lookup x=some .local→k∈tgNames tg
  tg:Tg false (relabelS scope sc) target tg
theorem setAll_sub:∀ {ks:List Nat} {ls:List LV} {v1 v2 r1:Loc},setAll ks ls v1=some r1→(∀ k l,k∉ks→lookA k v1=some l→lookA k v2=some l)→∃ r2,setAll ks ls v2=some r2∧∀ k l,lookA k r1=some l→lookA k r2=some l
  | [],[],v1,v2,r1,h,hs=>by cases h; exact ⟨v2,rfl,fun k l=>hs k l (by simp)⟩
  | x::xs,v::vs,v1,v2,r1,h,hs=>by
    unfold setAll at h ⊢
    refine setAll_sub h fun k l hk hl=>?_
    have look:∀ (w:Loc),lookA x (putA x v w)=some v:=fun w=>by
      induction w with
      | nil=>unfold putA lookA; rw [if_pos rfl]
      | cons y r ih =>
        obtain ⟨a,u⟩:=y
        unfold putA
        split
        · rename_i q; unfold lookA; rw [if_pos q]
        · rename_i q; unfold lookA; rw [if_neg q]; exact ih
    have ne:∀ (w:Loc),k≠x→lookA k (putA x v w)=lookA k w:=fun w hn=>by
      induction w with
      | nil=>unfold putA lookA; rw [if_neg (Ne.symm hn)]; rfl
      | cons y r ih =>
        obtain ⟨a,u⟩:=y
        unfold putA
        split
        · rename_i q; unfold lookA; rw [q,if_neg (Ne.symm hn),if_neg (Ne.symm hn)]
        · rename_i q; unfold lookA; split
          · rfl
          · exact ih
    rcases lookA_put hl with ⟨rfl,rfl⟩ | ⟨hn,hl⟩
    · exact look v2
    · rw [ne v2 hn]; exact hs k l (fun q=>by rcases List.mem_cons.mp q with q | q; exact hn q; exact hk q) hl
  | [],_::_,_,_,_,h,_=>by cases h
  | _::_,[],_,_,_,h,_=>by cases h
theorem bindT_sub {tg:MT} {x:LV} {v1 v2 r1:Loc} (h:bindT tg x v1=some r1) (hs:∀ k l,k∉tgNames tg→lookA k v1=some l→lookA k v2=some l):∃ r2,bindT tg x v2=some r2∧∀ k l,lookA k r1=some l→lookA k r2=some l:=by
  cases tg with
  | one k =>
    obtain ⟨r2,a,b⟩:=setAll_sub (ks:=[k]) (ls:=[x]) (v1:=v1) (r1:=r1) (v2:=v2) (by unfold bindT at h; unfold setAll setAll; exact h) hs
    exact ⟨r2,by unfold setAll setAll at a; unfold bindT; exact a,b⟩
  | many ks =>
    unfold bindT at h ⊢
    cases x with
    | tup vs=>exact setAll_sub h hs
    | _=>cases h
theorem lookA_filter {p:Nat × LV→Bool}:∀ {vars:Loc} {k:Nat} {l:LV},(∀ u,p (k,u)=true)→lookA k vars=some l→lookA k (vars.filter p)=some l
  | (a,u)::r,k,l,hp,h=>by
    unfold lookA at h
    split at h
    · rename_i q; cases h; subst q
      rw [List.filter_cons,if_pos (hp _)]; unfold lookA; rw [if_pos rfl]
    · rename_i q
      rw [List.filter_cons]
      split
      · unfold lookA; rw [if_neg q]; exact lookA_filter hp h
      · exact lookA_filter hp h
theorem lookA_mem:∀ {vars:Loc} {k:Nat} {l:LV},lookA k vars=some l→(k,l)∈vars
  | (a,u)::r,k,l,h=>by
    unfold lookA at h
    split at h
    · rename_i q; cases h; subst q; exact .head _
    · exact .tail _ (lookA_mem h)
theorem lookA_filter' {p:Nat→Bool}:∀ {vars:Loc} {k:Nat} {l:LV},lookA k (vars.filter fun e=>p e.1)=some l→p k=true∧lookA k vars=some l
  | [],k,l,h=>by cases h
  | (a,u)::r,k,l,h=>by
    rw [List.filter_cons] at h
    split at h
    · rename_i q
      unfold lookA at h
      split at h
      · rename_i e; cases h; subst e; exact ⟨q,by unfold lookA; rw [if_pos rfl]⟩
      · rename_i e
        obtain ⟨x,y⟩:=lookA_filter' h
        exact ⟨x,by unfold lookA; rw [if_neg e]; exact y⟩
    · rename_i q
      obtain ⟨x,y⟩:=lookA_filter' h
      refine ⟨x,?_⟩
      unfold lookA
      rw [if_neg (fun e=>q (by rw [e]; exact x))]
      exact y
def notTg (tg:MT) (vars:Loc):Loc:=vars.filter fun e => !(tgNames tg).contains e.1
section
variable {P:Params} {hb h h':Heap} {B:Frz} {Pv:Prv} {ρ:Nat→Addr} {σ:Sto} {env:Env} {vars:Loc} {m cm:Str→Option Value} {T:Tab} {A:Around} {N:Nat} {scope sc:Scope} {cl:List (Str × Addr)} {C:Addr} {target:PySem.Expr} {tg:MT}
theorem enter_own {n:Nat} (u:UniqC env) (w:Own B Pv ρ n env C):enter env h Pv C=none:=by
  unfold enter
  rw [w.p]
  dsimp only
  rw [if_neg w.l]
  split
  · rename_i e
    obtain ⟨y,hy,e⟩:=lookup_of_any e
    exact absurd e (w.c y.1 y.2 (u y hy))
  · rfl
theorem OkE.sub {vars':Loc} (o:OkE P hb env Pv vars B ρ σ h) (hs:∀ k l,lookA k vars' = some l→lookA k vars=some l):OkE P hb env Pv vars' B ρ σ h:=by
  obtain ⟨st,m,cm,y⟩:=o
  exact ⟨st,m,cm,y.ns,y.frL,y.cell,fun k l x q hx=>y.vals k l x (hs k l q) hx⟩
theorem comp_enter {m₀:Str→Option Value} (ck:CompOk scope sc target tg) (cx:Cx T A env sc Pv N) (h2:∀ y∈cl,env.cells.lookup y.1=some y.2) (h3:∀ y∈scope.names,y.2 = .free→(cl.lookup y.1).isSome=true) (o:OkE P hb env Pv vars B ρ σ h) (hC:h.Ns C m₀) (w:Own B Pv ρ σ.length env C) :
    OkE P hb (compEnvC scope cl C env) (enter env h Pv) (notTg tg vars) B ρ σ h:=by
  have st':=o.enter cx.uq
  obtain ⟨st,m,cm,y⟩:=o
  refine ⟨st',m₀,cm,hC,⟨w.b,enter_own cx.uq w,w.r⟩,fun x c hc=>y.cell x c (h2 (x,c) (lookup_mem hc)),fun k l x hl hx=>?_⟩
  obtain ⟨hn,hl⟩:=lookA_filter' (p:=fun k => !(tgNames tg).contains k) hl
  have hv:=y.vals k l x hl hx
  unfold ValAt
  have e:(compEnvC scope cl C env).kindOf x=(scope.names.lookup x).map fun k=>if (k == .free && sc.kind == .function && sc.names.lookup x == some .cell) then .cell else k:=by
    unfold Env.kindOf compEnvC
    rw [relabel_eq cx.esc]
    exact relabel_lookup
  have key:scope.names.lookup x=some .free→∃ v,(cl.lookup x).isSome=true∧cm x=some v∧Den P B ρ σ.length v l:=fun q=>by
    have mem:=lookup_mem' q
    have f:=ck.free _ mem rfl
    have hc:=h3 _ mem rfl
    unfold ValAt at hv
    have e2:env.kindOf x=sc.names.lookup x:=by unfold Env.kindOf; rw [cx.esc]
    rcases f with f | f
    · rw [e2,f] at hv
      obtain ⟨v,_,b,c⟩:=hv
      exact ⟨v,hc,b,c⟩
    · rw [e2,f] at hv
      obtain ⟨v,_,b,c⟩:=hv
      exact ⟨v,hc,b,c⟩
  rw [e]
  cases q:scope.names.lookup x with
  | none=>trivial
  | some kd =>
    cases kd with
    | «local» =>
      have hk':=ck.tgt x k hx q
      simp at hn
      exact absurd hk' hn
    | free =>
      have z:=key q
      rw [Option.map_some]
      split
      · rename_i z'; exact absurd z' (by split <;> simp)
      · exact z
      · exact z
      · trivial
    | cell=>exact absurd rfl (ck.nocell _ (lookup_mem' q))
    | _=>trivial
theorem comp_cx (ck:CompOk scope sc target tg) (cx:Cx T A env sc Pv N) (h2:∀ y∈cl,env.cells.lookup y.1=some y.2) (h3:∀ y∈scope.names,y.2 = .free→(cl.lookup y.1).isSome=true) (o:OkE P hb env Pv vars B ρ σ h) :
    Cx T A (compEnvC scope cl C env) (relabelS scope sc) (enter env h Pv) N where
  esc:=relabel_eq cx.esc
  kind:=ck.kind
  glob:=cx.glob
  bui:=cx.bui
  frm:=by
    obtain ⟨st,m,cm,y⟩:=o
    obtain ⟨fe,outer,L,f1,f2,f3,f4,f5,f6⟩:=cx.frm
    refine ⟨fe,outer,L,f1,f2,f3,f4,.inr ?_,fun e' he=>?_⟩
    · rcases f5 with rfl | ⟨o,a,b⟩
      · obtain ⟨o,_,hof,hel⟩:=enter_loc y
        exact ⟨o,hel,hof⟩
      · exact ⟨o,enter_le _ _ a,b⟩
    · obtain ⟨a,L',o,b,c,d⟩:=f6 e' he
      exact ⟨a,L',o,b,enter_le _ _ c,d⟩
  hnd:=cx.hnd
  dep:=cx.dep
  uni:=cx.uni
  uq:=fun y hy=>by
    cases q:cl.lookup y.1 with
    | none =>
      have:∀ {l:List (Str × Addr)},y∈l→l.lookup y.1≠none:=fun {l} hl=>by
        induction l with
        | nil=>cases hl
        | cons z r ih =>
          rw [List.lookup_cons]
          split
          · simp
          · rename_i e
            rcases List.mem_cons.mp hl with rfl | hl
            · simp at e
            · exact ih hl
      exact absurd q (this hy)
    | some c =>
      have a:=h2 _ (lookup_mem q)
      have b:=h2 y hy
      have a:env.cells.lookup y.1=some c:=a
      rw [a] at b
      show cl.lookup y.1=some y.2
      rw [q]; exact b
  cls:=fun x hx=>by
    rw [relabel_lookup] at hx
    have hf:scope.names.lookup x=some .free:=by
      cases q:scope.names.lookup x with
      | none=>rw [q] at hx; rcases hx with hx | hx <;> cases hx
      | some kd =>
        rw [q,Option.map_some] at hx
        cases kd with
        | free=>rfl
        | cell=>exact absurd rfl (ck.nocell _ (lookup_mem' q))
        | _=>rcases hx with hx | hx <;> cases hx
    exact h3 _ (lookup_mem' hf) rfl
theorem own_inner {n:Nat} {d:Addr} (u:UniqC env) (h2:∀ y∈cl,env.cells.lookup y.1=some y.2) (w:Own B Pv ρ n env d) (hd:d≠C):Own B (enter env h Pv) ρ n (compEnvC scope cl C env) d :=
  ⟨w.b,enter_own u w,w.r,hd,fun x c hc=>w.c x c (h2 (x,c) (lookup_mem hc))⟩
end
end Mine
namespace Mine
open PySem PySem.Calls PySem.W PyProof.Rows PySem.SeqAt
section
variable {prog:Program} {w:World} {A:Around} {E:Value→Shared→Prop} {s:Shared} {R:Result→Shared→Prop}
abbrev testLoop (ifs:List PySem.Expr) (env:Env) (b:Bool):Sem Bool:=forIn ifs b fun c r=>if r=true then do let ok ← isTrue c env (eval c env); pure (ForInStep.yield ok) else pure (ForInStep.yield r)
theorem codeAny_comp_gen {elt target iter:PySem.Expr} {ifs:List PySem.Expr} {scope:Scope} {pos:Pos} {it acc:Value} {env:Env} (I:Nat→Shared→Prop)
    (turn:∀ n s,I n s→wpAny (model prog w) A (pyNext it) (fun r s₁=>match r with
      | none=>R (.ok .next) s₁
      | some v=>wpAny (model prog w) A (letOwnedTupleGo target it v) (fun _ s₁' => wpAny (model prog w) A (assign target env v) (fun _ s₂ =>
          wpAny (model prog w) A (testLoop ifs env true) (fun ok s₃ =>
            if ok=true then wpAny (model prog w) A (eval elt env) (fun x s₄ =>
              wpAny (model prog w) A (call (.builtin "list.append") [acc,x]) (fun _ s₅=>∃ m,m < n∧I m s₅) (notedBy (model prog w) A env fun e s' => R (.error e) s') s₄) (notedBy (model prog w) A env fun e s' => R (.error e) s') s₃
            else ∃ m,m < n∧I m s₃) (notedBy (model prog w) A env fun e s' => R (.error e) s') s₂) (notedBy (model prog w) A env fun e s' => R (.error e) s') s₁') (notedBy (model prog w) A env fun e s' => R (.error e) s') s₁) (notedBy (model prog w) A env fun e s' => R (.error e) s') s)
    (n:Nat) (h:I n s) :
    codeAny (model prog w) A (.compLoop (.ListComp elt [⟨target,iter,ifs,0⟩] scope pos) 0 it acc env) R s:=by
  refine codeAny_loop rfl I (fun n s hI=>?_) n h
  show wpAny _ A ((compTurn (.ListComp elt [⟨target,iter,ifs,0⟩] scope pos) 0 it acc env).onRaise (fun x=>do noteFrame x env; theTreesLotGoes x)) _ _ s
  refine wpAny_noted ?_
  rw [compTurn_list]
  refine wpAny_bind (wpAny_standAt (wpAny_bind (wpAny_mono (turn n s hI) (fun r s₁ h₁=>?_) fun _ _ h' => h')))
  cases r with
  | none=>exact wpAny_pure h₁
  | some v =>
    refine wpAny_bind (wpAny_mono h₁ (fun _ s₁' h₁' => ?_) fun _ _ h' => h')
    refine wpAny_bind (wpAny_mono h₁' (fun _ s₂ h₂=>wpAny_bind (wpAny_mono h₂ (fun ok s₃ h₃=>?_) fun _ _ h' => h')) fun _ _ h' => h')
    cases ok with
    | false=>exact wpAny_pure ⟨rfl,h₃⟩
    | true =>
      exact wpAny_bind (wpAny_bind (wpAny_mono h₃ (fun x s₄ h₄=>wpAny_bind (wpAny_mono h₄ (fun _ s₅ h₅=>wpAny_pure (wpAny_pure ⟨rfl,h₅⟩)) fun _ _ h' => h')) fun _ _ h' => h'))
end
section
variable {prog:Program} {w:World} {hb:Heap} {T:Tab} {N:Nat} {sc:Scope}
inductive SBl (prog:Program) (w:World) (hb:Heap) (T:Tab) (N:Nat) (sc:Scope):List PySem.Expr→MEs→Prop
  | nil:SBl prog w hb T N sc [] .nil
  | cons {e me es mes}:SB prog w hb T N sc e me→SBl prog w hb T N sc es mes→SBl prog w hb T N sc (e::es) (.cons me mes)
theorem tests_false {A:Around} {E:Value→Shared→Prop} {env:Env} {Q:Bool→Shared→Prop}:∀ {es:List PySem.Expr} {s:Shared},Q false s→wpAny (model prog w) A (testLoop es env false) Q E s
  | [],s,h=>wpAny_pure h
  | e::es,s,h=>by
    unfold testLoop
    rw [List.forIn_cons]
    refine wpAny_bind ?_
    rw [if_neg (by decide)]
    exact wpAny_pure (tests_false h)
theorem tests_says:∀ {es:List PySem.Expr} {mes:MEs},SBl prog w hb T N sc es mes→∀ {A env Pv vars B ρ σ s},Cx T A env sc Pv N→OkE w.params hb env Pv vars B ρ σ s.heap →
    Says prog w hb DEq A env Pv vars B ρ σ s (testLoop es env true) (allM T mes vars σ)
  | _,_,.nil,A,env,Pv,vars,B,ρ,σ,s,cx,o=>fun Q E h=>by
    unfold allM at h
    exact wpAny_pure (EP.val h o rfl)
  | _,_,.cons (es:=es) (mes:=mes) h1 h2,A,env,Pv,vars,B,ρ,σ,s,cx,o=>fun Q E h=>by
    unfold allM at h
    rw [truth_bind _ (fun c σ=>if c then allM T mes vars σ else some (.val false,σ))] at h
    unfold testLoop
    rw [List.forIn_cons]
    refine wpAny_bind ?_
    rw [if_pos rfl]
    refine wpAny_bind (h1 A env Pv vars B ρ σ s cx o _ _ (EP.bind h fun b σ₁ b' B₁ ρ₁ s₁ hm e₁ o₁ t₁ d₁ h₁=>wpAny_pure ?_))
    cases d₁
    cases b with
    | true=>exact tests_says h2 cx o₁ _ _ h₁
    | false=>exact tests_false (EP.val h₁ o₁ rfl)
def SI (prog:Program) (w:World) (hb:Heap) (T:Tab) (N:Nat) (sc:Scope) (target e:PySem.Expr) (mi:MI):Prop :=
  ∀ A env Pv vars B ρ σ s,T.rs=true→Cx T A env sc Pv N→OkE w.params hb env Pv vars B ρ σ s.heap→∀ (Q:Value→Shared→Prop) (E:Value→Shared→Prop),
    (match iterM T mi vars σ with
      | some (.val src,σ')=>∀ I O It B' ρ' s',Ext B ρ σ.length B' ρ' σ'.length→Walker prog w hb A target src I It→OkE w.params hb env Pv vars B' ρ' σ' s'.heap→Rest s s' → Owns B' Pv ρ' σ'.length env O s'.heap→It 0 O B' ρ' σ'.length→(∀ d,(O d).isSome=true→d < s'.heap.objs.size)→Q (.ref I) s'
      | some (.exc i,σ')=>∀ ev B' ρ' s',Ext B ρ σ.length B' ρ' σ'.length→OkE w.params hb env Pv vars B' ρ' σ' s'.heap→Rest s s' → Xc B' Pv s'.heap ev i false→E ev s'
      | none=>False) →
    wpAny (model prog w) A (eval e env) (fun x s₁=>wpAny (model prog w) A (pyIter x) Q E s₁) E s
theorem SI_val {target e:PySem.Expr} {me:ME} (h1:SE prog w hb T N sc e me):SI prog w hb T N sc target e (.val me):=fun A env Pv vars B ρ σ s hrs cx o Q E h=>by
  unfold iterM at h
  refine h1 A env Pv vars B ρ σ s cx o _ _ ?_
  unfold EP
  cases hm:evalM T me vars σ with
  | none=>rw [hm] at h; exact h
  | some p =>
    obtain ⟨r,σ₁⟩:=p
    rw [hm] at h
    cases r with
    | exc i=>exact h
    | val l =>
      rw [bindR_val] at h
      intro v B₁ ρ₁ s₁ e₁ o₁ t₁ d₁
      split at h
      · rename_i src σ' heq
        split at heq
        · rename_i hi
          cases heq
          exact make_seq (cx.hnd hrs) o₁ d₁ hi fun I O It s' W o' t' w' it=>h I O It B₁ ρ₁ s' e₁ W o' (t₁.trans t') w' it fun d hd=>by
            obtain ⟨ob,hd⟩:=Option.isSome_iff_exists.mp hd
            exact Heap.lt_size (w'.held d ob hd)
        · cases heq
      · rename_i heq
        split at heq <;> cases heq
      · exact h.elim
theorem bindR_assoc {α β γ:Type} (m:R α) (f:α→Sto→R β) (g:β→Sto→R γ):bindR (bindR m f) g=bindR m fun x σ=>bindR (f x σ) g:=by
  match m with
  | none=>rfl
  | some (.exc i,σ)=>rfl
  | some (.val v,σ)=>rfl
theorem lookA_putne {x k:Nat} {v:LV} (hn:k≠x):∀ (w:Loc),lookA k (putA x v w)=lookA k w
  | []=>by unfold putA lookA; rw [if_neg (Ne.symm hn)]; rfl
  | (a,u)::r=>by
    unfold putA
    split
    · rename_i q; unfold lookA; rw [q,if_neg (Ne.symm hn),if_neg (Ne.symm hn)]
    · rename_i q; unfold lookA; split
      · rfl
      · exact lookA_putne hn r
theorem setAll_keep:∀ {ks:List Nat} {ls:List LV} {v1 r1:Loc},setAll ks ls v1=some r1→∀ k,k∉ks→lookA k r1=lookA k v1
  | [],[],v1,r1,h,k,_=>by cases h; rfl
  | x::xs,v::vs,v1,r1,h,k,hk=>by
    unfold setAll at h
    rw [setAll_keep h k fun q=>hk (.tail _ q),lookA_putne (fun q=>hk (by rw [q]; exact .head _))]
  | [],_::_,_,_,h,_,_=>by cases h
  | _::_,[],_,_,h,_,_=>by cases h
theorem bindT_keep {tg:MT} {x:LV} {v1 r1:Loc} (h:bindT tg x v1=some r1):∀ k,k∉tgNames tg→lookA k r1=lookA k v1:=by
  cases tg with
  | one k=>unfold bindT at h; cases h; exact fun k' hk' => lookA_putne (fun q=>hk' (by rw [q]; exact .head _)) _
  | many ks =>
    unfold bindT at h
    cases x with
    | tup vs=>exact setAll_keep h
    | _=>cases h
theorem notTg_some {tg:MT} {vars:Loc} {k:Nat} {l:LV} (h:lookA k (notTg tg vars)=some l):k∉tgNames tg∧lookA k vars=some l:=by
  obtain ⟨a,b⟩:=lookA_filter' (p:=fun k => !(tgNames tg).contains k) h
  exact ⟨by simpa using a,b⟩
theorem notTg_of {tg:MT} {vars:Loc} {k:Nat} {l:LV} (hk:k∉tgNames tg) (h:lookA k vars=some l):lookA k (notTg tg vars)=some l :=
  lookA_filter (p:=fun e => !(tgNames tg).contains e.1) (fun u=>by simpa using hk) h
section
variable {A:Around} {E:Value→Shared→Prop} {env:Env} {Pv:Prv} {vars:Loc} {scope:Scope} {cl:List (Str × Addr)} {C D:Addr} {sc':Scope} {h₁:Heap} {B₁:Frz} {ρ₁:Nat→Addr} {σ₁:Sto} {Q:Value→Shared→Prop} {acc:Value}
theorem owns_hide {B:Frz} {Pe:Prv} {ρ:Nat→Addr} {n:Nat} {cenv:Env} {O:Ob} {h:Heap} {oD:Obj} (w:Owns B Pe ρ n cenv O h) (hD:O D=none):Owns B (prvAt Pe D oD false) ρ n cenv O h :=
  ⟨fun d o q=>{ w.own d o q with p:=by rw [prvAt_ne (fun e=>by rw [e,hD] at q; cases q)]; exact (w.own d o q).p },w.held⟩
theorem owns_show {B:Frz} {Pe:Prv} {ρ:Nat→Addr} {n:Nat} {cenv:Env} {O:Ob} {h:Heap} {oD:Obj} (p:Pe D=none) (w:Owns B (prvAt Pe D oD false) ρ n cenv O h):Owns B Pe ρ n cenv O h :=
  ⟨fun d o q=>{ w.own d o q with p:=(prvAt_le p).none (w.own d o q).p },w.held⟩
def CR {α:Type} (r:R α) (Fin:α→Sto→Prop) (Exc:Int→Sto→Prop):Prop:=match r with
  | some (.val a,σ')=>Fin a σ'
  | some (.exc i,σ')=>Exc i σ'
  | none=>False
theorem EP.ofCR {α β γ:Type} {Ok':Okp} {Pv':Prv} {D':Frz→(Nat→Addr)→Nat→β→α→Prop} {B:Frz} {ρ:Nat→Addr} {σ:Sto} {s:Shared} {Q':β→Shared→Prop} {E':Value→Shared→Prop} {m:R α} {f:α→Sto→R γ} {Fin:γ→Sto→Prop} {Exc:Int→Sto→Prop} (h:CR (bindR m f) Fin Exc)
    (val:∀ a σ₁ b B₁ ρ₁ s₁,m=some (.val a,σ₁)→Ext B ρ σ.length B₁ ρ₁ σ₁.length→Ok' B₁ ρ₁ σ₁ s₁.heap→Rest s s₁→D' B₁ ρ₁ σ₁.length b a→CR (f a σ₁) Fin Exc→Q' b s₁)
    (exc:∀ i σ₁ ev B₁ ρ₁ s₁,Ext B ρ σ.length B₁ ρ₁ σ₁.length→Ok' B₁ ρ₁ σ₁ s₁.heap→Rest s s₁→Xc B₁ Pv' s₁.heap ev i false→Exc i σ₁→E' ev s₁):EP Ok' Pv' D' B ρ σ s m Q' E':=by
  unfold EP
  split
  · rename_i a σ₁
    exact fun b B₁ ρ₁ s₁ e o t d=>val a σ₁ b B₁ ρ₁ s₁ rfl e o t d h
  · rename_i i σ₁
    exact fun ev B₁ ρ₁ s₁ e o t X=>exc i σ₁ ev B₁ ρ₁ s₁ e o t X h
  · exact h
theorem comp_exc {use:Option (Value→Sem Unit)} {B₀ B₀' B':Frz} {ρ₀ ρ₀' ρ':Nat→Addr} {n₀ n₀':Nat} {σ':Sto} {h₀:Heap} {O:Ob} {oD:Obj} {varsX:Loc} {s':Shared} {ev:Value} {i:Int} (cx:Cx T A env sc Pv N) (o₁:OkE w.params hb env Pv vars B₁ ρ₁ σ₁ h₁) (cx':Cx T A (compEnvC scope cl C env) sc' (enter env h₁ Pv) N)
    (wD:Own B₀ (enter env h₁ Pv) ρ₀ n₀ (compEnvC scope cl C env) D) (wO:Owns B₀' (prvAt (enter env h₁ Pv) D oD false) ρ₀' n₀' (compEnvC scope cl C env) O h₀)
    (ext:Ext B₁ ρ₁ σ₁.length B' ρ' σ'.length) (o:OkE w.params hb (compEnvC scope cl C env) (prvs (prvAt (enter env h₁ Pv) D oD false) O) varsX B' ρ' σ' s'.heap) (X:Xc B' (prvs (prvAt (enter env h₁ Pv) D oD false) O) s'.heap ev i false)
    (hx:∀ s'',OkE w.params hb env Pv vars B' ρ' σ' s''.heap→Rest s' s'' → Xc B' Pv s''.heap ev i false→E ev s'') :
    notedBy (model prog w) A (compEnvC scope cl C env) (fun e s'' => compPost (model prog w) A E use Q acc C (.error e) s'') ev s':=by
  unfold notedBy
  have le1:PLe (enter env h₁ Pv) (prvAt (enter env h₁ Pv) D oD false):=prvAt_le wD.p
  have le2:PLe (prvAt (enter env h₁ Pv) D oD false) (prvs (prvAt (enter env h₁ Pv) D oD false) O):=wO.le
  have le:PLe (enter env h₁ Pv) (prvs (prvAt (enter env h₁ Pv) D oD false) O):=fun a x e=>le2 a x (le1 a x e)
  refine x_note' (cx'.frm.up le) o X fun h2 o2 X2=>?_
  obtain ⟨o3,w3⟩:=o2.showS wO
  obtain ⟨⟨st4,m4,cm4,y4⟩,w4,g4⟩:=o3.show wD
  have fin:∃ m,h2.Ns C m∧∀ h',Heap.SameBut C h2 h' → ∀ cenv:Env,cenv.locals=C→wpAny (model prog w) A (passOn "comprehension.variables-let-go" ev cenv:Sem Value) (fun _ _=>False) E { s' with heap:=h' }:=by
    refine ⟨m4,y4.ns,fun h5 hs5 cenv' hc' => ?_⟩
    have st5:=st4.setL y4 hs5
    have o5:=o₁.leave cx.uq ext st5
    have X5:Xc B' Pv h5 ev i true:=((X2.down le).down enter_le).but (ns_fields y4.ns) fun b o hb e=>(hs5.2 b hb).trans e
    exact x_passOn' (s:={ s' with heap:=h5 }) o5 X5 fun h6 o6 X6=>hx { s' with heap:=h6 } o6 ⟨rfl,rfl⟩ X6.any
  unfold compPost
  cases use <;> exact fin
theorem comp_loop {use:Option (Value→Sem Unit)} {elt target iter:PySem.Expr} {ifs:List PySem.Expr} {pos:Pos} {me:ME} {tg:MT} {mes:MEs} {src:Src} {I:Addr} {It:ItP} {Fin:List LV→Sto→Prop} {s₁:Shared} (hh:A.handled=none) (ck:CompOk scope sc target tg) (cx:Cx T A env sc Pv N) (o₁:OkE w.params hb env Pv vars B₁ ρ₁ σ₁ h₁)
    (cx':Cx T A (compEnvC scope cl C env) (relabelS scope sc) (enter env h₁ Pv) N) (hE:SE prog w hb T N (relabelS scope sc) elt me) (hC:SBl prog w hb T N (relabelS scope sc) ifs mes) (W:Walker prog w hb A target src I It)
    (hfin:∀ ls σ' vs m B' ρ' s',Fin ls σ' → Ext B₁ ρ₁ σ₁.length B' ρ' σ'.length→Rest s₁ s' → OkE w.params hb (compEnvC scope cl C env) (enter env h₁ Pv) (notTg tg vars) B' ρ' σ' s'.heap→Own B' (enter env h₁ Pv) ρ' σ'.length (compEnvC scope cl C env) D→s'.heap.get? D=some (lstO vs m)→DenAll w.params B' ρ' σ'.length vs ls →
      compPost (model prog w) A E use Q acc C (.ok .next) s') :
    ∀ f k s B ρ σ O vs m ls,Ext B₁ ρ₁ σ₁.length B ρ σ.length→Rest s₁ s→OkE w.params hb (compEnvC scope cl C env) (enter env h₁ Pv) (notTg tg vars) B ρ σ s.heap→Own B (enter env h₁ Pv) ρ σ.length (compEnvC scope cl C env) D→s.heap.get? D=some (lstO vs m) →
      DenAll w.params B ρ σ.length vs ls→Owns B (enter env h₁ Pv) ρ σ.length (compEnvC scope cl C env) O s.heap→O D=none→It k O B ρ σ.length→vs.length≤k→k + f=most →
      CR (bindR (compM (allM T mes) (evalM T me) tg vars src f k σ) fun vs' σ=>some (.val (ls++vs'),σ)) Fin (fun i σ' => ∀ ev B' ρ' s',Ext B₁ ρ₁ σ₁.length B' ρ' σ'.length→OkE w.params hb env Pv vars B' ρ' σ' s'.heap→Rest s₁ s' → Xc B' Pv s'.heap ev i false→E ev s') →
      codeAny (model prog w) A (.compLoop (.ListComp elt [⟨target,iter,ifs,0⟩] scope pos) 0 (.ref I) (.ref D) (compEnvC scope cl C env)) (compPost (model prog w) A E use Q acc C) s:=by
  intro f k s B ρ σ O vs m ls a1 a1' a2 a3 a4 a5 a6 a7 a8 a9 a10 a11
  refine codeAny_comp_gen (fun n s=>∃ k B ρ σ O vs m ls,Ext B₁ ρ₁ σ₁.length B ρ σ.length∧Rest s₁ s∧OkE w.params hb (compEnvC scope cl C env) (enter env h₁ Pv) (notTg tg vars) B ρ σ s.heap∧Own B (enter env h₁ Pv) ρ σ.length (compEnvC scope cl C env) D∧s.heap.get? D=some (lstO vs m) ∧
      DenAll w.params B ρ σ.length vs ls∧Owns B (enter env h₁ Pv) ρ σ.length (compEnvC scope cl C env) O s.heap∧O D=none∧It k O B ρ σ.length∧vs.length≤k∧k + n=most ∧
      CR (bindR (compM (allM T mes) (evalM T me) tg vars src n k σ) fun vs' σ=>some (.val (ls++vs'),σ)) Fin (fun i σ' => ∀ ev B' ρ' s',Ext B₁ ρ₁ σ₁.length B' ρ' σ'.length→OkE w.params hb env Pv vars B' ρ' σ' s'.heap→Rest s₁ s' → Xc B' Pv s'.heap ev i false→E ev s')) ?_ f ⟨k,B,ρ,σ,O,vs,m,ls,a1,a1',a2,a3,a4,a5,a6,a7,a8,a9,a10,a11⟩
  clear a1 a1' a2 a3 a4 a5 a6 a7 a8 a9 a10 a11
  rintro n s ⟨k,B,ρ,σ,O,vs,m,ls,ext,rst,oC,wD,gD,dl,wO,hOD,it,hlen,hkn,h⟩
  cases n with
  | zero=>exact h.elim
  | succ n =>
    unfold compM at h
    have oD:=oC.hide (o:=lstO vs m) (f:=false) wD gD
    have wO':=owns_hide (oD:=lstO vs m) wO hOD
    cases hx:itemAt σ src k with
    | none=>rw [hx] at h; exact h.elim
    | some q =>
      rw [hx] at h
      cases q with
      | none =>
        refine wpAny_mono (W.stop (Q:=fun s₁=>compPost (model prog w) A E use Q acc C (.ok .next) s₁) oD wO' it hx fun s' o' t' => ?_) (fun r s₁ hr=>by obtain ⟨rfl,hr⟩:=hr; exact hr) fun _ _ e=>e
        obtain ⟨o4,w4,g4⟩:=o'.show wD
        rw [bindR_val,List.append_nil] at h
        exact hfin ls σ vs m B ρ s' h ext (rst.trans t') o4 w4 g4 dl
      | some x =>
        dsimp only at h
        cases hbt:bindT tg x vars with
        | none=>rw [hbt] at h; exact h.elim
        | some ρ' =>
          rw [hbt] at h
          rw [bindR_assoc,lift_some,bindR_val,bindR_assoc] at h
          refine wpAny_mono (W.step oD wO' it hx fun v B' s' O' e' o' t' w' it' dv=>?_) (fun r s₁ hr=>by obtain ⟨v,rfl,hr⟩:=hr; exact hr) fun _ _ e=>e
          have ext':=ext.trans e'
          have oI:=o'.hideS w'
          obtain ⟨r2,hb2,hs2⟩:=bindT_sub hbt (v2:=notTg tg vars) fun k l hk hl=>notTg_of hk hl
          have cxI:Cx T A (compEnvC scope cl C env) (relabelS scope sc) (prvs (prvAt (enter env h₁ Pv) D (lstO vs m) false) O') N:=(cx'.up (prvAt_le wD.p)).up w'.le
          refine assign_says ck.tg cx'.esc ck.kind (fun q=>by cases q) (fun x hx=>cx'.cls x (.inl hx)) hh oI dv hb2 fun s2 o2 t2=>?_
          have o2:=o2.sub hs2
          have exc:∀ {i:Int} {σ₃:Sto} {ev:Value} {B₃:Frz} {ρ₃:Nat→Addr} {s₃:Shared},Ext B' ρ σ.length B₃ ρ₃ σ₃.length→Rest s₁ s₃→OkE w.params hb (compEnvC scope cl C env) (prvs (prvAt (enter env h₁ Pv) D (lstO vs m) false) O') ρ' B₃ ρ₃ σ₃ s₃.heap →
              Xc B₃ (prvs (prvAt (enter env h₁ Pv) D (lstO vs m) false) O') s₃.heap ev i false→(∀ ev B' ρ' s',Ext B₁ ρ₁ σ₁.length B' ρ' σ₃.length→OkE w.params hb env Pv vars B' ρ' σ₃ s'.heap→Rest s₁ s' → Xc B' Pv s'.heap ev i false→E ev s') →
              notedBy (model prog w) A (compEnvC scope cl C env) (fun e s'' => compPost (model prog w) A E use Q acc C (.error e) s'') ev s₃:=fun {i σ₃ ev B₃ ρ₃ s₃} e3 r3 o3 X3 hx3 =>
            comp_exc cx o₁ cx' wD w' (ext'.trans e3) o3 X3 fun s'' o'' t'' X'' => hx3 ev B₃ ρ₃ s'' (ext'.trans e3) o'' (r3.trans t'') X''
          have rst2:Rest s₁ s2:=(rst.trans t').trans t2
          refine tests_says hC cxI o2 _ _ (EP.ofCR h (fun b σ₃ b' B₃ ρ₃ s₃ hm3 e3 o3 t3 d3 h3=>?_) fun i σ₃ ev B₃ ρ₃ s₃ e3 o3 t3 X3 hx3=>exc e3 (rst2.trans t3) o3 X3 hx3)
          cases d3
          cases b with
          | false =>
            rw [if_neg (by decide)] at h3
            rw [if_neg (by decide)]
            obtain ⟨o4,w4⟩:=o3.showS w'
            obtain ⟨o5,w5,g5⟩:=o4.show wD
            have e5:Ext B ρ σ.length B₃ ρ₃ σ₃.length:=e'.trans e3
            refine ⟨n,Nat.lt_succ_self _,k + 1,B₃,ρ₃,σ₃,O',vs,m,ls,ext.trans e5,rst2.trans t3,o5.sub fun k l hl=>?_,w5,g5,dl.ext e5,owns_show wD.p w4,?_,W.ext it' e3,by omega,by omega,h3⟩
            · obtain ⟨hk,hl⟩:=notTg_some hl
              rw [bindT_keep hbt k hk]; exact hl
            · cases q:O' D with
              | none=>rfl
              | some o=>have:=(w'.own D o q).p; rw [prvAt_self] at this; cases this
          | true =>
            rw [if_pos rfl] at h3
            rw [if_pos rfl]
            rw [bindR_assoc] at h3
            refine hE A _ _ ρ' B₃ ρ₃ σ₃ s₃ cxI o3 _ _ (EP.ofCR h3 (fun lx σ₄ u B₄ ρ₄ s₄ hm4 e4 o4 t4 d4 h4=>?_) fun i σ₄ ev B₄ ρ₄ s₄ e4 o4 t4 X4 hx4=>exc (e3.trans e4) ((rst2.trans t3).trans t4) o4 X4 hx4)
            obtain ⟨o5,w5⟩:=o4.showS w'
            obtain ⟨o6,w6,g6⟩:=o5.show wD
            have e6:Ext B ρ σ.length B₄ ρ₄ σ₄.length:=(e'.trans e3).trans e4
            have hO':O' D=none:=by
              cases q:O' D with
              | none=>rfl
              | some o=>have:=(w'.own D o q).p; rw [prvAt_self] at this; cases this
            refine append_at (hsz:=by rw [List.size_toArray]; exact most_size (by omega)) g6 fun h7 hs7 g7=>?_
            rw [List.push_toArray] at g7
            have o7:=o6.turn (h':=h7) w6 fun b o hb e=>(hs7.2 b hb).trans e
            refine ⟨n,Nat.lt_succ_self _,k + 1,B₄,ρ₄,σ₄,O',vs++[u],m + 1,ls++[lx],ext.trans e6,((rst2.trans t3).trans t4).trans ⟨rfl,rfl⟩,o7.sub fun k l hl=>?_,w6,g7,(dl.ext e6).app (.cons d4 .nil),⟨(owns_show wD.p w5).own,fun d o q=>?_⟩,hO',W.ext it' (e3.trans e4),by rw [List.length_append]; simp; omega,by omega,?_⟩
            · obtain ⟨hk,hl⟩:=notTg_some hl
              rw [bindT_keep hbt k hk]; exact hl
            · exact (hs7.2 d fun e=>by rw [e,hO'] at q; cases q).trans (w5.held d o q)
            · rw [bindR_assoc] at h4
              simp only [bindR_val] at h4
              simp only [List.append_assoc,List.singleton_append]
              exact h4
theorem comp_says {use:Option (Value→Sem Unit)} {elt target iter:PySem.Expr} {ifs:List PySem.Expr} {pos:Pos} {me:ME} {tg:MT} {mes:MEs} {mi:MI} {Fin:List LV→Sto→Prop} {B:Frz} {ρ:Nat→Addr} {σ:Sto} {s:Shared} {newPos:Pos} (ck:CompOk scope sc target tg) (hI:SI prog w hb T N sc target iter mi) (hE:SE prog w hb T N (relabelS scope sc) elt me) (hC:SBl prog w hb T N (relabelS scope sc) ifs mes)
    (hs:∀ env x,foldedSetIterable iter env x=pure x) (hrs:T.rs=true) (cx:Cx T A env sc Pv N) (o:OkE w.params hb env Pv vars B ρ σ s.heap)
    (hfin:∀ ls σ' vs m B' ρ' s' D C cl h₁ B₁ ρ₁ σ₁,Fin ls σ' → Ext B ρ σ.length B' ρ' σ'.length→Ext B₁ ρ₁ σ₁.length B' ρ' σ'.length→Rest s s' → OkE w.params hb env Pv vars B₁ ρ₁ σ₁ h₁→OkE w.params hb (compEnvC scope cl C env) (enter env h₁ Pv) (notTg tg vars) B' ρ' σ' s'.heap→Own B' (enter env h₁ Pv) ρ' σ'.length (compEnvC scope cl C env) D →
      s'.heap.get? D=some (lstO vs m)→DenAll w.params B' ρ' σ'.length vs ls→D≠C→Own B₁ Pv ρ₁ σ₁.length env C→Own B₁ Pv ρ₁ σ₁.length env D→compPost (model prog w) A E use Q (.ref D) C (.ok .next) s')
    (h:CR (bindR (iterM T mi vars σ) fun src σ=>compM (allM T mes) (evalM T me) tg vars src most 0 σ) Fin (fun i σ' => ∀ ev B' ρ' s',Ext B ρ σ.length B' ρ' σ'.length→OkE w.params hb env Pv vars B' ρ' σ' s'.heap→Rest s s' → Xc B' Pv s'.heap ev i false→E ev s')) :
    wpAny (model prog w) A (comprehension (.ListComp elt [⟨target,iter,ifs,0⟩] scope pos) scope env newPos (newList []) false (eval iter env) use) Q E s:=by
  have hh:=cx.hnd hrs
  have hfree:∀ y∈scope.names,y.2 = .free→(env.cells.lookup y.1).isSome=true:=fun y hy hf=>cx.cls _ (ck.free y hy hf)
  obtain ⟨cl,hcl,h2,h3⟩:=closure_of hfree
  refine wpAny_comprehension_free (use:=use) rfl (hs env) hcl ck.kind ck.loc ?_
  refine hI A env Pv vars B ρ σ s hrs cx o _ _ ?_
  cases hm:iterM T mi vars σ with
  | none=>rw [hm] at h; exact h
  | some p =>
    obtain ⟨r,σ₁⟩:=p
    rw [hm] at h
    cases r with
    | exc i=>exact h
    | val src =>
      rw [bindR_val] at h
      intro I O It B₀ ρ₀ s₁ e₀ W o₁ t₁ w₁ it₁ hlt
      refine wpAny_newObj_type (wpAny_newFunctionEnv ck.nocell (by intro y hy; simp at hy) (fun h₁ hns₁ hsb₁=>?_) ck.kind)
      dsimp only at hns₁ hsb₁ ⊢
      have hD0:=o₁.fresh
      have oD:=o₁.push (lstO [] 0)
      have hC0:=oD.fresh
      have szD:(s₁.heap.push (lstO [] 0)).objs.size=s₁.heap.objs.size + 1:=Heap.size_push ..
      have k₁:∀ b o,s₁.heap.get? b=some o→h₁.get? b=some o:=fun b o e=>hsb₁.extBut b o (Nat.ne_of_lt (Nat.lt_of_lt_of_le (Heap.lt_size e) (by rw [szD]; exact Nat.le_succ _))) (Heap.get?_push_of_some _ (Heap.get?_push_of_some _ e))
      have hDC:s₁.heap.objs.size≠(s₁.heap.push (lstO [] 0)).objs.size:=by rw [szD]; exact Nat.ne_of_lt (Nat.lt_succ_self _)
      have hgD:h₁.get? s₁.heap.objs.size=some (lstO [] 0):=hsb₁.extBut _ _ hDC (Heap.get?_push_of_some _ (Heap.get?_push_size _ rfl))
      have oE:=o₁.keep k₁
      have wC:Own B₀ Pv ρ₀ σ₁.length env (s₁.heap.push (lstO [] 0)).objs.size:=⟨hC0.b,hC0.p,hC0.r,hC0.l,hC0.c⟩
      have oI:=comp_enter ck cx h2 h3 oE hns₁ wC
      have cx':=comp_cx (C:=(s₁.heap.push (lstO [] 0)).objs.size) ck cx h2 h3 oE
      have wD':=own_inner (h:=h₁) (scope:=scope) cx.uq h2 hD0 hDC
      have wO':Owns B₀ (enter env h₁ Pv) ρ₀ σ₁.length (compEnvC scope cl (s₁.heap.push (lstO [] 0)).objs.size env) O h₁:=⟨fun d ob q=>own_inner cx.uq h2 (w₁.own d ob q) (by
        have:=hlt d (by rw [q]; rfl)
        rw [szD]; exact Nat.ne_of_lt (Nat.lt_succ_of_lt this)),fun d ob q=>k₁ _ _ (w₁.held d ob q)⟩
      have hOD:O s₁.heap.objs.size=none:=by
        cases q:O s₁.heap.objs.size with
        | none=>rfl
        | some ob=>exact absurd (hlt _ (by rw [q]; rfl)) (Nat.lt_irrefl _)
      have h':CR (bindR (compM (allM T mes) (evalM T me) tg vars src most 0 σ₁) fun vs' σ=>some (.val ([]++vs'),σ)) Fin (fun i σ' => ∀ ev B' ρ' s',Ext B₀ ρ₀ σ₁.length B' ρ' σ'.length→OkE w.params hb env Pv vars B' ρ' σ' s'.heap→Rest s₁ s' → Xc B' Pv s'.heap ev i false→E ev s'):=by
        cases hc:compM (allM T mes) (evalM T me) tg vars src most 0 σ₁ with
        | none=>rw [hc] at h; exact h
        | some p =>
          obtain ⟨r,σ₂⟩:=p
          rw [hc] at h
          cases r with
          | val a=>exact h
          | exc i=>exact fun ev B' ρ' s' e o t X=>h ev B' ρ' s' (e₀.trans e) o (t₁.trans t) X
      have loop:=comp_loop (use:=use) (Q:=Q) (acc:=.ref s₁.heap.objs.size) (iter:=iter) (pos:=pos) (s₁:=s₁) hh ck cx oE cx' hE hC W (fun ls σ' vs m B' ρ' s' hF e' t' o' w' g' d' => hfin ls σ' vs m B' ρ' s' _ _ cl h₁ B₀ ρ₀ σ₁ hF (e₀.trans e') e' (t₁.trans t') oE o' w' g' d' hDC wC hD0)
        most 0 { s₁ with heap:=h₁,toks:=s₁.toks + ([]:List (Str × Value)).length } B₀ ρ₀ σ₁ O [] 0 [] .refl ⟨rfl,rfl⟩ oI wD' hgD .nil wO' hOD it₁ (Nat.zero_le _) (by omega) h'
      exact codeAny_compStart_list loop (W.self (s:={ s₁ with heap:=h₁,toks:=s₁.toks + ([]:List (Str × Value)).length }) wO' it₁ loop)
end
theorem own_outer {env:Env} {Pv:Prv} {B B₁:Frz} {ρ ρ₁:Nat→Addr} {n n₁:Nat} {h:Heap} {cenv:Env} {d:Addr} (w:Own B (enter env h Pv) ρ n cenv d) (w1:Own B₁ Pv ρ₁ n₁ env d):Own B Pv ρ n env d:=⟨w.b,w1.p,w.r,w1.l,w1.c⟩
theorem SE_comp {elt target iter:PySem.Expr} {ifs:List PySem.Expr} {scope:Scope} {pos:Pos} {me:ME} {tg:MT} {mi:MI} {mes:MEs} (ck:CompOk scope sc target tg) (hI:SI prog w hb T N sc target iter mi) (hE:SE prog w hb T N (relabelS scope sc) elt me) (hC:SBl prog w hb T N (relabelS scope sc) ifs mes)
    (hs:∀ env x,foldedSetIterable iter env x=pure x):SE prog w hb T N sc (.ListComp elt [⟨target,iter,ifs,0⟩] scope pos) (.comp me tg mi mes):=fun A env Pv vars B ρ σ s cx o Q E h=>by
  unfold evalM at h
  split at h
  case isFalse=>exact h.elim
  rename_i hrs
  rw [eval_ListComp]
  refine comp_says (use:=none) (Fin:=fun ls σ' => ∀ v B' ρ' s',Ext B ρ σ.length B' ρ' σ'.length→OkE w.params hb env Pv vars B' ρ' σ' s'.heap→Rest s s' → Den w.params B' ρ' σ'.length v (.lst ls)→Q v s') ck hI hE hC hs hrs cx o ?_ ?_
  · intro ls σ' vs m B' ρ' s' D C cl h₁ B₁ ρ₁ σ₁ hF e' e1 t' o₁ o4 w4 g4 dl hDC wC wD
    obtain ⟨st4,m4,cm4,y4⟩:=o4
    refine ⟨m4,y4.ns,fun h5 hs5=>?_⟩
    have st5:=st4.setL y4 hs5
    have o5:=o₁.leave cx.uq e1 st5
    have g5:h5.get? D=some (lstO vs m):=(hs5.2 D hDC).trans g4
    obtain ⟨o6,e6⟩:=o5.ownF (own_outer w4 wD) g5
    exact hF (.ref D) _ _ { s' with heap:=h5 } (e'.trans e6) o6 ⟨t'.1,t'.2⟩ (.lst (frzAt_self _ _) (dl.ext e6))
  · rw [← bindR_assoc] at h
    cases hc:bindR (iterM T mi vars σ) fun src σ=>compM (allM T mes) (evalM T me) tg vars src most 0 σ with
    | none=>rw [hc] at h; exact h
    | some p =>
      obtain ⟨r,σ₂⟩:=p
      rw [hc] at h
      cases r with
      | val a=>exact h
      | exc i=>exact h
end
end Mine
namespace Mine
open PySem PySem.Calls PySem.W PyProof.Rows PySem.SeqAt
def ES (P:Params) (hb:Heap) (env:Env) (Pv:Prv) (B:Frz) (ρ:Nat→Addr) (σ:Sto) (s:Shared) (r:RS) (Q:Flow→Shared→Prop) (E:Value→Shared→Prop):Prop:=match r with
  | some (.next,vars',σ')=>∀ B' ρ' s',Ext B ρ σ.length B' ρ' σ'.length→OkE P hb env Pv vars' B' ρ' σ' s'.heap→Rest s s' → Q .next s'
  | some (.ret l,vars',σ')=>∀ v B' ρ' s',Ext B ρ σ.length B' ρ' σ'.length→OkE P hb env Pv vars' B' ρ' σ' s'.heap→Rest s s' → Den P B' ρ' σ'.length v l→Q (.ret v) s'
  | some (.exc i,vars',σ')=>∀ ev B' ρ' s',Ext B ρ σ.length B' ρ' σ'.length→OkE P hb env Pv vars' B' ρ' σ' s'.heap→Rest s s' → Xc B' Pv s'.heap ev i false→E ev s'
  | none=>False
section
variable {P:Params} {hb:Heap} {env:Env} {Pv:Prv} {vars:Loc} {B B':Frz} {ρ ρ':Nat→Addr} {σ σ':Sto} {s s':Shared} {Q:Flow→Shared→Prop} {E:Value→Shared→Prop}
theorem ES.from {r:RS} (h:ES P hb env Pv B ρ σ s r Q E) (x:Ext B ρ σ.length B' ρ' σ'.length) (t:Rest s s'):ES P hb env Pv B' ρ' σ' s' r Q E:=by
  unfold ES at h ⊢
  split
  · exact fun B'' ρ'' s'' e o q=>h B'' ρ'' s'' (x.trans e) o (t.trans q)
  · exact fun v B'' ρ'' s'' e o q d=>h v B'' ρ'' s'' (x.trans e) o (t.trans q) d
  · exact fun ev B'' ρ'' s'' e o q X=>h ev B'' ρ'' s'' (x.trans e) o (t.trans q) X
  · exact h
theorem ES.bind {α β:Type} {D:Frz→(Nat→Addr)→Nat→β→α→Prop} {Q':β→Shared→Prop} {m:R α} {f:α→Sto→RS} (h:ES P hb env Pv B ρ σ s (bindS m vars f) Q E)
    (k:∀ a σ₁ b B₁ ρ₁ s₁,m=some (.val a,σ₁)→Ext B ρ σ.length B₁ ρ₁ σ₁.length→OkE P hb env Pv vars B₁ ρ₁ σ₁ s₁.heap→Rest s s₁→D B₁ ρ₁ σ₁.length b a→ES P hb env Pv B₁ ρ₁ σ₁ s₁ (f a σ₁) Q E→Q' b s₁) :
    EP (OkE P hb env Pv vars) Pv D B ρ σ s m Q' E:=by
  unfold EP
  split
  · rename_i a σ₁
    exact fun b B₁ ρ₁ s₁ e o t d=>k a σ₁ b B₁ ρ₁ s₁ rfl e o t d ((show ES P hb env Pv B ρ σ s (f a σ₁) Q E from h).from e t)
  · exact h
  · exact h
theorem ES.next {vars':Loc} (h:ES P hb env Pv B ρ σ s (some (.next,vars',σ')) Q E) (e:Ext B ρ σ.length B' ρ' σ'.length) (o:OkE P hb env Pv vars' B' ρ' σ' s'.heap) (t:Rest s s'):Q .next s':=h B' ρ' s' e o t
end
structure CxS (T:Tab) (A:Around) (env:Env) (sc:Scope) (Pv:Prv) (N:Nat):Prop where
  cx:Cx T A env sc Pv N
  own:OwnC env Pv
section
variable (prog:Program) (w:World) (hb:Heap) (T:Tab) (N:Nat) (sc:Scope)
def SS (st:Stmt) (ms:MS):Prop := ∀ A env Pv vars B ρ σ s,CxS T A env sc Pv N→OkE w.params hb env Pv vars B ρ σ s.heap→∀ Q E,ES w.params hb env Pv B ρ σ s (execM T ms vars σ) Q E→wpAny (model prog w) A (exec st env) Q E s
def SSs (st:List Stmt) (ms:MSs):Prop := ∀ A env Pv vars B ρ σ s,CxS T A env sc Pv N→OkE w.params hb env Pv vars B ρ σ s.heap→∀ Q E,ES w.params hb env Pv B ρ σ s (execMs T ms vars σ) Q E→wpAny (model prog w) A (execs st env) Q E s
end
section
variable {prog:Program} {w:World} {hb:Heap} {T:Tab} {N:Nat} {sc:Scope} {K:Frag}
theorem SSs_nil:SSs prog w hb T N sc [] .nil:=fun A env Pv vars B ρ σ s cx o Q E h=>by
  unfold execMs at h
  exact wpAny_execs_nil (h.next .refl o Rest.refl)
theorem SSs_cons {st:Stmt} {sts:List Stmt} {ms:MS} {mss:MSs} (h1:SS prog w hb T N sc st ms) (h2:SSs prog w hb T N sc sts mss):SSs prog w hb T N sc (st::sts) (.cons ms mss):=fun A env Pv vars B ρ σ s cx o Q E h=>by
  unfold execMs at h
  refine wpAny_execs_cons (h1 A env Pv vars B ρ σ s cx o _ _ ?_)
  cases hm:execM T ms vars σ with
  | none=>rw [hm] at h; exact h
  | some p =>
    obtain ⟨f,vars',σ'⟩:=p
    rw [hm] at h
    cases f with
    | next =>
      rw [seqS_next] at h
      exact fun B' ρ' s' e o' t=>h2 A env Pv vars' B' ρ' σ' s' cx o' _ _ (h.from e t)
    | ret l=>exact h
    | exc i=>exact h
theorem SS_expr {e:PySem.Expr} {me:ME} {pos:Pos} (h1:SE prog w hb T N sc e me) (hs:∀ env,swapsWith e none pos.line env=pure false):SS prog w hb T N sc (.Expr e pos) (.expr me):=fun A env Pv vars B ρ σ s cx o Q E h=>by
  unfold execM at h
  refine wpAny_Expr_any (h1 A env Pv vars B ρ σ s cx.cx o _ _ (ES.bind h fun a σ₁ b B₁ ρ₁ s₁ hm e₁ o₁ t₁ d₁ h₁=>h₁.next .refl o₁ Rest.refl)) ?_ (hs env)
  unfold interactive
  rw [cx.cx.esc,cx.cx.kind]; rfl
theorem CxS.cells {A:Around} {env:Env} {Pv:Prv} (cx:CxS T A env sc Pv N):∀ x,sc.names.lookup x=some .cell→(env.cells.lookup x).isSome=true:=fun x h=>cx.cx.cls x (.inl h)
theorem SS_asg {x:Str} {k:Nat} {xp pos:Pos} {e:PySem.Expr} {me:ME} (hx:nm k=some x) (hst:Storable true sc x) (h1:SE prog w hb T N sc e me) (hs:∀ env,swapsWith e (some (.Name x xp)) pos.line env=pure false):SS prog w hb T N sc (.Assign [.Name x xp] e pos) (.asg k me):=fun A env Pv vars B ρ σ s cx o Q E h=>by
  unfold execM at h
  refine wpAny_Assign_Name (h1 A env Pv vars B ρ σ s cx.cx o _ _ (ES.bind h fun a σ₁ b B₁ ρ₁ s₁ hm e₁ o₁ t₁ d₁ h₁=>?_)) (hs env)
  exact store_says' cx.cx.esc cx.cx.kind (fun _=>cx.own) hx hst cx.cells o₁ d₁ fun s' o' t' => h₁.next .refl o' t'
theorem SS_ret {e:PySem.Expr} {me:ME} {pos:Pos} (h1:SE prog w hb T N sc e me):SS prog w hb T N sc (.Return (some e) pos) (.ret me):=fun A env Pv vars B ρ σ s cx o Q E h=>by
  unfold execM at h
  exact wpAny_Return_some (h1 A env Pv vars B ρ σ s cx.cx o _ _ (ES.bind h fun a σ₁ b B₁ ρ₁ s₁ hm e₁ o₁ t₁ d₁ h₁=>h₁ b B₁ ρ₁ s₁ .refl o₁ Rest.refl d₁))
theorem truth_bindS (r:R LV) (vars:Loc) (f:Bool→Sto→RS):bindS r vars (fun v σ=>onB v fun b=>f b σ)=bindS (truthR r) vars f:=by
  unfold truthR
  match r with
  | none=>rfl
  | some (.exc i,σ)=>rfl
  | some (.val v,σ)=>rw [bindR_val,bindS_val]; cases v <;> rfl
theorem SS_if {c:PySem.Expr} {mc:ME} {a b:List Stmt} {ma mb:MSs} {pos:Pos} (h1:SB prog w hb T N sc c mc) (h2:SSs prog w hb T N sc a ma) (h3:SSs prog w hb T N sc b mb):SS prog w hb T N sc (.If c a b pos) (.ite mc ma mb):=fun A env Pv vars B ρ σ s cx o Q E h=>by
  unfold execM at h
  rw [truth_bindS _ _ (fun b' σ=>if b' then execMs T ma vars σ else execMs T mb vars σ)] at h
  refine wpAny_If (h1 A env Pv vars B ρ σ s cx.cx o _ _ (ES.bind h fun q σ₁ q' B₁ ρ₁ s₁ hm e₁ o₁ t₁ d₁ h₁=>?_))
  cases d₁
  cases q with
  | true=>exact h2 A env Pv vars B₁ ρ₁ σ₁ s₁ cx o₁ _ _ h₁
  | false=>exact h3 A env Pv vars B₁ ρ₁ σ₁ s₁ cx o₁ _ _ h₁
theorem SS_setI {oe i v:PySem.Expr} {mo mi mv:ME} {p pos:Pos} (h1:SE prog w hb T N sc v mv) (h2:SE prog w hb T N sc oe mo) (h3:SE prog w hb T N sc i mi) (hs:∀ env,swapsWith v (some (.Subscript oe i p)) pos.line env=pure false) :
    SS prog w hb T N sc (.Assign [.Subscript oe i p] v pos) (.setI mo mi mv):=fun A env Pv vars B ρ σ s cx o Q E h=>by
  unfold execM at h
  refine wpAny_Assign_Subscript (h1 A env Pv vars B ρ σ s cx.cx o _ _ (ES.bind h fun lv σ₁ b B₁ ρ₁ s₁ hm e₁ o₁ t₁ d₁ h₁=>?_)) (hs env)
  refine h2 A env Pv vars B₁ ρ₁ σ₁ s₁ cx.cx o₁ _ _ (ES.bind h₁ fun d σ₂ ov B₂ ρ₂ s₂ hm₂ e₂ o₂ t₂ d₂ h₂=>?_)
  refine h3 A env Pv vars B₂ ρ₂ σ₂ s₂ cx.cx o₂ _ _ (ES.bind h₂ fun c σ₃ iv B₃ ρ₃ s₃ hm₃ e₃ o₃ t₃ d₃ h₃=>?_)
  split at h₃
  · rename_i i c
    split at h₃
    · rename_i es hc
      split at h₃
      · rename_i hz
        have d₂':=d₂.ext e₃
        cases d₂'; rename_i hi
        cases d₃; rename_i x t hx
        obtain ⟨ents,kk,hg,D⟩:=cell_dict o₃.1 hc
        refine setItem_den hg D hx (d₁.ext (e₂.trans e₃)) hz fun h' es' k' a b c' => ?_
        have o₄:=o₃.setC (h':=h') hi (.dict (putA c lv es)) (fun b hb' => a b hb') ⟨es',k',b,c'⟩
        exact h₃.next (s':={ s₃ with heap:=h',toks:=s₃.toks + 1 }) extSet o₄ ⟨rfl,rfl⟩
      · exact h₃.elim
    · exact h₃.elim
  · exact h₃.elim
theorem OkE.setN {P:Params} {B:Frz} {Pv:Prv} {ρ:Nat→Addr} {σ:Sto} {env:Env} {vars:Loc} {h h':Heap} {m cm:Str→Option Value} (st:St P hb B Pv ρ σ h) (y:Lc P env B Pv ρ σ.length vars h m cm) {i:Nat} (hi:i < σ.length) (c:Cell) (n:h'.Ns env.locals m)
    (k:∀ b o,b≠ρ i→b≠env.locals→h.get? b=some o→h'.get? b=some o) (hc:CellAt P B ρ σ.length h' (ρ i) c):OkE P hb env Pv vars B ρ (σ.set i c) h':=by
  obtain ⟨b1,b2,_⟩:=st.cell i _ (List.getElem?_eq_getElem hi)
  have hl:(σ.set i c).length=σ.length:=List.length_set ..
  have kk:∀ b o,B b=some o→h'.get? b=some o:=fun b o q=>k b o (fun z=>by rw [z,b1] at q; cases q) (fun z=>by rw [z,y.frL.1] at q; cases q) (st.frz b o q)
  refine ⟨⟨st.base,kk,fun a o f q=>?_,fun j c' q=>?_,fun a b ha hb=>st.inj a b (hl ▸ ha) (hl ▸ hb),st.abv.1,fun a ha=>st.abv.2 a (hl ▸ ha)⟩,m,cm,n,by rw [hl]; exact y.frL,fun z c' q=>⟨?_,(y.cell z c' q).2⟩,by rw [hl]; exact y.vals⟩
  · obtain ⟨a1,⟨sl,a2⟩,a3⟩:=st.prv a o f q
    have n1:a≠ρ i:=fun z=>by rw [z,b2] at q; cases q
    have n2:a≠env.locals:=fun z=>by rw [z,y.frL.2.1] at q; cases q
    exact ⟨a1,⟨sl,k _ _ n1 n2 a2⟩,fun z=>k _ _ n1 n2 (a3 z)⟩
  · rw [hl]
    by_cases hj:j=i
    · subst hj
      rw [List.getElem?_set_self hi] at q; cases q
      exact ⟨b1,b2,hc⟩
    · rw [List.getElem?_set_ne (Ne.symm hj)] at q
      obtain ⟨a1,a2,a3⟩:=st.cell j c' q
      have hjl:=(List.getElem?_eq_some_iff.mp q).1
      exact ⟨a1,a2,a3.heap fun o z=>k _ _ (fun w=>hj (st.inj j i hjl hi w)) (y.frL.2.2 j hjl) z⟩
  · obtain ⟨o,ho,hd⟩:=(y.cell z c' q).1
    refine ⟨o,k _ _ (fun e=>?_) (fun e=>?_) ho,hd⟩
    · have a3:=(st.cell i _ (List.getElem?_eq_getElem hi)).2.2
      rw [← e] at a3
      cases hc':σ[i] with
      | dict ps=>rw [hc'] at a3; obtain ⟨_,_,e',_⟩:=a3; rw [ho] at e'; cases e'; cases hd
      | list ps=>rw [hc'] at a3; obtain ⟨_,_,e',_⟩:=a3; rw [ho] at e'; cases e'; cases hd
    · obtain ⟨o',es,ep,ho',hd',_⟩:=y.ns
      rw [← e,ho] at ho'; cases ho'; rw [hd] at hd'; cases hd'
theorem SS_setA {oe v:PySem.Expr} {mo mv:ME} {x:Str} {a:Nat} {p pos:Pos} (X:K.In hb) (CL:ClsTab K T) (h1:SE prog w hb T N sc v mv) (h2:SE prog w hb T N sc oe mo) (hx:nm a=some x) (hs:∀ env,swapsWith v (some (.Attribute oe x p)) pos.line env=pure false) :
    SS prog w hb T N sc (.Assign [.Attribute oe x p] v pos) (.setA mo a mv):=fun A env Pv vars B ρ σ s cx o Q E h=>by
  unfold execM at h
  refine plainObj_wpAny_Assign_Attribute (h1 A env Pv vars B ρ σ s cx.cx o _ _ (ES.bind h fun lv σ₁ b B₁ ρ₁ s₁ hm e₁ o₁ t₁ d₁ h₁=>?_)) (hs env)
  refine h2 A env Pv vars B₁ ρ₁ σ₁ s₁ cx.cx o₁ _ _ (ES.bind h₁ fun d σ₂ ov B₂ ρ₂ s₂ hm₂ e₂ o₂ t₂ d₂ h₂=>?_)
  split at h₂
  · rename_i c i
    split at h₂
    · rename_i es hf hc
      split at h₂
      · rename_i hz
        have hi:=lt_cell hc
        obtain ⟨ad,C,ents,kk,rfl,hcl,I,hg,D⟩:=inst_at o₂.1 d₂ hc
        have ck:=CL.cls c C hcl
        have fk:=CL.fld c C a x hf hcl hx
        have XX:K.In s₂.heap:=fun b o' e=>o₂.1.stays b o' (X b o' e)
        obtain ⟨st,m,cm,y⟩:=o₂
        have hput:=D.put (t:=s₂.toks + 1) hx (d₁.ext e₂)
        have Nn:News {} env.locals s₂.heap ([]++(ρ₂ i,dictOf ents kk)::(full env.locals s₂.heap).filter fun q=>q.1 != ρ₂ i):=fun q hq=>by
          rw [List.nil_append] at hq
          rcases List.mem_cons.mp hq with rfl | hq
          · exact ⟨hg,y.frL.2.2 i hi,emp_get _⟩
          · exact full_news q (List.mem_filter.mp hq).1
        have hl:(PySem.W.getL x ents).isSome=true:=by
          have:=D.getL hx
          cases q:lookA a es with
          | none=>rw [q] at this; have this:PySem.W.getL x ents=some none:=this; rw [this]; rfl
          | some l=>rw [q] at this; obtain ⟨v',hv',_⟩:=this; rw [hv']; rfl
        have hlen:(putL x (PyData.keyHash w.params x) (.str x (s₂.toks + 1)) b ents).length≤1000:=by
          rw [hput.length]
          have:=DenEs.putLen a lv es
          unfold most at hz; omega
        refine set_plain XX I ck.sa ?_
        refine osa_dict (s:={ s₂ with toks:=s₂.toks + 1 }) (od:=dictOf ents kk) (od':=dictOf (putL x (PyData.keyHash w.params x) (.str x (s₂.toks + 1)) b ents) (putN x ents kk)) (pre:=[]) (emp_fr y.ns) Nn XX I rfl ck.over fk.taker ck.hasD ?_ ?_ ?_ ?_ rfl hlen ?_
        · rw [lookIn_dict]; exact hl
        · exact fun _ h=>nomatch h
        · exact fun q hq=>by simpa using (List.mem_filter.mp hq).2
        · exact putName_dict ..
        intro h' F' N'
        have gd:=(N' (ρ₂ i,dictOf (putL x (PyData.keyHash w.params x) (.str x (s₂.toks + 1)) b ents) (putN x ents kk)) (by rw [List.nil_append]; exact .head _)).1
        have o₄:=OkE.setN (hb:=hb) st y hi (.dict (putA a lv es)) F'.ns (fun b' o' n1 n2 e=>(N' (b',o') (by
          rw [List.nil_append]
          exact .tail _ (List.mem_filter.mpr ⟨full_mem.mpr ⟨n2,e⟩,by simpa using n1⟩))).1) ⟨_,_,gd,hput⟩
        exact h₂.next (s':={ s₂ with heap:=h',toks:=s₂.toks + 1 + 1 }) extSet o₄ ⟨rfl,rfl⟩
      · exact h₂.elim
    · exact h₂.elim
  · exact h₂.elim
end
end Mine
namespace Mine
open PySem PySem.Calls PySem.W PyProof.Rows PySem.SeqAt
inductive NmL (sc:Scope):List Str→List Nat→Prop
  | nil:NmL sc [] []
  | cons {x xs k ks}:nm k=some x→sc.names.lookup x=some .local→NmL sc xs ks→NmL sc (x::xs) (k::ks)
theorem NmL.app {sc:Scope}:∀ {xs ks ys js},NmL sc xs ks→NmL sc ys js→NmL sc (xs++ys) (ks++js)
  | _,_,_,_,.nil,y=>y
  | _,_,_,_,.cons a b r,y => .cons a b (r.app y)
theorem NmL.rev {sc:Scope}:∀ {xs ks},NmL sc xs ks→NmL sc xs.reverse ks.reverse
  | _,_,.nil => .nil
  | _,_,.cons a b r=>by rw [List.reverse_cons,List.reverse_cons]; exact r.rev.app (.cons a b .nil)
theorem NmL.len {sc:Scope}:∀ {xs ks},NmL sc xs ks→xs.length=ks.length
  | _,_,.nil=>rfl
  | _,_,.cons _ _ r=>congrArg (· + 1) r.len
theorem DenAll.rev {P:Params} {B:Frz} {ρ:Nat→Addr} {n:Nat}:∀ {vs ls},DenAll P B ρ n vs ls→DenAll P B ρ n vs.reverse ls.reverse
  | _,_,.nil => .nil
  | _,_,.cons d r=>by rw [List.reverse_cons,List.reverse_cons]; exact r.rev.app (.cons d .nil)
theorem setAll_some:∀ {ks:List Nat} {ls:List LV} (v:Loc),ks.length=ls.length→∃ r,setAll ks ls v=some r
  | [],[],v,_=>⟨v,rfl⟩
  | x::xs,l::ls,v,h=>setAll_some (ks:=xs) (ls:=ls) (putA x l v) (Nat.succ.inj h)
  | [],_::_,_,h=>by cases h
  | _::_,[],_,h=>by cases h
theorem lookA_putself {x:Nat} {v:LV}:∀ (w:Loc),lookA x (putA x v w)=some v
  | []=>by unfold putA lookA; rw [if_pos rfl]
  | (a,u)::r=>by
    unfold putA
    split
    · rename_i q; unfold lookA; rw [if_pos q]
    · rename_i q; unfold lookA; rw [if_neg q]; exact lookA_putself r
theorem lookA_zip_none:∀ {ks:List Nat} {ls:List LV} {k:Nat},k∉ks→lookA k (ks.zip ls)=none
  | [],_,_,_=>rfl
  | _::_,[],_,_=>rfl
  | x::xs,l::ls,k,h=>by
    show lookA k ((x,l)::xs.zip ls)=none
    unfold lookA
    rw [if_neg (fun e=>h (by rw [e]; exact .head _))]
    exact lookA_zip_none fun q=>h (.tail _ q)
theorem setAll_look:∀ {ks:List Nat} {ls:List LV} {v r:Loc},ks.Nodup→setAll ks ls v=some r→∀ k,lookA k r=(lookA k (ks.zip ls)).or (lookA k v)
  | [],[],v,r,_,h,k=>by cases h; rfl
  | x::xs,l::ls,v,r,hn,h,k=>by
    unfold setAll at h
    obtain ⟨h1,h2⟩:=List.nodup_cons.mp hn
    rw [setAll_look h2 h k]
    have ez:lookA k ((x::xs).zip (l::ls))=if x=k then some l else lookA k (xs.zip ls):=by
      show lookA k ((x,l)::xs.zip ls)=_
      conv=>lhs; unfold lookA
    rw [ez]
    by_cases e:x=k
    · subst e
      rw [if_pos rfl,lookA_zip_none h1,lookA_putself]; rfl
    · rw [if_neg e,lookA_putne (Ne.symm e)]
  | [],_::_,_,_,_,h,_=>by cases h
  | _::_,[],_,_,_,h,_=>by cases h
theorem lookA_nodup:∀ {L:List (Nat × LV)},(L.map (·.1)).Nodup→∀ {k:Nat} {l:LV},(k,l)∈L→lookA k L=some l
  | (a,u)::r,hn,k,l,h=>by
    obtain ⟨h1,h2⟩:=List.nodup_cons.mp hn
    rcases List.mem_cons.mp h with h | h
    · cases h; unfold lookA; rw [if_pos rfl]
    · unfold lookA
      rw [if_neg fun e=>h1 (by rw [e]; exact List.mem_map.mpr ⟨(k,l),h,rfl⟩)]
      exact lookA_nodup h2 h
theorem map_zip:∀ {ks:List Nat} {ls:List LV},ks.length=ls.length→(ks.zip ls).map (·.1)=ks
  | [],[],_=>rfl
  | x::xs,l::ls,h=>congrArg (x :: ·) (map_zip (Nat.succ.inj h))
  | [],_::_,h=>by cases h
  | _::_,[],h=>by cases h
theorem zip_rev {ks:List Nat} {ls:List LV} (h:ks.length=ls.length):ks.reverse.zip ls.reverse=(ks.zip ls).reverse:=by
  rw [List.zip_eq_zipWith,List.zip_eq_zipWith,List.reverse_zipWith h]
theorem setAll_rev {ks:List Nat} {ls:List LV} {v r r':Loc} (hn:ks.Nodup) (h:setAll ks ls v=some r) (h':setAll ks.reverse ls.reverse v=some r'):∀ k l,lookA k r=some l→lookA k r' = some l:=fun k l hl=>by
  have hlen:=setAll_len h
  have hn':ks.reverse.Nodup:=(List.Perm.nodup_iff (List.reverse_perm ks)).mpr hn
  rw [setAll_look hn h k] at hl
  rw [setAll_look hn' h' k,zip_rev hlen]
  have e:∀ u,lookA k (ks.zip ls)=some u→lookA k (ks.zip ls).reverse=some u:=fun u hu =>
    lookA_nodup (by rw [List.map_reverse,map_zip hlen]; exact hn') (List.mem_reverse.mpr (lookA_mem hu))
  cases q:lookA k (ks.zip ls) with
  | some u=>rw [q] at hl; rw [e u q]; exact hl
  | none =>
    rw [q] at hl
    have:lookA k (ks.zip ls).reverse=none:=by
      cases q2:lookA k (ks.zip ls).reverse with
      | none=>rfl
      | some u =>
        have:=lookA_nodup (by rw [map_zip hlen]; exact hn) (List.mem_reverse.mp (lookA_mem q2))
        rw [q] at this; cases this
    rw [this]; exact hl
section
variable {prog:Program} {w:World} {hb:Heap} {T:Tab} {N:Nat} {sc:Scope}
theorem nms_says {A:Around} {E:Value→Shared→Prop} {env:Env} {Pv:Prv} {B:Frz} {ρ:Nat→Addr} {σ:Sto} {Q:Unit→Shared→Prop} (he:env.scope=sc) (hk:sc.kind = .function) (hcs:∀ x,sc.names.lookup x=some .cell→(env.cells.lookup x).isSome=true):∀ {xs:List Str} {ks:List Nat},NmL sc xs ks→∀ {vs:List Value} {ls:List LV} {s:Shared} {vars vars':Loc},
    OkE w.params hb env Pv vars B ρ σ s.heap→DenAll w.params B ρ σ.length vs ls→setAll ks ls vars=some vars' → (∀ s',OkE w.params hb env Pv vars' B ρ σ s'.heap→Rest s s' → Q () s') →
    wpAny (model prog w) A (assignInOrder (xs.map fun n=>bindName env n) vs) Q E s
  | _,_,.nil,_,_,s,vars,vars',o,.nil,hs,h=>by cases hs; exact assignInOrder_nil (h s o Rest.refl)
  | _,_,.cons hx hst r,_,_,s,vars,vars',o,.cons d dr,hs,h=>by
    unfold setAll at hs
    refine assignInOrder_cons (bindName_ (store_says' (own:=false) he hk (fun q=>by cases q) hx (.inl hst) hcs o d fun s' o' t' => ?_))
    exact nms_says he hk hcs r o' dr hs fun s'' o'' t'' => h s'' o'' (t'.trans t'')
  | _,_,.nil,_,_,_,_,_,_,.cons _ _,hs,_=>by cases hs
  | _,_,.cons _ _ _,_,_,_,_,_,_,.nil,hs,_=>by cases hs
theorem SS_asgT {elts:List PySem.Expr} {ks:List Nat} {k:Nat} {tp pos:Pos} {e:PySem.Expr} {me:ME} (ht:TgL true sc elts ks) (h1:SE prog w hb T N sc e me) (hs:∀ env,swapsWithSole [.Tuple elts k tp] e pos.line env=pure false) (hw:∀ env,env.scope=sc→swappedStores [.Tuple elts k tp] e env=pure none) :
    SS prog w hb T N sc (.Assign [.Tuple elts k tp] e pos) (.asgT ks me):=fun A env Pv vars B ρ σ s cx o Q E h=>by
  unfold execM at h
  refine Assign_Tuple (h1 A env Pv vars B ρ σ s cx.cx o _ _ (ES.bind h fun a σ₁ b B₁ ρ₁ s₁ hm e₁ o₁ t₁ d₁ h₁=>?_)) (hs env) (hw env cx.cx.esc)
  split at h₁
  case isFalse=>exact h₁.elim
  rename_i hrs
  split at h₁
  · rename_i vars' hb'
    exact assign_says (.many ht) cx.cx.esc cx.cx.kind (fun _=>cx.own) cx.cells (cx.cx.hnd hrs) o₁ d₁ hb' fun s' o' t' => h₁.next .refl o' t'
  · exact h₁.elim
theorem SS_asgTs {elts:List PySem.Expr} {xs:List Str} {ks:List Nat} {k:Nat} {tp pos:Pos} {e:PySem.Expr} {me:ME} (ht:NmL sc xs ks) (hn:ks.Nodup) (h1:SE prog w hb T N sc e me) (hs:∀ env,swapsWithSole [.Tuple elts k tp] e pos.line env=pure false) (hw:∀ env,env.scope=sc→swappedStores [.Tuple elts k tp] e env=pure (some xs)) :
    SS prog w hb T N sc (.Assign [.Tuple elts k tp] e pos) (.asgT ks me):=fun A env Pv vars B ρ σ s cx o Q E h=>by
  unfold execM at h
  refine Assign_Tuple_swapped (h1 A env Pv vars B ρ σ s cx.cx o _ _ (ES.bind h fun a σ₁ b B₁ ρ₁ s₁ hm e₁ o₁ t₁ d₁ h₁=>?_)) (hs env) (hw env cx.cx.esc)
  split at h₁
  case isFalse=>exact h₁.elim
  rename_i hrs
  split at h₁
  · rename_i vars' hb'
    unfold bindT at hb'
    split at hb'
    · rename_i q; cases q
    · rename_i q; cases q
      cases d₁; rename_i a1 vs kk hB D
      have hlen:xs.length=vs.toArray.size:=by rw [ht.len,setAll_len hb',List.size_toArray,D.length]
      rw [hlen]
      refine wpAny_unpackItems_tuple (cx.cx.hnd hrs) ⟨_,o₁.1.frz _ _ hB,rfl,_,rfl⟩ fun h' he' => ?_
      have o':=o₁.turn o₁.fresh (h':=h') fun b o' hb e=>he' b o' hb e
      obtain ⟨r',hr'⟩:=setAll_some (ks:=ks.reverse) (ls:=_) vars (by rw [List.length_reverse,List.length_reverse]; exact setAll_len hb')
      refine nms_says (s:={ s₁ with heap:=h' }) cx.cx.esc cx.cx.kind cx.cells ht.rev o' D.rev hr' fun s' o'' t'' => ?_
      exact h₁.next .refl (o''.sub (setAll_rev hn hb' hr')) ⟨t''.1,t''.2⟩
    · cases hb'
  · exact h₁.elim
theorem SS_asgComp {x:Str} {k:Nat} {xp pos lpos:Pos} {elt target iter:PySem.Expr} {ifs:List PySem.Expr} {scope:Scope} {me:ME} {tg:MT} {mi:MI} {mes:MEs} (hx:nm k=some x) (hst:sc.names.lookup x=some .local) (ck:CompOk scope sc target tg) (hI:SI prog w hb T N sc target iter mi) (hE:SE prog w hb T N (relabelS scope sc) elt me) (hC:SBl prog w hb T N (relabelS scope sc) ifs mes)
    (hs:∀ env x,foldedSetIterable iter env x=pure x) (hsw:∀ env,env.scope=sc→swapsWith (.ListComp elt [⟨target,iter,ifs,0⟩] scope lpos) (some (.Name x xp)) pos.line env=pure true) :
    SS prog w hb T N sc (.Assign [.Name x xp] (.ListComp elt [⟨target,iter,ifs,0⟩] scope lpos) pos) (.asg k (.comp me tg mi mes)):=fun A env Pv vars B ρ σ s cx o Q E h=>by
  unfold execM evalM at h
  split at h
  case isFalse=>exact h.elim
  rename_i hrs
  rw [exec_Assign_Name_used _ _ _ _ (hsw env cx.cx.esc)]
  refine wpAny_bind (wpAny_standAt (wpAny_bind ?_))
  show wpAny _ _ (comprehension (.ListComp elt [⟨target,iter,ifs,0⟩] scope lpos) scope env (firstIterPos [⟨target,iter,ifs,0⟩] lpos) (newList []) false (eval iter env) (some (assign (.Name x xp) env)) >>= fun _=>pure ()) _ _ _
  refine wpAny_bind ?_
  refine comp_says (use:=some (assign (.Name x xp) env)) (Fin:=fun ls σ' => ∀ B' ρ' s',Ext B ρ σ.length B' ρ' σ'.length→OkE w.params hb env Pv (putA k (.lst ls) vars) B' ρ' σ' s'.heap→Rest s s' → Q .next s') ck hI hE hC hs hrs cx.cx o ?_ ?_
  · intro ls σ' vs m B' ρ' s' D C cl h₁ B₁ ρ₁ σ₁ hF e' e1 t' o₁ o4 w4 g4 dl hDC wC wD
    obtain ⟨st4,m4,cm4,y4⟩:=o4
    have o5:=o₁.leave cx.cx.uq e1 st4
    have wC':Own B' Pv ρ' σ'.length env C:=⟨y4.frL.1,wC.p,y4.frL.2.2,wC.l,wC.c⟩
    obtain ⟨oC,gC,hCd⟩:∃ oC,s'.heap.get? C=some oC∧∃ es ep,oC.data = .dict es ep∧StrKeys es∧∀ name,nsFind es name=m4 name:=by
      obtain ⟨oC,es,ep,ho,hd,r⟩:=y4.ns; exact ⟨oC,ho,es,ep,hd,r⟩
    obtain ⟨o6,e6⟩:=o5.ownF (own_outer w4 wD) g4
    have wC6:Own (frzAt B' D (lstO vs m)) Pv ρ' σ'.length env C:=⟨by unfold frzAt; rw [if_neg (Ne.symm hDC)]; exact wC'.b,wC'.p,wC'.r,wC'.l,wC'.c⟩
    have o7:=o6.hide (f:=false) wC6 gC
    show wpAny _ _ (assign (.Name x xp) env (.ref D)) _ _ _
    refine wpAny_assign_Name (store_says' (own:=false) (Pv:=prvAt Pv C oC false) (l:=.lst ls) cx.cx.esc cx.cx.kind (fun q=>by cases q) hx (.inl hst) cx.cells o7 (.lst (frzAt_self _ _) (dl.ext e6)) fun s2 o8 t8=>?_)
    obtain ⟨o9,w9,g9⟩:=o8.show wC6
    refine ⟨m4,?_,fun h5 hs5=>?_⟩
    · obtain ⟨es,ep,hd,r⟩:=hCd
      exact ⟨oC,es,ep,g9,hd,r⟩
    · refine wpAny_pure (wpAny_pure ?_)
      have o10:=o9.turn (h':=h5) w9 fun b o' hb' e=>(hs5.2 b hb').trans e
      exact hF _ _ { s2 with heap:=h5 } (e'.trans e6) o10 ((t'.trans t8).trans ⟨rfl,rfl⟩)
  · have e0:∀ (r:R (List LV)),bindS (bindR r fun vs σ=>some (.val (.lst vs),σ)) vars (fun v σ=>(some (.next,putA k v vars,σ):RS))=bindS r vars fun vs σ=>some (.next,putA k (.lst vs) vars,σ):=fun r=>by
      match r with
      | none=>rfl
      | some (.exc i,σ)=>rfl
      | some (.val v,σ)=>rfl
    rw [← bindR_assoc,e0] at h
    cases hc:bindR (iterM T mi vars σ) fun src σ=>compM (allM T mes) (evalM T me) tg vars src most 0 σ with
    | none=>rw [hc] at h; exact h
    | some p =>
      obtain ⟨r,σ₂⟩:=p
      rw [hc] at h
      cases r with
      | val a=>exact h
      | exc i=>exact h
end
end Mine
namespace Mine
open PySem PySem.Calls PySem.W PyProof.Rows PySem.SeqAt
section
variable {M:Model} {A A':Around} {E:Value→Shared→Prop} {s:Shared} {P:Params} {hb:Heap} {B:Frz} {Pv:Prv} {ρ:Nat→Addr} {σ:Sto} {env:Env} {vars:Loc} {ev:Value} {i:Int} {b:Bool}
theorem x_noted' (F:FrameOf A' env Pv) (o:OkE P hb env Pv vars B ρ σ s.heap) (X:Xc B Pv s.heap ev i b)
    (h:∀ h',OkE P hb env Pv vars B ρ σ h' → Xc B Pv h' ev i true→E ev { s with heap:=h' }):notedBy M A' env (cameBackBy M A env E) ev s:=by
  obtain ⟨st,m,cm,y⟩:=o
  exact x_noted F st y X fun h' a b c=>h h' ⟨a,m,cm,b⟩ c
theorem x_setFlight' {fl:Option Addr} {Q:Unit→Shared→Prop} (o:OkE P hb env Pv vars B ρ σ s.heap) (X:Xc B Pv s.heap ev i b)
    (h:∀ h',OkE P hb env Pv vars B ρ σ h' → Xc B Pv h' ev i b→Q () { s with heap:=h' }):wpAny M A (setFlight ev fl) Q E s:=by
  obtain ⟨st,m,cm,y⟩:=o
  exact x_flight st y X fun h' a b c=>h h' ⟨a,m,cm,b⟩ c
end
section
variable {prog:Program} {w:World} {hb:Heap} {T:Tab} {N:Nat} {sc:Scope}
theorem CxS.hidden {A:Around} {env:Env} {Pv:Prv} {B:Frz} {ρ:Nat→Addr} {n:Nat} {O:Ob} {h:Heap} (cx:CxS T A env sc Pv N) (w':Owns B Pv ρ n env O h):CxS T A env sc (prvs Pv O) N where
  cx:=cx.cx.up w'.le
  own:=⟨cx.own.1,fun x c hc=>by
    have:O c=none:=by
      cases q:O c with
      | none=>rfl
      | some o=>exact absurd rfl ((w'.own c o q).c x c hc)
    rw [prvs_none this]; exact cx.own.2 x c hc⟩
theorem suite_hidden {A:Around} {env:Env} {Pv:Prv} {vars:Loc} {B:Frz} {ρ:Nat→Addr} {σ:Sto} {s:Shared} {O:Ob} {body:List Stmt} {mss:MSs} {Q':Flow→Shared→Prop} {E':Value→Shared→Prop} (hB:SSs prog w hb T N sc body mss) (cx:CxS T A env sc Pv N) (o:OkE w.params hb env Pv vars B ρ σ s.heap) (w':Owns B Pv ρ σ.length env O s.heap)
    (h:match execMs T mss vars σ with
      | some (.next,vars',σ')=>∀ B' ρ' s',Ext B ρ σ.length B' ρ' σ'.length→OkE w.params hb env Pv vars' B' ρ' σ' s'.heap→Owns B' Pv ρ' σ'.length env O s'.heap→Rest s s' → Q' .next s'
      | some (.ret l,vars',σ')=>∀ v B' ρ' s',Ext B ρ σ.length B' ρ' σ'.length→OkE w.params hb env Pv vars' B' ρ' σ' s'.heap→Owns B' Pv ρ' σ'.length env O s'.heap→Rest s s' → Den w.params B' ρ' σ'.length v l→Q' (.ret v) s'
      | some (.exc i,vars',σ')=>∀ ev B' ρ' s',Ext B ρ σ.length B' ρ' σ'.length→OkE w.params hb env (prvs Pv O) vars' B' ρ' σ' s'.heap→Rest s s' → Xc B' (prvs Pv O) s'.heap ev i false→E' ev s'
      | none=>False):wpAny (model prog w) A (execs body env) Q' E' s:=by
  refine hB A env (prvs Pv O) vars B ρ σ s (cx.hidden w') (o.hideS w') _ _ ?_
  unfold ES
  split
  · rename_i hm; rw [hm] at h
    exact fun B' ρ' s' e o' t=>let ⟨a,b⟩:=o'.showS w'; h B' ρ' s' e a b t
  · rename_i hm; rw [hm] at h
    exact fun v B' ρ' s' e o' t d=>let ⟨a,b⟩:=o'.showS w'; h v B' ρ' s' e a b t d
  · rename_i hm; rw [hm] at h; exact h
  · rename_i hm; rw [hm] at h; exact h
theorem SS_for {target iter:PySem.Expr} {body:List Stmt} {pos:Pos} {tg:MT} {mi:MI} {mss:MSs} (hI:SI prog w hb T N sc target iter mi) (ht:Tg true sc target tg) (hB:SSs prog w hb T N sc body mss) (hs:∀ env x,foldedSetIterable iter env x=pure x) :
    SS prog w hb T N sc (.For target iter body [] pos) (.forS tg mi mss):=fun A env Pv vars B ρ σ s cx o Q E h=>by
  unfold execM at h
  split at h
  case isFalse=>exact h.elim
  rename_i hrs
  have hh:=cx.cx.hnd hrs
  refine wpAny_For (hI A env Pv vars B ρ σ s hrs cx.cx o _ _ ?_) (hs env)
  cases hm:iterM T mi vars σ with
  | none=>rw [hm] at h; exact h
  | some p =>
    obtain ⟨r,σ₁⟩:=p
    rw [hm] at h
    cases r with
    | exc i=>exact h
    | val src =>
      rw [bindS_val] at h
      intro I O It B₁ ρ₁ s₁ e₁ W o₁ t₁ w₁ it₁ _
      have h₁:=h.from e₁ t₁
      refine codeAny_forLoop_any (fun n s=>∃ k vars B ρ σ O,OkE w.params hb env Pv vars B ρ σ s.heap∧Owns B Pv ρ σ.length env O s.heap∧It k O B ρ σ.length∧ES w.params hb env Pv B ρ σ s (forM (execMs T mss) tg src n k vars σ) Q E) ?_ most ⟨0,vars,B₁,ρ₁,σ₁,O,o₁,w₁,it₁,h₁⟩
      clear h h₁ hm
      rintro n s ⟨k,vars,B,ρ,σ,O,o,wO,it,h⟩
      cases n with
      | zero=>exact h.elim
      | succ n =>
        unfold forM at h
        cases hx:itemAt σ src k with
        | none=>rw [hx] at h; exact h.elim
        | some q =>
          rw [hx] at h
          cases q with
          | none =>
            refine wpAny_mono (W.stop (Q:=fun s₁=>Q .next s₁) o wO it hx fun s' o' t' => h.next .refl o' t') (fun r s₁ hr=>by obtain ⟨rfl,hr⟩:=hr; exact wpAny_execs_nil hr) fun _ _ e=>e
          | some x =>
            dsimp only at h
            cases hbt:bindT tg x vars with
            | none=>rw [hbt] at h; exact h.elim
            | some vars' =>
              rw [hbt] at h
              dsimp only at h
              refine wpAny_mono (W.step o wO it hx fun v B' s' O' e' o' t' w' it' dv=>?_) (fun r s₁ hr=>by obtain ⟨v,rfl,hr⟩:=hr; exact hr) fun _ _ e=>e
              have h:=h.from e' t'
              refine assign_says ht cx.cx.esc cx.cx.kind (fun _=>(cx.hidden w').own) cx.cells hh (o'.hideS w') dv hbt fun s2 o2 t2=>?_
              obtain ⟨o2,w2⟩:=o2.showS w'
              have h:=h.from .refl t2
              refine suite_hidden hB cx o2 w2 ?_
              cases hr:execMs T mss vars' σ with
              | none=>rw [hr] at h; exact h
              | some p =>
                obtain ⟨f,vars2,σ2⟩:=p
                rw [hr] at h
                cases f with
                | next =>
                  rw [seqS_next] at h
                  intro B3 ρ3 s3 e3 o3 w3 t3
                  exact ⟨n,Nat.lt_succ_self _,k + 1,vars2,B3,ρ3,σ2,O',o3,w3,W.ext it' e3,h.from e3 t3⟩
                | ret l =>
                  intro v B3 ρ3 s3 e3 o3 w3 t3 d3
                  exact h v B3 ρ3 s3 e3 o3 t3 d3
                | exc i =>
                  intro ev B3 ρ3 s3 e3 o3 t3 X3
                  refine x_noted' ((cx.hidden w2).cx.frm) o3 X3 fun h4 o4 X4=>?_
                  obtain ⟨o5,w5⟩:=o4.showS w2
                  exact h ev B3 ρ3 { s3 with heap:=h4 } e3 o5 ⟨t3.1,t3.2⟩ (X4.any.down w2.le)
theorem SS_while {c:PySem.Expr} {mc:ME} {body:List Stmt} {pos:Pos} {mss:MSs} (hC:SB prog w hb T N sc c mc) (hB:SSs prog w hb T N sc body mss):SS prog w hb T N sc (.While c body [] pos) (.whileS mc mss):=fun A env Pv vars B ρ σ s cx o Q E h=>by
  unfold execM at h
  refine wpAny_While ?_
  refine codeAny_whileLoop (fun n s=>∃ vars B ρ σ,OkE w.params hb env Pv vars B ρ σ s.heap∧ES w.params hb env Pv B ρ σ s (whileM (evalM T mc) (execMs T mss) n vars σ) Q E) ?_ whileMost ⟨vars,B,ρ,σ,o,h⟩
  clear h o
  rintro n s ⟨vars,B,ρ,σ,o,h⟩
  cases n with
  | zero=>exact h.elim
  | succ n =>
    unfold whileM at h
    rw [truth_bindS _ _ (fun b σ=>if b then seqS (execMs T mss vars σ) fun ρ σ=>whileM (evalM T mc) (execMs T mss) n ρ σ else some (.next,vars,σ))] at h
    have exc:∀ {i:Int} {vars':Loc} {σ':Sto} {B₁:Frz} {ρ₁:Nat→Addr} {σ₁:Sto} {s₁:Shared} {ev:Value} {B':Frz} {ρ':Nat→Addr} {s':Shared},ES w.params hb env Pv B₁ ρ₁ σ₁ s₁ (some (.exc i,vars',σ')) Q E→Ext B₁ ρ₁ σ₁.length B' ρ' σ'.length→OkE w.params hb env Pv vars' B' ρ' σ' s'.heap→Rest s₁ s' → Xc B' Pv s'.heap ev i false →
        notedBy (model prog w) A env (cameBackBy (model prog w) A env E) ev s':=fun {i vars' σ' B₁ ρ₁ σ₁ s₁ ev B' ρ' s'} h e o t X=>x_noted' cx.cx.frm o X fun h4 o4 X4=>h ev B' ρ' { s' with heap:=h4 } e o4 ⟨t.1,t.2⟩ X4.any
    refine hC A env Pv vars B ρ σ s cx.cx o _ _ ?_
    unfold EP
    cases hm:truthR (evalM T mc vars σ) with
    | none=>rw [hm] at h; exact h
    | some p =>
      obtain ⟨r,σ₁⟩:=p
      rw [hm] at h
      cases r with
      | exc i=>exact fun ev B' ρ' s' e o' t X=>exc h e o' t X
      | val b =>
        rw [bindS_val] at h
        intro b' B₁ ρ₁ s₁ e₁ o₁ t₁ d₁
        cases d₁
        have h:=h.from e₁ t₁
        cases b with
        | false =>
          rw [if_neg (by decide)] at h ⊢
          exact wpAny_execs_nil (h.next .refl o₁ Rest.refl)
        | true =>
          rw [if_pos rfl] at h ⊢
          refine hB A env Pv vars B₁ ρ₁ σ₁ s₁ cx o₁ _ _ ?_
          unfold ES
          cases hr:execMs T mss vars σ₁ with
          | none=>rw [hr] at h; exact h
          | some p =>
            obtain ⟨f,vars2,σ2⟩:=p
            rw [hr] at h
            cases f with
            | next =>
              rw [seqS_next] at h
              intro B3 ρ3 s3 e3 o3 t3
              exact ⟨n,Nat.lt_succ_self _,vars2,B3,ρ3,σ2,o3,h.from e3 t3⟩
            | ret l=>exact h
            | exc i=>exact fun ev B' ρ' s' e o' t X=>exc h e o' t X
end
end Mine
namespace Mine
open PySem PySem.Calls PySem.W PyProof.Rows PySem.SeqAt
section
variable {P:Params} {hb h:Heap} {B:Frz} {Pv:Prv} {ρ:Nat→Addr} {σ:Sto} {env:Env} {vars:Loc} {ev:Value} {i:Int}
theorem own_fields {a:Addr} {o:Obj} {vs:Array Value} (x:OkE P hb env Pv vars B ρ σ h) (hB:B a=none) (hP:Pv a=none) (hg:h.get? a=some o) (hd:o.data = .fields vs):Own B Pv ρ σ.length env a:=by
  obtain ⟨st,m,cm,y⟩:=x
  refine ⟨hB,hP,fun j hj e=>?_,fun e=>?_,fun x c hc e=>?_⟩
  · have a3:=(st.cell j _ (List.getElem?_eq_getElem hj)).2.2
    rw [e] at a3
    cases hc':σ[j] with
    | dict ps=>rw [hc'] at a3; obtain ⟨_,_,e',_⟩:=a3; rw [hg] at e'; cases e'; cases hd
    | list ps=>rw [hc'] at a3; obtain ⟨_,_,e',_⟩:=a3; rw [hg] at e'; cases e'; cases hd
  · exact ns_fields y.ns o (e ▸ hg) vs hd
  · obtain ⟨o',ho',hd'⟩:=(y.cell x c hc).1
    rw [e,hg] at ho'; cases ho'; rw [hd] at hd'; cases hd'
theorem fault_owns (x:OkE P hb env Pv vars B ρ σ h) (X:Xc B Pv h ev i true):ev≠byPass∧∃ O,Owns B Pv ρ σ.length env O h∧∀ {B':Frz} {ρ':Nat→Addr} {σ':Sto} {h':Heap},Ext B ρ σ.length B' ρ' σ'.length→Owns B' Pv ρ' σ'.length env O h' → Xc B' Pv h' ev i true:=by
  obtain ⟨a,d,oe,vs,es,k,X,t⟩:=X
  rcases t with ⟨q,_⟩ | ⟨T,oT,ts,a1,a2,a3,a4,a5,a6,a7⟩
  · cases q
  refine ⟨by rw [X.isRef]; exact ref_ne_byPass a,fun b=>if b=a then some oe else if b=T then some oT else none,⟨fun b o q=>?_,fun b o q=>?_⟩,fun {B' ρ' σ' h'} e w=>?_⟩
  · by_cases q1:b=a
    · subst q1; exact own_fields x X.freshB X.freshP X.get X.data
    · simp only [if_neg q1] at q
      by_cases q2:b=T
      · subst q2; exact own_fields x a2 a3 a5 a6
      · simp only [if_neg q2] at q; cases q
  · by_cases q1:b=a
    · subst q1; simp only [if_pos] at q; cases q; exact X.get
    · simp only [if_neg q1] at q
      by_cases q2:b=T
      · subst q2; simp only [if_pos] at q; cases q; exact a5
      · simp only [if_neg q2] at q; cases q
  · have ga:=w.held a oe (by simp)
    have oa:=w.own a oe (by simp)
    have gT:=w.held T oT (by simp [a4])
    have oT':=w.own T oT (by simp [a4])
    exact ⟨a,d,oe,vs,es,k,⟨X.isRef,ga,X.cls,X.dict,X.data,X.size,oa.b,oa.p,e.frz _ _ X.dic,X.spot⟩,.inr ⟨T,oT,ts,a1,oT'.b,oT'.p,a4,gT,a6,a7⟩⟩
end
section
variable {prog:Program} {w:World} {hb:Heap} {T:Tab} {N:Nat} {sc:Scope}
def quietT (T:Tab):Tab:={ T with call:=T.callQ,rs:=false }
theorem Cx.quiet {A:Around} {env:Env} {Pv:Prv} (h:Option Value) (cx:Cx T A env sc Pv N):Cx (quietT T) (A.mark h) env sc Pv N:={ cx with frm:=cx.frm,hnd:=(fun q=>by cases q),dep:=cx.dep,uni:=cx.uni }
theorem SS_tryF {body:List Stmt} {f₀:Stmt} {fs:List Stmt} {pos:Pos} {mb mf:MSs} (hB:SSs prog w hb T N sc body mb) (hF:SSs prog w hb (quietT T) N sc (f₀::fs) mf):SS prog w hb T N sc (.Try body [] [] (f₀::fs) pos) (.tryF mb mf):=fun A env Pv vars B ρ σ s cx o Q E h=>by
  unfold execM at h
  have h:(match execMs T mb vars σ with
    | some (f,ρ1,σ1)=>ES w.params hb env Pv B ρ σ s (match execMs (quietT T) mf ρ1 σ1 with
      | some (.next,ρ2,σ2)=>some (f,ρ2,σ2)
      | _=>none) Q E
    | none=>False):=by
    revert h
    cases execMs T mb vars σ with
    | none=>exact id
    | some p=>exact id
  refine wpAny_Try_finally (hB A env Pv vars B ρ σ s cx o _ _ ?_)
  unfold ES
  cases hm:execMs T mb vars σ with
  | none=>rw [hm] at h; exact h
  | some p =>
    obtain ⟨f,ρ1,σ1⟩:=p
    rw [hm] at h
    dsimp only at h
    cases hm2:execMs (quietT T) mf ρ1 σ1 with
    | none=>rw [hm2] at h; exact h.elim
    | some q =>
      obtain ⟨g,ρ2,σ2⟩:=q
      rw [hm2] at h
      cases g with
      | ret l=>exact h.elim
      | exc i=>exact h.elim
      | next =>
        dsimp only at h
        -- the end,without a fault
        have plain:∀ {A':Around} {B₁:Frz} {ρa:Nat→Addr} {s₁:Shared} {Q':Flow→Shared→Prop} {E':Value→Shared→Prop},CxS (quietT T) A' env sc Pv N→OkE w.params hb env Pv ρ1 B₁ ρa σ1 s₁.heap→(∀ B' ρ' s',Ext B₁ ρa σ1.length B' ρ' σ2.length→OkE w.params hb env Pv ρ2 B' ρ' σ2 s'.heap→Rest s₁ s' → Q' .next s')→wpAny (model prog w) A' (execs (f₀::fs) env) Q' E' s₁:=fun {A' B₁ ρa s₁ Q' E'} cx' o₁ k=>by
          refine hF A' env Pv ρ1 B₁ ρa σ1 s₁ cx' o₁ _ _ ?_
          rw [hm2]
          exact k
        have cxQ:CxS (quietT T) A env sc Pv N:=⟨by have:=cx.cx.quiet (A:=A) none; rwa [Around.mark_none] at this,cx.own⟩
        cases f with
        | next =>
          intro B₁ ρa s₁ e₁ o₁ t₁
          refine wpAny_execs_nil (plain cxQ o₁ fun B' ρ' s' e o' t=>?_)
          exact h B' ρ' s' (e₁.trans e) o' (t₁.trans t)
        | ret l =>
          intro v B₁ ρa s₁ e₁ o₁ t₁ d₁
          exact plain cxQ o₁ fun B' ρ' s' e o' t=>h v B' ρ' s' (e₁.trans e) o' (t₁.trans t) (d₁.ext e)
        | exc i =>
          intro ev B₁ ρa s₁ e₁ o₁ t₁ X₁
          refine x_note' cx.cx.frm o₁ X₁ fun h2 o2 X2=>?_
          obtain ⟨hne,_⟩:=fault_owns o2 X2
          refine ⟨hne,x_note' (s:={ s₁ with heap:=h2 }) cx.cx.frm o2 X2 fun h3 o3 X3=>?_⟩
          refine x_setFlight' (s:={ s₁ with heap:=h3 }) o3 X3 fun h4 o4 X4=>?_
          obtain ⟨_,O,wO,back⟩:=fault_owns o4 X4
          have cxM:CxS (quietT T) (A.mark (some ev)) env sc Pv N:=⟨cx.cx.quiet (some ev),cx.own⟩
          refine hF (A.mark (some ev)) env (prvs Pv O) ρ1 B₁ ρa σ1 { s₁ with heap:=h4 } (cxM.hidden wO) (o4.hideS wO) _ _ ?_
          rw [hm2]
          intro B' ρ' s' e o' t
          obtain ⟨o5,w5⟩:=o'.showS wO
          have X5:=back e w5
          exact x_passOn' o5 X5 fun h6 o6 X6=>h ev B' ρ' { s' with heap:=h6 } (e₁.trans e) o6 ((t₁.trans ⟨t.1,t.2⟩)) X6.any
end
end Mine
namespace Mine
open PySem PySem.Calls PySem.W PyProof.Rows PySem.SeqAt
section
variable {prog:Program} {w:World} {hb:Heap} {T:Tab} {N:Nat} {sc:Scope} {K:Frag} {mg mb:Str→Option Value}
theorem range_small (n:Int) (h:small n=true):Builtin.Range.rangeSize 0 n 1=(n.toNat:Int)∧Builtin.Range.small 0 n 1=true:=by
  have hs:=sm n h
  exact ⟨by rw [rangeSize_one]; split <;> omega,small_one (by omega) (by omega) (by omega) (by omega)⟩
theorem range_down (n:Int) (h:small n=true):Builtin.Range.rangeSize n (-1) (-1)=((n + 1).toNat:Int)∧Builtin.Range.small n (-1) (-1)=true:=by
  have hs:=sm n h
  have e:Builtin.Range.rangeSize n (-1) (-1)=((n + 1).toNat:Int):=by
    unfold Builtin.Range.rangeSize
    rw [if_neg (by decide)]
    have e1:(n - -1 - 1) / (- -1:Int)=n:=by
      rw [show (- -1:Int)=1 from rfl,Int.ediv_one]; omega
    split
    · rw [e1]; omega
    · omega
  refine ⟨e,?_⟩
  unfold Builtin.Range.small
  rw [e]
  simp only [Builtin.Range.rangeFitsLong,Bool.and_eq_true,Bool.or_eq_true,decide_eq_true_eq,beq_iff_eq,show ¬ ((-1:Int) > 0) by decide,if_false]
  refine ⟨⟨⟨⟨?_,?_⟩,?_⟩,?_⟩,.inr ?_⟩ <;> constructor <;> omega
theorem make_range {A:Around} {target:PySem.Expr} {env:Env} {Pv:Prv} {vars:Loc} {B:Frz} {ρ:Nat→Addr} {σ:Sto} {s:Shared} {r:Addr} {a b c:Int} {t u v:Tok} {n:Nat} {Q:Value→Shared→Prop} {E:Value→Shared→Prop} (hh:A.handled=none) (o:OkE w.params hb env Pv vars B ρ σ s.heap) (hr:IsRange s.heap r a b c t u v)
    (hsm:Builtin.Range.small a b c=true) (hn:Builtin.Range.rangeSize a b c=(n:Int))
    (h:∀ I O It s',Walker prog w hb A target (.range a c n) I It→OkE w.params hb env Pv vars B ρ σ s'.heap→Rest s s' → Owns B Pv ρ σ.length env O s'.heap→It 0 O B ρ σ.length→(∀ d,(O d).isSome=true→d < s'.heap.objs.size)→Q (.ref I) s'):wpAny (model prog w) A (pyIter (.ref r)) Q E s:=by
  refine wpAny_pyIter_range hr hsm ?_
  have e:(rangeO (a + ((0:Nat):Int) * c) ((n:Int) - ((0:Nat):Int)) c)={ cls:=.type "range_iterator",data:=.fields #[rawInt a,rawInt (Builtin.Range.rangeSize a b c),rawInt c] }:=by
    rw [hn]; simp
  have hg:(s.heap.push { cls:=.type "range_iterator",data:=.fields #[rawInt a,rawInt (Builtin.Range.rangeSize a b c),rawInt c] }).get? s.heap.objs.size=some (rangeO (a + ((0:Nat):Int) * c) ((n:Int) - ((0:Nat):Int)) c):=by
    rw [e]; exact Heap.get?_push_size _ rfl
  refine h s.heap.objs.size (one s.heap.objs.size (rangeO (a + ((0:Nat):Int) * c) ((n:Int) - ((0:Nat):Int)) c)) (RIt s.heap.objs.size a c n) { s with heap:=s.heap.push { cls:=.type "range_iterator",data:=.fields #[rawInt a,rawInt (Builtin.Range.rangeSize a b c),rawInt c] } } (walker_range hh) (o.push _) ⟨rfl,rfl⟩ (Owns.one o.fresh hg) rfl fun d hd=>?_
  obtain ⟨ob,hd⟩:=Option.isSome_iff_exists.mp hd
  obtain ⟨rfl,_⟩:=one_some hd
  exact Heap.lt_size hg
theorem SI_range {target e:PySem.Expr} {me:ME} {x:Str} {np pos} (G:Gd w hb K mg mb) (n:BN K sc x (.type "range")) (h1:SE prog w hb T N sc e me) (hs:isStarred e=false):SI prog w hb T N sc target (.Call (.Name x np) [e] [] pos) (.range me):=fun A env Pv vars B ρ σ s hrs cx o Q E h=>by
  unfold iterM at h
  refine call_b1 (Q:=fun x s₁=>wpAny (model prog w) A (pyIter x) Q E s₁) G cx o n (.inr ⟨_,rfl⟩) hs (h1 A env Pv vars B ρ σ s cx o _ _ ?_)
  unfold EP
  cases hm:evalM T me vars σ with
  | none=>rw [hm] at h; exact h
  | some p =>
    obtain ⟨r,σ₁⟩:=p
    rw [hm] at h
    cases r with
    | exc i=>exact h
    | val l =>
      rw [bindR_val] at h
      intro v B₁ ρ₁ s₁ e₁ o₁ t₁ d₁
      cases l with
      | int k =>
        dsimp only at h
        by_cases hsm:small k=true
        · rw [if_pos hsm] at h
          cases d₁
          obtain ⟨r1,r2⟩:=range_small k hsm
          refine call_range_1 ?_
          refine make_range (target:=target) (s:={ s₁ with heap:=_,toks:=_ }) (cx.hnd hrs) (o₁.push _) (IsRange.new ..) r2 r1 fun I O It s' W o' t' w' it hl=>?_
          exact h I O It B₁ ρ₁ s' e₁ W o' (t₁.trans ⟨t'.1,t'.2⟩) w' it hl
        · rw [if_neg hsm] at h; exact h.elim
      | _=>exact h.elim
theorem call_b3 {A:Around} {E:Value→Shared→Prop} {s:Shared} {env:Env} {Pv:Prv} {vars:Loc} {B:Frz} {ρ:Nat→Addr} {σ:Sto} {x:Str} {t:String} {es:List PySem.Expr} {np pos:Pos} {Q:Value→Shared→Prop}
    (G:Gd w hb K mg mb) (cx:Cx T A env sc Pv N) (o:OkE w.params hb env Pv vars B ρ σ s.heap) (n:BN K sc x (.type t)) (hs:noStar es=true) (hne:es≠[])
    (h:wpAny (model prog w) A (spliced (backTo pos (starEach es env))) (fun vs s₁=>wpAny (model prog w) A (call (.type t) vs) Q E s₁) E s):wpAny (model prog w) A (eval (.Call (.Name x np) es [] pos) env) Q E s:=by
  refine Call_ (globBuiltin G cx o.1 n.sc n.no n.yes n.ne n.dbg ?_)
  cases es with
  | nil=>exact absurd rfl hne
  | cons e es =>
    have hs':=hs
    unfold noStar at hs'
    rw [List.all_cons,Bool.and_eq_true] at hs'
    refine PyProof.Rows.callWith_type1 h ?_ (noStar_any hs'.2)
    have h1:=hs'.1
    cases e <;> first | rfl | cases h1
theorem SI_range3 {target a b c:PySem.Expr} {ma mb' mc:ME} {x:Str} {np pos} (G:Gd w hb K mg mb) (n:BN K sc x (.type "range")) (h1:SE prog w hb T N sc a ma) (h2:SE prog w hb T N sc b mb') (h3:SE prog w hb T N sc c mc) (hs:noStar [a,b,c]=true):SI prog w hb T N sc target (.Call (.Name x np) [a,b,c] [] pos) (.range3 ma mb' mc):=fun A env Pv vars B ρ σ s hrs cx o Q E h=>by
  unfold iterM at h
  have hargs:=SEs_cons h1 (SEs_cons h2 (SEs_cons h3 SEs_nil (by simp [noStar] at hs; exact hs.2.2)) (by simp [noStar] at hs; exact hs.2.1)) (by simp [noStar] at hs; exact hs.1)
  refine call_b3 (Q:=fun x s₁=>wpAny (model prog w) A (pyIter x) Q E s₁) G cx o n hs (by simp) (hargs A env Pv vars B ρ σ s pos cx o _ _ ?_)
  unfold EP evalMs evalMs evalMs evalMs
  cases hm:evalM T ma vars σ with
  | none=>rw [hm] at h; exact h
  | some p =>
    obtain ⟨r,σ₁⟩:=p
    rw [hm] at h
    cases r with
    | exc i=>exact h
    | val l1 =>
      rw [bindR_val] at h ⊢
      cases hm2:evalM T mb' vars σ₁ with
      | none=>rw [hm2] at h; exact h
      | some p =>
        obtain ⟨r,σ₂⟩:=p
        rw [hm2] at h
        cases r with
        | exc i=>exact h
        | val l2 =>
          rw [bindR_val] at h ⊢
          cases hm3:evalM T mc vars σ₂ with
          | none=>rw [hm3] at h; exact h
          | some p =>
            obtain ⟨r,σ₃⟩:=p
            rw [hm3] at h
            cases r with
            | exc i=>exact h
            | val l3 =>
              simp only [bindR_val] at h ⊢
              intro vs B₁ ρ₁ s₁ e₁ o₁ t₁ d₁
              split at h
              · rename_i src σ' heq
                split at heq
                · rename_i k
                  split at heq
                  · rename_i hsm
                    cases heq
                    cases d₁; rename_i v1 vs d1 dr
                    cases dr; rename_i v2 vs d2 dr
                    cases dr; rename_i v3 vs d3 dr
                    cases dr
                    cases d1; cases d2; cases d3
                    obtain ⟨r1,r2⟩:=range_down k hsm
                    refine call_range_3 (by decide) ?_ (.inl (PyProof.noPylong_small (by decide)))
                    refine make_range (target:=target) (s:={ s₁ with heap:=_,toks:=_ }) (cx.hnd hrs) (o₁.push _) (IsRange.new ..) r2 r1 fun I O It s' W o' t' w' it hl=>?_
                    exact h I O It B₁ ρ₁ s' e₁ W o' (t₁.trans ⟨t'.1,t'.2⟩) w' it hl
                  · cases heq
                · cases heq
              · rename_i heq
                split at heq
                · split at heq <;> cases heq
                · cases heq
              · exact h.elim
end
end Mine
namespace Mine
open PySem PySem.Calls PySem.W PyProof.Rows PySem.SeqAt
section
variable {prog:Program} {w:World} {hb:Heap} {T:Tab} {N:Nat} {sc:Scope}
theorem SB_notin {a b:PySem.Expr} {ma mb:ME} {pos} (h1:SE prog w hb T N sc a ma) (h2:SE prog w hb T N sc b mb) (hs:notSet b=true):SB prog w hb T N sc (.Compare a [.NotIn] [b] pos) (.notin ma mb):=fun A env Pv vars B ρ σ s cx o Q E h=>by
  unfold evalM truthR at h
  rw [bindR_assoc] at h
  refine wpAny_isTrue_Compare1 (h1 A env Pv vars B ρ σ s cx o _ _ (EP.bind h fun x σ₁ v B₁ ρ₁ s₁ _ e₁ o₁ t₁ d₁ h₁=>?_)) (marks_of hs)
  rw [bindR_assoc] at h₁
  refine h2 A env Pv vars B₁ ρ₁ σ₁ s₁ cx o₁ _ _ (EP.bind h₁ fun y σ₂ u B₂ ρ₂ s₂ _ e₂ o₂ t₂ d₂ h₂=>?_)
  split at h₂
  · rename_i ys _
    cases hr:inLs x ys with
    | none=>rw [hr] at h₂; exact h₂.elim
    | some r =>
      rw [hr] at h₂
      exact notInTup_says o₂.1.frz (d₁.ext e₂) d₂ hr cx.u (wpAny_truthy_bool (EP.val h₂ o₂ rfl))
  · exact h₂.elim
inductive KV (P:Params) (B:Frz) (ρ:Nat→Addr) (n:Nat):List (Str × Value)→List (Nat × LV)→Prop
  | nil:KV P B ρ n [] []
  | cons {c x v l kvs ps}:nm c=some x→Den P B ρ n v l→KV P B ρ n kvs ps→KV P B ρ n ((x,v)::kvs) ((c,l)::ps)
theorem KV.of {B:Frz} {ρ:Nat→Addr} {n:Nat}:∀ {es:List DictEntry} {ps:List (Nat × LV)},DenEs w.params B ρ n es ps→∃ kvs,Pairs (strKind prog w) es kvs∧KV w.params B ρ n kvs ps
  | _,_,.nil=>⟨[],.nil,.nil⟩
  | _,_,.cons (x:=x) (t:=t) (v:=v) hc d r=>by
    obtain ⟨kvs,a,b⟩:=KV.of r
    exact ⟨(x,v)::kvs,.cons (strKind_is prog w x t) rfl a,.cons hc d b⟩
theorem KV.len {P:Params} {B:Frz} {ρ:Nat→Addr} {n:Nat}:∀ {kvs ps},KV P B ρ n kvs ps→kvs.length=ps.length
  | _,_,.nil=>rfl
  | _,_,.cons _ _ r=>congrArg (· + 1) r.len
theorem KV.mem {P:Params} {B:Frz} {ρ:Nat→Addr} {n:Nat}:∀ {kvs ps},KV P B ρ n kvs ps→∀ {x:Str},x∈kvs.map (·.1)→∃ c,nm c=some x∧c∈ps.map (·.1)
  | _,_,.cons (c:=c) hc _ r,x,h=>by
    rcases List.mem_cons.mp h with rfl | h
    · exact ⟨c,hc,.head _⟩
    · obtain ⟨c',a,b⟩:=r.mem h; exact ⟨c',a,.tail _ b⟩
theorem KV.nodup {P:Params} {B:Frz} {ρ:Nat→Addr} {n:Nat}:∀ {kvs ps},KV P B ρ n kvs ps→(ps.map (·.1)).Nodup→(kvs.map (·.1)).Nodup
  | _,_,.nil,_=>List.nodup_nil
  | _,_,.cons (c:=c) hc _ r,hn=>by
    obtain ⟨h1,h2⟩:=List.nodup_cons.mp hn
    refine List.nodup_cons.mpr ⟨fun q=>?_,r.nodup h2⟩
    obtain ⟨c',a,b⟩:=r.mem q
    exact h1 (nm_inj hc a ▸ b)
theorem KV.find {P:Params} {B:Frz} {ρ:Nat→Addr} {n:Nat}:∀ {kvs ps},KV P B ρ n kvs ps→∀ {c:Nat} {x:Str},nm c=some x→match lookA c ps with
    | some l=>∃ v,valueAt kvs x=some v∧Den P B ρ n v l
    | none=>valueAt kvs x=none
  | _,_,.nil,_,_,_=>rfl
  | _,_,.cons (c:=c') (x:=x') hc d r,c,x,hx=>by
    unfold lookA valueAt
    rw [List.find?_cons]
    by_cases q:c' = c
    · subst q
      rw [hc] at hx; cases hx
      rw [if_pos rfl]
      simp
      exact d
    · have hne:¬ x' = x:=fun z=>q (nm_inj hc (z ▸ hx))
      rw [if_neg q]
      simp only [decide_eq_false hne]
      exact r.find hx
theorem eqAt_den {A:Around} {s:Shared} {P:Params} {B:Frz} {ρ:Nat→Addr} {n:Nat} {v u:Value} {x y:LV} {r:Bool} (k:∀ a o,B a=some o→s.heap.get? a=some o) (da:Den P B ρ n v x) (db:Den P B ρ n u y) (h:eqL x y=some r) (hu:A.units + 100≤cLine):EqAt A s v u r:=by
  unfold eqL at h
  split at h
  · rename_i hc
    simp only [Bool.and_eq_true,Bool.or_eq_true] at hc
    obtain ⟨⟨h1,h2⟩,h3⟩:=hc
    cases h
    obtain ⟨as,ra⟩:=da.reads k h1
    obtain ⟨bs,rb⟩:=db.reads k h2
    have:=eqAt_reads (py x) (py y) A s v u as bs ra rb (py_lay _ da.okN) (py_lay _ db.okN) (by
      have:min (py x).depth (py y).depth≤8:=h3.elim (fun z=>Nat.le_trans (Nat.min_le_left _ _) (py_depth 8 x z)) fun z=>Nat.le_trans (Nat.min_le_right _ _) (py_depth 8 y z)
      omega)
    rw [py_eqv _ _ da.okN db.okN h1 h2] at this
    exact this
  · cases h
theorem hits_of {A:Around} {s:Shared} {B:Frz} {ρ:Nat→Addr} {n:Nat} {kb:List (Str × Value)} {pb:List (Nat × LV)} (k:∀ a o,B a=some o→s.heap.get? a=some o) (hb':KV w.params B ρ n kb pb) (hu:A.units + 100≤cLine):∀ {ka pa},KV w.params B ρ n ka pa→∀ {r:Bool},subD pb pa=some r→KeqHits A s kb ka r
  | _,_,.nil,r,h=>by cases h; exact .nil
  | _,_,.cons (c:=c) hc d rest,r,h=>by
    unfold subD at h
    have f:=hb'.find hc
    cases q:lookA c pb with
    | none =>
      rw [q] at h f
      cases h
      exact .miss f
    | some u =>
      rw [q] at h f
      obtain ⟨y,hy,dy⟩:=f
      dsimp only at h
      obtain ⟨e,he,h⟩:=Option.bind_eq_some_iff.mp h
      obtain ⟨t,ht,rfl⟩:=Option.map_eq_some_iff.mp h
      exact .hit hy (eqAt_den k d dy he hu) (hits_of k hb' hu rest ht)
theorem dictOf_den {s:Shared} {B:Frz} {ρ:Nat→Addr} {n a k:Nat} {es:List DictEntry} {ps:List (Nat × LV)} {kvs:List (Str × Value)} (hg:s.heap.get? a=some (dictOf es k)) (D:DenEs w.params B ρ n es ps) (p:Pairs (strKind prog w) es kvs) (q:KV w.params B ρ n kvs ps) (hn:(ps.map (·.1)).Nodup):s.heap.DictOf (strKind prog w) a kvs :=
  ⟨_,es.toArray,k,hg,⟨rfl,rfl,rfl⟩,rfl,D.keysOf,by simpa using p,q.nodup hn⟩
theorem dict_at {env:Env} {Pv:Prv} {vars:Loc} {B:Frz} {ρ:Nat→Addr} {σ:Sto} {s:Shared} {v:Value} {l:LV} {ps:List (Nat × LV)} (o:OkE w.params hb env Pv vars B ρ σ s.heap) (d:Den w.params B ρ σ.length v l) (h:dictOfL σ l=some ps) :
    ∃ a es k,v = .ref a∧(a == sysModules)=false∧s.heap.get? a=some (dictOf es k)∧DenEs w.params B ρ σ.length es ps:=by
  unfold dictOfL at h
  split at h
  · cases h; cases d; rename_i hm hb' D; exact ⟨_,_,_,rfl,hm,o.1.frz _ _ hb',D⟩
  · split at h
    · rename_i hc
      cases h; cases d; rename_i hi
      obtain ⟨es,k,hg,D⟩:=cell_dict o.1 hc
      exact ⟨_,es,k,rfl,notMod o.1 hi,hg,D⟩
    · cases h
  · cases h
def cmpDL (σ:Sto) (x y:LV):R LV:=match dictOfL σ x,dictOfL σ y with
  | some d,some e=>lift ((eqD d e).map fun r => .bool (!r)) σ
  | _,_=>none
theorem cmpD_says {A:Around} {env:Env} {Pv:Prv} {vars:Loc} {B₂:Frz} {ρ₂:Nat→Addr} {σ₂:Sto} {s₂:Shared} {a b:Value} {x y:LV} (o₂:OkE w.params hb env Pv vars B₂ ρ₂ σ₂ s₂.heap) (d₁:Den w.params B₂ ρ₂ σ₂.length a x) (d₂:Den w.params B₂ ρ₂ σ₂.length b y) (hu₀:A.units + 200≤cLine) :
    Says prog w hb (DV w) A env Pv vars B₂ ρ₂ σ₂ s₂ (compareOp .NotEq a b) (cmpDL σ₂ x y):=fun Q E h₂=>by
  unfold cmpDL at h₂
  split at h₂
  · rename_i pa pb ha hb2
    obtain ⟨aa,ea,ka,rfl,ma,ga,Da⟩:=dict_at o₂ d₁ ha
    obtain ⟨ab,eb,kb,rfl,mb,gb,Db⟩:=dict_at o₂ d₂ hb2
    unfold eqD at h₂
    split at h₂
    · rename_i hn
      simp only [Bool.and_eq_true,decide_eq_true_eq] at hn
      obtain ⟨kva,p1,q1⟩:=KV.of (prog:=prog) Da
      obtain ⟨kvb,p2,q2⟩:=KV.of (prog:=prog) Db
      have da:=dictOf_den ga Da p1 q1 hn.1
      have db:=dictOf_den gb Db p2 q2 hn.2
      have hu:A.in1.units + 100≤cLine:=by have:=hu₀; show A.units + 1 + 100≤cLine; omega
      by_cases hl:pa.length=pb.length
      · rw [if_pos hl] at h₂
        cases hr:subD pb pa with
        | none=>rw [hr] at h₂; exact h₂.elim
        | some r =>
          rw [hr] at h₂
          refine keq_ne (r:=r) ma mb da db (by have:=hu₀; omega) (fun _=>hits_of o₂.1.frz q2 hu q1 hr) ?_
          rw [q1.len,q2.len,hl,beq_self_eq_true,Bool.true_and]
          exact EP.val h₂ o₂ (.bool _)
      · rw [if_neg hl] at h₂
        refine keq_ne (r:=false) ma mb da db (by have:=hu₀; omega) (fun q=>absurd (by rw [← q1.len,← q2.len]; exact q) hl) ?_
        rw [Bool.and_false]
        exact EP.val h₂ o₂ (.bool _)
    · exact h₂.elim
  · exact h₂.elim
theorem SB_cmpD {a b:PySem.Expr} {ma mb:ME} {pos} (h1:SE prog w hb T N sc a ma) (h2:SE prog w hb T N sc b mb) (hs:notSet b=true):SB prog w hb T N sc (.Compare a [.NotEq] [b] pos) (.cmpD ma mb):=fun A env Pv vars B ρ σ s cx o Q E h=>by
  unfold evalM truthR at h
  rw [bindR_assoc] at h
  refine wpAny_isTrue_Compare1 (h1 A env Pv vars B ρ σ s cx o _ _ (EP.bind h fun x σ₁ v B₁ ρ₁ s₁ _ e₁ o₁ t₁ d₁ h₁=>?_)) (marks_of hs)
  rw [bindR_assoc] at h₁
  refine h2 A env Pv vars B₁ ρ₁ σ₁ s₁ cx o₁ _ _ (EP.bind h₁ fun y σ₂ u B₂ ρ₂ s₂ _ e₂ o₂ t₂ d₂ h₂=>?_)
  refine cmpD_says o₂ (d₁.ext e₂) d₂ cx.u _ _ (EP.bind h₂ fun z σ₃ c B₃ ρ₃ s₃ _ e₃ o₃ t₃ d₃ h₃=>?_)
  obtain ⟨c',rfl,hz⟩:=onB_cases (p:=fun r=>EP _ _ _ _ _ _ _ r _ _) h₃ id
  exact truthy_den d₃ (EP.val hz o₃ rfl)
open AutoSeq1 (wpAny_loadPart') in
open MeetsSeq MeetsSeq2 MeetsSeq3 in
theorem ne_one_loop (l b:Addr) (xs ys:Array Value) (n m:Nat) (v u:Value) (e:Bool) (hx0:xs[0]? = some v) (hy0:ys[0]? = some u) (hx1:xs[1]? = none) (hy1:ys[1]? = none) (hsz:xs.size=ys.size) (i:Nat) (hi:i=0∨(i=1∧e=true)) :
    MeetsIn prog w (Builtin.«list.__eq__.loop» ⟨[.ref l,.ref b,rawInt i,rawInt 3],[]⟩)
    (fun A R s=>s.heap.get? l=some { cls:=.type "list",dict:=none,data:=.seq xs n,slots := #[] }∧s.heap.get? b=some { cls:=.type "list",dict:=none,data:=.seq ys m,slots := #[] } ∧
      (∀ (Q:Bool→Shared→Prop) (E:Value→Shared→Prop),Q e s→wpAny (model prog w) A.in1 (eqBool v u) Q E s)∧R (.ok (.ret (.bool (!e)))) s):=by
  have last:∀ (A:Around) (R:Result→Shared→Prop) (s:Shared),s.heap.get? l=some { cls:=.type "list",dict:=none,data:=.seq xs n,slots := #[] }→s.heap.get? b=some { cls:=.type "list",dict:=none,data:=.seq ys m,slots := #[] }→R (.ok (.ret (.bool false))) s →
      wpAny (model prog w) A.in1 (Builtin.«list.__eq__.loop» ⟨[.ref l,.ref b,rawInt ((1:Nat):Int),rawInt 3],[]⟩) (fun fin s' => match fin with | .done f=>R (.ok f) s' | .again c' => c'.quiet=true∧codeAny (model prog w) A c' R s') (fun e s' => R (.error e) s') s:=by
    intro A R s hl hb h
    obtain ⟨hp,g,d,tk,os⟩:=s
    wp_walk using wpAny_loadPart' hl,wpAny_loadPart' hb
    have h1:xs[((1:Nat):Int).toNat]? = none:=hx1
    have h2:ys[((1:Nat):Int).toNat]? = none:=hy1
    rw [h1,h2]
    wp_walk using wpAny_loadPart' hl,wpAny_loadPart' hb
    show R (.ok (.ret (.bool (xs.size != ys.size)))) _
    rw [hsz]
    simpa using h
  intro A R s h
  obtain ⟨hl,hb,he,h⟩:=h
  rcases hi with rfl | ⟨rfl,rfl⟩
  · obtain ⟨hp,g,d,tk,os⟩:=s
    wp_walk using wpAny_loadPart' hl,wpAny_loadPart' hb
    have h1:xs[((0:Nat):Int).toNat]? = some v:=hx0
    have h2:ys[((0:Nat):Int).toNat]? = some u:=hy0
    rw [h1,h2]
    refine wpAny_bind (he _ _ ?_)
    cases e with
    | true =>
      wp_walk
      exact ⟨plainId_quiet plain_eq_loop _,codeAny_builtin entry_eq_loop (by
        rw [Around.under_plainId plain_eq_loop _]
        exact last A R _ hl hb h)⟩
    | false =>
      wp_walk using wpAny_loadPart' hl,wpAny_loadPart' hb
      rw [h1,h2]
      wp_walk
      exact h
  · exact last A R s hl hb h
open AutoSeq1 (wpAny_loadPart') in
open MeetsSeq MeetsSeq2 MeetsSeq3 in
theorem list_ne_one (l b:Addr) (xs ys:Array Value) (n m:Nat) (v u:Value) (e:Bool) (hx0:xs[0]? = some v) (hy0:ys[0]? = some u) (hx1:xs[1]? = none) (hy1:ys[1]? = none) (hsz:xs.size=ys.size) :
    MeetsIn prog w (Builtin.«list.__ne__» ⟨[.ref l,.ref b],[]⟩)
    (fun A R s=>s.heap.get? l=some { cls:=.type "list",dict:=none,data:=.seq xs n,slots := #[] }∧s.heap.get? b=some { cls:=.type "list",dict:=none,data:=.seq ys m,slots := #[] } ∧
      (∀ (Q:Bool→Shared→Prop) (E:Value→Shared→Prop),Q e s→wpAny (model prog w) A.in1 (eqBool v u) Q E s)∧R (.ok (.ret (.bool (!e)))) s):=by
  intro A R s h
  obtain ⟨hl,hb,he,h⟩:=h
  have hh:=h
  obtain ⟨hp,g,d,tk,os⟩:=s
  have f3:=AutoSeq1.sub_list_list
  have hne:¬ (xs.size != ys.size)=true:=by simp [hsz]
  wp_walk using wpAny_loadPart' hl,wpAny_loadPart' hb
  exact ⟨plainId_quiet plain_eq_loop _,codeAny_builtin entry_eq_loop (by
    rw [Around.under_plainId plain_eq_loop _]
    exact ne_one_loop l b xs ys n m v u e hx0 hy0 hx1 hy1 hsz 0 (.inl rfl) A R _ ⟨hl,hb,he,h⟩)⟩
theorem eqBool_refs {A:Around} {E:Value→Shared→Prop} {s:Shared} {l b:Addr} {e:Bool} {Q:Bool→Shared→Prop} (hne:l≠b) (h:∀ (Q:Value→Shared→Prop) (E:Value→Shared→Prop),Q (.bool e) s→wpAny (model prog w) A (compareOp .Eq (.ref l) (.ref b)) Q E s) (hq:Q e s) :
    wpAny (model prog w) A (eqBool (.ref l) (.ref b)) Q E s:=by
  unfold eqBool
  refine wpAny_holding ?_
  refine wpAny_ite_split (fun hab=>absurd (by have:=eq_of_beq hab; injection this) hne) (fun _=>?_)
  exact wpAny_bind (h _ _ (wpAny_truthy_bool hq))
theorem one_list {env:Env} {Pv:Prv} {vars:Loc} {B:Frz} {ρ:Nat→Addr} {σ:Sto} {s:Shared} {v:Value} {l x:LV} (o:OkE w.params hb env Pv vars B ρ σ s.heap) (d:Den w.params B ρ σ.length v l) (h:oneItem σ l=some x) :
    ∃ a u k,v = .ref a∧s.heap.get? a=some (lstO [u] k)∧Den w.params B ρ σ.length u x:=by
  unfold oneItem at h
  split at h
  · cases h; cases d; rename_i hb' D
    cases D; rename_i d1 r
    cases r
    exact ⟨_,_,_,rfl,o.1.frz _ _ hb',d1⟩
  · split at h
    · rename_i hc
      cases h; cases d
      obtain ⟨vs,k,hg,D⟩:=cell_list o.1 hc
      cases D; rename_i d1 r
      cases r
      exact ⟨_,_,_,rfl,hg,d1⟩
    · cases h
  · cases h
def cmpLDL (σ:Sto) (x y:LV):R LV:=match oneItem σ x,oneItem σ y with
  | some (.cell i),some (.dct e)=>(match σ[i]? with
    | some (.dict d)=>lift ((eqD d e).map fun r => .bool (!r)) σ
    | _=>none)
  | _,_=>none
theorem cmpLD_says {A:Around} {env:Env} {Pv:Prv} {vars:Loc} {B₂:Frz} {ρ₂:Nat→Addr} {σ₂:Sto} {s₂:Shared} {a b:Value} {x y:LV} (o₂:OkE w.params hb env Pv vars B₂ ρ₂ σ₂ s₂.heap) (d₁:Den w.params B₂ ρ₂ σ₂.length a x) (d₂:Den w.params B₂ ρ₂ σ₂.length b y) (hu₀:A.units + 200≤cLine) :
    Says prog w hb (DV w) A env Pv vars B₂ ρ₂ σ₂ s₂ (compareOp .NotEq a b) (cmpLDL σ₂ x y):=fun Q E h₂=>by
  unfold cmpLDL at h₂
  split at h₂
  · rename_i i pb hox hoy
    split at h₂
    · rename_i pa hc
      obtain ⟨la,ua,ka,rfl,ga,da⟩:=one_list o₂ d₁ hox
      obtain ⟨lb,ub,kb,rfl,gb,db⟩:=one_list o₂ d₂ hoy
      cases da; rename_i hi
      cases db; rename_i ad es2 k2 hm2 hB2 D2
      obtain ⟨es1,k1,g1,D1⟩:=cell_dict o₂.1 hc
      have g2:=o₂.1.frz _ _ hB2
      have hne:ρ₂ i≠ad:=fun e=>by
        have:=(o₂.1.cell i _ hc).1
        rw [e,hB2] at this; cases this
      unfold eqD at h₂
      split at h₂
      · rename_i hn
        simp only [Bool.and_eq_true,decide_eq_true_eq] at hn
        obtain ⟨kva,p1,q1⟩:=KV.of (prog:=prog) D1
        obtain ⟨kvb,p2,q2⟩:=KV.of (prog:=prog) D2
        have dda:=dictOf_den g1 D1 p1 q1 hn.1
        have ddb:=dictOf_den g2 D2 p2 q2 hn.2
        have go:∀ (r:Bool),(∀ (A':Around),A'.units≤A.units + 2→∀ (Q:Value→Shared→Prop) (E:Value→Shared→Prop),Q (.bool r) s₂→wpAny (model prog w) A' (compareOp .Eq (.ref (ρ₂ i)) (.ref ad)) Q E s₂)→Q (.bool (!r)) s₂→wpAny (model prog w) A (compareOp .NotEq (.ref la) (.ref lb)) Q E s₂:=fun r hr hq=>by
          refine wpAny_richCompare_same_room (op:=.NotEq) (T := "list") ⟨_,ga,rfl⟩ ⟨_,gb,rfl⟩ PySem.F.slot_list_ne (call_meetsIn PySem.F.slot_list_ne ⟨_,ga,rfl⟩ PySem.F.entry_list_ne (PySem.F.args_list_ne_2 _ _) (list_ne_one la lb #[.ref (ρ₂ i)] #[.ref ad] ka kb _ _ r rfl rfl rfl rfl rfl) ⟨ga,gb,fun Q' E' hQ=>eqBool_refs hne (fun Q'' E'' h'' => hr _ (by show A.units + 1≤A.units + 2; omega) Q'' E'' h'') hQ,?_⟩) (by have:=hu₀; omega)
          exact ⟨(fun x=>nomatch x),hq⟩
        have hu:∀ (A':Around),A'.units≤A.units + 2→A'.in1.units + 100≤cLine:=fun A' hA=>by have:=hu₀; show A'.units + 1 + 100≤cLine; omega
        by_cases hl:pa.length=pb.length
        · rw [if_pos hl] at h₂
          cases hr:subD pb pa with
          | none=>rw [hr] at h₂; exact h₂.elim
          | some r =>
            rw [hr] at h₂
            refine go r (fun A' hA Q' E' hQ=>keq_eq (r:=r) (notMod o₂.1 hi) hm2 dda ddb (by have:=hu₀; omega) (fun _=>hits_of o₂.1.frz q2 (hu A' hA) q1 hr) ?_) (EP.val h₂ o₂ (.bool _))
            rw [q1.len,q2.len,hl,beq_self_eq_true,Bool.true_and]; exact hQ
        · rw [if_neg hl] at h₂
          refine go false (fun A' hA Q' E' hQ=>keq_eq (r:=false) (notMod o₂.1 hi) hm2 dda ddb (by have:=hu₀; omega) (fun q=>absurd (by rw [← q1.len,← q2.len]; exact q) hl) ?_) (EP.val h₂ o₂ (.bool _))
          rw [Bool.and_false]; exact hQ
      · exact h₂.elim
    · exact h₂.elim
  · exact h₂.elim
theorem SB_cmpLD {a b:PySem.Expr} {ma mb:ME} {pos} (h1:SE prog w hb T N sc a ma) (h2:SE prog w hb T N sc b mb) (hs:notSet b=true):SB prog w hb T N sc (.Compare a [.NotEq] [b] pos) (.cmpLD ma mb):=fun A env Pv vars B ρ σ s cx o Q E h=>by
  unfold evalM truthR at h
  rw [bindR_assoc] at h
  refine wpAny_isTrue_Compare1 (h1 A env Pv vars B ρ σ s cx o _ _ (EP.bind h fun x σ₁ v B₁ ρ₁ s₁ _ e₁ o₁ t₁ d₁ h₁=>?_)) (marks_of hs)
  rw [bindR_assoc] at h₁
  refine h2 A env Pv vars B₁ ρ₁ σ₁ s₁ cx o₁ _ _ (EP.bind h₁ fun y σ₂ u B₂ ρ₂ s₂ _ e₂ o₂ t₂ d₂ h₂=>?_)
  refine cmpLD_says o₂ (d₁.ext e₂) d₂ cx.u _ _ (EP.bind h₂ fun z σ₃ c B₃ ρ₃ s₃ _ e₃ o₃ t₃ d₃ h₃=>?_)
  obtain ⟨c',rfl,hz⟩:=onB_cases (p:=fun r=>EP _ _ _ _ _ _ _ r _ _) h₃ id
  exact truthy_den d₃ (EP.val hz o₃ rfl)
theorem SE_neg {i:Int} {k p pos}:SE prog w hb T N sc (.UnaryOp .USub (.Constant (.int i) k p) pos) (.const (.int (-i))):=fun A env Pv vars B ρ σ s cx o Q E h=>by
  unfold evalM at h
  refine UnaryOp_ (wpAny_Constant_int ?_)
  refine PyProof.Rows.neg_int ?_
  exact EP.val' h .refl (s':={ s with toks:=s.toks + 1 + 1 }) o ⟨rfl,rfl⟩ (.int _ _)
end
end Mine
namespace Mine
open PySem PySem.Calls PySem.W PyProof.Rows PySem.SeqAt PySem.Spec
def nmS (c:Nat):Str:=(nm c).getD Str.empty
abbrev leS (a b:Str):Prop:=ltCps b.cps.toList a.cps.toList=false
theorem leS_trans {a b c:Str} (h1:leS a b) (h2:leS b c):leS a c:=by
  unfold leS at *
  rw [PyProof.Rows.ltCps_eq,decide_eq_false_iff_not] at *
  exact List.not_lt.mpr (List.le_trans (List.not_lt.mp h1) (List.not_lt.mp h2))
theorem leS_anti {a b:Str} (h1:leS a b) (h2:leS b a):a=b:=by
  unfold leS at *
  rw [PyProof.Rows.ltCps_eq,decide_eq_false_iff_not] at *
  have:=List.le_antisymm (List.not_lt.mp h1) (List.not_lt.mp h2)
  obtain ⟨⟨x⟩⟩:=a
  obtain ⟨⟨y⟩⟩:=b
  simp only at this
  rw [this]
theorem sorted_pair:∀ {l:List Str},sortedS l=true→l.Pairwise leS
  | [],_ => .nil
  | [x],_=>by simp
  | x::y::r,h=>by
    have h':(!ltCps y.cps.toList x.cps.toList && risingS y r)=true:=h
    rw [Bool.and_eq_true,Bool.not_eq_true'] at h'
    have hr:(y::r).Pairwise leS:=sorted_pair (l:=y::r) h'.2
    refine List.pairwise_cons.mpr ⟨fun z hz=>?_,hr⟩
    rcases List.mem_cons.mp hz with rfl | hz
    · exact h'.1
    · exact leS_trans h'.1 ((List.pairwise_cons.mp hr).1 z hz)
theorem sorted_uniq {l l':List Str} (hp:l.Perm l') (h:sortedS l=true) (h':sortedS l' = true):l=l' :=
  List.Perm.eq_of_pairwise (fun _ _ _ _ a b=>leS_anti a b) (sorted_pair h) (sorted_pair h') hp
section
variable {prog:Program} {w:World} {A:Around} {E:Value→Shared→Prop} {s:Shared}
theorem sorted_of {r:Addr} {Q:Value→Shared→Prop}
    (hc:wpAny (model prog w) A.in1 (collect (.ref r)) (fun vs s₁=>∃ ss tgt,StrsAre vs ss∧vs.length < 64∧ss.Perm tgt∧sortedS tgt=true ∧
      ∀ out k h',(∀ b o,s₁.heap.get? b=some o→h'.get? b=some o)→h'.get? s₁.heap.objs.size=some (lstO out k)→StrsAre out tgt→Q (.ref s₁.heap.objs.size) { s₁ with heap:=h' }) E s):wpAny (model prog w) A (call (.builtin "sorted") [.ref r]) Q E s:=by
  refine Calls.call_function_entry kind_sorted plain_sorted entry_sorted (args_sorted1 _) ?_
  unfold Builtin.«sorted»
  refine wpAny_bind (m:=checkCount "sorted" 1 1 _) (wpAny_pure ?_)
  refine wpAny_bind (wpAny_mono hc (fun vs s₁ h=>?_) fun _ _ e=>e)
  obtain ⟨ss,tgt,hS,h64,hp,ht,k⟩:=h
  refine wpAny_bind (wpAny_newList ?_ (by rw [sizeLine_eq]; exact Nat.le_trans (Nat.le_of_lt h64) (by decide)))
  have hoL:(s₁.heap.push (seqObj "list" vs.toArray 0)).get? s₁.heap.objs.size=some (seqObj "list" vs.toArray 0):=Heap.get?_push_size _ rfl
  show wpAny _ _ _ _ _ { s₁ with heap:=s₁.heap.push (seqObj "list" vs.toArray 0) }
  refine wpAny_bind (wpAny_holding (wpAny_call_entry slot_list_sort ⟨_,hoL,rfl⟩ entry_list_sort (list_sort_treeK strKind_oneLt hoL hS.keysOf (fun v₁ v₂ rest e=>keyKind_strs (by rw [← e]; exact hS)) h64 fun st' a1 a2=>⟨_,rfl,?_⟩) (args_list_sort _)))
  obtain ⟨ss',h1,h2,h3⟩:=sorted_out_str hS a1 a2
  have e:=sorted_uniq (h2.trans hp) h3 ht
  subst e
  obtain ⟨ep,he⟩:=sortedHeap_at (out:=(arrOf st').map (·.2)) hoL
  refine wpAny_pure ⟨_,rfl,k ((arrOf st').map (·.2)).toList ep _ (fun b o hb=>?_) he h1⟩
  have hlt:=Heap.lt_size hb
  rw [sortedHeap_old (Nat.ne_of_lt hlt) (by rw [Heap.size_push]; exact Nat.lt_succ_of_lt hlt)]
  exact Heap.get?_push_of_some _ hb
end
section
variable {prog:Program} {w:World} {hb:Heap} {T:Tab} {N:Nat} {sc:Scope} {K:Frag} {mg mb:Str→Option Value}
theorem strs_den {P:Params} {B:Frz} {ρ:Nat→Addr} {n:Nat}:∀ {cs:List Nat} {vs:List Value},(cs.all fun c=>(nm c).isSome)=true→StrsAre vs (cs.map nmS)→DenAll P B ρ n vs (cs.map .str)
  | [],_,_,.nil => .nil
  | c::cs,_,h,.cons _ t r=>by
    rw [List.all_cons,Bool.and_eq_true] at h
    obtain ⟨x,hx⟩:=Option.isSome_iff_exists.mp h.1
    exact .cons (.str t (by unfold nmS; rw [hx]; rfl)) (strs_den h.2 r)
theorem names_sorted:sortedS (nameList.map Str.ofString)=true:=by decide +kernel
theorem nmS_lt {a b:Nat} (h:a < b) (hb':b < nameList.length):leS (nmS a) (nmS b):=by
  have hp:=sorted_pair names_sorted
  rw [List.pairwise_iff_getElem] at hp
  have ha:a < (nameList.map Str.ofString).length:=by rw [List.length_map]; omega
  have hb2:b < (nameList.map Str.ofString).length:=by rw [List.length_map]; omega
  have:=hp a b ha hb2 h
  unfold nmS
  rw [nm_get,nm_get,List.getElem?_eq_getElem ha,List.getElem?_eq_getElem hb2]
  exact this
theorem SE_sorted2 {e:PySem.Expr} {me:ME} {x:Str} {np pos} (G:Gd w hb K mg mb) (n:BN K sc x (.builtin "sorted")) (h1:SE prog w hb T N sc e me) (hs:isStarred e=false):SE prog w hb T N sc (.Call (.Name x np) [e] [] pos) (.sorted2 me) :=
  fun A env Pv vars B ρ σ s cx o Q E h=>by
  unfold evalM at h
  refine call_b1 G cx o n (.inl ⟨_,rfl⟩) hs (h1 A env Pv vars B ρ σ s cx o _ _ (EP.bind h fun a σ₁ v B₁ ρ₁ s₁ _ e₁ o₁ t₁ d₁ h₁=>?_))
  split at h₁
  · rename_i a b _
    split at h₁
    case isFalse=>exact h₁.elim
    cases d₁; rename_i ad vs k hB D
    cases D; rename_i v1 vs d1 D
    cases D; rename_i v2 vs d2 D
    cases D
    cases d1; rename_i x1 t1 hx1
    cases d2; rename_i x2 t2 hx2
    have s1:nmS a=x1:=by unfold nmS; rw [hx1]; rfl
    have s2:nmS b=x2:=by unfold nmS; rw [hx2]; rfl
    refine sorted_of (wpAny_collect_seq ad (.inr rfl) (o₁.1.frz _ _ hB) rfl rfl (fun h' hk=>?_) (by rw [sizeLine_eq]; exact (by decide:(2:Nat)≤16777216)))
    refine ⟨[x1,x2],(if b < a then [b,a] else [a,b]).map nmS,.cons _ _ (.cons _ _ .nil),(by decide:(2:Nat) < 64),?_,?_,fun out k' h2 hk2 hg hS=>?_⟩
    · split
      · show [x1,x2].Perm [nmS b,nmS a]
        rw [s1,s2]; exact .swap ..
      · show [x1,x2].Perm [nmS a,nmS b]
        rw [s1,s2]
    · have la:=nm_lt hx1
      have lb:=nm_lt hx2
      have go:∀ p q,leS (nmS p) (nmS q)→sortedS [nmS p,nmS q]=true:=fun p q hpq=>by
        show (!ltCps (nmS q).cps.toList (nmS p).cps.toList && true)=true
        rw [hpq]; rfl
      split
      · rename_i hlt; exact go b a (nmS_lt hlt la)
      · rename_i hlt
        by_cases e:a=b
        · subst e
          refine go a a ?_
          unfold leS
          rw [PyProof.Rows.ltCps_eq]; simp
        · exact go a b (nmS_lt (by omega) lb)
    · have o2:=(o₁.keep hk)
      have o3:=o2.addF (h':=h2) hk2 hg
      have e3:Ext B₁ ρ₁ σ₁.length (frzAt B₁ h'.objs.size (lstO out k')) ρ₁ σ₁.length:=ext_frzAt o2.1.newB
      refine EP.val' (s':={ s₁ with heap:=h2 }) h₁ e3 o3 ⟨rfl,rfl⟩ (.lst (frzAt_self _ _) ?_)
      have:(if b < a then [LV.str b,LV.str a] else [LV.str a,LV.str b])=(if b < a then [b,a] else [a,b]).map LV.str:=by split <;> rfl
      rw [this]
      refine strs_den ?_ hS
      split <;> simp [hx1,hx2]
  · exact h₁.elim
theorem kv_names {P:Params} {B:Frz} {ρ:Nat→Addr} {n:Nat}:∀ {kvs ps},KV P B ρ n kvs ps→kvs.map (·.1)=(ps.map (·.1)).map nmS
  | _,_,.nil=>rfl
  | _,_,.cons hc _ r=>by
    rw [List.map_cons,List.map_cons,List.map_cons,kv_names r]
    unfold nmS; rw [hc]; rfl
theorem SE_sortedW {y x:Str} {a kk:Nat} {es:List DictEntry} {ps:List (Nat × LV)} {ks:List Nat} {np yp pos:Pos} (G:Gd w hb K mg mb) (n:BN K sc x (.builtin "sorted")) (hy:sc.names.lookup y=some .globalImplicit) (hv:nsIn K mainGlobals y=some (some (.ref a))) (hd:(y == ("__debug__" : Str))=false)
    (ha:K.lookup a=some (dictOf es kk)) (hm:(a == sysModules)=false) (D:DenEs w.params (fun b=>K.lookup b) (fun _=>0) 0 es ps) (hn:(ps.map (·.1)).Nodup) (hp:(ps.map (·.1)).Perm ks) (hall:(ks.all fun c=>(nm c).isSome)=true) (hsrt:sortedS (ks.map nmS)=true) (h64:ps.length < 64) :
    SE prog w hb T N sc (.Call (.Name x np) [.Name y yp] [] pos) (.sortedW ks):=fun A env Pv vars B ρ σ s cx o Q E h=>by
  unfold evalM at h
  split at h
  case isFalse=>exact h.elim
  rename_i hrs
  refine call_b1 G cx o n (.inl ⟨_,rfl⟩) rfl (globName G cx o.1 hy hv hd ?_)
  have x0:Ext (fun b=>K.lookup b) (fun _=>0) 0 B ρ σ.length:=⟨fun a o' e=>o.1.base a o' (G.X a o' e),fun i hi=>absurd hi (Nat.not_lt_zero _),Nat.zero_le _⟩
  have D':=D.ext x0
  have hg:=o.1.frz _ _ (x0.frz _ _ ha)
  obtain ⟨kvs,p1,q1⟩:=KV.of (prog:=prog) D'
  have dd:=dictOf_den hg D' p1 q1 hn
  obtain ⟨ep,hat⟩:=dd.dictAt
  have hlen:kvs.length=ps.length:=q1.len
  refine sorted_of (kdu_collect (A:=A.in1) (kdl_dict (knd:=strKind prog w) (kvs:=kvs) (ep:=ep) hm) (cx.hnd hrs) hat (by rw [hlen,sizeLine_eq]; omega) fun h' tk acc hk hacc=>?_)
  have hS:StrsAre acc.toList (kvs.map (·.1)):=by
    have:∀ (l:List Value) (kv:List (Str × Value)),l.length=kv.length→(∀ (j:Nat) (v:Value),l[j]? = some v→∃ k x,kv[j]? = some (k,x)∧(strKind prog w).is k v=true)→StrsAre l (kv.map (·.1)):=by
      intro l
      induction l with
      | nil=>intro kv hl _; cases kv with
        | nil=>exact .nil
        | cons _ _=>cases hl
      | cons v l ih =>
        intro kv hl hj
        cases kv with
        | nil=>cases hl
        | cons e kv =>
          obtain ⟨k,u,h1,h2⟩:=hj 0 v rfl
          simp at h1
          subst h1
          obtain ⟨t,rfl⟩:∃ t,v = .str k t:=by
            have h3:v.isStr k=true:=by
              have q:=isStr_of k v
              exact (show v.isStr k=(PySem.strKind prog w).is k v from by first | exact q | exact q.symm | rfl).trans h2
            cases v <;> first
              | (rename_i z t; exact ⟨t,by rw [show z=k from beq_iff_eq.mp h3]⟩)
              | cases h3
          exact .cons _ _ (ih kv (Nat.succ.inj hl) fun j v' hv' => by simpa using hj (j + 1) v' (by simpa using hv'))
    exact this acc.toList kvs (by rw [Array.length_toList]; exact hacc.1) fun j v hv=>hacc.2 j v (by rw [← Array.getElem?_toList]; exact hv)
  refine ⟨kvs.map (·.1),ks.map nmS,hS,by rw [Array.length_toList,hacc.1,hlen]; exact h64,?_,hsrt,fun out k' h2 hk2 hg2 hS2=>?_⟩
  · have:kvs.map (·.1)=(ps.map (·.1)).map nmS:=kv_names q1
    rw [this]; exact hp.map nmS
  · have o2:=(o.keep hk)
    have o3:=o2.addF (h':=h2) hk2 hg2
    have e3:Ext B ρ σ.length (frzAt B h'.objs.size (lstO out k')) ρ σ.length:=ext_frzAt o2.1.newB
    exact EP.val' (s':={ s with heap:=h2,toks:=tk }) h e3 o3 ⟨rfl,rfl⟩ (.lst (frzAt_self _ _) (strs_den hall hS2))
end
end Mine
namespace Mine
open PySem PySem.Calls PySem.W PyProof.Rows PySem.SeqAt
section
variable {prog:Program} {w:World} {A:Around} {E:Value→Shared→Prop} {s:Shared}
theorem nextOf_tuple_item {it t:Addr} {i:Nat} {items:Array Value} {x:Value} {Q:Value→Shared→Prop} (hit:s.heap.IsTupleIter it t i) (ht:s.heap.IsTuple t items) (hx:items[i]? = some x)
    (hQ:∀ h',h'.IsTupleIter it t (i + 1)→Heap.SameBut it s.heap h' → Q x { s with heap:=h' }):wpAny (model prog w) A (Builtin.SmallTypes.nextOf (.ref it)) Q E s:=by
  obtain ⟨o,ho,hc,hd⟩:=id hit
  obtain ⟨ol,hol,_,nl,hdl⟩:=ht
  unfold Builtin.SmallTypes.nextOf
  refine wpAny_bind (wpAny_callSpecial?_slot (name:=Str.ofString "__next__") hit.typeIs PySem.F.slot_tuple_iterator_next
    (wpAny_call_entry PySem.F.slot_tuple_iterator_next hit.typeIs PySem.F.entry_tuple_iterator_next ?_ (PySem.F.args_tuple_iterator_next_1 _)))
  show wpAny _ _ (field (.ref it) 0 >>= _) _ _ s
  refine wpAny_bind (wpAny_field ho hd (x:=.ref t) rfl ?_)
  show wpAny _ _ (if (Value.ref t == Value.none)=true then _ else _) _ _ s
  rw [if_neg (show ¬ ((Value.ref t == Value.none)=true) from Bool.false_ne_true)]
  show wpAny _ _ (field (.ref it) 1 >>= _) _ _ s
  refine wpAny_bind (wpAny_field ho hd (x:=.int i 0) rfl ?_)
  show wpAny _ _ (seqItems? (.ref t) >>= _) _ _ s
  refine wpAny_bind (wpAny_seqItems hol hdl ?_)
  simp only [Int.toNat_natCast,hx]
  refine wpAny_bind (wpAny_setField ho hd (by simp) (wpAny_pure ⟨x,rfl,wpAny_pure (hQ _ ?_ (Heap.SameBut.update ..))⟩))
  exact ⟨_,Heap.get?_update_self _ ho (Obj.isFreed_of_fields (Obj.data_mapFields hd _)),(Obj.cls_mapFields ..).trans hc,by
    rw [Obj.data_mapFields hd]; simp [rawInt]⟩
structure Zp (h:Heap) (z TI TO i1 i2 l1 l2:Addr) (k:Nat) (xs ys:Array Value):Prop where
  D:ZipApart z TI TO i1 i2 l1 l2
  z:IsZip h z TI TO .none
  TI:IsPair h TI (.ref i1) (.ref i2)
  TO:∃ a b,IsPair h TO a b
  i1:h.IsListIter i1 l1 k
  i2:h.IsTupleIter i2 l2 k
  l1:h.IsList l1 xs
  l2:h.IsTuple l2 ys
theorem zp_item {z TI TO i1 i2 l1 l2:Addr} {k:Nat} {xs ys:Array Value} {x y:Value} {Q:Option Value→Shared→Prop} (Z:Zp s.heap z TI TO i1 i2 l1 l2 k xs ys) (hx:xs[k]? = some x) (hy:ys[k]? = some y)
    (hQ:∀ h',IsZip h' z TI TO (rawInt s.heap.objs.size)→IsPair h' TO x y→h'.IsListIter i1 l1 (k + 1)→h'.IsTupleIter i2 l2 (k + 1)→IsPair h' s.heap.objs.size x y →
      (∀ c o,c≠z→c≠TO→c≠i1→c≠i2→s.heap.get? c=some o→h'.get? c=some o)→Q (some (.ref s.heap.objs.size)) { s with heap:=h' }) :
    wpAny (model prog w) A (pyNext (.ref z)) Q E s:=by
  obtain ⟨D,hz,hTI,⟨a,b,hTO⟩,h1,h2,hl1,hl2⟩:=Z
  have hT:s.TypeIs (.ref z) "zip" := ⟨_,hz,rfl⟩
  unfold pyNext
  refine wpAny_bind (wpAny_attempt (wpAny_callSpecial?_slot (name:=Str.ofString "__next__") hT PySem.F.slot_zip_next
    (wpAny_call_entry PySem.F.slot_zip_next hT PySem.F.entry_zip_next ?_ (PySem.F.args_zip_next_1 _))))
  show wpAny _ _ (field (.ref z) 2 >>= _) _ _ _
  refine wpAny_bind (wpAny_field hz rfl (x:=.bool false) rfl ?_)
  show wpAny _ _ (field (.ref z) 3 >>= _) _ _ _
  refine wpAny_bind (wpAny_field hz rfl (x:=.ref TI) rfl ?_)
  refine wpAny_bind (wpAny_seqItems hTI rfl ?_)
  show wpAny _ _ (Builtin.SmallTypes.ownedTupleIsFree (.ref z) >>= _) _ _ _
  refine wpAny_bind ?_
  unfold Builtin.SmallTypes.ownedTupleIsFree
  refine wpAny_bind (wpAny_field hz rfl (x:=.none) rfl (wpAny_pure ?_))
  simp only [if_true]
  refine wpAny_bind (wpAny_rule ?_)
  refine wpAny_bind (wpAny_field hz rfl (x:=.ref TO) rfl ?_)
  refine wpAny_bind (wpAny_setField_rec hz (by simp) fun h₁ hz₁ hs₁=>?_)
  replace hz₁:IsZip h₁ z TI TO .ellipsis:=hz₁
  refine wpAny_bind ?_
  simp only [List.zipIdx_cons,List.zipIdx_nil,List.forIn_cons,List.forIn_nil]
  refine wpAny_bind (wpAny_bind (wpAny_onRaise ?_))
  show wpAny _ _ (Builtin.SmallTypes.nextOf (.ref i1) >>= _) _ _ _
  refine wpAny_bind (wpAny_nextOf_list_item (h1.extBut hs₁.extBut D.i1z) (hl1.extBut hs₁.extBut D.l1z) hx fun h₂ h1₂ hs₂=>wpAny_pure ?_)
  have hTO₂:IsPair h₂ TO a b:=hs₂.extBut _ _ D.TOi1 (hs₁.extBut _ _ D.TOz hTO)
  refine wpAny_bind (wpAny_seqItems hTO₂ rfl ?_)
  refine wpAny_bind (wpAny_updateSeq_pair hTO₂ fun h₃ hTO₃ hs₃=>?_)
  replace hTO₃:IsPair h₃ TO x b:=hTO₃
  refine wpAny_bind (wpAny_letGo (wpAny_pure ?_))
  refine wpAny_bind (wpAny_bind (wpAny_onRaise ?_))
  show wpAny _ _ (Builtin.SmallTypes.nextOf (.ref i2) >>= _) _ _ _
  refine wpAny_bind (nextOf_tuple_item (((h2.extBut hs₁.extBut D.i2z).extBut hs₂.extBut D.i12.symm).extBut hs₃.extBut D.TOi2.symm)
    (((hl2.extBut hs₁.extBut D.l2z).extBut hs₂.extBut D.l2i1).extBut hs₃.extBut D.l2TO) hy fun h₄ h2₄ hs₄=>wpAny_pure ?_)
  have hTO₄:IsPair h₄ TO x b:=hs₄.extBut _ _ D.TOi2 hTO₃
  refine wpAny_bind (wpAny_seqItems hTO₄ rfl ?_)
  refine wpAny_bind (wpAny_updateSeq_pair hTO₄ fun h₅ hTO₅ hs₅=>?_)
  replace hTO₅:IsPair h₅ TO x y:=hTO₅
  refine wpAny_bind (wpAny_letGo (wpAny_pure (wpAny_pure ?_)))
  refine wpAny_bind (wpAny_seqItems hTO₅ rfl ?_)
  refine wpAny_bind (wpAny_newTuple ?_)
  have hsz:h₅.objs.size=s.heap.objs.size:=by rw [hs₅.1,hs₄.1,hs₃.1,hs₂.1,hs₁.1]
  have hz₅:IsZip h₅ z TI TO .ellipsis:=hs₅.extBut _ _ D.TOz.symm (hs₄.extBut _ _ D.i2z.symm (hs₃.extBut _ _ D.TOz.symm (hs₂.extBut _ _ D.i1z.symm hz₁)))
  have hk₅:∀ c o,c≠z→c≠TO→c≠i1→c≠i2→s.heap.get? c=some o→h₅.get? c=some o:=fun c o c1 c2 c3 c4 e =>
    hs₅.extBut _ _ c2 (hs₄.extBut _ _ c4 (hs₃.extBut _ _ c2 (hs₂.extBut _ _ c3 (hs₁.extBut _ _ c1 e))))
  have h1₅:h₅.IsListIter i1 l1 (k + 1):=((h1₂.extBut hs₃.extBut D.TOi1.symm).extBut hs₄.extBut D.i12).extBut hs₅.extBut D.TOi1.symm
  have h2₅:h₅.IsTupleIter i2 l2 (k + 1):=h2₄.extBut hs₅.extBut D.TOi2.symm
  have hzlt:z < h₅.objs.size:=Heap.lt_size hz₅
  have hTOlt:TO < h₅.objs.size:=Heap.lt_size hTO₅
  have hi1lt:i1 < h₅.objs.size:=by obtain ⟨_,e,_⟩:=h1₅; exact Heap.lt_size e
  have hi2lt:i2 < h₅.objs.size:=by obtain ⟨_,e,_⟩:=h2₅; exact Heap.lt_size e
  show wpAny _ _ (Builtin.SmallTypes.ownedTupleHandOut (.ref z) (.ref h₅.objs.size) >>= _) _ _ _
  refine wpAny_bind ?_
  unfold Builtin.SmallTypes.ownedTupleHandOut
  have hz₆:IsZip (h₅.push { cls:=.type "tuple",data:=.seq #[x,y] }) z TI TO .ellipsis:=Heap.get?_push_of_some _ hz₅
  refine wpAny_bind (wpAny_setField_rec hz₆ (by simp) fun h₇ hz₇ hs₇=>?_)
  replace hz₇:IsZip h₇ z TI TO (rawInt h₅.objs.size):=hz₇
  refine wpAny_setField_rec hz₇ (by simp) fun h₈ hz₈ hs₈=>?_
  replace hz₈:IsZip h₈ z TI TO (rawInt h₅.objs.size):=hz₈
  have up:∀ c o,c≠z→h₅.get? c=some o→h₈.get? c=some o:=fun c o c1 e=>hs₈.extBut _ _ c1 (hs₇.extBut _ _ c1 (Heap.get?_push_of_some _ e))
  have hT₈:IsPair h₈ h₅.objs.size x y:=hs₈.extBut _ _ (Nat.ne_of_gt hzlt) (hs₇.extBut _ _ (Nat.ne_of_gt hzlt) (Heap.get?_push_size _ rfl))
  rw [hsz] at hz₈ hT₈
  refine wpAny_pure ⟨.ref h₅.objs.size,rfl,wpAny_pure ?_⟩
  show Q (some (.ref h₅.objs.size)) _
  rw [hsz]
  exact hQ h₈ hz₈ (up _ _ D.TOz hTO₅) (h1₅.at fun o e=>up _ o D.i1z e) (h2₅.at fun o e=>up _ o D.i2z e) hT₈ fun c o c1 c2 c3 c4 e=>up c o c1 (hk₅ c o c1 c2 c3 c4 e)
theorem zp_end {z TI TO i1 i2 l1 l2:Addr} {k:Nat} {xs ys:Array Value} {Q:Option Value→Shared→Prop} (hh:A.handled=none) (Z:Zp s.heap z TI TO i1 i2 l1 l2 k xs ys) (hx:xs[k]? = none)
    (hQ:∀ h',(∀ c o,c≠z→c≠TO→c≠i1→c≠i2→s.heap.get? c=some o→h'.get? c=some o)→Q none { s with heap:=h' }):wpAny (model prog w) A (pyNext (.ref z)) Q E s:=by
  obtain ⟨D,hz,hTI,⟨a,b,hTO⟩,h1,h2,hl1,hl2⟩:=Z
  have hT:s.TypeIs (.ref z) "zip" := ⟨_,hz,rfl⟩
  unfold pyNext
  refine wpAny_bind (wpAny_attempt (wpAny_callSpecial?_slot (name:=Str.ofString "__next__") hT PySem.F.slot_zip_next
    (wpAny_call_entry PySem.F.slot_zip_next hT PySem.F.entry_zip_next ?_ (PySem.F.args_zip_next_1 _))))
  show wpAny _ _ (field (.ref z) 2 >>= _) _ _ _
  refine wpAny_bind (wpAny_field hz rfl (x:=.bool false) rfl ?_)
  show wpAny _ _ (field (.ref z) 3 >>= _) _ _ _
  refine wpAny_bind (wpAny_field hz rfl (x:=.ref TI) rfl ?_)
  refine wpAny_bind (wpAny_seqItems hTI rfl ?_)
  show wpAny _ _ (Builtin.SmallTypes.ownedTupleIsFree (.ref z) >>= _) _ _ _
  refine wpAny_bind ?_
  unfold Builtin.SmallTypes.ownedTupleIsFree
  refine wpAny_bind (wpAny_field hz rfl (x:=.none) rfl (wpAny_pure ?_))
  simp only [if_true]
  refine wpAny_bind (wpAny_rule ?_)
  refine wpAny_bind (wpAny_field hz rfl (x:=.ref TO) rfl ?_)
  refine wpAny_bind (wpAny_setField_rec hz (by simp) fun h₁ hz₁ hs₁=>?_)
  replace hz₁:IsZip h₁ z TI TO .ellipsis:=hz₁
  refine wpAny_bind ?_
  simp only [List.zipIdx_cons,List.zipIdx_nil,List.forIn_cons,List.forIn_nil]
  refine wpAny_bind (wpAny_bind (wpAny_onRaise ?_))
  show wpAny _ _ (Builtin.SmallTypes.nextOf (.ref i1) >>= _) _ _ _
  refine wpAny_bind (wpAny_nextOf_list_end hh (h1.extBut hs₁.extBut D.i1z) (hl1.extBut hs₁.extBut D.l1z) hx fun h₂ e hs₂ he=>?_)
  obtain ⟨oe,hoe,hce⟩:=he
  have hz₂:IsZip h₂ z TI TO .ellipsis:=hs₂ _ _ D.i1z.symm hz₁
  have hez:e≠z:=fun x=>by subst x; rw [hz₂] at hoe; cases hoe; simp at hce
  refine wpAny_setField_rec hz₂ (by simp) fun h₃ _ hs₃=>?_
  have hE:∃ o,h₃.get? e=some o∧o.cls = .type "StopIteration" := ⟨oe,hs₃.extBut _ _ hez hoe,hce⟩
  obtain ⟨o,ho,hc⟩:=hE
  refine wpAny_bind (wpAny_isInstance (T := "StopIteration") (b:=true) ⟨o,ho,hc⟩ isSubtype_stop ?_)
  exact wpAny_pure (hQ h₃ fun c o c1 _ c3 _ x=>hs₃.extBut _ _ c1 (hs₂ _ _ c3 (hs₁.extBut _ _ c1 x)))
abbrev zq1 (h:Heap) (l1:Addr):Heap:=h.push { cls:=.type "list_iterator",data:=.fields #[.ref l1,.int 0 0] }
abbrev zq2 (h:Heap) (l1 l2:Addr):Heap:=(zq1 h l1).push { cls:=.type "tuple_iterator",data:=.fields #[.ref l2,.int 0 0] }
abbrev zq3 (h:Heap) (l1 l2:Addr):Heap:=(zq2 h l1 l2).push { cls:=.type "tuple",data:=.seq #[.ref h.objs.size,.ref (zq1 h l1).objs.size] }
abbrev zq4 (h:Heap) (l1 l2:Addr):Heap:=(zq3 h l1 l2).push { cls:=.type "tuple",data:=.seq #[.none,.none] }
abbrev zq5 (h:Heap) (l1 l2:Addr):Heap:=(zq4 h l1 l2).push { cls:=.type "zip",data:=.fields #[.none,.bool false,.bool false,.ref (zq2 h l1 l2).objs.size,.ref (zq3 h l1 l2).objs.size] }
theorem zp_new (l1 l2:Addr) (xs ys:Array Value) :
    Meets (Builtin.«zip.__new__» ⟨[.type "zip",.ref l1,.ref l2],[]⟩) (fun _ R s=>s.heap.IsList l1 xs∧s.heap.IsTuple l2 ys ∧
      R (.ok (.ret (.ref (zq4 s.heap l1 l2).objs.size))) { s with heap:=zq5 s.heap l1 l2 }) :=
  .of_wp fun prog w A R s h=>by
    obtain ⟨hp,g,d,tk,os⟩:=s; obtain ⟨hl1,hl2,h⟩:=h
    have hsub:=sub_zip
    have hL1:Heap.IsList (Shared.heap ⟨hp,g,d,tk,os⟩) l1 xs:=hl1
    have hL2:Heap.IsTuple (Shared.heap ⟨hp.push { cls:=.type "list_iterator",data:=.fields #[.ref l1,.int 0 0] },g,d,tk,os⟩) l2 ys:=Heap.IsTuple.push hl2 _
    wp_walk using wpAny_pyIter_list hL1,wpAny_pyIter_tuple hL2
    exact ⟨_,rfl,h⟩
theorem zapart (n l1 l2:Nat) (a:l1 < n) (b:l2 < n):ZipApart (n+4) (n+2) (n+3) n (n+1) l1 l2:=by
  constructor
  all_goals (intro h; have h:@Eq Nat _ _:=h; revert h; show ¬ ((_:Nat)=_); omega)
theorem call_zp {l1 l2:Addr} {xs ys:Array Value} {Q:Value→Shared→Prop} (hl1:s.heap.IsList l1 xs) (hl2:s.heap.IsTuple l2 ys)
    (h:∀ h',Zp h' (s.heap.objs.size + 4) (s.heap.objs.size + 2) (s.heap.objs.size + 3) s.heap.objs.size (s.heap.objs.size + 1) l1 l2 0 xs ys →
      (∀ c o,s.heap.get? c=some o→h'.get? c=some o)→Q (.ref (s.heap.objs.size + 4)) { s with heap:=h' }) :
    wpAny (model prog w) A (call (.type "zip") [.ref l1,.ref l2]) Q E s:=by
  refine callType_new PySem.F.called_zip (by decide) (PySem.F.typeCall_zip_2 _ _) (PySem.F.newCall_zip_2 _ _) (fun obj=>PySem.F.args_object_init_3 obj _ _) PySem.F.entry_zip_new
    (zp_new l1 l2 xs ys) ⟨hl1,hl2,?_⟩
  have z1:(zq1 s.heap l1).objs.size=s.heap.objs.size + 1:=Heap.size_push ..
  have z2:(zq2 s.heap l1 l2).objs.size=s.heap.objs.size + 2:=by rw [Heap.size_push,z1]
  have z3:(zq3 s.heap l1 l2).objs.size=s.heap.objs.size + 3:=by rw [Heap.size_push,z2]
  have z4:(zq4 s.heap l1 l2).objs.size=s.heap.objs.size + 4:=by rw [Heap.size_push,z3]
  have g5:(zq5 s.heap l1 l2).get? (zq4 s.heap l1 l2).objs.size=some _:=Heap.get?_push_size _ rfl
  have g4:(zq5 s.heap l1 l2).get? (zq3 s.heap l1 l2).objs.size=some _:=Heap.get?_push_of_some _ (Heap.get?_push_size _ rfl)
  have g3:(zq5 s.heap l1 l2).get? (zq2 s.heap l1 l2).objs.size=some _:=Heap.get?_push_of_some _ (Heap.get?_push_of_some _ (Heap.get?_push_size _ rfl))
  have g2:(zq5 s.heap l1 l2).get? (zq1 s.heap l1).objs.size=some _:=Heap.get?_push_of_some _ (Heap.get?_push_of_some _ (Heap.get?_push_of_some _ (Heap.get?_push_size _ rfl)))
  have g1:(zq5 s.heap l1 l2).get? s.heap.objs.size=some _:=Heap.get?_push_of_some _ (Heap.get?_push_of_some _ (Heap.get?_push_of_some _ (Heap.get?_push_of_some _ (Heap.get?_push_size _ rfl))))
  have up:∀ c o,s.heap.get? c=some o→(zq5 s.heap l1 l2).get? c=some o:=fun c o x =>
    Heap.get?_push_of_some _ (Heap.get?_push_of_some _ (Heap.get?_push_of_some _ (Heap.get?_push_of_some _ (Heap.get?_push_of_some _ x))))
  have a1:l1 < s.heap.objs.size:=by obtain ⟨_,e,_⟩:=hl1; exact Heap.lt_size e
  have a2:l2 < s.heap.objs.size:=by obtain ⟨_,e,_⟩:=hl2; exact Heap.lt_size e
  show _∧_
  rw [z2,z3,z4] at g5
  rw [z1,z2] at g3
  rw [z3] at g4
  rw [z1] at g2
  rw [z4]
  exact ⟨⟨_,g5,rfl⟩,h _ ⟨zapart _ _ _ a1 a2,g5,g3,⟨_,_,g4⟩,⟨_,g1,rfl,rfl⟩,⟨_,g2,rfl,rfl⟩,hl1.at fun o e=>up _ o e,hl2.at fun o e=>up _ o e⟩ up⟩
end
theorem OkE.turnS {P:Params} {hb h h':Heap} {B:Frz} {Pv:Prv} {ρ:Nat→Addr} {σ:Sto} {env:Env} {vars:Loc} {O:Ob} (x:OkE P hb env Pv vars B ρ σ h) (w:Owns B Pv ρ σ.length env O h) (k:∀ b o,O b=none→h.get? b=some o→h'.get? b=some o):OkE P hb env Pv vars B ρ σ h':=by
  obtain ⟨st,m,cm,y⟩:=x
  have no:∀ {a},(∀ o,O a=some o→False)→O a=none:=fun {a} q=>by
    cases e:O a with
    | none=>rfl
    | some o=>exact (q o e).elim
  refine ⟨⟨st.base,fun a o q=>k a o (no fun o' e=>by rw [(w.own a o' e).b] at q; cases q) (st.frz a o q),fun a o f q=>?_,fun i c q=>?_,st.inj,st.abv⟩,m,cm,?_,y.frL,fun z c q=>⟨?_,(y.cell z c q).2⟩,y.vals⟩
  · obtain ⟨a1,⟨sl,a2⟩,a3⟩:=st.prv a o f q
    have n1:O a=none:=no fun o' e=>by rw [(w.own a o' e).p] at q; cases q
    exact ⟨a1,⟨sl,k _ _ n1 a2⟩,fun z=>k _ _ n1 (a3 z)⟩
  · obtain ⟨a1,a2,a3⟩:=st.cell i c q
    exact ⟨a1,a2,a3.heap fun o z=>k _ _ (no fun o' e=>(w.own _ o' e).r i (List.getElem?_eq_some_iff.mp q).1 rfl) z⟩
  · obtain ⟨o,es,ep,ho,r⟩:=y.ns
    exact ⟨o,es,ep,k _ _ (no fun o' e=>(w.own _ o' e).l rfl) ho,r⟩
  · obtain ⟨o,ho,hd⟩:=(y.cell z c q).1
    exact ⟨o,k _ _ (no fun o' e=>(w.own _ o' e).c z c q rfl) ho,hd⟩
section
variable {prog:Program} {w:World} {hb:Heap} {A:Around}
def zpO (h:Heap) (z TI TO i1 i2:Addr):Ob:=fun b=>if b=z∨b=TI∨b=TO∨b=i1∨b=i2 then h.get? b else none
theorem zpO_none {h:Heap} {z TI TO i1 i2 b:Addr} (e:zpO h z TI TO i1 i2 b=none) {o:Obj} (g:h.get? b=some o):b≠z∧b≠TI∧b≠TO∧b≠i1∧b≠i2:=by
  unfold zpO at e
  split at e
  · rw [g] at e; cases e
  · rename_i q
    simp only [not_or] at q
    exact q
def ZIt (P:Params) (z:Addr) (x y:LV):ItP:=fun k O B ρ n=>∃ h TI TO i1 i2 l1 l2 vx vy m1 m2,O=zpO h z TI TO i1 i2∧Zp h z TI TO i1 i2 l1 l2 k #[vx] #[vy]∧B l1=some (lstO [vx] m1)∧B l2=some (tupO [vy] m2)∧Den P B ρ n vx x∧Den P B ρ n vy y
theorem zp_move {h h':Heap} {B:Frz} {z TI TO i1 i2 l1 l2:Addr} {k:Nat} {vx vy:Value} {m1 m2:Nat} (Z:Zp h z TI TO i1 i2 l1 l2 k #[vx] #[vy]) (k1:∀ d o,zpO h z TI TO i1 i2 d=some o→h'.get? d=some o) (f1:h'.get? l1=some (lstO [vx] m1)) (f2:h'.get? l2=some (tupO [vy] m2)):Zp h' z TI TO i1 i2 l1 l2 k #[vx] #[vy]:=by
  have at_:∀ {d o},(d=z∨d=TI∨d=TO∨d=i1∨d=i2)→h.get? d=some o→h'.get? d=some o:=fun {d o} q e=>k1 d o (by unfold zpO; rw [if_pos q]; exact e)
  obtain ⟨a,b,hTO⟩:=Z.TO
  exact ⟨Z.D,at_ (.inl rfl) Z.z,at_ (.inr (.inl rfl)) Z.TI,⟨a,b,at_ (.inr (.inr (.inl rfl))) hTO⟩,Z.i1.at fun o e=>at_ (.inr (.inr (.inr (.inl rfl)))) e,Z.i2.at fun o e=>at_ (.inr (.inr (.inr (.inr rfl)))) e,⟨_,f1,rfl,_,rfl⟩,⟨_,f2,rfl,_,rfl⟩⟩
theorem walker_zip {elts:List PySem.Expr} {kk:Nat} {tp:Pos} {z:Addr} {x y:LV} (hh:A.handled=none):Walker prog w hb A (.Tuple elts kk tp) (.zip x y) z (ZIt w.params z x y) where
  ext:=fun ⟨h,TI,TO,i1,i2,l1,l2,vx,vy,m1,m2,a,b,c,d,e,f⟩ x=>⟨h,TI,TO,i1,i2,l1,l2,vx,vy,m1,m2,a,b,x.frz _ _ c,x.frz _ _ d,e.ext x,f.ext x⟩
  step:=fun {k O s env Pv vars B ρ σ xx Q E} o w' it hx h=>by
    obtain ⟨h₀,TI,TO,i1,i2,l1,l2,vx,vy,m1,m2,rfl,Z0,b1,b2,dx,dy⟩:=it
    have Z:=zp_move (B:=B) Z0 w'.held (o.1.frz _ _ b1) (o.1.frz _ _ b2)
    have hk:k=0:=by
      unfold itemAt at hx
      dsimp only at hx
      by_cases q:k=0
      · exact q
      · rw [if_neg q] at hx; cases hx
    subst hk
    have hx:xx = .tup [x,y]:=by
      unfold itemAt at hx; cases hx; rfl
    subst hx
    refine zp_item Z rfl rfl fun h' a1 a2 a3 a4 a5 a6=>⟨_,rfl,?_⟩
    refine wpAny_letOwnedTupleGo_zip (s:={ s with heap:=h' }) a1 fun h2 hz2 hs2=>?_
    have D:=Z.D
    have own:∀ {d},(d=z∨d=TI∨d=TO∨d=i1∨d=i2)→Own B Pv ρ σ.length env d:=fun {d} q=>by
      have:∃ ob,zpO h₀ z TI TO i1 i2 d=some ob:=by
        unfold zpO; rw [if_pos q]
        obtain ⟨oa,ga,_⟩:=Z0.i1
        obtain ⟨ob,gb,_⟩:=Z0.i2
        obtain ⟨_,_,gc⟩:=Z0.TO
        rcases q with rfl | rfl | rfl | rfl | rfl
        · exact ⟨_,Z0.z⟩
        · exact ⟨_,Z0.TI⟩
        · exact ⟨_,gc⟩
        · exact ⟨_,ga⟩
        · exact ⟨_,gb⟩
      obtain ⟨ob,hob⟩:=this
      exact w'.own d ob hob
    have keep:∀ b ob,zpO s.heap z TI TO i1 i2 b=none→s.heap.get? b=some ob→h2.get? b=some ob:=fun b ob e g=>by
      have hne:=zpO_none e g
      exact (hs2.2 b hne.1).trans (a6 b ob hne.1 hne.2.2.1 hne.2.2.2.1 hne.2.2.2.2 g)
    have wS:Owns B Pv ρ σ.length env (zpO s.heap z TI TO i1 i2) s.heap:=⟨fun d ob q=>own (by
      unfold zpO at q; split at q
      · assumption
      · cases q),fun d ob q=>by
      unfold zpO at q; split at q
      · exact q
      · cases q⟩
    have o2:=o.turnS wS keep
    -- the pair handed out
    have newT:=o.fresh
    have wT:Own B Pv ρ σ.length env s.heap.objs.size:=newT
    have gT:h2.get? s.heap.objs.size=some (tupO [vx,vy] 0):=(hs2.2 _ (fun e=>by
      have:=Heap.lt_size Z.z; rw [← e] at this; exact Nat.lt_irrefl _ this)).trans a5
    obtain ⟨o3,e3⟩:=o2.ownF wT gT
    have Z2:Zp h2 z TI TO i1 i2 l1 l2 1 #[vx] #[vy]:=⟨D,hz2,hs2.extBut _ _ D.TIz (a6 _ _ D.TIz D.TITO D.TIi1 D.TIi2 Z.TI),⟨_,_,hs2.extBut _ _ D.TOz a2⟩,a3.extBut hs2.extBut D.i1z,a4.extBut hs2.extBut D.i2z,⟨_,o3.1.frz _ _ (e3.frz _ _ b1),rfl,_,rfl⟩,⟨_,o3.1.frz _ _ (e3.frz _ _ b2),rfl,_,rfl⟩⟩
    refine h (.ref s.heap.objs.size) _ { s with heap:=h2 } (zpO h2 z TI TO i1 i2) e3 o3 ⟨rfl,rfl⟩ ⟨fun d ob q=>?_,fun d ob q=>?_⟩ ⟨h2,TI,TO,i1,i2,l1,l2,vx,vy,m1,m2,rfl,Z2,e3.frz _ _ b1,e3.frz _ _ b2,dx.ext e3,dy.ext e3⟩ (.tup (frzAt_self _ _) (.cons (dx.ext e3) (.cons (dy.ext e3) .nil)))
    · have hd:d=z∨d=TI∨d=TO∨d=i1∨d=i2:=by
        unfold zpO at q; split at q
        · assumption
        · cases q
      have w0:=own hd
      refine { w0 with b:=?_ }
      unfold frzAt
      rw [if_neg fun e=>?_]
      · exact w0.b
      · have:∃ ob,s.heap.get? d=some ob:=by
          obtain ⟨oa,ga,_⟩:=Z.i1
          obtain ⟨ob,gb,_⟩:=Z.i2
          obtain ⟨_,_,gc⟩:=Z.TO
          rcases hd with rfl | rfl | rfl | rfl | rfl
          · exact ⟨_,Z.z⟩
          · exact ⟨_,Z.TI⟩
          · exact ⟨_,gc⟩
          · exact ⟨_,ga⟩
          · exact ⟨_,gb⟩
        obtain ⟨ob,g⟩:=this
        have:=Heap.lt_size g
        rw [e] at this; exact Nat.lt_irrefl _ this
    · unfold zpO at q; split at q
      · exact q
      · cases q
  stop:=fun {k O s env Pv vars B ρ σ Q E} o w' it hx h=>by
    obtain ⟨h₀,TI,TO,i1,i2,l1,l2,vx,vy,m1,m2,rfl,Z0,b1,b2,dx,dy⟩:=it
    have Z:=zp_move (B:=B) Z0 w'.held (o.1.frz _ _ b1) (o.1.frz _ _ b2)
    have hk:k≠0:=by
      rintro rfl
      unfold itemAt at hx; cases hx
    refine zp_end hh Z ?_ fun h' a6=>⟨rfl,?_⟩
    · cases k with
      | zero=>exact absurd rfl hk
      | succ k=>rfl
    · refine h { s with heap:=h' } (o.turnS w' (h':=h') fun b ob e g=>?_) ⟨rfl,rfl⟩
      have hne:¬ (b=z∨b=TI∨b=TO∨b=i1∨b=i2):=fun q=>by
        have:∃ ob,zpO h₀ z TI TO i1 i2 b=some ob:=by
          unfold zpO; rw [if_pos q]
          obtain ⟨oa,ga,_⟩:=Z0.i1
          obtain ⟨ob,gb,_⟩:=Z0.i2
          obtain ⟨_,_,gc⟩:=Z0.TO
          rcases q with rfl | rfl | rfl | rfl | rfl
          · exact ⟨_,Z0.z⟩
          · exact ⟨_,Z0.TI⟩
          · exact ⟨_,gc⟩
          · exact ⟨_,ga⟩
          · exact ⟨_,gb⟩
        obtain ⟨ob,hob⟩:=this
        rw [e] at hob; cases hob
      simp only [not_or] at hne
      exact a6 b ob hne.1 hne.2.2.1 hne.2.2.2.1 hne.2.2.2.2 g
  self:=fun {k O s env Pv B ρ n Q E} w' it h=>by
    obtain ⟨h₀,TI,TO,i1,i2,l1,l2,vx,vy,m1,m2,rfl,Z,b1,b2,dx,dy⟩:=it
    refine wpAny_pyIter_zip (TI:=TI) (TO:=TO) (f0:=.none) (w'.held z _ ?_) h
    unfold zpO; rw [if_pos (.inl rfl)]; exact Z.z
end
end Mine
namespace Mine
open PySem PySem.Calls PySem.W PyProof.Rows PySem.SeqAt
section
variable {P:Params} {hb h h':Heap} {B:Frz} {Pv:Prv} {ρ:Nat→Addr} {σ:Sto} {env:Env} {vars:Loc}
theorem OkE.later (x:OkE P hb env Pv vars B ρ σ h) {d:Addr} (q:h.objs.size≤d):Own B Pv ρ σ.length env d:=by
  obtain ⟨st,m,cm,y⟩:=x
  have no:∀ {o},h.get? d=some o→False:=fun e=>Nat.lt_irrefl _ (Nat.lt_of_lt_of_le (Heap.lt_size e) q)
  refine ⟨?_,?_,fun i hi e=>?_,fun e=>?_,fun z c e e' => ?_⟩
  · cases e:B d with
    | none=>rfl
    | some o=>exact (no (st.frz _ _ e)).elim
  · cases e:Pv d with
    | none=>rfl
    | some p=>obtain ⟨o,f⟩:=p; obtain ⟨_,⟨sl,g⟩,_⟩:=st.prv _ _ _ e; exact (no g).elim
  · have:=st.cellLt hi; rw [e] at this; exact Nat.lt_irrefl _ (Nat.lt_of_lt_of_le this q)
  · have:=y.ns.lt; rw [← e] at this; exact Nat.lt_irrefl _ (Nat.lt_of_lt_of_le this q)
  · have:=(y.cell z c e).1.lt; rw [e'] at this; exact Nat.lt_irrefl _ (Nat.lt_of_lt_of_le this q)
end
section
variable {prog:Program} {w:World} {hb:Heap} {T:Tab} {N:Nat} {sc:Scope} {K:Frag} {mg mb:Str→Option Value}
theorem make_zip {A:Around} {elts:List PySem.Expr} {kk:Nat} {tp:Pos} {env:Env} {Pv:Prv} {vars:Loc} {B:Frz} {ρ:Nat→Addr} {σ:Sto} {s:Shared} {l1 l2:Addr} {vx vy:Value} {x y:LV} {m1 m2:Nat} {Q:Value→Shared→Prop} {E:Value→Shared→Prop} (hh:A.handled=none) (o:OkE w.params hb env Pv vars B ρ σ s.heap)
    (b1:B l1=some (lstO [vx] m1)) (b2:B l2=some (tupO [vy] m2)) (dx:Den w.params B ρ σ.length vx x) (dy:Den w.params B ρ σ.length vy y)
    (h:∀ I O It s',Walker prog w hb A (.Tuple elts kk tp) (.zip x y) I It→OkE w.params hb env Pv vars B ρ σ s'.heap→Rest s s' → Owns B Pv ρ σ.length env O s'.heap→It 0 O B ρ σ.length→(∀ d,(O d).isSome=true→d < s'.heap.objs.size)→Q (.ref I) s') :
    wpAny (model prog w) A (call (.type "zip") [.ref l1,.ref l2]) (fun v s₁=>wpAny (model prog w) A (pyIter v) Q E s₁) E s:=by
  refine call_zp ⟨_,o.1.frz _ _ b1,rfl,_,rfl⟩ ⟨_,o.1.frz _ _ b2,rfl,_,rfl⟩ fun h' Z up=>?_
  generalize hn:s.heap.objs.size=n at Z
  refine wpAny_pyIter_zip (TI:=n + 2) (TO:=n + 3) (f0:=.none) (by rw [← hn] at Z ⊢; exact Z.z) ?_
  have wS:Owns B Pv ρ σ.length env (zpO h' (n + 4) (n + 2) (n + 3) n (n + 1)) h':=⟨fun d ob q=>o.later (by
    unfold zpO at q; split at q
    · rename_i q'
      have q':@Eq Nat d (n + 4)∨@Eq Nat d (n + 2)∨@Eq Nat d (n + 3)∨@Eq Nat d n∨@Eq Nat d (n + 1):=q'
      show (s.heap.objs.size:Nat)≤d
      rw [hn]
      revert q'
      generalize (d:Nat)=d'
      intro q'; omega
    · cases q),fun d ob q=>by
    unfold zpO at q; split at q
    · exact q
    · cases q⟩
  refine h (n + 4) _ _ { s with heap:=h' } (walker_zip hh) (o.turnS (O:=fun _=>none) ⟨fun d ob q=>(by cases q),fun d ob q=>(by cases q)⟩ fun b ob _ g=>up b ob g) ⟨rfl,rfl⟩ wS ⟨h',n + 2,n + 3,n,n + 1,l1,l2,vx,vy,m1,m2,rfl,Z,b1,b2,dx,dy⟩ fun d hd=>?_
  obtain ⟨ob,hd⟩:=Option.isSome_iff_exists.mp hd
  exact Heap.lt_size (wS.held d ob hd)
theorem SI_zip {elts:List PySem.Expr} {kk:Nat} {tp:Pos} {a b:PySem.Expr} {ma mb':ME} {x:Str} {np pos} (G:Gd w hb K mg mb) (n:BN K sc x (.type "zip")) (h1:SE prog w hb T N sc a ma) (h2:SE prog w hb T N sc b mb') (hs:noStar [a,b]=true):SI prog w hb T N sc (.Tuple elts kk tp) (.Call (.Name x np) [a,b] [] pos) (.zip ma mb'):=fun A env Pv vars B ρ σ s hrs cx o Q E h=>by
  unfold iterM at h
  have hargs:=SEs_cons h1 (SEs_cons h2 SEs_nil (by simp [noStar] at hs; exact hs.2)) (by simp [noStar] at hs; exact hs.1)
  refine call_b3 (Q:=fun x s₁=>wpAny (model prog w) A (pyIter x) Q E s₁) G cx o n hs (by simp) (hargs A env Pv vars B ρ σ s pos cx o _ _ ?_)
  unfold EP evalMs evalMs evalMs
  cases hm:evalM T ma vars σ with
  | none=>rw [hm] at h; exact h
  | some p =>
    obtain ⟨r,σ₁⟩:=p
    rw [hm] at h
    cases r with
    | exc i=>exact h
    | val l1 =>
      rw [bindR_val] at h ⊢
      cases hm2:evalM T mb' vars σ₁ with
      | none=>rw [hm2] at h; exact h
      | some p =>
        obtain ⟨r,σ₂⟩:=p
        rw [hm2] at h
        cases r with
        | exc i=>exact h
        | val l2 =>
          simp only [bindR_val] at h ⊢
          intro vs B₁ ρ₁ s₁ e₁ o₁ t₁ d₁
          split at h
          · rename_i src σ' heq
            split at heq
            · rename_i x y
              cases heq
              cases d₁; rename_i v1 vs d1 dr
              cases dr; rename_i v2 vs d2 dr
              cases dr
              cases d1; rename_i vs1 m1 ax1 g1 D1
              cases d2; rename_i vs2 m2 ax2 g2 D2
              cases D1; rename_i dx D1; cases D1
              cases D2; rename_i dy D2; cases D2
              refine make_zip (elts:=elts) (kk:=kk) (tp:=tp) (cx.hnd hrs) o₁ g1 g2 dx dy fun I O It s' W o' t' w' it hl=>?_
              exact h I O It B₁ ρ₁ s' e₁ W o' (t₁.trans t') w' it hl
            · cases heq
          · rename_i heq
            split at heq <;> cases heq
          · exact h.elim
end
end Mine
namespace Mine
open PySem PySem.Calls PySem.W PyProof.Rows PySem.SeqAt
open Sem (wp)
structure XB (bm:List Value):Prop where
  hasB:bm.contains (.type "Exception")=true
  noAttr:bm.contains (.type "AttributeError")=false
  noName:bm.contains (.type "NameError")=false
  hasBase:bm.contains (.type "BaseException")=true
abbrev excObj (C t:Addr):Obj:={ cls:=.ref C,data:=.fields #[.ref t,.none,.none,.none,.bool false,.none] }
abbrev argsObj (rest:List Value):Obj:={ cls:=.type "tuple",data:=.seq rest.toArray }
section
variable {prog:Program} {w:World} {A:Around} {E:Value→Shared→Prop} {h:Heap} {g:Array GenState} {d:Drawn} {t:Nat} {os:OsState}
variable {nm q:Str} {C N:Addr} {bs bm:List Value} {hdct:Bool} {sn:List Str} {sub:List Value} {ab:Bool} {col:Option Bool} {dd:Option Addr} {k0 k1 k2 k3 k5:Option Value}
theorem exc_checkNew (X:XB bm) {M:Model} {rest:List Value} {Q:Unit→Shared→Prop} (hC:h.get? C=some (excClassObj nm q C N bs bm hdct sn sub ab col dd k0 k1 k2 k3 k5 "Exception.__new__"))
    (hq:Q () ⟨h,g,d,t,os⟩):wpAny M A (checkBuiltinCall "Exception.__new__" ⟨.ref C::rest,[]⟩) Q E ⟨h,g,d,t,os⟩:=by
  have F:=PySem.F.excBase_Exception
  have hcont:(Value.ref C::bm).contains (.type "Exception")=true:=by rw [List.contains_cons,X.hasB,Bool.or_true]
  have hstar:=F.noStar
  simp only [checkBuiltinCall,F.newKind,F.newSplit,F.newRow]
  repeat (first | refine wpAny_loadPart_at hC ?_ | (refine wpAny_isSubtype_exc hC ?_; rw [hcont]) | refine wpAny_staticBase_exc hC ?_ | refine wpAny_madeBy_exc hC ?_ | simp only [bne_self_eq_false,Bool.false_eq_true,if_false] | wp_step)
  exact hq
theorem exc_new (X:XB bm) {rest:List Value} {R:Result→Shared→Prop} (hC:h.get? C=some (excClassObj nm q C N bs bm hdct sn sub ab col dd k0 k1 k2 k3 k5 "Exception.__new__"))
    (hq:R (.ok (.ret (.ref (h.objs.size + 1)))) ⟨(h.push (argsObj rest)).push (excObj C h.objs.size),g,d,t,os⟩) (hrest:rest.length≤sizeLine:=by size_fits) :
    codeAny (model prog w) A (.builtin "Exception.__new__" ⟨.ref C::rest,[]⟩) R ⟨h,g,d,t,os⟩:=by
  have F:=PySem.F.excBase_Exception
  have hends:=F.ends
  have hcB:(Value.ref C::bm).contains (.type "Exception")=true:=by rw [List.contains_cons,X.hasB,Bool.or_true]
  have hcA:(Value.ref C::bm).contains (.type "AttributeError")=false:=by rw [List.contains_cons,X.noAttr]; rfl
  have hcN:(Value.ref C::bm).contains (.type "NameError")=false:=by rw [List.contains_cons,X.noName]; rfl
  refine codeAny_builtinAt F.entry ?_
  unfold Builtin.«BaseException.__new__»
  refine _root_.PySem.wpAt_bind ?_
  show _root_.PySem.wpAt _ _ _ (stack >>= _) _ _ _
  refine _root_.PySem.wpAt_bind (_root_.PySem.wpAt_stack fun p below=>_root_.PySem.wpAt_of_wpAny ?_)
  wp_walk
  refine _root_.PySem.wpAt_of_wpAny ?_
  rw [F.owner]
  repeat (first | with_reducible refine wpAny_madeHere_exc F.canon hC ?_ | with_reducible refine wpAny_loadPart_at hC ?_ | (with_reducible refine wpAny_isSubtype_exc hC ?_; first | rw [hcB] | rw [hcA] | rw [hcN]) | wp_step)
  show R _ _
  rw [Heap.size_push]
  exact hq
theorem exc_typeCall (X:XB bm) {rest:List Value} {fI:Addr} {oI:Obj} {Q:Fin→Shared→Prop}
    (hC:h.get? C=some (excClassObj nm q C N bs bm hdct sn sub ab col dd k0 k1 k2 k3 k5 "Exception.__new__")) (hi:Looks (model prog w) h (typeLookup (.ref C) "__init__") (some (.ref fI)))
    (hfI:h.get? fI=some oI) (hfc:oI.cls = .type "function")
    (hq:wpAny (model prog w) A (call (.ref fI) (.ref (h.objs.size + 1)::rest)) (fun r s' => r = .none∧Q (.done (.ret (.ref (h.objs.size + 1)))) s') E ⟨(h.push (argsObj rest)).push (excObj C h.objs.size),g,d,t,os⟩) (hrest:rest.length≤sizeLine:=by size_fits) :
    wpAny (model prog w) A (Builtin.«type.__call__» ⟨.ref C::rest,[]⟩) Q E ⟨h,g,d,t,os⟩:=by
  have F:=PySem.F.excBase_Exception
  repeat (first | with_reducible refine wpAny_loadPart_at hC ?_ | with_reducible refine wpAny_madeBy_exc hC ?_ | wp_step)
  refine codeAny_call_builtin_code (Code.quiet_builtin _ F.quiet) (exc_checkNew X hC ?_)
  refine exc_new X hC ?_ hrest
  show wpAny _ _ _ _ _ _
  have k:∀ b o,h.get? b=some o→((h.push (argsObj rest)).push (excObj C h.objs.size)).get? b=some o:=fun b o e=>Heap.get?_push_of_some _ (Heap.get?_push_of_some _ e)
  have hC₁:=k _ _ hC
  have hfI₁:=k _ _ hfI
  have hi₁:=hi.keeps k
  have hget:((h.push (argsObj rest)).push (excObj C h.objs.size)).get? (h.objs.size + 1)=some (excObj C h.objs.size):=by heap_get
  have hcC:(Value.ref C::bm).contains (.ref C)=true:=by simp
  unfold isInstance
  repeat (first | with_reducible refine wpAny_loadPart_at hget ?_ | (with_reducible refine wpAny_isSubtype_exc hC₁ ?_; rw [hcC]) | wp_step)
  show wpAny _ _ (typeLookup (.ref C) _) _ _ _
  refine hi₁.at ?_
  refine wpAny_holding (wpAny_bind ?_)
  unfold bindSpecial
  refine wpAny_bind (wpAny_typeOf (T := "function") ⟨_,hfI₁,hfc⟩ ?_)
  rw [if_pos (by decide)]
  refine wpAny_pure (wpAny_bind (wpAny_mono hq (fun r s' hr=>?_) fun _ _ x=>x))
  obtain ⟨rfl,hQ⟩:=hr
  wp_walk
  exact hQ
theorem exc_call (X:XB bm) {rest:List Value} {fI:Addr} {oI:Obj} {Q:Value→Shared→Prop}
    (hC:h.get? C=some (excClassObj nm q C N bs bm hdct sn sub ab col dd k0 k1 k2 k3 k5 "Exception.__new__")) (hi:Looks (model prog w) h (typeLookup (.ref C) "__init__") (some (.ref fI)))
    (hfI:h.get? fI=some oI) (hfc:oI.cls = .type "function")
    (hq:wpAny (model prog w) (A.under (.builtin "type.__call__" ⟨.ref C::rest,[]⟩)) (call (.ref fI) (.ref (h.objs.size + 1)::rest)) (fun r s' => r = .none∧Q (.ref (h.objs.size + 1)) s') E ⟨(h.push (argsObj rest)).push (excObj C h.objs.size),g,d,t,os⟩) (hrest:rest.length≤sizeLine:=by size_fits) :
    wpAny (model prog w) A (call (.ref C) rest) Q E ⟨h,g,d,t,os⟩:=by
  have f1:=tc_lookup
  have f2:=PySem.tc_bind (.ref C)
  have hT:(⟨h,g,d,t,os⟩:Shared).TypeIs (.ref C) "type" := ⟨_,hC,rfl⟩
  refine wpAny_call (codeAny_of_tree ?_)
  show wpAny _ _ (callAny (.ref C) _) _ _ _
  repeat (any_goals (first | assumption | with_reducible refine wpAny_loadPart_at hC ?_ | wp_step))
  refine ⟨rfl,?_⟩
  exact codeAny_call_builtin_at (Code.quiet_builtin _ (by decide +kernel)) entry_typeCall (wpAny_check_type_call_sub hC (exc_typeCall (hrest:=hrest) X hC hi hfI hfc hq))
end
end Mine
namespace Mine
open PySem PySem.Calls PySem.W PyProof.Rows PySem.SeqAt
open Sem (wp)
theorem wd_slot:Slot "wrapper_descriptor" "__get__" "wrapper_descriptor.__get__" :=
  .of (owner := "wrapper_descriptor") (n := "__get__") (by rw [typeLookup_type,builtinLookup_eq_fast]; kernel_rfl) (by decide +kernel) (by decide +kernel) (by decide +kernel)
    (by first | exact .inl (by decide +kernel) | exact .inr (by decide +kernel)) (by rw [isSubtype_type]; kernel_rfl)
theorem wd_entry:entryFor table "wrapper_descriptor.__get__" = some Builtin.«wrapper_descriptor.__get__» := entryFor_of_tree (by kernel_rfl)
theorem wd_args (a b c:Value):argsOk "wrapper_descriptor.__get__" ⟨[a,b,c],[]⟩:=by unfold argsOk; kernel_rfl
theorem ei_type:typeOf (.builtin "Exception.__init__")=pure (.type "wrapper_descriptor"):=by show builtinType _=_; rw [builtinType_eq_fast]; kernel_rfl
abbrev mwObj (x:Addr):Obj:={ cls:=.type "method-wrapper",data:=.fields #[.builtin "Exception.__init__",.ref x] }
section
variable {prog:Program} {w:World} {M:Model} {A:Around} {E:Value→Shared→Prop} {h:Heap} {g:Array GenState} {d:Drawn} {t:Nat} {os:OsState}
variable {nm q:Str} {C N:Addr} {bs bm:List Value} {hdct:Bool} {sn:List Str} {sub:List Value} {ab:Bool} {col:Option Bool} {dd:Option Addr} {k0 k1 k2 k3 k5:Option Value}
theorem wd_run (X:XB bm) {x:Addr} {ox:Obj} {Q:Fin→Shared→Prop} (hx:h.get? x=some ox) (hxc:ox.cls = .ref C)
    (hC:h.get? C=some (excClassObj nm q C N bs bm hdct sn sub ab col dd k0 k1 k2 k3 k5 "Exception.__new__"))
    (hq:Q (.done (.ret (.ref h.objs.size))) ⟨h.push (mwObj x),g,d,t,os⟩):wpAny M A (Builtin.«wrapper_descriptor.__get__» ⟨[.builtin "Exception.__init__",.ref x,.ref C],[]⟩) Q E ⟨h,g,d,t,os⟩:=by
  have hcB:(Value.ref C::bm).contains (.type "Exception")=true:=by rw [List.contains_cons,X.hasB,Bool.or_true]
  unfold Builtin.«wrapper_descriptor.__get__»
  refine wpAny_bind (wpAny_of_eq (a:=(.builtin "Exception.__init__",some (.ref x),some (.ref C))) (by first | rfl | kernel_rfl) ?_)
  dsimp only
  refine wpAny_bind ?_
  refine wpAny_bind (wpAny_of_eq (a:=(("__init__" : Str),Value.type "Exception")) (by first | rfl | kernel_rfl) ?_)
  dsimp only
  unfold isInstance
  repeat (first | (with_reducible refine wpAny_loadPart_at hx ?_; rw [hxc]) | (with_reducible refine wpAny_isSubtype_exc hC ?_; rw [hcB]) | wp_step)
  exact hq
theorem sup_ga (X:XB bm) {so D x:Addr} {ox:Obj} {K:Frag} {name:Str} {tk:Tok} {Q:Fin→Shared→Prop} {l:List Value}
    (hso:h.get? so=some (ks_superObj D x C)) (hno:Looks (model prog w) h (opaqueClassAbove (.ref C)) none) (hx:h.get? x=some ox) (hxc:ox.cls = .ref C)
    (hC:h.get? C=some (excClassObj nm q C N bs bm hdct sn sub ab col dd k0 k1 k2 k3 k5 "Exception.__new__")) (hl:((.ref C::bm).dropWhile (· != .ref D)).drop 1=l) (XK:K.In h)
    (hf:alongIn K name l=some (some (.builtin "Exception.__init__"))) (hxC:x≠C) (hn:(name == ("__class__" : Str))=false)
    (hq:Q (.done (.ret (.ref h.objs.size))) ⟨h.push (mwObj x),g,d,t,os⟩) :
    wpAny (model prog w) A (Builtin.«super.__getattribute__» ⟨[.ref so,.str name tk],[]⟩) Q E ⟨h,g,d,t,os⟩:=by
  have hlk:=wd_slot.lookup
  have hne:(Value.ref x == Value.ref C)=false:=by simp [hxC]
  have hTf:(⟨h,g,d,t,os⟩:Shared).TypeIs (.builtin "Exception.__init__") "wrapper_descriptor" := ei_type
  have hty:=ei_type
  have hdt:(ks_superObj D x C).data = .fields #[.ref D,.ref x,.ref C]:=rfl
  have f0:(#[.ref D,.ref x,.ref C]:Array Value)[0]? = some (.ref D):=rfl
  have f1:(#[.ref D,.ref x,.ref C]:Array Value)[1]? = some (.ref x):=rfl
  have f2:(#[.ref D,.ref x,.ref C]:Array Value)[2]? = some (.ref C):=rfl
  unfold Builtin.«super.__getattribute__»
  repeat (first
    | (with_reducible refine wpAny_field hso hdt f0 ?_) | (with_reducible refine wpAny_field hso hdt f1 ?_) | (with_reducible refine wpAny_field hso hdt f2 ?_)
    | (with_reducible refine ks_wpAny_notOpaque hno ?_)
    | (with_reducible refine wpAny_mroOf_exc hC ?_; rw [hl])
    | (refine ks_forIn_along XK (fun _ _=>rfl) rfl ?_ hf)
    | (with_reducible refine wpAny_typeOf hTf ?_)
    | (with_reducible refine wpAny_call_entry wd_slot hTf wd_entry (wd_run X hx hxc hC ?_) (wd_args _ _ _))
    | (with_reducible refine ⟨_,rfl,?_⟩)
    | (simp only [hn,hne,Bool.or_false,Bool.false_eq_true,if_false])
    | wp_step
    | dsimp only)
  all_goals first | exact hq | trace_state
theorem sup_method (X:XB bm) {so D x:Addr} {ox:Obj} {K:Frag} {name:Str} {pl:Sem Bool} {Q:Value × List Value→Shared→Prop} {l:List Value}
    (hso:h.get? so=some (ks_superObj D x C)) (hno:Looks (model prog w) h (opaqueClassAbove (.ref C)) none) (hx:h.get? x=some ox) (hxc:ox.cls = .ref C)
    (hC:h.get? C=some (excClassObj nm q C N bs bm hdct sn sub ab col dd k0 k1 k2 k3 k5 "Exception.__new__")) (hl:((.ref C::bm).dropWhile (· != .ref D)).drop 1=l) (XK:K.In h)
    (hf:alongIn K name l=some (some (.builtin "Exception.__init__"))) (hxC:x≠C) (hn:(name == ("__class__" : Str))=false)
    (hq:Q (.ref h.objs.size,[]) ⟨h.push (mwObj x),g,d,t + 1,os⟩) :
    wpAny (model prog w) A (getMethod (.ref so) name pl) Q E ⟨h,g,d,t,os⟩:=by
  have hlk:=PySem.F.ks_slot_super_ga.lookup
  have hcan:=PySem.F.ks_canon_super_ga
  have hT:∀ t',(⟨h,g,d,t',os⟩:Shared).TypeIs (.ref so) "super" := fun _=>⟨_,hso,rfl⟩
  unfold getMethod
  refine wpAny_bind (wpAny_specialOf (hT _) hlk ?_)
  show wpAny _ _ (if (Manifest.canonical "super.__getattribute__" != "object.__getattribute__")=true then _ else _) _ _ _
  rw [if_pos hcan]
  unfold getAttr getAttrBy
  refine wpAny_bind (wpAny_bind (wpAny_mkText (wpAny_holding (wpAny_bind (wpAny_typeOf (hT _) (wpAny_bind (wpAny_of_eq hlk ?_)))))))
  show wpAny _ _ (getAttrByItsOwn (.ref so) (.str name t) (.type "super") (.builtin "super.__getattribute__") true false) _ _ _
  unfold getAttrByItsOwn hookBefore callGetattribute boundAndCalled
  refine wpAny_bind (wpAny_of_eq (show (if onTheHeap (.type "super") then typeLookup (.type "super") "__getattr__" else pure none)=pure none from rfl) ?_)
  refine wpAny_bind (wpAny_attempt (wpAny_holding ?_))
  show wpAny _ _ (bindSpecial (.builtin "super.__getattribute__") (.ref so) >>= _) _ _ _
  refine wpAny_bind (wpAny_of_eq (PySem.F.ks_slot_super_ga.bind _) ?_)
  refine wpAny_mono (Q:=fun v s' => v = .ref h.objs.size∧s' = ⟨h.push (mwObj x),g,d,t + 1,os⟩) (E:=fun _ _=>False)
    (wpAny_call_entry PySem.F.ks_slot_super_ga (hT _) PySem.F.ks_entry_super_ga (sup_ga X hso hno hx hxc hC hl XK hf hxC hn ⟨_,rfl,rfl,rfl⟩) (PySem.F.ks_gaArgs_super _ _)) (fun v s' hv=>?_) fun _ _ z=>z.elim
  obtain ⟨rfl,rfl⟩:=hv
  exact wpAny_pure (wpAny_pure hq)
theorem callWith_mw {s:Shared} {pos:Pos} {u x:Addr} {args:List (Bool × Sem Value)} {Q:Value→Shared→Prop} (hplain:args.any (·.1)=false)
    (h:wpAny M A (evalArgs (.ref u) true args []) (fun y s₁=>s₁.heap.get? u=some (mwObj x)∧wpAny M A (call (.ref u) y.pos y.kw) Q E s₁) E s):wpAny M A (callWith pos (.ref u) [] args []) Q E s:=by
  unfold callWith
  refine wpAny_bind (wpAny_holding (wpAny_mono h (fun y s₁ h₁=>wpAny_bind (wpAny_standAt ?_)) fun _ _ x=>x))
  obtain ⟨ho,hcall⟩:=h₁
  simp only [hplain,List.any_nil,Bool.or_false]
  refine wpAny_bind (m:=keeperOf (.ref u)) ?_
  unfold keeperOf
  refine wpAny_bind (wpAny_load ho ?_)
  simp only [show (Value.type "method-wrapper" != Value.type "method")=true by decide,show (Value.type "method-wrapper" == Value.type "builtin_function_or_method" || Value.type "method-wrapper" == Value.type "method-wrapper")=true by decide,if_true]
  refine wpAny_pure ?_
  exact wpAny_bind (wpAny_mono hcall (fun r s₂ hr=>wpAny_bind (wpAny_holding (wpAny_point (wpAny_pure hr)))) fun _ _ x=>x)
theorem mw_call {u x t0:Addr} {v:Value} {dx:Option Addr} {Q:Value→Shared→Prop} (hu:h.get? u=some (mwObj x)) (hx:h.get? x=some { cls:=.ref C,dict:=dx,data:=.fields #[.ref t0,.none,.none,.none,.bool false,.none] })
    (hC:h.get? C=some (excClassObj nm q C N bs bm hdct sn sub ab col dd k0 k1 k2 k3 k5 "Exception.__new__"))
    (hq:∀ h',h'.get? x=some { cls:=.ref C,dict:=dx,data:=.fields #[.ref h.objs.size,.none,.none,.none,.bool false,.none] }→(∀ b o,b≠x→h.get? b=some o→h'.get? b=some o)→h'.get? h.objs.size=some (argsObj [v])→Q .none ⟨h',g,d,t,os⟩) :
    wpAny (model prog w) A (call (.ref u) [v]) Q E ⟨h,g,d,t,os⟩:=by
  have F:=PySem.F.excBase_Exception
  refine wpAny_call (codeAny_of_tree ?_)
  show wpAny _ _ (callAny (.ref u) _) _ _ _
  unfold callAny
  refine wpAny_bind (wpAny_load hu ?_)
  dsimp only
  refine wpAny_bind ?_
  show wpAny _ _ (checkBoundCall "Exception.__init__" ⟨[.ref x,v],[]⟩) _ _ _
  simp only [checkBoundCall,F.initKind,F.initRow]
  show wpAny _ _ (Bind.checkArgs "Exception.__init__" ⟨.positional,"*","Exception",.self,[⟨"args",.varPos,false⟩]⟩ ⟨[.ref x,v],[]⟩) _ _ _
  unfold Bind.checkArgs
  repeat (first | (with_reducible refine wpAny_loadPart_at hx ?_) | with_reducible refine wpAny_loadPart_at hC ?_ | wp_step)
  refine ⟨Code.quiet_builtin _ (by decide +kernel),codeAny_builtin F.initEntry ?_⟩
  unfold Builtin.«BaseException.__init__»
  wp_walk
  have hxp:=Heap.get?_push_of_some (argsObj [v]) hx
  refine hq _ ?_ (fun b o hb e=>?_) ?_
  · rw [Heap.get?_update_self _ hxp rfl]; rfl
  · rw [Heap.get?_update_other _ _ (Ne.symm hb)]; exact Heap.get?_push_of_some _ e
  · rw [Heap.get?_update_other _ _ (Nat.ne_of_lt (Heap.lt_size hx))]; exact Heap.get?_push_size _ rfl
end
end Mine
namespace Mine
open PySem PySem.Calls PySem.W PyProof.Rows PySem.SeqAt Builtin Builtin.ObjectAttr
open Sem (wp)
section
variable {prog:Program} {w:World} {M:Model} {A:Around} {E:Value→Shared→Prop} {h:Heap} {g:Array GenState} {d:Drawn} {t:Nat} {os:OsState} {K:Frag}
theorem exc_put {dx:Addr} {es es':List DictEntry} {n n':Nat} {name:Str} {tk:Tok} {v:Value} {Q:PySem.Fin→Shared→Prop} (D:h.get? dx=some (dictOf es n)) (hl:(getL name es).isSome=true)
    (e:(putL name (PyData.keyHash w.params name) (.str name t) v es,putN name es n)=(es',n')) (hz:es'.length≤1000)
    (hq:∀ h',h'.get? dx=some (dictOf es' n')→(∀ b o,b≠dx→h.get? b=some o→h'.get? b=some o)→Q (.done (.ret .none)) ⟨h',g,d,t + 1,os⟩) :
    wpAny (model prog w) A (storeInDict dx (.str name tk) name v) Q E ⟨h,g,d,t,os⟩:=by
  obtain ⟨e1,e2⟩:=Prod.mk.inj e
  have he:Obj.putName name (PyData.keyHash w.params name) (.str name t) v (dictOf es n)=dictOf es' n':=by rw [putName_dict,e1,e2]
  have D':(h.update dx (Obj.putName name (PyData.keyHash w.params name) (.str name t) v)).get? dx=some (dictOf es' n'):=by
    rw [Heap.get?_update_self _ D (by rw [he]; rfl),he]
  unfold storeInDict newKeyGuard
  refine wpAny_bind (wpAny_pure (wpAny_bind ?_))
  unfold nsSet
  refine wpAny_bind (wpAny_bind (wpAny_askSetting (wpAny_pure (wpAny_bind (wpAny_mkText (wpAny_bind (wpAny_loadPart D ?_)))))))
  dsimp only
  have hl':(lookIn name (dictOf es n)).isSome=true:=hl
  unfold lookIn at hl'
  dsimp only at hl'
  have c:(!es.toArray.any (·.key.isStr name) && es.toArray.any (·.refKey))=false:=by
    rw [← Array.any_toList,← Array.any_toList]
    split at hl'
    · rename_i en he
      rw [List.any_eq_true.mpr ⟨en,List.mem_of_find?_eq_some he,List.find?_some he⟩]; rfl
    · split at hl'
      · cases hl'
      · rename_i z; rw [Bool.not_eq_true] at z; rw [z,Bool.and_false]
  rw [aRefKeyMayBeTheName_at,c]
  refine wpAny_updatePart D ?_
  refine wpAny_bind (wpAny_lookBehind D' (pastItsLine_dict (by rw [List.size_toArray,sizeLine_eq]; omega)) ?_)
  exact wpAny_pure (hq _ D' fun b o hb eb=>by rw [Heap.get?_update_other _ _ (Ne.symm hb)]; exact eb)
theorem exc_osa {s:Shared} {x C:Addr} {ox:Obj} {od:Option Obj} {cd:ClassData} {name:Str} {tk:Tok} {v:Value} {R:Result→Shared→Prop} (X:K.In s.heap) (I:InstAt s.heap x ox C od) (hc:clsIn K C=some cd) (hr:∀ self,refuseLoop self "__setattr__" cd.mro=pure ())
    (ho:mroIn K C (.type "object")=some true) (ha:findIn K (.ref C) name=some none)
    (h:wpAny (model prog w) A.in1 (storeInOwnDict (.ref x) (.ref C) (.str name tk) name v false)
      (fun fin s' => match fin with | .done f=>R (.ok f) s' | .again c' => c'.quiet=true∧codeAny (model prog w) A c' R s') (fun e s' => R (.error e) s') s) :
    codeAny (model prog w) A (.call (.builtin "object.__setattr__") ⟨[.ref x,.str name tk,v],[]⟩) R s:=by
  have SF:=PySem.F.store_object
  have sub:Looks (model prog w) s.heap (isInstance (.ref x) (.type "object")) true:=I.type.andThen (looks_mroIn X ho)
  refine codeAny_call_builtin SF.slot.plain SF.entry (@check_slot (model prog w) _ _ s "object.__setattr__" "object" "__setattr__" (.ref x) [.str name tk,v] [] _ SF.kind SF.split sub (SF.args (.ref x) (.str name tk) v) ?_)
  have hm:Looks (model prog w) s.heap (mroOf (.ref C)) cd.mro:=(looks_clsIn X hc).andThen .now
  rw [osa_eq,refuse_eq]
  refine wpAny_bind (wpAny_bind (I.type.here (wpAny_bind (hm.here ?_))))
  rw [hr]
  refine wpAny_pure (wpAny_bind (I.type.here (wpAny_bind ((looks_findIn X ha).here (wpAny_bind (wpAny_pure ?_))))))
  exact h
structure ExcSet (K:Frag) (C:Addr) (name:Str):Prop where
  cls:∃ cd,clsIn K C=some cd∧(∀ self,refuseLoop self "__setattr__" cd.mro=pure ())∧cd.hasDict=true
  obj:mroIn K C (.type "object")=some true
  no:findIn K (.ref C) name=some none
  sets:findIn K (.ref C) "__setattr__" = some (some (.builtin "object.__setattr__"))
theorem exc_set1 {x C:Addr} {ox:Obj} {vs:Array Value} {name:Str} {v:Value} {Q:Unit→Shared→Prop} (S:ExcSet K C name) (X:K.In h) (hx:h.get? x=some ox) (hcl:ox.cls = .ref C) (hd:ox.dict=none) (hdat:ox.data = .fields vs)
    (hq:∀ h',h'.get? x=some { ox with dict:=some h.objs.size }→h'.get? h.objs.size=some (dictOf [⟨PyData.keyHash w.params name,.str name (t + 1),v⟩] 1)→(∀ b o,b≠x→h.get? b=some o→h'.get? b=some o)→Q () ⟨h',g,d,t + 2,os⟩) :
    wpAny (model prog w) A (setAttr (.ref x) name v) Q E ⟨h,g,d,t,os⟩:=by
  obtain ⟨cd,hc,hr,hh⟩:=S.cls
  have I:InstAt h x ox C none:=⟨hx,hcl,by unfold notCls; rw [hdat],by rw [hd]; trivial⟩
  obtain ⟨oc,odi,oda,osl⟩:=ox
  dsimp only at hcl hd hdat
  subst hcl hd hdat
  refine set_plain X I S.sets (exc_osa (s:=⟨h,g,d,t + 1,os⟩) X I hc hr S.obj S.no ?_)
  have hx1:(h.push { cls:=.type "dict",data:=.dict #[] }).get? x=some ⟨.ref C,none,.fields vs,osl⟩:=Heap.get?_push_of_some _ hx
  have hxs:h.objs.size≠x:=Nat.ne_of_gt (Heap.lt_size hx)
  refine wpAny_bind (wpAny_pure (wpAny_bind (wpAny_bind (wpAny_loadPart hx (wpAny_bind ((looks_clsIn X hc).here ?_))))))
  rw [hh]
  refine wpAny_bind (wpAny_alloc' (wpAny_bind (wpAny_update' hx1 ?_)))
  refine wpAny_pure ?_
  have gx:((h.push { cls:=.type "dict",data:=.dict #[] }).update x fun o=>{ cls:=o.cls,dict:=some h.objs.size,data:=o.data,slots:=o.slots }).get? x=some ⟨.ref C,some h.objs.size,.fields vs,osl⟩:=Heap.get?_update_self _ hx1 rfl
  have gd:((h.push { cls:=.type "dict",data:=.dict #[] }).update x fun o=>{ cls:=o.cls,dict:=some h.objs.size,data:=o.data,slots:=o.slots }).get? h.objs.size=some (dictOf [] 0) :=
    (Heap.get?_update_ne _ _ _ _ hxs).trans (Heap.get?_push_at rfl rfl)
  show wpAny _ _ (storeInDict h.objs.size (.str name t) name v) _ _ _
  refine exc_put (es:=[]) (n:=0) gd rfl rfl (Nat.le_of_ble_eq_true rfl) fun h' g1 g2=>?_
  refine hq h' (g2 _ _ (Ne.symm hxs) gx) g1 fun b o hb e=>g2 b o (Nat.ne_of_lt (Heap.lt_size e)) ((Heap.get?_update_ne _ _ _ _ hb).trans (Heap.get?_push_of_some _ e))
theorem exc_set2 {x C dx:Addr} {ox:Obj} {vs:Array Value} {name:Str} {v:Value} {es es':List DictEntry} {n n':Nat} {Q:Unit→Shared→Prop} (S:ExcSet K C name) (X:K.In h) (hx:h.get? x=some ox) (hcl:ox.cls = .ref C) (hd:ox.dict=some dx) (hdat:ox.data = .fields vs)
    (D:h.get? dx=some (dictOf es n)) (hl:(getL name es).isSome=true) (e:(putL name (PyData.keyHash w.params name) (.str name (t + 1)) v es,putN name es n)=(es',n')) (hz:es'.length≤1000)
    (hq:∀ h',h'.get? dx=some (dictOf es' n')→(∀ b o,b≠dx→h.get? b=some o→h'.get? b=some o)→Q () ⟨h',g,d,t + 2,os⟩) :
    wpAny (model prog w) A (setAttr (.ref x) name v) Q E ⟨h,g,d,t,os⟩:=by
  obtain ⟨cd,hc,hr,hh⟩:=S.cls
  have I:InstAt h x ox C (some (dictOf es n)):=⟨hx,hcl,by unfold notCls; rw [hdat],by rw [hd]; exact D⟩
  obtain ⟨oc,odi,oda,osl⟩:=ox
  dsimp only at hcl hd hdat
  subst hcl hd hdat
  refine set_plain X I S.sets (exc_osa (s:=⟨h,g,d,t + 1,os⟩) X I hc hr S.obj S.no ?_)
  refine wpAny_bind (wpAny_pure (wpAny_bind (wpAny_bind (wpAny_loadPart hx (wpAny_bind ((looks_clsIn X hc).here ?_))))))
  rw [hh]
  refine wpAny_pure (a:=some dx) ?_
  show wpAny _ _ (storeInDict dx (.str name t) name v) _ _ _
  exact exc_put D hl e hz fun h' g1 g2=>hq h' g1 g2
end
end Mine
namespace Mine
open PySem PySem.Calls PySem.W PyProof.Rows PySem.SeqAt Builtin Builtin.ObjectAttr
open Sem (wp)
abbrev initBody (attr val:Str) (p0 p1 p2 p3 p4 p5 p6 p7 p8 p9:Pos):List Stmt :=
  [.Expr (.Call (.Attribute (.Call (.Name "super" p0) [] [] p1) "__init__" p2) [.Name "what" p3] [] p4) p5,
   .Assign [.Attribute (.Name "self" p6) attr p7] (.Name val p8) p9]
section
variable {prog:Program} {w:World} {A:Around} {s:Shared} {hb:Heap} {m mg mb:Str→Option Value} {K:Frag}
  {R:Result→Shared→Prop} {name qual:Str} {params:Arguments} {body:List Stmt} {scope:Scope} {dV kV doc pm cdv ct oc:Value} {an od:Option Addr} {osl:Array (Option Value)} {f cc L x C D cda:Addr} {args:Args} {binds:List (Str × Value)}
  {ox:Obj} {odx:Option Obj}
theorem init_enter (G:Gd w hb K mg mb) (up:∀ b o,hb.get? b=some o→s.heap.get? b=some o)
    (ho:K.lookup f=some ⟨oc,od,.func (ksFn name qual params body scope dV kV doc pm an cdv ct cc),osl⟩) (hcd:codeIn K cdv qual=true) (hroom:A.depth < recursionLimit)
    (hbind:BindsTo s (ksFn name qual params body scope dV kV doc pm an cdv ct cc) args binds) (hloc:∀ y∈binds,scope.names.lookup y.1=some .local)
    (h:∀ h₁,h₁.Ns s.heap.objs.size (fun y=>binds.reverse.lookup y)→(∀ b o,s.heap.get? b=some o→h₁.get? b=some o) →
      _root_.PySem.wpAt (model prog w) (A.deeper (ksEnv qual scope s.heap.objs.size f cdv cc)) (.func body (ksEnv qual scope s.heap.objs.size f cdv cc)) (execs body (ksEnv qual scope s.heap.objs.size f cdv cc))
        (fun fl s' => R (.ok (.ret (match fl with | .ret v=>v | _ => .none))) s') (fun _ _=>False) { s with heap:=h₁,toks:=s.toks + binds.length })
    (hcell:∀ x∈scope.names,x.2 ≠ .cell) (hco:scope.isCoroutine=false) (hgen:scope.isGenerator=false) (hk:scope.kind = .function):codeAny (model prog w) A (.call (.ref f) args) R s:=by
  have X:K.In s.heap:=fun b o e=>up b o (G.X b o e)
  refine ks_codeAny_call_defAt (fd:=ksFn name qual params body scope dV kV doc pm an cdv ct cc) (body:=body) (binds:=binds) hroom (X _ _ ho) rfl (G.nl.keeps up) (codeRec_of X hcd) rfl hbind hcell hloc (fun h₁ hns hk₁=>?_) hco hgen hk
  exact ks_wpAt_mono (h h₁ hns hk₁) (fun _ _ z=>z) fun _ _ z=>z.elim
theorem sup_node {q:Str} {E:Value→Shared→Prop} {p0 p1:Pos} {attr:Str} {whole:Sem Value} {fd:FuncData} {ar:Arg} {vs:Array Value} {file:Str} {tf:Tok} {oc ccl cl:Value} {od cdd cld:Option Addr} {osl ccs csl:Array (Option Value)} {cdD:ClassData} {Q:Value→Shared→Prop}
    (G:Gd w hb K mg mb) (up:∀ b o,hb.get? b=some o→s.heap.get? b=some o) (hns:s.heap.Ns L m)
    (hf:K.lookup f=some ⟨oc,od,.func fd,osl⟩) (hp:(fd.params.posonlyargs++fd.params.args).head? = some ar) (hv:m ar.arg=some (.ref x)) (I:InstAt s.heap x ox C odx)
    (hcode:K.lookup cda=some ⟨ccl,cdd,.fields vs,ccs⟩) (hvs:vs[2]? = some (.str file tf)) (hfile:((prog.main.file:Str) == file)=true)
    (hcell:K.lookup cc=some ⟨cl,cld,.cell (some (.ref D)),csl⟩) (hD:clsIn K D=some cdD) (hsub:mroIn K C (.ref D)=some true) (hsuper:nsIn K mainGlobals "super" = some none)
    (hat:(attr == ("__class__" : Str))=false) (hks:scope.names.lookup ("super" : Str)=some .globalImplicit) (hkc:scope.names.lookup ("__class__" : Str)=some .free) (hka:scope.names.lookup ar.arg=some .local) (hk:scope.kind = .function)
    (htop:(prog.main.scope.names.lookup ("super" : Str)).isSome=false)
    (h:∀ so h',h'.get? so=some (ks_superObj D x C)→s.heap.objs.size≤so→(∀ b o,s.heap.get? b=some o→h'.get? b=some o)→Q (.ref so) { s with heap:=h' }) :
    _root_.PySem.wpAt (model prog w) A (.func body (ksEnv q scope L f (.ref cda) cc)) (attributeBase (.Call (.Name "super" p0) [] [] p1) attr (ksEnv q scope L f (.ref cda) cc) whole) Q E s:=by
  have X:K.In s.heap:=fun b o e=>up b o (G.X b o e)
  obtain ⟨hh,g,d,t,os⟩:=s
  obtain ⟨oD,hD1,hD2⟩:∃ oD,hh.get? D=some oD∧oD.data = .cls cdD:=by
    unfold clsIn at hD
    split at hD
    · rename_i c d cd' sl ho
      cases hD
      exact ⟨_,X _ _ ho,rfl⟩
    · cases hD
  refine ks_wpAt_super_base (env:=ksEnv q scope L f (.ref cda) cc) hks hkc hat rfl (X _ _ hf) rfl hp rfl (X _ _ hcode) rfl hvs hfile htop ?_
  refine ks_loadName_global hk hks (loadGlobal_builtin (env:=ksEnv q scope L f (.ref cda) cc) (G.g.keeps up) (mg_none_of G.X G.g hsuper) (G.b.keeps up) ((G.bi _ (by decide +kernel)).trans (by first | boot_by_name | rfl | kernel_rfl)) ⟨rfl,?_⟩)
  refine wpAny_loadName_free hk hkc rfl ⟨_,X _ _ hcell,rfl⟩ ?_
  refine wpAny_loadName_local hk hka hns hv ?_
  refine ks_wpAny_isType_cls hD1 hD2 ⟨rfl,?_⟩
  refine ks_wpAny_call_super hD1 hD2 I.at_ I.cls (fun c e=>?_) (looks_mroIn X hsub) (fun h' e k=>h _ h' e (Nat.le_refl _) k)
  have:=I.no
  unfold notCls at this
  rw [e] at this
  exact Bool.noConfusion this
end
end Mine
namespace Mine
open PySem PySem.Calls PySem.W PyProof.Rows PySem.SeqAt Builtin Builtin.ObjectAttr
open Sem (wp)
structure InitFacts (prog:Program) (K:Frag) (f D C cc cda:Addr) (name qual:Str) (params:Arguments) (scope:Scope) (attr val:Str) (p0 p1 p2 p3 p4 p5 p6 p7 p8 p9:Pos) (dV kV doc pm ct:Value) (an:Option Addr):Prop where
  ho:∃ oc od osl,K.lookup f=some ⟨oc,od,.func (ksFn name qual params (initBody attr val p0 p1 p2 p3 p4 p5 p6 p7 p8 p9) scope dV kV doc pm an (.ref cda) ct cc),osl⟩
  hcd:codeIn K (.ref cda) qual=true
  cells:∀ x∈scope.names,x.2 ≠ .cell
  co:scope.isCoroutine=false
  gen:scope.isGenerator=false
  kind:scope.kind = .function
  first:∃ ar,(params.posonlyargs++params.args).head? = some ar∧ar.arg = "self"
  code:∃ ccl cdd vs ccs file tf,K.lookup cda=some ⟨ccl,cdd,.fields vs,ccs⟩∧vs[2]? = some (.str file tf)∧((prog.main.file:Str) == file)=true
  cell:∃ cl cld csl,K.lookup cc=some ⟨cl,cld,.cell (some (.ref D)),csl⟩
  cls:∃ cdD,clsIn K D=some cdD
  sub:mroIn K C (.ref D)=some true
  sup:nsIn K mainGlobals "super" = some none
  sn:scope.names.lookup ("super" : Str)=some .globalImplicit
  sc:scope.names.lookup ("__class__" : Str)=some .free
  ss:scope.names.lookup ("self" : Str)=some .local
  sw:scope.names.lookup ("what" : Str)=some .local
  sv:scope.names.lookup val=some .local
  top:(prog.main.scope.names.lookup ("super" : Str)).isSome=false
  line:(p2.endLine == p4.line)=true
  vd:(val == ("__debug__" : Str))=false
  nx:nsIn K cStatics "thirdparty.any" = some none
  sets:ExcSet K C attr
section
variable {prog:Program} {w:World} {A:Around} {s:Shared} {hb:Heap} {mg mb:Str→Option Value} {K:Frag}
  {R:Result→Shared→Prop} {name qual:Str} {params:Arguments} {scope:Scope} {dV kV doc pm ct:Value} {an:Option Addr} {f cc x C D cda:Addr} {attr val:Str} {p0 p1 p2 p3 p4 p5 p6 p7 p8 p9:Pos}
  {nm q:Str} {N:Addr} {bs bm:List Value} {hdct:Bool} {sn:List Str} {sub:List Value} {ab:Bool} {col:Option Bool} {dd:Option Addr} {k0 k1 k2 k3 k5:Option Value}
abbrev excAt (C:Addr) (dx:Option Addr) (t:Addr):Obj:={ cls:=.ref C,dict:=dx,data:=.fields #[.ref t,.none,.none,.none,.bool false,.none] }
theorem name_here {M:Model} {E:Value→Shared→Prop} {env:Env} {m:Str→Option Value} {y:Str} {pos:Pos} {v:Value} {Q:Value→Shared→Prop} (hk:env.scope.kind = .function) (hx:env.scope.names.lookup y=some .local) (hd:(y == ("__debug__" : Str))=false) (hns:s.heap.Ns env.locals m) (hv:m y=some v) (h:Q v s):wpAny M A (eval (.Name y pos) env) Q E s :=
  wpAny_Name (wpAny_loadName_local hk hx hns hv h) hd
theorem at_meth {c:Code} {E:Value→Shared→Prop} {s:Shared} {env:Env} {o:PySem.Expr} {name:Str} {apos pos:Pos} {args:List PySem.Expr} {Q:Value→Shared→Prop}
    (hfew:noStar args=true) (h30:args.length < 30) (hline:(apos.endLine == pos.line)=true)
    (h:_root_.PySem.wpAt (model prog w) A c (attributeBase o name env (eval o env)) (fun ov s₁=>∀ pl,wpAny (model prog w) A (getMethod ov name pl) (fun p s₂=>wpAny (model prog w) A (callWith pos p.1 p.2 (backTo pos (starEach args env)) []) Q E s₂) E s₁) E s) :
    _root_.PySem.wpAt (model prog w) A c (eval (.Call (.Attribute o name apos) args [] pos) env) Q E s:=by
  rw [arm_eval_Call]
  refine _root_.PySem.wpAt_bind (ks_wpAt_mono h (fun ov s₁ h₁=>?_) fun _ _ e=>e)
  refine _root_.PySem.wpAt_of_wpAny (wpAny_bind (wpAny_standAt ?_))
  have hform:methodCallForm (args.length + ([]:List Keyword).length) (backTo pos (starEach args env)) (backToKw pos (keywordEach [] env))=true:=by
    have h1:(backTo pos (starEach args env)).all (fun x => !x.1)=true:=by
      rw [noStar_each hfew]; unfold backTo; simp
    show ((backTo pos (starEach args env)).all (fun x => !x.1) && (List.all (backToKw pos (keywordEach [] env)) (fun x=>x.1.isSome)) && decide (args.length + 0 + 0 < 30))=true
    rw [h1]
    have:(List.all (backToKw pos (keywordEach [] env)) (fun x=>x.1.isSome))=true:=rfl
    rw [this]
    simpa using h30
  have hpos:methodCallPos true o env apos pos=pure pos:=by unfold methodCallPos; simp [hline]
  unfold methodCall
  rw [hform]
  refine wpAny_bind (wpAny_holding (wpAny_mono (h₁ _) (fun p s₂ h₂=>?_) fun _ _ e=>e))
  exact wpAny_bind (wpAny_of_eq hpos h₂)
theorem fd_init {v:Value} {t0:Addr} (G:Gd w hb K mg mb) (F:InitFacts prog K f D C cc cda name qual params scope "what" "what" p0 p1 p2 p3 p4 p5 p6 p7 p8 p9 dV kV doc pm ct an)
    (hbind:∀ x v,bindArgs (ksFn name qual params (initBody "what" "what" p0 p1 p2 p3 p4 p5 p6 p7 p8 p9) scope dV kV doc pm an (.ref cda) ct cc) ⟨[.ref x,v],[]⟩=pure [(("self" : Str),Value.ref x),(("what" : Str),v)])
    (X:XB bm) (hC:K.lookup C=some (excClassObj nm q C N bs bm hdct sn sub ab col dd k0 k1 k2 k3 k5 "Exception.__new__"))
    (hl:alongIn K "__init__" (((Value.ref C::bm).dropWhile (· != .ref D)).drop 1)=some (some (.builtin "Exception.__init__")))
    (up:∀ b o,hb.get? b=some o→s.heap.get? b=some o) (hxn:hb.get? x=none) (hx:s.heap.get? x=some (excAt C none t0)) (hroom:A.depth < recursionLimit)
    (hq:∀ h' t1 dx tk tk',h'.get? x=some (excAt C (some dx) t1)→h'.get? dx=some (dictOf [⟨PyData.keyHash w.params "what",.str "what" tk,v⟩] 1)→s.heap.objs.size≤dx→(∀ b o,b≠x→s.heap.get? b=some o→h'.get? b=some o)→R (.ok (.ret .none)) { s with heap:=h',toks:=tk' }) :
    codeAny (model prog w) A (.call (.ref f) ⟨[.ref x,v],[]⟩) R s:=by
  obtain ⟨oc,od,osl,ho⟩:=F.ho
  obtain ⟨ar,har,hself⟩:=F.first
  obtain ⟨ccl,cdd,vs,ccs,file,tf,hcode,hvs,hfile⟩:=F.code
  obtain ⟨cl,cld,csl,hcell⟩:=F.cell
  obtain ⟨cdD,hD⟩:=F.cls
  refine init_enter (binds:=[(("self" : Str),Value.ref x),(("what" : Str),v)]) G up ho F.hcd hroom (BindsTo.of_eq (hbind x v)) (fun y hy=>?_) (fun h₁ hns k1=>?_) F.cells F.co F.gen F.kind
  · simp only [List.mem_cons,List.not_mem_nil,or_false] at hy
    rcases hy with rfl | rfl
    · exact F.ss
    · exact F.sw
  obtain ⟨hh,g,d,t,os⟩:=s
  have hxne:x≠hh.objs.size:=Nat.ne_of_lt (Heap.lt_size hx)
  have XK:∀ {h':Heap},(∀ b o,hb.get? b=some o→h'.get? b=some o)→K.In h':=fun u b o e=>u b o (G.X b o e)
  have up1:∀ b o,hb.get? b=some o→h₁.get? b=some o:=fun b o e=>k1 _ _ (up b o e)
  have hx1:=k1 _ _ hx
  have hia:interactive (ksEnv qual scope hh.objs.size f (.ref cda) cc)=false:=by
    unfold interactive
    show (scope.kind == .module && _)=false
    rw [F.kind]; rfl
  refine ks_wpAt_execs_cons (ks_wpAt_Expr_any (at_meth rfl (Nat.lt_of_sub_pos (Nat.succ_pos _)) F.line (sup_node (m:=fun y=>List.lookup y [(("what" : Str),v),(("self" : Str),Value.ref x)]) G up1 hns ho har (by rw [hself]; rfl) (ox:=excAt C none t0) (odx:=none) ⟨hx1,rfl,rfl,trivial⟩ hcode hvs hfile hcell hD F.sub F.sup (by decide) F.sn F.sc (by rw [hself]; exact F.ss) F.kind F.top fun so h2 hso hge k2=>?_)) hia)
  intro pl
  have up2:∀ b o,hb.get? b=some o→h2.get? b=some o:=fun b o e=>k2 _ _ (up1 b o e)
  have hx2:=k2 _ _ hx1
  have hC2:=up2 _ _ (G.X _ _ hC)
  have hxC:x≠C:=fun e=>by
    have:=G.X _ _ hC
    rw [← e,hxn] at this; cases this
  refine sup_method X hso (looks_opaque (XK up2) F.nx) hx2 rfl hC2 rfl (XK up2) hl hxC (by decide) ?_
  have k3:∀ b o,h2.get? b=some o→(h2.push (mwObj x)).get? b=some o:=fun b o e=>Heap.get?_push_of_some _ e
  have hns3:(h2.push (mwObj x)).Ns hh.objs.size (fun y=>List.lookup y [(("what" : Str),v),(("self" : Str),Value.ref x)]):=hns.at fun o e=>k3 _ _ (k2 _ _ e)
  refine callWith_mw rfl (evalArgs_plain (args_cons (name_here F.kind F.sw (by decide) hns3 rfl (args_nil ⟨Heap.get?_push_size _ rfl,?_⟩)) rfl))
  refine mw_call (Heap.get?_push_size _ rfl) (k3 _ _ hx2) (k3 _ _ hC2) fun h4 g1 g2 g3=>?_
  have up4:∀ b o,hb.get? b=some o→h4.get? b=some o:=fun b o e=>g2 b o (fun q=>by rw [q,hxn] at e; cases e) (k3 _ _ (up2 b o e))
  have hns4:h4.Ns hh.objs.size (fun y=>List.lookup y [(("what" : Str),v),(("self" : Str),Value.ref x)]):=hns3.at fun o e=>g2 _ _ (Ne.symm hxne) e
  refine ks_wpAt_execs_cons (ks_wpAt_Assign_Attr (_root_.PySem.wpAt_of_wpAny (name_here F.kind F.sv F.vd hns4 rfl (name_here F.kind F.ss (by decide) hns4 rfl (exc_set1 F.sets (XK up4) g1 rfl rfl rfl fun h5 e1 e2 e3=>?_)))))
  refine _root_.PySem.wpAt_of_wpAny (wpAny_pure ?_)
  refine hq h5 _ _ _ _ e1 e2 (Nat.le_of_lt ?_) fun b o hb e=>e3 b o hb (g2 b o hb (k3 _ _ (k2 _ _ (k1 _ _ e))))
  obtain ⟨o,_,_,e,_⟩:=hns4
  exact Heap.lt_size e
variable {name2 qual2:Str} {params2:Arguments} {scope2:Scope} {dV2 kV2 doc2 pm2 ct2:Value} {an2:Option Addr} {f2 cc2 D2 cda2:Addr} {r0 r1 r2 r3 r4 r5 r6 r7 r8 r9:Pos}
theorem spot_init {v u:Value} {t0:Addr} (G:Gd w hb K mg mb) (F2:InitFacts prog K f2 D2 C cc2 cda2 name2 qual2 params2 scope2 "spot" "spot" r0 r1 r2 r3 r4 r5 r6 r7 r8 r9 dV2 kV2 doc2 pm2 ct2 an2)
    (hbind2:∀ x v u,bindArgs (ksFn name2 qual2 params2 (initBody "spot" "spot" r0 r1 r2 r3 r4 r5 r6 r7 r8 r9) scope2 dV2 kV2 doc2 pm2 an2 (.ref cda2) ct2 cc2) ⟨[.ref x,v,u],[]⟩=pure [(("self" : Str),Value.ref x),(("what" : Str),v),(("spot" : Str),u)])
    (hsm:alongIn K "__init__" (((Value.ref C::bm).dropWhile (· != .ref D2)).drop 1)=some (some (.ref f)))
    (F:InitFacts prog K f D C cc cda name qual params scope "what" "what" p0 p1 p2 p3 p4 p5 p6 p7 p8 p9 dV kV doc pm ct an)
    (hbind:∀ x v,bindArgs (ksFn name qual params (initBody "what" "what" p0 p1 p2 p3 p4 p5 p6 p7 p8 p9) scope dV kV doc pm an (.ref cda) ct cc) ⟨[.ref x,v],[]⟩=pure [(("self" : Str),Value.ref x),(("what" : Str),v)])
    (hfc:∃ of,K.lookup f=some of∧of.cls = .type "function")
    (X:XB bm) (hC:K.lookup C=some (excClassObj nm q C N bs bm hdct sn sub ab col dd k0 k1 k2 k3 k5 "Exception.__new__"))
    (hl:alongIn K "__init__" (((Value.ref C::bm).dropWhile (· != .ref D)).drop 1)=some (some (.builtin "Exception.__init__")))
    (up:∀ b o,hb.get? b=some o→s.heap.get? b=some o) (hxn:hb.get? x=none) (hx:s.heap.get? x=some (excAt C none t0)) (hroom:A.depth + 2 < recursionLimit)
    (hq:∀ h' t1 dx tk tk2 tk',h'.get? x=some (excAt C (some dx) t1)→h'.get? dx=some (dictOf [⟨PyData.keyHash w.params "what",.str "what" tk,v⟩,⟨PyData.keyHash w.params "spot",.str "spot" tk2,u⟩] 2)→s.heap.objs.size≤dx→(∀ b o,b≠x→s.heap.get? b=some o→h'.get? b=some o)→R (.ok (.ret .none)) { s with heap:=h',toks:=tk' }) :
    codeAny (model prog w) A (.call (.ref f2) ⟨[.ref x,v,u],[]⟩) R s:=by
  obtain ⟨oc,od,osl,ho⟩:=F2.ho
  obtain ⟨ar,har,hself⟩:=F2.first
  obtain ⟨ccl,cdd,vs,ccs,file,tf,hcode,hvs,hfile⟩:=F2.code
  obtain ⟨cl,cld,csl,hcell⟩:=F2.cell
  obtain ⟨cdD,hD⟩:=F2.cls
  obtain ⟨off,hof,hofc⟩:=hfc
  refine init_enter (binds:=[(("self" : Str),.ref x),(("what" : Str),v),(("spot" : Str),u)]) G up ho F2.hcd (by omega) (BindsTo.of_eq (hbind2 x v u)) (fun y hy=>?_) (fun h₁ hns k1=>?_) F2.cells F2.co F2.gen F2.kind
  · simp only [List.mem_cons,List.not_mem_nil,or_false] at hy
    rcases hy with rfl | rfl | rfl
    · exact F2.ss
    · exact F2.sw
    · exact F2.sv
  obtain ⟨hh,g,d,t,os⟩:=s
  have hxne:x≠hh.objs.size:=Nat.ne_of_lt (Heap.lt_size hx)
  have XK:∀ {h':Heap},(∀ b o,hb.get? b=some o→h'.get? b=some o)→K.In h':=fun u b o e=>u b o (G.X b o e)
  have up1:∀ b o,hb.get? b=some o→h₁.get? b=some o:=fun b o e=>k1 _ _ (up b o e)
  have hx1:=k1 _ _ hx
  have hia:interactive (ksEnv qual2 scope2 hh.objs.size f2 (.ref cda2) cc2)=false:=by
    unfold interactive
    show (scope2.kind == .module && _)=false
    rw [F2.kind]; rfl
  refine ks_wpAt_execs_cons (ks_wpAt_Expr_any (at_meth rfl (Nat.lt_of_sub_pos (Nat.succ_pos _)) F2.line (sup_node (m:=fun y=>List.lookup y [(("spot" : Str),u),(("what" : Str),v),(("self" : Str),Value.ref x)]) G up1 hns ho har (by rw [hself]; rfl) (ox:=excAt C none t0) (odx:=none) ⟨hx1,rfl,rfl,trivial⟩ hcode hvs hfile hcell hD F2.sub F2.sup (by decide) F2.sn F2.sc (by rw [hself]; exact F2.ss) F2.kind F2.top fun so h2 hso hge k2=>?_)) hia)
  intro pl
  have up2:∀ b o,hb.get? b=some o→h2.get? b=some o:=fun b o e=>k2 _ _ (up1 b o e)
  have hx2:=k2 _ _ hx1
  have hC2:=up2 _ _ (G.X _ _ hC)
  have hxC:x≠C:=fun e=>by
    have:=G.X _ _ hC
    rw [← e,hxn] at this; cases this
  refine ks_wpAny_getMethod_super hso (looks_opaque (XK up2) F2.nx) (l₀:=.ref C::bm) (fun A Q E s k q=>wpAny_mroOf_exc (k _ _ hC2) q) rfl (XK up2) hsm (up2 _ _ (G.X _ _ hof)) hofc hxC (by decide) ?_
  have k3:∀ b o,h2.get? b=some o→(h2.push { cls:=.type "method",data:=.fields #[.ref f,.ref x] }).get? b=some o:=fun b o e=>Heap.get?_push_of_some _ e
  have up3:∀ b o,hb.get? b=some o→(h2.push { cls:=.type "method",data:=.fields #[.ref f,.ref x] }).get? b=some o:=fun b o e=>k3 _ _ (up2 b o e)
  have hns3:(h2.push { cls:=.type "method",data:=.fields #[.ref f,.ref x] }).Ns hh.objs.size (fun y=>List.lookup y [(("spot" : Str),u),(("what" : Str),v),(("self" : Str),Value.ref x)]):=hns.at fun o e=>k3 _ _ (k2 _ _ e)
  obtain ⟨_,_,_,ho'⟩:=F.ho
  refine callWith_of (P:=MethP K h2.objs.size f (.ref x)) rfl (keeps_M (by unfold fnIn; rw [ho'])) (evalArgs_plain (args_cons (name_here F2.kind F2.sw (by decide) hns3 rfl (args_nil ⟨⟨Heap.get?_push_size _ rfl,XK up3⟩,wpAny_call ?_⟩)) rfl))
  refine ks_codeAny_call_bound (Heap.get?_push_size _ rfl) (fd_init G F hbind X hC hl up3 hxn (k3 _ _ hx2) ?_ fun h4 t1 dx tk tk' g1 gd gl g2=>?_)
  · show A.depth + 1 < recursionLimit
    omega
  have up4:∀ b o,hb.get? b=some o→h4.get? b=some o:=fun b o e=>g2 b o (fun q=>by rw [q,hxn] at e; cases e) (k3 _ _ (up2 b o e))
  have hns4:h4.Ns hh.objs.size (fun y=>List.lookup y [(("spot" : Str),u),(("what" : Str),v),(("self" : Str),Value.ref x)]):=hns3.at fun o e=>g2 _ _ (Ne.symm hxne) e
  refine ks_wpAt_execs_cons (ks_wpAt_Assign_Attr (_root_.PySem.wpAt_of_wpAny (name_here F2.kind F2.sv F2.vd hns4 rfl (name_here F2.kind F2.ss (by decide) hns4 rfl (exc_set2 F2.sets (XK up4) g1 rfl rfl rfl gd rfl rfl (Nat.le_of_ble_eq_true rfl) fun h5 e2 e3=>?_)))))
  refine _root_.PySem.wpAt_of_wpAny (wpAny_pure ?_)
  have hsz:hh.objs.size < (h2.push { cls:=.type "method",data:=.fields #[.ref f,.ref x] }).objs.size:=by
    obtain ⟨o,_,_,e,_⟩:=hns3
    exact Heap.lt_size e
  have hd:∀ b o,hh.get? b=some o→b≠dx:=fun b o e q=>by
    have l1:=Heap.lt_size e
    rw [q] at l1
    exact Nat.lt_irrefl _ (Nat.lt_of_lt_of_le (Nat.lt_trans l1 hsz) gl)
  refine hq h5 _ _ _ _ _ (e3 _ _ (hd _ _ hx) g1) e2 (Nat.le_of_lt (Nat.lt_of_lt_of_le hsz gl)) fun b o hb e=>e3 b o (hd b o e) (g2 b o hb (k3 _ _ (k2 _ _ (k1 _ _ e))))
end
end Mine
namespace Mine
open PySem PySem.Calls PySem.W PyProof.Rows PySem.SeqAt Builtin Builtin.ObjectAttr
open Sem (wp)
abbrev faultDict (P:Params) (v u:Value) (tk tk2:Tok):Obj:=dictOf [⟨PyData.keyHash P "what",.str "what" tk,v⟩,⟨PyData.keyHash P "spot",.str "spot" tk2,u⟩] 2
def KFMade (prog:Program) (w:World) (hb:Heap) (C:Addr):Prop :=
  ∀ (A:Around) (s:Shared) (v u:Value) (Q:Value→Shared→Prop) (E:Value→Shared→Prop),A.depth + 5 < recursionLimit→(∀ b o,hb.get? b=some o→s.heap.get? b=some o) →
    (∀ h' e dx t1 tk tk2 tk',h'.get? e=some (excAt C (some dx) t1)→h'.get? dx=some (faultDict w.params v u tk tk2)→s.heap.objs.size≤e→s.heap.objs.size≤dx→e≠dx→(∀ b o,s.heap.get? b=some o→h'.get? b=some o)→Q (.ref e) { s with heap:=h',toks:=tk' }) →
    wpAny (model prog w) A (call (.ref C) [v,u]) Q E s
section
variable {prog:Program} {w:World} {hb:Heap} {mg mb:Str→Option Value} {K:Frag}
  {name qual:Str} {params:Arguments} {scope:Scope} {dV kV doc pm ct:Value} {an:Option Addr} {f cc C D cda:Addr} {p0 p1 p2 p3 p4 p5 p6 p7 p8 p9:Pos}
  {nm q:Str} {N:Addr} {bs bm:List Value} {hdct:Bool} {sn:List Str} {sub:List Value} {ab:Bool} {col:Option Bool} {dd:Option Addr} {k0 k1 k2 k3 k5:Option Value}
variable {name2 qual2:Str} {params2:Arguments} {scope2:Scope} {dV2 kV2 doc2 pm2 ct2:Value} {an2:Option Addr} {f2 cc2 D2 cda2:Addr} {r0 r1 r2 r3 r4 r5 r6 r7 r8 r9:Pos}
theorem kf_made (G:Gd w hb K mg mb) (F2:InitFacts prog K f2 D2 C cc2 cda2 name2 qual2 params2 scope2 "spot" "spot" r0 r1 r2 r3 r4 r5 r6 r7 r8 r9 dV2 kV2 doc2 pm2 ct2 an2)
    (hbind2:∀ x v u,bindArgs (ksFn name2 qual2 params2 (initBody "spot" "spot" r0 r1 r2 r3 r4 r5 r6 r7 r8 r9) scope2 dV2 kV2 doc2 pm2 an2 (.ref cda2) ct2 cc2) ⟨[.ref x,v,u],[]⟩=pure [(("self" : Str),Value.ref x),(("what" : Str),v),(("spot" : Str),u)])
    (hsm:alongIn K "__init__" (((Value.ref C::bm).dropWhile (· != .ref D2)).drop 1)=some (some (.ref f)))
    (F:InitFacts prog K f D C cc cda name qual params scope "what" "what" p0 p1 p2 p3 p4 p5 p6 p7 p8 p9 dV kV doc pm ct an)
    (hbind:∀ x v,bindArgs (ksFn name qual params (initBody "what" "what" p0 p1 p2 p3 p4 p5 p6 p7 p8 p9) scope dV kV doc pm an (.ref cda) ct cc) ⟨[.ref x,v],[]⟩=pure [(("self" : Str),Value.ref x),(("what" : Str),v)])
    (hfc:∃ of,K.lookup f=some of∧of.cls = .type "function") (hfc2:∃ of,K.lookup f2=some of∧of.cls = .type "function") (hi:findIn K (.ref C) "__init__" = some (some (.ref f2)))
    (X:XB bm) (hC:K.lookup C=some (excClassObj nm q C N bs bm hdct sn sub ab col dd k0 k1 k2 k3 k5 "Exception.__new__"))
    (hl:alongIn K "__init__" (((Value.ref C::bm).dropWhile (· != .ref D)).drop 1)=some (some (.builtin "Exception.__init__"))):KFMade prog w hb C:=fun A s v u Q E hd up hq=>by
  have XK:∀ {h':Heap},(∀ b o,hb.get? b=some o→h'.get? b=some o)→K.In h':=fun u b o e=>u b o (G.X b o e)
  obtain ⟨of2,hof2,hofc2⟩:=hfc2
  obtain ⟨hh,g,d,t,os⟩:=s
  refine exc_call X (up _ _ (G.X _ _ hC)) (looks_findIn (XK up) hi) (up _ _ (G.X _ _ hof2)) hofc2 (wpAny_call ?_) (by show (2:Nat)≤sizeLine; rw [sizeLine_eq]; omega)
  have k:∀ b o,hh.get? b=some o→((hh.push (argsObj [v,u])).push (excObj C hh.objs.size)).get? b=some o:=fun b o e=>Heap.get?_push_of_some _ (Heap.get?_push_of_some _ e)
  have hx:((hh.push (argsObj [v,u])).push (excObj C hh.objs.size)).get? (hh.objs.size + 1)=some (excObj C hh.objs.size):=by heap_get
  have nox:∀ {b:Addr} {o:Obj},hh.get? b=some o→b≠hh.objs.size + 1:=fun e q=>by
    have:=Heap.lt_size e
    rw [q] at this
    exact absurd this (Nat.not_lt_of_le (Nat.le_succ _))
  refine spot_init G F2 hbind2 hsm F hbind hfc X hC hl (fun b o e=>k _ _ (up b o e)) ?_ hx ?_ fun h' t1 dx tk tk2 tk' g1 g2 g3 g4=>⟨rfl,?_⟩
  · cases e:hb.get? (hh.objs.size + 1) with
    | none=>rfl
    | some o=>exact absurd rfl (nox (up _ _ e))
  · show A.depth + 1 + 2 < recursionLimit
    omega
  · rw [Heap.size_push,Heap.size_push] at g3
    have g3:(hh.objs.size:Nat) + 1 + 1≤(dx:Nat):=g3
    refine hq h' _ dx t1 tk tk2 tk' g1 g2 (Nat.le_succ _) ?_ ?_ fun b o e=>g4 b o (nox e) (k _ _ e)
    · show (hh.objs.size:Nat)≤(dx:Nat)
      omega
    · intro q
      have q:(hh.objs.size:Nat) + 1=(dx:Nat):=q
      omega
end
end Mine
namespace Mine
open PySem PySem.Calls PySem.W PyProof.Rows PySem.SeqAt
open Sem (wp)
section
variable {prog:Program} {w:World} {hb:Heap} {T:Tab} {Nn:Nat} {sc:Scope} {mg mb:Str→Option Value} {K:Frag}
  {nm' q:Str} {C N:Addr} {bs bm:List Value} {hdct:Bool} {sn:List Str} {sub:List Value} {ab:Bool} {col:Option Bool} {dd:Option Addr} {k0 k1 k2 k3 k5:Option Value}
theorem raise_made {M:Model} {A:Around} {E:Value→Shared→Prop} {env:Env} {s:Shared} {x:Sem Value} {Q:Flow→Shared→Prop} (X:XB bm)
    (h:wpAny M A x (fun v s₁=>A.handled=none∧∃ e dx t,v = .ref e∧s₁.heap.get? C=some (excClassObj nm' q C N bs bm hdct sn sub ab col dd k0 k1 k2 k3 k5 "Exception.__new__") ∧
      s₁.heap.get? e=some (excAt C dx t)∧E (.ref e) s₁) E s) :
    wpAny M A (raiseStmt env (some x) none) Q E s:=by
  have hcB:(Value.ref C::bm).contains (.type "BaseException")=true:=by rw [List.contains_cons,X.hasBase,Bool.or_true]
  unfold raiseStmt
  refine wpAny_bind (wpAny_mono h (fun v s₁ h₁=>?_) fun _ _ x=>x)
  obtain ⟨hh,e,dx,t,rfl,hC,he,hE⟩:=h₁
  obtain ⟨hp,g,d,tk,os⟩:=s₁
  repeat (first | with_reducible refine wpAny_loadPart_at he ?_ | with_reducible refine wpAny_loadPart_at hC ?_ | (with_reducible refine wpAny_isSubtype_exc hC ?_; rw [hcB]) | wp_step)
  exact wpAny_raiseNew_none hh hE
theorem SS_raise {x:Str} {np cpos pos:Pos} {msg spot:PySem.Expr} {mm ms:ME} (G:Gd w hb K mg mb) (KM:KFMade prog w hb kfA) (X:XB bm) (hC:K.lookup kfA=some (excClassObj nm' q kfA N bs bm hdct sn sub ab col dd k0 k1 k2 k3 k5 "Exception.__new__")) (hk:keepIn K (.ref kfA)=true)
    (hx:sc.names.lookup x=some .globalImplicit) (hv:nsIn K mainGlobals x=some (some (.ref kfA))) (hd:(x == ("__debug__" : Str))=false) (h1:SE prog w hb T Nn sc msg mm) (h2:SE prog w hb T Nn sc spot ms) (hs:noStar [msg,spot]=true) :
    SS prog w hb T Nn sc (.Raise (some (.Call (.Name x np) [msg,spot] [] cpos)) none pos) (.raise mm ms):=fun A env Pv vars B ρ σ s cx o Q E h=>by
  unfold execM at h
  rw [arm_exec_Raise]
  simp only [noStar,List.all_cons,List.all_nil,Bool.and_true,Bool.and_eq_true,Bool.not_eq_true'] at hs
  refine wpAny_bind (wpAny_standAt (raise_made (C:=kfA) (nm':=nm') (q:=q) (N:=N) (bs:=bs) (bm:=bm) (hdct:=hdct) (sn:=sn) (sub:=sub) (ab:=ab) (col:=col) (dd:=dd) (k0:=k0) (k1:=k1) (k2:=k2) (k3:=k3) (k5:=k5) X ?_))
  refine wpAny_bind (wpAny_mono (Q:=fun v s₁=>A.handled=none∧∃ e dx t,v = .ref e∧s₁.heap.get? kfA=some (excClassObj nm' q kfA N bs bm hdct sn sub ab col dd k0 k1 k2 k3 k5 "Exception.__new__") ∧
      s₁.heap.get? e=some (excAt kfA dx t)∧E (.ref e) s₁) ?_ (fun v s₃ h₃=>wpAny_bind (wpAny_standAt (wpAny_pure h₃))) fun _ _ x=>x)
  have he1:starEach (msg::[spot]) env=(false,eval msg env)::starEach [spot] env:=by cases msg <;> first | rfl | cases hs.1
  have he2:starEach (spot::[]) env=(false,eval spot env)::starEach [] env:=by cases spot <;> first | rfl | cases hs.2
  refine Call_ (globName G cx.cx o.1 hx hv hd (callWith_K (h₀:=hb) G.X hk (args_cons (h1 A env Pv vars B ρ σ s cx.cx o _ _ (ES.bind h fun m σ₁ b B₁ ρ₁ s₁ hm e₁ o₁ t₁ d₁ h₁=>?_)) he1) he1 ?_))
  · refine args_cons (h2 A env Pv vars B₁ ρ₁ σ₁ s₁ cx.cx o₁ _ _ (ES.bind h₁ fun u σ₂ c B₂ ρ₂ s₂ hm₂ e₂ o₂ t₂ d₂ h₂=>args_nil ⟨fun b o' e=>o₂.1.stays b o' (G.X b o' e),?_⟩)) he2
    split at h₂
    · rename_i i _
      split at h₂
      · rename_i hrs
        refine KM A s₂ b c _ _ ?_ (fun b o' e=>o₂.1.stays b o' e) fun h' e dx t1 tk tk2 tk' g1 g2 g3 g4 g5 g6=>?_
        · have:=cx.cx.dep
          show A.depth + 5 < recursionLimit
          have:recursionLimit=1000:=rfl
          omega
        · refine ⟨cx.cx.hnd hrs,e,_,_,rfl,g6 _ _ (o₂.1.stays _ _ (G.X _ _ hC)),g1,?_⟩
          have own:=o₂.later g4
          have owe:=o₂.later g3
          obtain ⟨o3,e3⟩:=(o₂.keep g6).ownF own g2
          cases d₂
          refine h₂ (.ref e) _ _ { s₂ with heap:=h',toks:=tk' } e3 o3 ⟨rfl,rfl⟩ ⟨e,dx,_,_,_,_,⟨rfl,g1,rfl,rfl,rfl,Nat.le_of_ble_eq_true rfl,?_,owe.p,frzAt_self _ _,⟨_,rfl⟩⟩,.inl ⟨rfl,rfl⟩⟩
          unfold frzAt
          rw [if_neg g5]
          exact owe.b
      · exact h₂.elim
    · exact h₂.elim
  · rw [he2]; rfl
end
end Mine
namespace Mine
open PySem PySem.Calls PySem.W PyProof.Rows PySem.SeqAt Builtin Builtin.ObjectAttr
open Sem (wp)
theorem bexc_ga_bind (self:Value):bindSpecial (.builtin "BaseException.__getattribute__") self=pure (.builtin "BaseException.__getattribute__",[self]) :=
  PySem.F.excAttr_ValueError.ga.bind self
section
variable {prog:Program} {w:World} {A:Around} {E:Value→Shared→Prop} {h:Heap} {g:Array GenState} {d:Drawn} {t:Nat} {os:OsState} {K:Frag}
  {nm' q:Str} {C N:Addr} {bs bm:List Value} {hdct:Bool} {sn:List Str} {sub:List Value} {ab:Bool} {col:Option Bool} {dd:Option Addr} {k0 k1 k2 k3 k5:Option Value}
theorem exc_get {x:Addr} {ox:Obj} {od:Option Obj} {name:Str} {v:Value} {expr:Bool} {Q:Value→Shared→Prop} (XK:K.In h) (I:InstAt h x ox C od) (hsub:mroIn K C (.type "BaseException")=some true)
    (hga:findIn K (.ref C) "__getattribute__" = some (some (.builtin "BaseException.__getattribute__"))) (hgn:findIn K (.ref C) "__getattr__" = some none)
    (hf:findObj K C od name=some (.value v)) (hh:handedIn v=true) (hq:Q v ⟨h,g,d,t + 1,os⟩):wpAny (model prog w) A (getAttr (.ref x) name expr) Q E ⟨h,g,d,t,os⟩:=by
  have L0:=I.type (M:=model prog w)
  have L1:=looks_findIn (M:=model prog w) XK hga
  have L2:=looks_findIn (M:=model prog w) XK hgn
  have L3:=looks_find (M:=model prog w) XK I hf
  have sub':Looks (model prog w) h (isInstance (.ref x) (.type "BaseException")) true:=L0.andThen (looks_mroIn XK hsub)
  have f3:=bexc_ga_bind (.ref x)
  have hx0:(expr && onTheHeap (Value.builtin "BaseException.__getattribute__"))=false:=by cases expr <;> rfl
  have hx2:(Value.builtin "BaseException.__getattribute__" == Value.builtin "object.__getattribute__")=false:=by decide +kernel
  have hx1:(onTheHeap (Value.ref C) && Value.builtin "BaseException.__getattribute__" == Value.builtin "object.__getattribute__")=false:=by rw [hx2]; rfl
  have hk:builtinKind "BaseException.__getattribute__" = some .slot:=by decide +kernel
  have hsplit:splitId "BaseException.__getattribute__" = some ("BaseException","__getattribute__"):=by decide +kernel
  unfold getAttr getAttrBy
  refine wpAny_bind (wpAny_mkText (wpAny_holding (wpAny_bind (L0.at (wpAny_bind (L1.at ?_))))))
  show wpAny _ _ (getAttrByItsOwn (.ref x) (.str name t) (.ref C) (.builtin "BaseException.__getattribute__") true expr) _ _ _
  unfold getAttrByItsOwn hookBefore callGetattribute boundAndCalled
  repeat (first | (with_reducible refine L0.at ?_) | (with_reducible refine L1.at ?_) | (with_reducible refine L2.at ?_) | wp_step)
  show codeAny (model prog w) A (.call (.builtin "BaseException.__getattribute__") ⟨[.ref x,.str name t],[]⟩) _ _
  refine codeAny_call_builtin PySem.F.excAttr_ValueError.ga.plain PySem.F.entry_bexc_ga (@check_slot (model prog w) _ _ ⟨h,g,d,t + 1,os⟩ "BaseException.__getattribute__" "BaseException" "__getattribute__" (.ref x) [.str name t] [] _ hk hsplit sub' (PySem.F.args_bexc_ga (.ref x) (.str name t)) ?_)
  unfold Builtin.«object.__getattribute__»
  repeat (first | (with_reducible refine L0.at ?_) | (with_reducible refine L3.at ?_) | wp_step)
  show wpAny _ _ (handedOut v) _ _ _
  rw [handedOut_of hh]
  exact wpAny_pure hq
end
end Mine
namespace Mine
open PySem PySem.Calls PySem.W PyProof.Rows PySem.SeqAt
open Sem (wp)
theorem putA_cons (y:Nat) (l:LV) (a:Nat) (u:LV) (r:List (Nat × LV)):putA y l ((a,u)::r)=if a=y then (a,l)::r else (a,u)::putA y l r:=rfl
theorem put_filter {x y:Nat} (l:LV) (hne:y≠x):∀ (vars:Loc),(putA y l vars).filter (fun e=>e.1 != x)=putA y l (vars.filter fun e=>e.1 != x)
  | []=>by
    show ([(y,l)]:Loc).filter _=_
    rw [List.filter_cons_of_pos (by simpa using hne)]; rfl
  | (a,u)::r=>by
    rw [putA_cons]
    by_cases ha:a=y
    · subst ha
      rw [if_pos rfl,List.filter_cons_of_pos (by simpa using hne),List.filter_cons_of_pos (by simpa using hne),putA_cons,if_pos rfl]
    · rw [if_neg ha]
      by_cases hx:a=x
      · subst hx
        rw [List.filter_cons_of_neg (by simp),List.filter_cons_of_neg (by simp),put_filter l hne r]
      · rw [List.filter_cons_of_pos (by simpa using hx),List.filter_cons_of_pos (by simpa using hx),put_filter l hne r,putA_cons,if_neg ha]
section
variable {P:Params} {hb h h':Heap} {B:Frz} {Pv:Prv} {ρ:Nat→Addr} {σ:Sto} {env:Env} {vars:Loc} {m cm:Str→Option Value}
theorem OkE.less {x:Nat} (o:OkE P hb env Pv vars B ρ σ h):OkE P hb env Pv (vars.filter fun e=>e.1 != x) B ρ σ h:=by
  obtain ⟨st,m,cm,y⟩:=o
  exact ⟨st,m,cm,y.ns,y.frL,y.cell,fun k l z hz hn=>y.vals k l z (lookA_filter' (p:=fun a=>a != x) hz).2 hn⟩
theorem lc_free {vo:Option Value} {x:Str} {k:Nat} (st:St P hb B Pv ρ σ h) (y:Lc P env B Pv ρ σ.length vars h m cm) (hs:Heap.SameBut env.locals h h') (hn:h'.Ns env.locals (fun z=>if z=x then vo else m z)) (hx:nm k=some x)
    (no:∀ l,lookA k vars≠some l):St P hb B Pv ρ σ h' ∧ Lc P env B Pv ρ σ.length vars h' (fun z=>if z=x then vo else m z) cm:=by
  refine ⟨st.setL y hs,hn,y.frL,fun z c q=>⟨?_,(y.cell z c q).2⟩,fun k' l' z hz hnm=>?_⟩
  · obtain ⟨o,ho,hd⟩:=(y.cell z c q).1
    refine ⟨o,(hs.2 c fun w=>?_).trans ho,hd⟩
    obtain ⟨o',es,ep,ho',hd',_⟩:=y.ns
    rw [← w,ho] at ho'; cases ho'; rw [hd] at hd'; cases hd'
  · have hxz:z≠x:=fun e=>by
      subst e
      have:=nm_inj hnm hx
      subst this
      exact no _ hz
    have:=y.vals k' l' z hz hnm
    unfold ValAt at this ⊢
    simp only [if_neg hxz]
    exact this
end
section
variable {prog:Program} {w:World} {hb:Heap} {T:Tab} {Nn:Nat} {sc:Scope} {mg mb:Str→Option Value} {K:Frag}
  {nm' q:Str} {N:Addr} {bs bm:List Value} {hdct:Bool} {sn:List Str} {sub:List Value} {ab:Bool} {col:Option Bool} {dd:Option Addr} {k0 k1 k2 k3 k5:Option Value}
structure Caught (K:Frag):Prop where
  sub:mroIn K kfA (.type "BaseException")=some true
  ga:findIn K (.ref kfA) "__getattribute__" = some (some (.builtin "BaseException.__getattribute__"))
  gn:findIn K (.ref kfA) "__getattr__" = some none
  no:findIn K (.ref kfA) "spot" = some none
  dct:hasDictIn K kfA=true
theorem SS_tryE {body:List Stmt} {mbd:MSs} {c:Str} {fx told:Str} {x y:Nat} {np p1 p2 p3 p4 p5 p6 hpos pos:Pos} {kk:Nat} (G:Gd w hb K mg mb) (X:XB bm) (hC:K.lookup kfA=some (excClassObj nm' q kfA N bs bm hdct sn sub ab col dd k0 k1 k2 k3 k5 "Exception.__new__"))
    (Ct:Caught K) (hB:SSs prog w hb T Nn sc body mbd) (hx:nm x=some fx) (hy:nm y=some told) (hne:y≠x)
    (hcx:sc.names.lookup c=some .globalImplicit) (hcv:nsIn K mainGlobals c=some (some (.ref kfA))) (hcd:(c == ("__debug__" : Str))=false)
    (hfl:sc.names.lookup fx=some .local) (htl:sc.names.lookup told=some .local)
    (he:∀ env,eval (.Attribute (.Name fx p1) "spot" p2) env=(do
      let o ← eval (.Name fx p1) env
      standAt p2.atName
      let r ← holding [o] (getAttr o "spot" true)
      letTemporaryGo (.Name fx p1) o r
      pure r)) (hs:∀ env,swapsWith (.Tuple [.Constant .none 0 p3,.Attribute (.Name fx p1) "spot" p2] kk p4) (some (.Name told p5)) p6.line env=pure false) :
    SS prog w hb T Nn sc (.Try body [.ExceptHandler (some (.Name c np)) (some fx) [.Assign [.Name told p5] (.Tuple [.Constant .none 0 p3,.Attribute (.Name fx p1) "spot" p2] kk p4) p6] hpos] [] [] pos) (.tryE mbd x y):=fun A env Pv vars B ρ σ s cx o Q E h=>by
  unfold execM at h
  refine wpAny_Try_except (hB A env Pv vars B ρ σ s cx o _ _ ?_)
  unfold ES
  cases hm:execMs T mbd vars σ with
  | none=>rw [hm] at h; exact h
  | some p =>
    obtain ⟨f,ρ1,σ1⟩:=p
    rw [hm] at h
    cases f with
    | next=>exact fun B₁ ρa s₁ e₁ o₁ t₁=>wpAny_execs_nil (h B₁ ρa s₁ e₁ o₁ t₁)
    | ret l=>exact fun v B₁ ρa s₁ e₁ o₁ t₁ d₁=>h v B₁ ρa s₁ e₁ o₁ t₁ d₁
    | exc i =>
      intro ev B₁ ρa s₁ e₁ o₁ t₁ X₁
      dsimp only at h
      rw [put_filter _ hne] at h
      have hkf:env.scope.kind = .function:=by rw [cx.cx.esc,cx.cx.kind]
      have hlf:env.kindOf fx=some .local:=by unfold Env.kindOf; rw [cx.cx.esc]; exact hfl
      have hlt:env.kindOf told=some .local:=by unfold Env.kindOf; rw [cx.cx.esc]; exact htl
      have hnp:(env.scope.kind == .class || (env.scope.kind == .module && env.locals != env.globals))=false:=by rw [hkf]; rfl
      refine x_note' cx.cx.frm o₁ X₁ fun h2 o2 X2=>?_
      obtain ⟨hnb,_⟩:=fault_owns o2 X2
      refine x_setFlight' (s:={ s₁ with heap:=h2 }) o2 X2 fun h3 o3 X3=>?_
      have up3:∀ b o',hb.get? b=some o' → h3.get? b=some o':=fun b o' e=>o3.1.stays b o' e
      obtain ⟨a,d,oe,vs,es,k,XA,_⟩:=id X3
      have hev:=XA.isRef
      subst hev
      refine wpAny_handleBy_cons (codeAny_handlers_test (Name_function_global hkf (by unfold Env.kindOf; rw [cx.cx.esc]; exact hcx) (loadGlobal_global (by rw [cx.cx.glob]; exact G.g.keeps up3) (mg_of G.X G.g hcv) ?_) hcd)) hnb
      refine wpAny_excMatches_sub_self (h:=h3) (g:=s₁.gens) (d:=s₁.drawn) (t:=s₁.toks) (os:=s₁.os) (up3 _ _ (G.X _ _ hC)) XA.get XA.cls X.hasBase (codeAny_handlers_suite_as ?_)
      refine x_setFlight' (s:={ s₁ with heap:=h3 }) o3 X3 fun h4 o4 X4=>?_
      clear XA
      obtain ⟨a',d,oe,vs,es,k,XA,tr⟩:=X4
      have ha:a' = a:=by have:=XA.isRef; cases this; rfl
      subst ha
      obtain ⟨st4,m,cm,y4⟩:=OkE.less (x:=x) o4
      have noX:∀ l,lookA x (ρ1.filter fun e=>e.1 != x)≠some l:=fun l q=>by
        have:=(lookA_filter' (p:=fun a=>a != x) q).1
        simp at this
      refine wpAny_storeName_local (s:={ s₁ with heap:=h4 }) hlf y4.ns (fun h5 hn5 hs5=>?_) hnp
      obtain ⟨st5,y5⟩:=lc_free st4 y4 hs5 hn5 hx noX
      have o5:OkE w.params hb env Pv (ρ1.filter fun e=>e.1 != x) B₁ ρa σ1 h5:=⟨st5,_,cm,y5⟩
      have hal:a' ≠ env.locals:=(own_fields o4 XA.freshB XA.freshP XA.get XA.data).l
      have g5:h5.get? a' = some oe:=(hs5.2 a' hal).trans XA.get
      have D5:h5.get? d=some (dictOf es k):=st5.frz _ _ XA.dic
      obtain ⟨ts,hspot⟩:=XA.spot
      have hdx:(fx == ("__debug__" : Str))=false:=(nm_debug hx).1
      have hfind:findObj K kfA (some (dictOf es k)) "spot" = some (.value (.int i ts)):=findObj_own Ct.dct Ct.no rfl (by
        show (match es.toArray.toList.find? (·.key.isStr "spot") with
          | some e=>some (some e.val)
          | none=>if es.toArray.toList.any (·.refKey) then none else some none)=_
        cases hes:es.find? (·.key.isStr "spot") with
        | none=>rw [hes] at hspot; cases hspot
        | some e0 =>
          rw [hes] at hspot
          have:e0.val = .int i ts:=Option.some.inj hspot
          show some (some e0.val)=_
          rw [this])
      refine wpAny_execs_cons (wpAny_Assign_Name (wpAny_Tuple (args_cons (wpAny_Constant_none (args_cons (Attribute_any_ (wpAny_Name (wpAny_loadName_local (s:=⟨h5,s₁.gens,s₁.drawn,s₁.toks + 1,s₁.os⟩) hkf hlf hn5 (v:=.ref a') (if_pos rfl) ?_) hdx) (he env)) rfl)) rfl)) (hs env))
      refine exc_get (fun b o' e=>o5.1.stays b o' (G.X b o' e)) ⟨g5,XA.cls,by unfold notCls; rw [XA.data],by rw [XA.dict]; exact D5⟩ Ct.sub Ct.ga Ct.gn hfind rfl (args_nil ⟨by show (2:Nat)≤sizeLine; rw [sizeLine_eq]; omega,?_⟩)
      have o6:=o5.pushF (tupO [.none,.int i ts] 0)
      have e6:Ext B₁ ρa σ1.length (frzAt B₁ h5.objs.size (tupO [.none,.int i ts] 0)) ρa σ1.length:=ext_frzAt o5.1.newB
      have d6:Den w.params (frzAt B₁ h5.objs.size (tupO [.none,.int i ts] 0)) ρa σ1.length (.ref h5.objs.size) (.tup [.none,.int i]):=.tup (frzAt_self _ _) (.cons .none (.cons (.int i ts) .nil))
      obtain ⟨st6,m6,cm6,y6⟩:=o6
      refine wpAny_storeName_local (s:=⟨h5.push (tupO [.none,.int i ts] 0),s₁.gens,s₁.drawn,s₁.toks + 1 + 1,s₁.os⟩) hlt y6.ns (fun h7 hn7 hs7=>?_) hnp
      obtain ⟨st7,m7,cm7,y7⟩:=OkE.stLocal st6 y6 hs7 hn7 hlt hy d6
      have noX7:∀ l,lookA x (putA y (.tup [.none,.int i]) (ρ1.filter fun e=>e.1 != x))≠some l:=fun l q=>by
        rcases lookA_put q with ⟨q1,_⟩ | ⟨_,q2⟩
        · exact hne q1.symm
        · exact noX l q2
      refine wpAny_execs_nil ?_
      refine wpAny_bind (wpAny_bindName (wpAny_storeName_local (s:=⟨h7,s₁.gens,s₁.drawn,s₁.toks + 1 + 1 + 1,s₁.os⟩) hlf y7.ns (fun h8 hn8 hs8=>?_) hnp))
      obtain ⟨st8,y8⟩:=lc_free st7 y7 hs8 hn8 hx noX7
      unfold unbindBehindTheSuite
      refine wpAny_onRaise (wpAny_unbindName_local (s:=⟨h8,s₁.gens,s₁.drawn,s₁.toks + 1 + 1 + 1 + 1,s₁.os⟩) hlf hn8 (v:=.none) (if_pos rfl) hnp fun h9 u hn9 hs9=>?_)
      obtain ⟨st9,y9⟩:=lc_free st8 y8 hs9 hn9 hx noX7
      exact h _ _ { s₁ with heap:=h9,toks:=s₁.toks + 1 + 1 + 1 + 1 } (e₁.trans e6) ⟨st9,_,_,y9⟩ (t₁.trans ⟨rfl,rfl⟩)
end
end Mine
namespace Mine
open PySem PySem.Calls PySem.W PyProof.Rows PySem.SeqAt
theorem St.later {P:Params} {hb h:Heap} {B:Frz} {Pv:Prv} {ρ:Nat→Addr} {σ:Sto} (st:St P hb B Pv ρ σ h) {d:Addr} (q:h.objs.size≤d):B d=none∧Pv d=none∧∀ i,i < σ.length→ρ i≠d:=by
  have no:∀ {o},h.get? d=some o→False:=fun e=>Nat.lt_irrefl _ (Nat.lt_of_lt_of_le (Heap.lt_size e) q)
  refine ⟨?_,?_,fun i hi e=>?_⟩
  · cases e:B d with
    | none=>rfl
    | some o=>exact (no (st.frz _ _ e)).elim
  · cases e:Pv d with
    | none=>rfl
    | some p=>obtain ⟨o,f⟩:=p; obtain ⟨_,⟨sl,g⟩,_⟩:=st.prv _ _ _ e; exact (no g).elim
  · have:=st.cellLt hi; rw [e] at this; exact Nat.lt_irrefl _ (Nat.lt_of_lt_of_le this q)
theorem lookup_nodup {α:Type} {l:List (Str × α)}:(l.map (·.1)).Nodup→∀ y∈l,l.lookup y.1=some y.2:=by
  induction l with
  | nil=>intro _ y h; cases h
  | cons z r ih =>
    intro hn y hy
    rw [List.map_cons,List.nodup_cons] at hn
    rcases List.mem_cons.mp hy with rfl | hy
    · rw [List.lookup_cons]; simp
    · rw [List.lookup_cons]
      have:(y.1 == z.1)=false:=by
        rw [beq_eq_false_iff_ne]
        intro e
        exact hn.1 (e ▸ List.mem_map_of_mem hy)
      rw [this]
      exact ih hn.2 y hy
theorem cells_nodup:∀ (names:List (Str × NameKind)) (n:Nat) (acc:List (Str × Addr)),(names.map (·.1)).Nodup→(acc.map (·.1)).Nodup→(∀ x∈names.map (·.1),x∉acc.map (·.1))→((cellsFrom n names acc).map (·.1)).Nodup
  | [],n,acc,_,h,_=>h
  | (name,kind)::r,n,acc,hn,ha,hd=>by
    rw [List.map_cons,List.nodup_cons] at hn
    unfold cellsFrom
    split
    · refine cells_nodup r (n + 1) _ hn.2 ?_ fun x hx=>?_
      · rw [List.map_cons,List.nodup_cons]
        exact ⟨hd name (by simp),ha⟩
      · rw [List.map_cons,List.mem_cons,not_or]
        exact ⟨fun e=>hn.1 (e ▸ hx),hd x (by simp [hx])⟩
    · exact cells_nodup r n acc hn.2 ha fun x hx=>hd x (by simp [hx])
theorem bindL_get {ko:Str→Option NameKind} {x:Str} {v:Value}:∀ (binds:List (Str × Value)) (m:Str→Option Value),(binds.map (·.1)).Nodup→(x,v)∈binds→ko x=some .local→bindL ko binds m x=some v
  | [],m,_,h,_=>by cases h
  | (n,u)::r,m,hn,h,hk=>by
    rw [List.map_cons,List.nodup_cons] at hn
    unfold bindL
    rcases List.mem_cons.mp h with e | h
    · cases e
      have key:∀ (r:List (Str × Value)) (m:Str→Option Value),x∉r.map (·.1)→bindL ko r m x=m x:=by
        intro r
        induction r with
        | nil=>intro m _; rfl
        | cons z r ih =>
          intro m hx
          obtain ⟨a,b⟩:=z
          rw [List.map_cons,List.mem_cons,not_or] at hx
          unfold bindL
          rw [ih _ hx.2]
          split
          · exact if_neg hx.1
          · rfl
      rw [key r _ hn.1,if_pos hk]
      exact if_pos rfl
    · exact bindL_get r _ hn.2 h hk
theorem bindC_get {ko:Str→Option NameKind} {x:Str} {v:Value}:∀ (binds:List (Str × Value)) (m:Str→Option Value),(binds.map (·.1)).Nodup→(x,v)∈binds→ko x≠some .local→bindC ko binds m x=some v
  | [],m,_,h,_=>by cases h
  | (n,u)::r,m,hn,h,hk=>by
    rw [List.map_cons,List.nodup_cons] at hn
    unfold bindC
    rcases List.mem_cons.mp h with e | h
    · cases e
      have key:∀ (r:List (Str × Value)) (m:Str→Option Value),x∉r.map (·.1)→bindC ko r m x=m x:=by
        intro r
        induction r with
        | nil=>intro m _; rfl
        | cons z r ih =>
          intro m hx
          obtain ⟨a,b⟩:=z
          rw [List.map_cons,List.mem_cons,not_or] at hx
          unfold bindC
          rw [ih _ hx.2]
          split
          · rfl
          · exact if_neg hx.1
      rw [key r _ hn.1,if_neg hk]
      exact if_pos rfl
    · exact bindC_get r _ hn.2 h hk
theorem zip_get {P:Params} {B:Frz} {ρ:Nat→Addr} {n:Nat}:∀ {ks:List Nat} {xs:List Str} {vs:List Value} {ls:List LV} {vars:Loc} {k:Nat} {l:LV} {x:Str},ks.map nm=xs.map some→DenAll P B ρ n vs ls→zipL ks ls=some vars→lookA k vars=some l→nm k=some x→∃ v,(x,v)∈xs.zip vs∧Den P B ρ n v l
  | [],[],_,_,vars,k,l,x,_,d,hz,hl,_=>by
    cases d with
    | nil=>unfold zipL at hz; cases hz; cases hl
    | cons=>unfold zipL at hz; cases hz
  | [],_::_,_,_,_,_,_,_,e,_,_,_,_=>by cases e
  | _::_,[],_,_,_,_,_,_,e,_,_,_,_=>by cases e
  | a::ks,y::xs,_,_,vars,k,l,x,e,d,hz,hl,hx=>by
    rw [List.map_cons,List.map_cons,List.cons.injEq] at e
    cases d with
    | nil=>unfold zipL at hz; cases hz
    | cons d1 d2 =>
      rename_i v u vs us
      unfold zipL at hz
      obtain ⟨vars',hz',rfl⟩:=Option.map_eq_some_iff.mp hz
      unfold lookA at hl
      split at hl
      · rename_i q
        cases hl
        subst q
        rw [e.1] at hx
        cases hx
        exact ⟨v,.head _,d1⟩
      · obtain ⟨w,hw,dw⟩:=zip_get e.2 d2 hz' hl hx
        exact ⟨w,.tail _ hw,dw⟩
theorem zipL_len:∀ {ks:List Nat} {ls:List LV} {vars:Loc},zipL ks ls=some vars→ls.length=ks.length
  | [],[],_,_=>rfl
  | [],_::_,_,h=>by unfold zipL at h; cases h
  | _::_,[],_,h=>by unfold zipL at h; cases h
  | a::ks,l::ls,_,h=>by
    unfold zipL at h
    obtain ⟨v,hv,_⟩:=Option.map_eq_some_iff.mp h
    rw [List.length_cons,List.length_cons,zipL_len hv]
structure FnOk (K:Frag) (a:Addr) (ks:List Nat) (xs:List Str) (body:List Stmt) (sc:Scope):Prop where
  at_:∃ oc od osl name qual params dV kV doc pm an cdv ct,K.lookup a=some ⟨oc,od,.func (fnOf name qual params body sc dV kV doc pm an cdv ct),osl⟩∧codeIn K cdv qual=true ∧
    ∀ vals:List Value,vals.length=ks.length→bindArgs (fnOf name qual params body sc dV kV doc pm an cdv ct) ⟨vals,[]⟩=pure (xs.zip vals)
  names:ks.map nm=xs.map some
  nodup:xs.Nodup
  kinds:∀ x∈xs,sc.names.lookup x=some .local∨sc.names.lookup x=some .cell
  keys:(sc.names.map (·.1)).Nodup
  noFree:∀ x,sc.names.lookup x≠some .free
  co:sc.isCoroutine=false
  gen:sc.isGenerator=false
  kind:sc.kind = .function
end Mine
namespace Mine
open PySem PySem.Calls PySem.W PyProof.Rows PySem.SeqAt
section
variable {prog:Program} {w:World} {hb:Heap} {K:Frag} {mg mb:Str→Option Value}
theorem call_step {fns:Nat→Option Fn} {meth:Nat→Nat→Option Nat} {init:Nat→Option Nat} {fld:Nat→Nat→Bool} {q:Bool} {n f:Nat} {a:Addr} {xs:List Str} {body:List Stmt} {sc:Scope} {fn:Fn} (G:Gd w hb K mg mb) (hfn:fns f=some fn) (F:FnOk K a fn.params xs body sc)
    (hB:SSs prog w hb ⟨callM fns meth init fld q n,callM fns meth init fld false n,q,meth,init,fld⟩ n sc body fn.body) :
    ∀ A Pv B ρ σ s vs ls,Frames A Pv→(q=true→A.handled=none)→A.depth + 4 * (n + 1)≤983→A.units + 64 * (n + 1) + 139≤cLine→St w.params hb B Pv ρ σ s.heap→DenAll w.params B ρ σ.length vs ls →
      ∀ R:Result→Shared→Prop,EP (OkS w.params hb Pv) Pv (DV w) B ρ σ s (callM fns meth init fld q (n + 1) f ls σ) (fun v s' => R (.ok (.ret v)) s') (fun e s' => R (.error e) s')→codeAny (model prog w) A (.call (.ref a) ⟨vs,[]⟩) R s:=fun A Pv B ρ σ s vs ls FR hnd hdep huni st d R h=>by
  unfold callM at h
  rw [hfn] at h
  dsimp only at h
  cases hz:zipL fn.params ls with
  | none=>rw [hz] at h; exact h.elim
  | some vars =>
    rw [hz] at h
    dsimp only at h
    obtain ⟨oc,od,osl,name,qual,params,dV,kV,doc,pm,an,cdv,ct,ho,hcd,hbd⟩:=F.at_
    have up:∀ b o,hb.get? b=some o→s.heap.get? b=some o:=fun b o e=>st.stays b o e
    have XK:K.In s.heap:=fun b o e=>up b o (G.X b o e)
    have hlen:vs.length=fn.params.length:=by rw [d.length,zipL_len hz]
    have hxl:xs.length=vs.length:=by
      have:=congrArg List.length F.names
      rw [List.length_map,List.length_map] at this
      rw [hlen,this]
    have hkeys:((xs.zip vs).map (·.1)).Nodup:=by
      rw [show (xs.zip vs).map (·.1)=xs from List.map_fst_zip (Nat.le_of_eq hxl)]
      exact F.nodup
    refine codeAny_call_cells (fd:=fnOf name qual params body sc dV kV doc pm an cdv ct) (binds:=xs.zip vs) (by have:recursionLimit=1000:=rfl; omega) (XK _ _ ho) rfl (G.nl.keeps up) (codeRec_of XK hcd) rfl (hbd vs hlen) rfl (fun y hy=>?_) (fun s₁ x=>?_) F.co F.gen F.kind
    · have hy':y.1∈xs:=by obtain ⟨y1,y2⟩:=y; exact (List.of_mem_zip hy).1
      rcases F.kinds _ hy' with z | z
      · exact .inl z
      · exact .inr ⟨z,cellsFrom_some _ _ _ (.inl z)⟩
    have keepS:=x.toInCall.keep
    have st1:St w.params hb B Pv ρ σ s₁.heap:=st.keep keepS
    have hL:=st.later x.toInCall.fresh
    have hCl:∀ z c,(callEnvC (fnOf name qual params body sc dV kV doc pm an cdv ct) s.heap.objs.size a).cells.lookup z=some c→s.heap.objs.size≤c:=fun z c e =>
      Nat.le_of_lt (Nat.lt_of_le_of_lt x.toInCall.fresh (x.above z c (lookup_mem e)))
    have huq:UniqC (callEnvC (fnOf name qual params body sc dV kV doc pm an cdv ct) s.heap.objs.size a):=lookup_nodup (cells_nodup sc.names _ [] F.keys List.nodup_nil (fun _ _ h=>by cases h))
    obtain ⟨outer,hA,hout⟩:=FR
    have rest:Rest s s₁:=by
      obtain ⟨h',tk,e⟩:=x.toInCall.same
      rw [e]; exact ⟨rfl,rfl⟩
    have o1:OkE w.params hb (callEnvC (fnOf name qual params body sc dV kV doc pm an cdv ct) s.heap.objs.size a) Pv vars B ρ σ s₁.heap:=by
      refine ⟨st1,_,_,x.toInCall.ns,⟨hL.1,hL.2.1,hL.2.2⟩,fun z c e=>⟨x.cell z c e,(st.later (hCl z c e)).1⟩,fun k l z hk hz' => ?_⟩
      obtain ⟨v,hm,dv⟩:=zip_get F.names d hz hk hz'
      have hzx:z∈xs:=(List.of_mem_zip hm).1
      unfold ValAt
      have hko:(callEnvC (fnOf name qual params body sc dV kV doc pm an cdv ct) s.heap.objs.size a).kindOf z=sc.names.lookup z:=rfl
      rcases F.kinds z hzx with q1 | q1
      · rw [hko,q1]
        exact ⟨v,bindL_get _ _ hkeys hm (hko.trans q1),dv⟩
      · rw [hko,q1]
        exact ⟨v,cellsFrom_some _ _ _ (.inl q1),bindC_get _ _ hkeys hm (by rw [hko,q1]; intro h; cases h),dv⟩
    have cx:CxS ⟨callM fns meth init fld q n,callM fns meth init fld false n,q,meth,init,fld⟩ (A.deeper (callEnvC (fnOf name qual params body sc dV kV doc pm an cdv ct) s.heap.objs.size a)) (callEnvC (fnOf name qual params body sc dV kV doc pm an cdv ct) s.heap.objs.size a) sc Pv n:=by
      refine ⟨⟨rfl,F.kind,rfl,rfl,⟨_,outer,s.heap.objs.size,by show A.frames.map _=_; rw [hA]; rfl,rfl,rfl,?_,.inl rfl,hout⟩,hnd,?_,?_,huq,fun z hz=>?_⟩,x.apart,fun z c e=>(st.later (hCl z c e)).2.1⟩
      · show sc.kind ≠ .module
        rw [F.kind]; decide
      · show A.depth + 1 + 4 * n≤980
        omega
      · show A.units + 3 + 64 * n + 200≤cLine
        omega
      · rcases hz with q1 | q1
        · exact cellsFrom_some _ _ _ (.inl q1)
        · exact absurd q1 (F.noFree z)
    refine hB _ _ Pv vars B ρ σ s₁ cx o1 _ _ ?_
    unfold ES
    have h:=EP.from (B':=B) (ρ':=ρ) (σ':=σ) h .refl rest
    revert h
    cases execMs (⟨callM fns meth init fld q n,callM fns meth init fld false n,q,meth,init,fld⟩:Tab) fn.body vars σ with
    | none=>exact id
    | some p =>
      obtain ⟨fl,vars',σ'⟩:=p
      cases fl with
      | next=>exact fun h B' ρ' s' e o t=>h .none B' ρ' s' e o.1 t .none
      | ret l=>exact fun h v B' ρ' s' e o t dv=>h v B' ρ' s' e o.1 t dv
      | exc i =>
        intro h ev B' ρ' s' e o t X
        obtain ⟨st',m',cm',y'⟩:=o
        exact x_leaving cx.cx.frm st' y' X fun h' a b c=>h ev B' ρ' { s' with heap:=h' } e a ⟨t.1,t.2⟩ c.any
end
end Mine
namespace Mine
open PySem PySem.Calls PySem.W PyProof.Rows PySem.SeqAt
section
variable {prog:Program} {w:World} {hb:Heap} {K:Frag} {mg mb:Str→Option Value}
structure CallFix (K:Frag) (meth:Nat→Nat→Option Nat) (init:Nat→Option Nat) (adr:Nat→Option Addr):Prop where
  keep:∀ f a,adr f=some a→keepIn K (.ref a)=true∧typeIn K (.ref a)=some (.type "function")
  meth:∀ c C m x f,meth c m=some f→clsA c=some C→nm m=some x→∃ a,adr f=some a∧findIn K (.ref C) x=some (some (.ref a))
  ga:∀ c C,clsA c=some C→findIn K (.ref C) "__getattr__" = some none
  init:∀ c f,init c=some f→∃ C a,clsA c=some C∧adr f=some a∧makesIn K C=true∧findIn K (.ref C) "__init__" = some (some (.ref a))∧keepIn K (.ref C)=true
theorem CallFix.tab {meth:Nat→Nat→Option Nat} {init:Nat→Option Nat} {adr:Nat→Option Addr} {T:Tab} {n:Nat} (F:CallFix K meth init adr) (hm:T.meth=meth) (hi:T.init=init) (h:SCall prog w hb T.call T.rs adr n):CallTab prog w hb K T adr n :=
  ⟨h,F.keep,fun c C m x f e=>F.meth c C m x f (by rw [← hm]; exact e),F.ga,fun c f e=>F.init c f (by rw [← hi]; exact e)⟩
def BodyOk (prog:Program) (w:World) (hb:Heap) (K:Frag) (meth:Nat→Nat→Option Nat) (init:Nat→Option Nat) (fld:Nat→Nat→Bool) (adr:Nat→Option Addr) (a:Addr) (fn:Fn):Prop :=
  ∃ xs body sc,FnOk K a fn.params xs body sc∧∀ (T:Tab) (n:Nat),T.meth=meth→T.init=init→T.fld=fld→CallTab prog w hb K T adr n→CallTab prog w hb K (quietT T) adr n→SSs prog w hb T n sc body fn.body
theorem calls_sound {fns:Nat→Option Fn} {meth:Nat→Nat→Option Nat} {init:Nat→Option Nat} {fld:Nat→Nat→Bool} {adr:Nat→Option Addr} (G:Gd w hb K mg mb) (C:CallFix K meth init adr)
    (hF:∀ f a,adr f=some a→∃ fn,fns f=some fn∧BodyOk prog w hb K meth init fld adr a fn):∀ (n:Nat) (q:Bool),SCall prog w hb (callM fns meth init fld q n) q adr n
  | 0,q=>fun f a ha A Pv B ρ σ s vs ls _ _ _ _ _ _ R h=>by
    unfold callM at h
    exact h.elim
  | n + 1,q=>fun f a ha=>by
    obtain ⟨fn,hfn,xs,body,sc,F,hB⟩:=hF f a ha
    exact call_step G hfn F (hB _ n rfl rfl rfl (C.tab rfl rfl (calls_sound G C hF n q)) (C.tab rfl rfl (calls_sound G C hF n false)))
end
end Mine
section
open PySem PySem.W PyProof.Rows
namespace Mine
open_top hd for PySem.Challenge.rw_pq0384_01
end Mine
end
namespace Mine
open PySem PySem.Calls PySem.W PyProof.Rows PySem.SeqAt
noncomputable abbrev KK (P:Params):Frag:=Mine.hd.heap_39 P
theorem lookup_memK {l:List (Str × NameKind)} {x:Str} {k:NameKind} (h:l.lookup x=some k):(x,k)∈l:=by
  induction l with
  | nil=>cases h
  | cons y r ih =>
    obtain ⟨a,v⟩:=y
    rw [List.lookup_cons] at h
    split at h
    · rename_i q; cases h; rw [beq_iff_eq.mp q]; exact .head _
    · exact .tail _ (ih h)
theorem noFree_of {l:List (Str × NameKind)} (h:∀ y∈l,y.2 ≠ .free):∀ x,l.lookup x≠some .free:=fun x e=>h _ (lookup_memK e) rfl
end Mine
namespace Mine
open PySem PySem.Calls PySem.W PyProof.Rows PySem.SeqAt
def adrOf:Nat→Option Addr
  | 0=>some 600 | 1=>some 521 | 2=>some 528 | 3=>some 535 | 4=>some 542 | 5=>some 547 | 6=>some 552 | 7=>some 514 | 8=>some 559 | 9=>some 564
  | 10=>some 571 | 11=>some 576 | 12=>some 583 | 13=>some 590 | 14=>some 595 | 15=>some 191 | 16=>some 198 | 17=>some 205 | 18=>some 212
  | 19=>some 226 | 20=>some 233 | 21=>some 240 | 22=>some 247 | 23=>some 254 | 24=>some 275 | 25=>some 287 | 26=>some 294 | 27=>some 301
  | 28=>some 308 | 29=>some 322 | 30=>some 336 | 31=>some 343 | 32=>some 350 | 33=>some 392 | 34=>some 397 | 35=>some 404 | 36=>some 432
  | 37=>some 437 | 38=>some 451 | 39=>some 456
  | _=>none
structure Ground (prog:Program) (w:World) (hb:Heap) (mg mb:Str→Option Value):Prop where
  G:Gd w hb (KK w.params) mg mb
  C:∀ T:Tab,T.fld=fldIx→ClsTab (KK w.params) T
  made:KFMade prog w hb kfA
theorem plain_call {f:PySem.Expr} {as:List PySem.Expr} {ks:List Keyword} {p:Pos}:∀ env,isTrue (.Call f as ks p) env (eval (.Call f as ks p) env)=(do let v ← eval (.Call f as ks p) env; standAt (PySem.Expr.Call f as ks p).pos; holding [v] (truthy v)):=fun _=>rfl
theorem plain_name {x:Str} {p:Pos}:∀ env,isTrue (.Name x p) env (eval (.Name x p) env)=(do let v ← eval (.Name x p) env; standAt (PySem.Expr.Name x p).pos; holding [v] (truthy v)):=fun _=>rfl
theorem plain_sub {a b:PySem.Expr} {p:Pos}:∀ env,isTrue (.Subscript a b p) env (eval (.Subscript a b p) env)=(do let v ← eval (.Subscript a b p) env; standAt (PySem.Expr.Subscript a b p).pos; holding [v] (truthy v)):=fun _=>rfl
def compB (scope sc:Scope) (tg:MT):Bool:=scope.names.all fun y =>
  (y.2 != .local || scope.names.lookup y.1 == some .local) && y.2 != .cell && (y.2 != .free || sc.names.lookup y.1 == some .cell || sc.names.lookup y.1 == some .free) &&
  (y.2 != .local || y.1 == (".0" : Str) || (tgNames tg).any fun k=>nm k == some y.1)
theorem names_dot:(nameList.map Str.ofString).all (fun x=>x != ".0")=true:=by decide +kernel
theorem compOk_of {scope sc:Scope} {target:PySem.Expr} {tg:MT} (hk:scope.kind = .function) (h:compB scope sc tg=true) (ht:Tg false (relabelS scope sc) target tg):CompOk scope sc target tg:=by
  unfold compB at h
  rw [List.all_eq_true] at h
  have H:∀ y∈scope.names,(y.2 = .local→scope.names.lookup y.1=some .local)∧y.2 ≠ .cell∧(y.2 = .free→sc.names.lookup y.1=some .cell∨sc.names.lookup y.1=some .free) ∧
      (y.2 = .local→y.1=(".0" : Str)∨∃ k∈tgNames tg,nm k=some y.1):=fun y hy=>by
    have:=h y hy
    simp only [Bool.and_eq_true,Bool.or_eq_true,bne_iff_ne,ne_eq,beq_iff_eq,List.any_eq_true] at this
    obtain ⟨⟨⟨a,b⟩,c⟩,d⟩:=this
    refine ⟨fun e=>a.resolve_left fun n=>n e,b,fun e=>?_,fun e=>?_⟩
    · rcases c with (c | c) | c
      · exact absurd e c
      · exact .inl c
      · exact .inr c
    · rcases d with (d | d) | d
      · exact absurd e d
      · exact .inl d
      · exact .inr d
  refine ⟨hk,fun y hy=>(H y hy).1,fun y hy=>(H y hy).2.1,fun y hy=>(H y hy).2.2.1,fun x k hx hl=>?_,ht⟩
  rcases (H _ (lookup_mem' hl)).2.2.2 rfl with e | ⟨k',hk',e⟩
  · dsimp only at e
    rw [e,nm_get] at hx
    have:=List.all_eq_true.mp names_dot _ (List.mem_of_getElem? hx)
    simp at this
  · dsimp only at e
    rw [nm_inj hx e]; exact hk'
def swapK (fn:Bool) (kd:Str→Option NameKind) (ts vs:List PySem.Expr):Option (Option (List Str)) :=
  let line:=(ts.head?.map (·.pos.line)).getD 0
  let names:=ts.filterMap fun
    | .Name id pos=>if kd id == some .local && pos.line == line then some id else none
    | _=>none
  if !(ts.length == 2 || ts.length == 3) || vs.length != ts.length || fn then some none
  else if (vs.any fun | .Starred .. => true | _=>false) then some none
  else if names.length != ts.length || names.eraseDups.length != names.length then some none
  else if vs.all (foldedForSure 8) then some none
  else if vs.all (constantsAlone 8) then none
  else some (some names)
def swapR (sc:Scope) (ts vs:List PySem.Expr):Option (Option (List Str)):=swapK (sc.kind != .function) (fun id=>sc.names.lookup id) ts vs
theorem swap_of {sc:Scope} {ts vs:List PySem.Expr} {k k2:Nat} {tp p2:Pos} {r:Option (List Str)} (hk:sc.kind = .function) (h:swapR sc ts vs=some r):∀ env:Env,env.scope=sc→swappedStores [.Tuple ts k tp] (.Tuple vs k2 p2) env=pure r:=by
  intro env he
  subst he
  have hb:env.blockKind=env.scope.kind:=by unfold Env.blockKind; rw [hk]; rfl
  have h:swapK (env.blockKind != .function) env.kindOf ts vs=some r:=by rw [hb]; exact h
  unfold swapK at h
  unfold swappedStores
  dsimp only at h
  dsimp only
  split at h
  · rename_i q; cases h; exact if_pos q
  · rename_i q; refine (if_neg q).trans ?_
    split at h
    · rename_i q2; cases h; exact if_pos q2
    · rename_i q2; refine (if_neg q2).trans ?_
      split at h
      · rename_i q3; cases h; exact if_pos q3
      · rename_i q3; refine (if_neg q3).trans ?_
        split at h
        · rename_i q4; cases h; exact if_pos q4
        · rename_i q4; refine (if_neg q4).trans ?_
          split at h
          · cases h
          · rename_i q5; cases h; exact if_neg q5
theorem swaps_of {x:Str} {p pos:Pos} {elt:PySem.Expr} {gs:List Comprehension} {scope sc:Scope} {lp:Pos} (hk:sc.kind = .function) (hx:sc.names.lookup x=some .local) (hl:p.line=lp.line)
    (hn:(scope.names.any fun (n,k)=>n == x && (k == .local || k == .cell))=false):∀ env:Env,env.scope=sc→swapsWith (.ListComp elt gs scope lp) (some (.Name x p)) pos.line env=pure true:=by
  intro env he
  subst he
  unfold swapsWith
  have hb:env.blockKind=env.scope.kind:=by unfold Env.blockKind; rw [hk]; rfl
  dsimp only
  rw [hb,hk]
  unfold Env.kindOf
  rw [hx,hn]
  show (pure _:Sem Bool)=_
  congr 1
  simp only [Expr.pos]
  rw [hl]
  simp
section
variable {prog:Program} {w:World} {hb:Heap} {T:Tab} {N:Nat} {sc:Scope} {K:Frag} {mg mb:Str→Option Value}
theorem SE_globx {x:Str} {c:Nat} {l:LV} {pos} (G:Gd w hb K mg mb) (hx:sc.names.lookup x=some .globalImplicit) (hd:(x == ("__debug__" : Str))=false)
    (hl:∃ v,nsIn K mainGlobals x=some (some v)∧Den w.params (fun a=>K.lookup a) (fun _=>0) 0 v l):SE prog w hb T N sc (.Name x pos) (.glob c l):=by
  obtain ⟨v,hv,d⟩:=hl
  exact SE_glob G hx hv hd d
end
end Mine
namespace Mine
open PySem PySem.Calls PySem.W PyProof.Rows PySem.SeqAt
abbrev Nm (i:Nat) (s:String):Prop:=nm i=some (Str.ofString s)
theorem n0:Nm 0 "" := rfl
theorem n1:Nm 1 "!=" := rfl
theorem n2:Nm 2 "*" := rfl
theorem n3:Nm 3 "+" := rfl
theorem n4:Nm 4 "++" := rfl
theorem n5:Nm 5 "-" := rfl
theorem n6:Nm 6 "->" := rfl
theorem n7:Nm 7 ".." := rfl
theorem n8:Nm 8 "/\\" := rfl
theorem n9:Nm 9 "<" := rfl
theorem n10:Nm 10 "<-" := rfl
theorem n11:Nm 11 "<->" := rfl
theorem n12:Nm 12 "<=" := rfl
theorem n13:Nm 13 "=" := rfl
theorem n14:Nm 14 "==" := rfl
theorem n15:Nm 15 ">" := rfl
theorem n16:Nm 16 ">=" := rfl
theorem n34:Nm 34 "\\/" := rfl
theorem n35:Nm 35 "^" := rfl
theorem n52:Nm 52 "a" := rfl
theorem n53:Nm 53 "abs" := rfl
theorem n54:Nm 54 "all_different" := rfl
theorem n55:Nm 55 "alldifferent" := rfl
theorem n57:Nm 57 "array" := rfl
theorem n58:Nm 58 "array1d" := rfl
theorem n59:Nm 59 "array2" := rfl
theorem n60:Nm 60 "array2d" := rfl
theorem n61:Nm 61 "array_intersect" := rfl
theorem n62:Nm 62 "array_union" := rfl
theorem n63:Nm 63 "asked" := rfl
theorem n64:Nm 64 "asks" := rfl
theorem n65:Nm 65 "assert" := rfl
theorem n66:Nm 66 "assign" := rfl
theorem n67:Nm 67 "assigned" := rfl
theorem n68:Nm 68 "at_least" := rfl
theorem n69:Nm 69 "at_most" := rfl
theorem n70:Nm 70 "b" := rfl
theorem n71:Nm 71 "bad" := rfl
theorem n72:Nm 72 "base" := rfl
theorem n73:Nm 73 "bases" := rfl
theorem n74:Nm 74 "bin" := rfl
theorem n75:Nm 75 "bool" := rfl
theorem n76:Nm 76 "bool2int" := rfl
theorem n77:Nm 77 "call" := rfl
theorem n78:Nm 78 "called" := rfl
theorem n79:Nm 79 "card" := rfl
theorem n80:Nm 80 "cells" := rfl
theorem n81:Nm 81 "chain" := rfl
theorem n82:Nm 82 "chosen" := rfl
theorem n83:Nm 83 "circuit" := rfl
theorem n85:Nm 85 "comp" := rfl
theorem n86:Nm 86 "compared" := rfl
theorem n87:Nm 87 "concat" := rfl
theorem n88:Nm 88 "constraint" := rfl
theorem n89:Nm 89 "count" := rfl
theorem n90:Nm 90 "cumulative" := rfl
theorem n91:Nm 91 "decl" := rfl
theorem n92:Nm 92 "declared" := rfl
theorem n93:Nm 93 "decreasing" := rfl
theorem n94:Nm 94 "diff" := rfl
theorem n95:Nm 95 "dims" := rfl
theorem n96:Nm 96 "disjunctive" := rfl
theorem n97:Nm 97 "div" := rfl
theorem n98:Nm 98 "domain" := rfl
theorem n99:Nm 99 "due" := rfl
theorem n100:Nm 100 "element" := rfl
theorem n101:Nm 101 "env" := rfl
theorem n102:Nm 102 "exactly" := rfl
theorem n103:Nm 103 "exists" := rfl
theorem n104:Nm 104 "fault" := rfl
theorem n105:Nm 105 "feed" := rfl
theorem n107:Nm 107 "fix" := rfl
theorem n108:Nm 108 "floors" := rfl
theorem n109:Nm 109 "forall" := rfl
theorem n110:Nm 110 "found" := rfl
theorem n111:Nm 111 "g" := rfl
theorem n112:Nm 112 "gathered" := rfl
theorem n113:Nm 113 "gen" := rfl
theorem n114:Nm 114 "generated" := rfl
theorem n115:Nm 115 "global_cardinality" := rfl
theorem n116:Nm 116 "global_cardinality_low_up" := rfl
theorem n117:Nm 117 "h" := rfl
theorem n118:Nm 118 "i" := rfl
theorem n119:Nm 119 "if" := rfl
theorem n120:Nm 120 "iffall" := rfl
theorem n121:Nm 121 "in" := rfl
theorem n122:Nm 122 "increasing" := rfl
theorem n123:Nm 123 "index" := rfl
theorem n124:Nm 124 "index_set" := rfl
theorem n125:Nm 125 "index_set_1of2" := rfl
theorem n126:Nm 126 "index_set_2of2" := rfl
theorem n127:Nm 127 "indexed" := rfl
theorem n128:Nm 128 "indexes" := rfl
theorem n129:Nm 129 "inner" := rfl
theorem n130:Nm 130 "int" := rfl
theorem n131:Nm 131 "int_any" := rfl
theorem n132:Nm 132 "intersect" := rfl
theorem n133:Nm 133 "inverse" := rfl
theorem n134:Nm 134 "is_assigned" := rfl
theorem n135:Nm 135 "is_outer" := rfl
theorem n136:Nm 136 "is_right" := rfl
theorem n137:Nm 137 "is_shown" := rfl
theorem n138:Nm 138 "is_var" := rfl
theorem n139:Nm 139 "item" := rfl
theorem n140:Nm 140 "items" := rfl
theorem n141:Nm 141 "join" := rfl
theorem n142:Nm 142 "joined" := rfl
theorem n143:Nm 143 "k" := rfl
theorem n144:Nm 144 "kind" := rfl
theorem n145:Nm 145 "kind_of" := rfl
theorem n147:Nm 147 "kind_type" := rfl
theorem n148:Nm 148 "kinds" := rfl
theorem n149:Nm 149 "known" := rfl
theorem n150:Nm 150 "known_set" := rfl
theorem n151:Nm 151 "lap" := rfl
theorem n152:Nm 152 "late" := rfl
theorem n155:Nm 155 "length" := rfl
theorem n156:Nm 156 "let" := rfl
theorem n157:Nm 157 "lex_greater" := rfl
theorem n158:Nm 158 "lex_greatereq" := rfl
theorem n159:Nm 159 "lex_less" := rfl
theorem n160:Nm 160 "lex_lesseq" := rfl
theorem n162:Nm 162 "m" := rfl
theorem n163:Nm 163 "maker" := rfl
theorem n164:Nm 164 "many" := rfl
theorem n165:Nm 165 "max" := rfl
theorem n166:Nm 166 "maximum" := rfl
theorem n167:Nm 167 "min" := rfl
theorem n168:Nm 168 "minimum" := rfl
theorem n169:Nm 169 "mod" := rfl
theorem n170:Nm 170 "name" := rfl
theorem n171:Nm 171 "names" := rfl
theorem n172:Nm 172 "node" := rfl
theorem n173:Nm 173 "nodes" := rfl
theorem n174:Nm 174 "none" := rfl
theorem n175:Nm 175 "note_predicate" := rfl
theorem n176:Nm 176 "notes" := rfl
theorem n177:Nm 177 "nothing" := rfl
theorem n178:Nm 178 "nvalue" := rfl
theorem n179:Nm 179 "of_all" := rfl
theorem n180:Nm 180 "one" := rfl
theorem n181:Nm 181 "op" := rfl
theorem n182:Nm 182 "open_call" := rfl
theorem n183:Nm 183 "other" := rfl
theorem n184:Nm 184 "output" := rfl
theorem n185:Nm 185 "p" := rfl
theorem n186:Nm 186 "param" := rfl
theorem n187:Nm 187 "part" := rfl
theorem n188:Nm 188 "place" := rfl
theorem n189:Nm 189 "plain_kind" := rfl
theorem n190:Nm 190 "pop" := rfl
theorem n191:Nm 191 "pow" := rfl
theorem n192:Nm 192 "predicate" := rfl
theorem n193:Nm 193 "predicates" := rfl
theorem n194:Nm 194 "product" := rfl
theorem n195:Nm 195 "push" := rfl
theorem n196:Nm 196 "put" := rfl
theorem n197:Nm 197 "put_together" := rfl
theorem n198:Nm 198 "q" := rfl
theorem n199:Nm 199 "range" := rfl
theorem n200:Nm 200 "regular" := rfl
theorem n201:Nm 201 "reverse" := rfl
theorem n202:Nm 202 "row" := rfl
theorem n203:Nm 203 "s" := rfl
theorem n204:Nm 204 "scopes" := rfl
theorem n205:Nm 205 "script" := rfl
theorem n206:Nm 206 "seen" := rfl
theorem n207:Nm 207 "self" := rfl
theorem n208:Nm 208 "set" := rfl
theorem n209:Nm 209 "set2array" := rfl
theorem n210:Nm 210 "shape" := rfl
theorem n211:Nm 211 "show" := rfl
theorem n212:Nm 212 "sides" := rfl
theorem n213:Nm 213 "sign" := rfl
theorem n214:Nm 214 "some" := rfl
theorem n215:Nm 215 "sort" := rfl
theorem n217:Nm 217 "spot" := rfl
theorem n218:Nm 218 "str" := rfl
theorem n219:Nm 219 "subset" := rfl
theorem n220:Nm 220 "sum" := rfl
theorem n221:Nm 221 "superset" := rfl
theorem n222:Nm 222 "symdiff" := rfl
theorem n223:Nm 223 "t" := rfl
theorem n224:Nm 224 "table" := rfl
theorem n225:Nm 225 "text" := rfl
theorem n226:Nm 226 "told" := rfl
theorem n228:Nm 228 "turned" := rfl
theorem n229:Nm 229 "type_kind" := rfl
theorem n230:Nm 230 "un" := rfl
theorem n231:Nm 231 "union" := rfl
theorem n232:Nm 232 "v" := rfl
theorem n233:Nm 233 "value" := rfl
theorem n234:Nm 234 "value_precede" := rfl
theorem n235:Nm 235 "varies" := rfl
theorem n236:Nm 236 "waiting" := rfl
theorem n238:Nm 238 "want_each" := rfl
theorem n239:Nm 239 "wanted" := rfl
theorem n240:Nm 240 "way" := rfl
theorem n241:Nm 241 "what" := rfl
theorem n242:Nm 242 "within" := rfl
theorem n243:Nm 243 "x" := rfl
theorem n244:Nm 244 "xor" := rfl
theorem n245:Nm 245 "xorall" := rfl
theorem n246:Nm 246 "y" := rfl
theorem n247:Nm 247 "z" := rfl
theorem a1:adrOf 1=some 521:=rfl
theorem a2:adrOf 2=some 528:=rfl
theorem a3:adrOf 3=some 535:=rfl
theorem a4:adrOf 4=some 542:=rfl
theorem a5:adrOf 5=some 547:=rfl
theorem a6:adrOf 6=some 552:=rfl
theorem a7:adrOf 7=some 514:=rfl
theorem a8:adrOf 8=some 559:=rfl
theorem a9:adrOf 9=some 564:=rfl
theorem a10:adrOf 10=some 571:=rfl
theorem a11:adrOf 11=some 576:=rfl
theorem g_39 {P:Params}:nsIn (KK P) mainGlobals "_law_dip" = some (some (.ref 521)):=by kernel_rfl
theorem g_48 {P:Params}:nsIn (KK P) mainGlobals "_law_spot" = some (some (.ref 528)):=by kernel_rfl
theorem g_45 {P:Params}:nsIn (KK P) mainGlobals "_law_leaf" = some (some (.ref 535)):=by kernel_rfl
theorem g_41 {P:Params}:nsIn (KK P) mainGlobals "_law_expr" = some (some (.ref 542)):=by kernel_rfl
theorem g_43 {P:Params}:nsIn (KK P) mainGlobals "_law_item" = some (some (.ref 547)):=by kernel_rfl
theorem g_46 {P:Params}:nsIn (KK P) mainGlobals "_law_let" = some (some (.ref 552)):=by kernel_rfl
theorem g_49 {P:Params}:nsIn (KK P) mainGlobals "_law_stands" = some (some (.ref 514)):=by kernel_rfl
theorem g_42 {P:Params}:nsIn (KK P) mainGlobals "_law_fits" = some (some (.ref 559)):=by kernel_rfl
theorem g_37 {P:Params}:nsIn (KK P) mainGlobals "_law_array" = some (some (.ref 564)):=by kernel_rfl
theorem g_47 {P:Params}:nsIn (KK P) mainGlobals "_law_set_told" = some (some (.ref 571)):=by kernel_rfl
theorem g_38 {P:Params}:nsIn (KK P) mainGlobals "_law_declared" = some (some (.ref 576)):=by kernel_rfl
theorem g_50 {P:Params}:nsIn (KK P) mainGlobals "_law_within" = some (some (.ref 583)):=by kernel_rfl
theorem g_40 {P:Params}:nsIn (KK P) mainGlobals "_law_element" = some (some (.ref 590)):=by kernel_rfl
theorem g_44 {P:Params}:nsIn (KK P) mainGlobals "_law_kind" = some (some (.ref 595)):=by kernel_rfl
theorem g_146 {P:Params}:nsIn (KK P) mainGlobals "kind_text" = some (some (.ref 191)):=by kernel_rfl
theorem g_106 {P:Params}:nsIn (KK P) mainGlobals "fits" = some (some (.ref 198)):=by kernel_rfl
theorem g_237 {P:Params}:nsIn (KK P) mainGlobals "want" = some (some (.ref 205)):=by kernel_rfl
theorem g_84 {P:Params}:nsIn (KK P) mainGlobals "common" = some (some (.ref 212)):=by kernel_rfl
theorem g_26 {P:Params}:nsIn (KK P) mainGlobals "Names" = some (some (.ref 257)):=by kernel_rfl
theorem g_25 {P:Params}:nsIn (KK P) mainGlobals "Kinds" = some (some (.ref 494)):=by kernel_rfl
theorem g_24 {P:Params}:nsIn (KK P) mainGlobals "KindFault" = some (some (.ref 88)):=by kernel_rfl
theorem bn_154 {P:Params} {sc:Scope} (h:sc.names.lookup (Str.ofString "len")=some .globalImplicit:=by kernel_rfl):BN (KK P) sc "len" (.builtin "len"):=⟨h,by kernel_rfl,by first | boot_by_name | rfl | kernel_rfl,by decide,rfl⟩
theorem bn_227 {P:Params} {sc:Scope} (h:sc.names.lookup (Str.ofString "tuple")=some .globalImplicit:=by kernel_rfl):BN (KK P) sc "tuple" (.type "tuple"):=⟨h,by kernel_rfl,by first | boot_by_name | rfl | kernel_rfl,by decide,rfl⟩
theorem bn_161 {P:Params} {sc:Scope} (h:sc.names.lookup (Str.ofString "list")=some .globalImplicit:=by kernel_rfl):BN (KK P) sc "list" (.type "list"):=⟨h,by kernel_rfl,by first | boot_by_name | rfl | kernel_rfl,by decide,rfl⟩
theorem bn_216 {P:Params} {sc:Scope} (h:sc.names.lookup (Str.ofString "sorted")=some .globalImplicit:=by kernel_rfl):BN (KK P) sc "sorted" (.builtin "sorted"):=⟨h,by kernel_rfl,by first | boot_by_name | rfl | kernel_rfl,by decide,rfl⟩
theorem bn_199 {P:Params} {sc:Scope} (h:sc.names.lookup (Str.ofString "range")=some .globalImplicit:=by kernel_rfl):BN (KK P) sc "range" (.type "range"):=⟨h,by kernel_rfl,by first | boot_by_name | rfl | kernel_rfl,by decide,rfl⟩
theorem bn_248 {P:Params} {sc:Scope} (h:sc.names.lookup (Str.ofString "zip")=some .globalImplicit:=by kernel_rfl):BN (KK P) sc "zip" (.type "zip"):=⟨h,by kernel_rfl,by first | boot_by_name | rfl | kernel_rfl,by decide,rfl⟩
theorem den_51 {P:Params}:∃ v,nsIn (KK P) mainGlobals "_law_world" = some (some v)∧Den P (fun a=>(KK P).lookup a) (fun _=>0) 0 v (.dct [(118,(.tup [(.str 130),(.bool false),(.int 0)])),(243,(.tup [(.str 130),(.bool true),(.int 0)])),(70,(.tup [(.str 75),(.bool false),(.int 0)])),(246,(.tup [(.str 75),(.bool true),(.int 0)])),(203,(.tup [(.str 208),(.bool false),(.int 0)])),(223,(.tup [(.str 218),(.bool false),(.int 0)])),(52,(.tup [(.str 130),(.bool false),(.int 1)])),(232,(.tup [(.str 130),(.bool true),(.int 1)]))]):=⟨_,rfl,(.dct rfl rfl (.cons n118 (.tup rfl (.cons (.str _ n130) (.cons (.bool _) (.cons (.int _ _) .nil)))) (.cons n243 (.tup rfl (.cons (.str _ n130) (.cons (.bool _) (.cons (.int _ _) .nil)))) (.cons n70 (.tup rfl (.cons (.str _ n75) (.cons (.bool _) (.cons (.int _ _) .nil)))) (.cons n246 (.tup rfl (.cons (.str _ n75) (.cons (.bool _) (.cons (.int _ _) .nil)))) (.cons n203 (.tup rfl (.cons (.str _ n208) (.cons (.bool _) (.cons (.int _ _) .nil)))) (.cons n223 (.tup rfl (.cons (.str _ n218) (.cons (.bool _) (.cons (.int _ _) .nil)))) (.cons n52 (.tup rfl (.cons (.str _ n130) (.cons (.bool _) (.cons (.int _ _) .nil)))) (.cons n232 (.tup rfl (.cons (.str _ n130) (.cons (.bool _) (.cons (.int _ _) .nil)))) .nil)))))))))⟩
theorem world_51 (P:Params):∃ a es kk,nsIn (KK P) mainGlobals "_law_world" = some (some (.ref a))∧(KK P).lookup a=some (dictOf es kk)∧(a == sysModules)=false∧DenEs P (fun a=>(KK P).lookup a) (fun _=>0) 0 es [(118,(.tup [(.str 130),(.bool false),(.int 0)])),(243,(.tup [(.str 130),(.bool true),(.int 0)])),(70,(.tup [(.str 75),(.bool false),(.int 0)])),(246,(.tup [(.str 75),(.bool true),(.int 0)])),(203,(.tup [(.str 208),(.bool false),(.int 0)])),(223,(.tup [(.str 218),(.bool false),(.int 0)])),(52,(.tup [(.str 130),(.bool false),(.int 1)])),(232,(.tup [(.str 130),(.bool true),(.int 1)]))]:=⟨_,_,_,rfl,rfl,rfl,(.cons n118 (.tup rfl (.cons (.str _ n130) (.cons (.bool _) (.cons (.int _ _) .nil)))) (.cons n243 (.tup rfl (.cons (.str _ n130) (.cons (.bool _) (.cons (.int _ _) .nil)))) (.cons n70 (.tup rfl (.cons (.str _ n75) (.cons (.bool _) (.cons (.int _ _) .nil)))) (.cons n246 (.tup rfl (.cons (.str _ n75) (.cons (.bool _) (.cons (.int _ _) .nil)))) (.cons n203 (.tup rfl (.cons (.str _ n208) (.cons (.bool _) (.cons (.int _ _) .nil)))) (.cons n223 (.tup rfl (.cons (.str _ n218) (.cons (.bool _) (.cons (.int _ _) .nil)))) (.cons n52 (.tup rfl (.cons (.str _ n130) (.cons (.bool _) (.cons (.int _ _) .nil)))) (.cons n232 (.tup rfl (.cons (.str _ n130) (.cons (.bool _) (.cons (.int _ _) .nil)))) .nil))))))))⟩
theorem den_29 {P:Params}:∃ v,nsIn (KK P) mainGlobals "SET" = some (some v)∧Den P (fun a=>(KK P).lookup a) (fun _=>0) 0 v (.tup [(.str 208),(.bool false),(.int 0)]):=⟨_,rfl,(.tup rfl (.cons (.str _ n208) (.cons (.bool _) (.cons (.int _ _) .nil))))⟩
theorem den_20 {P:Params}:∃ v,nsIn (KK P) mainGlobals "INT" = some (some v)∧Den P (fun a=>(KK P).lookup a) (fun _=>0) 0 v (.tup [(.str 130),(.bool true),(.int 0)]):=⟨_,rfl,(.tup rfl (.cons (.str _ n130) (.cons (.bool _) (.cons (.int _ _) .nil))))⟩
theorem den_22 {P:Params}:∃ v,nsIn (KK P) mainGlobals "KNOWN" = some (some v)∧Den P (fun a=>(KK P).lookup a) (fun _=>0) 0 v (.tup [(.str 130),(.bool false),(.int 0)]):=⟨_,rfl,(.tup rfl (.cons (.str _ n130) (.cons (.bool _) (.cons (.int _ _) .nil))))⟩
theorem den_17 {P:Params}:∃ v,nsIn (KK P) mainGlobals "BOOL" = some (some v)∧Den P (fun a=>(KK P).lookup a) (fun _=>0) 0 v (.tup [(.str 75),(.bool true),(.int 0)]):=⟨_,rfl,(.tup rfl (.cons (.str _ n75) (.cons (.bool _) (.cons (.int _ _) .nil))))⟩
theorem den_19 {P:Params}:∃ v,nsIn (KK P) mainGlobals "CALLS" = some (some v)∧Den P (fun a=>(KK P).lookup a) (fun _=>0) 0 v (.dct [(53,.any),(76,.any),(191,.any),(220,.any),(194,.any),(109,.any),(103,.any),(89,.any),(79,.any),(62,.any),(61,.any),(245,.any),(120,.any),(87,.any),(141,.any),(54,.any),(55,.any),(83,.any),(122,.any),(93,.any),(133,.any),(159,.any),(160,.any),(157,.any),(158,.any),(100,.any),(224,.any),(90,.any),(96,.any),(200,.any),(234,.any),(115,.any),(116,.any),(178,.any),(68,.any),(69,.any),(102,.any),(166,.any),(168,.any)]):=⟨_,rfl,(.dct rfl rfl (.cons n53 (.any _) (.cons n76 (.any _) (.cons n191 (.any _) (.cons n220 (.any _) (.cons n194 (.any _) (.cons n109 (.any _) (.cons n103 (.any _) (.cons n89 (.any _) (.cons n79 (.any _) (.cons n62 (.any _) (.cons n61 (.any _) (.cons n245 (.any _) (.cons n120 (.any _) (.cons n87 (.any _) (.cons n141 (.any _) (.cons n54 (.any _) (.cons n55 (.any _) (.cons n83 (.any _) (.cons n122 (.any _) (.cons n93 (.any _) (.cons n133 (.any _) (.cons n159 (.any _) (.cons n160 (.any _) (.cons n157 (.any _) (.cons n158 (.any _) (.cons n100 (.any _) (.cons n224 (.any _) (.cons n90 (.any _) (.cons n96 (.any _) (.cons n200 (.any _) (.cons n234 (.any _) (.cons n115 (.any _) (.cons n116 (.any _) (.cons n178 (.any _) (.cons n68 (.any _) (.cons n69 (.any _) (.cons n102 (.any _) (.cons n166 (.any _) (.cons n168 (.any _) .nil))))))))))))))))))))))))))))))))))))))))⟩
theorem den_27 {P:Params}:∃ v,nsIn (KK P) mainGlobals "OPEN_CALLS" = some (some v)∧Den P (fun a=>(KK P).lookup a) (fun _=>0) 0 v (.tup [(.str 167),(.str 165),(.str 211),(.str 107),(.str 155),(.str 124),(.str 125),(.str 126),(.str 58),(.str 60),(.str 209),(.str 201),(.str 215),(.str 65)]):=⟨_,rfl,(.tup rfl (.cons (.str _ n167) (.cons (.str _ n165) (.cons (.str _ n211) (.cons (.str _ n107) (.cons (.str _ n155) (.cons (.str _ n124) (.cons (.str _ n125) (.cons (.str _ n126) (.cons (.str _ n58) (.cons (.str _ n60) (.cons (.str _ n209) (.cons (.str _ n201) (.cons (.str _ n215) (.cons (.str _ n65) .nil)))))))))))))))⟩
section
variable {prog:Program} {w:World} {hb:Heap} {mg mb:Str→Option Value}
theorem SE_sortedWx {K:Frag} {T:Tab} {N:Nat} {sc:Scope} {y x:Str} {ps:List (Nat × LV)} {ks:List Nat} {np yp pos:Pos} (G:Gd w hb K mg mb) (n:BN K sc x (.builtin "sorted")) (hy:sc.names.lookup y=some .globalImplicit) (hd:(y == ("__debug__" : Str))=false)
    (h:∃ a es kk,nsIn K mainGlobals y=some (some (.ref a))∧K.lookup a=some (dictOf es kk)∧(a == sysModules)=false∧DenEs w.params (fun b=>K.lookup b) (fun _=>0) 0 es ps) (hn:(ps.map (·.1)).Nodup) (hp:(ps.map (·.1)).Perm ks) (hall:(ks.all fun c=>(nm c).isSome)=true) (hsrt:sortedS (ks.map nmS)=true) (h64:ps.length < 64) :
    SE prog w hb T N sc (.Call (.Name x np) [.Name y yp] [] pos) (.sortedW ks):=by
  obtain ⟨a,es,kk,hv,ha,hm,D⟩:=h
  exact SE_sortedW G n hy hv hd ha hm D hn hp hall hsrt h64
theorem xbK:XB [.ref 76,.ref 47,.type "Exception",.type "BaseException",.type "object"]:=⟨by decide,by decide,by decide,by decide⟩
theorem raise_rule (GG:Ground prog w hb mg mb) {T:Tab} {n:Nat} {sc:Scope} {x:Str} {np cpos pos:Pos} {msg spot:PySem.Expr} {mm ms:ME}
    (hx:sc.names.lookup x=some .globalImplicit) (hv:nsIn (KK w.params) mainGlobals x=some (some (.ref kfA))) (hd:(x == ("__debug__" : Str))=false) (h1:SE prog w hb T n sc msg mm) (h2:SE prog w hb T n sc spot ms) (hs:noStar [msg,spot]=true) :
    SS prog w hb T n sc (.Raise (some (.Call (.Name x np) [msg,spot] [] cpos)) none pos) (.raise mm ms) :=
  SS_raise GG.G GG.made xbK rfl (by kernel_rfl) hx hv hd h1 h2 hs
theorem caughtK (P:Params):Caught (KK P):=⟨by kernel_rfl,by kernel_rfl,by kernel_rfl,by kernel_rfl,by kernel_rfl⟩
end
end Mine
namespace Mine
open PySem PySem.Calls PySem.W PyProof.Rows PySem.SeqAt
section
variable (prog:Program) (w:World) (hb:Heap) (T:Tab) (N:Nat) (sc:Scope)
structure WE (e:PySem.Expr) (me:ME):Prop where
  h:SE prog w hb T N sc e me
structure WB (e:PySem.Expr) (me:ME):Prop where
  h:SB prog w hb T N sc e me
structure WEs (es:List PySem.Expr) (mes:MEs):Prop where
  h:SEs prog w hb T N sc es mes
structure WEb (i:Bool) (es:List PySem.Expr) (mes:MEs):Prop where
  h:SEb prog w hb T N sc i es mes
structure WBb (i:Bool) (es:List PySem.Expr) (mes:MEs):Prop where
  h:SBb prog w hb T N sc i es mes
structure WP (e:PySem.Expr) (me:ME):Prop where
  h:SP prog w hb T N sc e me
structure WI (target e:PySem.Expr) (mi:MI):Prop where
  h:SI prog w hb T N sc target e mi
structure WS (st:Stmt) (ms:MS):Prop where
  h:SS prog w hb T N sc st ms
structure WSs (st:List Stmt) (ms:MSs):Prop where
  h:SSs prog w hb T N sc st ms
inductive WEl:List PySem.Expr→MEs→Prop
  | nil:WEl [] .nil
  | cons {e me es mes}:WE prog w hb T N sc e me→WEl es mes→WEl (e::es) (.cons me mes)
inductive WBl:List PySem.Expr→MEs→Prop
  | nil:WBl [] .nil
  | cons {e me es mes}:WB prog w hb T N sc e me→WBl es mes→WBl (e::es) (.cons me mes)
inductive WPl:List PySem.Expr→MEs→Prop
  | nil:WPl [] .nil
  | cons {e me es mes}:WP prog w hb T N sc e me→WPl es mes→WPl (e::es) (.cons me mes)
end
section
variable {prog:Program} {w:World} {hb:Heap} {T:Tab} {N Nn n:Nat} {sc:Scope} {K:Frag} {mg mb:Str→Option Value}
  {nm' q:Str} {Na:Addr} {bs bm:List Value} {hdct:Bool} {sn:List Str} {sub:List Value} {ab:Bool} {col:Option Bool} {dd:Option Addr} {k0 k1 k2 k3 k5:Option Value}
theorem WEl.h:∀ {es:List PySem.Expr} {mes:MEs},WEl prog w hb T N sc es mes→SEl prog w hb T N sc es mes
  | _,_,.nil => .nil
  | _,_,.cons a r => .cons a.h r.h
theorem WBl.h:∀ {es:List PySem.Expr} {mes:MEs},WBl prog w hb T N sc es mes→SBl prog w hb T N sc es mes
  | _,_,.nil => .nil
  | _,_,.cons a r => .cons a.h r.h
theorem WPl.h:∀ {es:List PySem.Expr} {mes:MEs},WPl prog w hb T N sc es mes→SPl prog w hb T N sc es mes
  | _,_,.nil => .nil
  | _,_,.cons a r => .cons a.h r.h
theorem WE_none {k pos}:WE prog w hb T N sc (.Constant .none k pos) (.const .none) :=
  ⟨SE_none ⟩
theorem Eb {b k pos}:WE prog w hb T N sc (.Constant (.bool b) k pos) (.const (.bool b)) :=
  ⟨SE_bool ⟩
theorem Ei {i k pos}:WE prog w hb T N sc (.Constant (.int i) k pos) (.const (.int i)) :=
  ⟨SE_int ⟩
theorem WE_neg {i:Int} {k p pos}:WE prog w hb T N sc (.UnaryOp .USub (.Constant (.int i) k p) pos) (.const (.int (-i))) :=
  ⟨SE_neg ⟩
theorem Es {x c k pos} (hx:nm c=some x):WE prog w hb T N sc (.Constant (.str x) k pos) (.const (.str c)) :=
  ⟨SE_str hx⟩
theorem WE_txt {x m k pos} (hx:x.length≤m):WE prog w hb T N sc (.Constant (.str x) k pos) (.const (.txt m)) :=
  ⟨SE_txt hx⟩
theorem El {x:Str} {c:Nat} {pos} (hx:nm c=some x) (hlx:lexical sc x=true:=by kernel_rfl):WE prog w hb T N sc (.Name x pos) (.loc c) :=
  ⟨SE_loc hx hlx⟩
theorem Eg {x:Str} {c:Nat} {l:LV} {pos} (G:Gd w hb K mg mb) (hl:∃ v,nsIn K mainGlobals x=some (some v)∧Den w.params (fun a=>K.lookup a) (fun _=>0) 0 v l) (hx:sc.names.lookup x=some .globalImplicit:=by kernel_rfl) (hd:(x == ("__debug__" : Str))=false:=by kernel_rfl):WE prog w hb T N sc (.Name x pos) (.glob c l) :=
  ⟨SE_globx G hx hd hl⟩
theorem Et {es:List PySem.Expr} {mes:MEs} {k pos} (h1:WEs prog w hb T N sc es mes) (hl:mes.len≤100:=by decide):WE prog w hb T N sc (.Tuple es k pos) (.tup mes) :=
  ⟨SE_tup h1.h hl⟩
theorem WE_lst {es:List PySem.Expr} {mes:MEs} {pos} (h1:WEs prog w hb T N sc es mes) (hl:mes.len≤100:=by decide):WE prog w hb T N sc (.List es pos) (.lst mes) :=
  ⟨SE_lst h1.h hl⟩
theorem WE_mlst {es:List PySem.Expr} {mes:MEs} {pos} (h1:WEs prog w hb T N sc es mes) (hl:mes.len≤100:=by decide):WE prog w hb T N sc (.List es pos) (.mlst mes) :=
  ⟨SE_mlst h1.h hl⟩
theorem WE_mdct0 {pos:Pos}:WE prog w hb T N sc (.Dict [] [] pos) (.mdct [] .nil) :=
  ⟨SE_mdct0 ⟩
theorem WE_dct {ks vals:List PySem.Expr} {cs:List Nat} {mes:MEs} {pos:Pos} (hk:KeyEs ks cs) (h2:WEl prog w hb T N sc vals mes) (hl:ks.length=vals.length) (h15:cs.length≤15) (hn:cs.Nodup) (h0:ks≠[]):WE prog w hb T N sc (.Dict (ks.map some) vals pos) (.dct cs mes) :=
  ⟨SE_dct hk h2.h hl h15 hn h0⟩
theorem WE_mdct {ks vals:List PySem.Expr} {cs:List Nat} {mes:MEs} {pos:Pos} (hk:KeyEs ks cs) (h2:WEl prog w hb T N sc vals mes) (hl:ks.length=vals.length) (h15:cs.length≤15) (hn:cs.Nodup) (h0:ks≠[]):WE prog w hb T N sc (.Dict (ks.map some) vals pos) (.mdct cs mes) :=
  ⟨SE_mdct hk h2.h hl h15 hn h0⟩
theorem Ex {i:Bool} {es:List PySem.Expr} {mes:MEs} {pos} (h1:WEb prog w hb T N sc i es mes):WE prog w hb T N sc (.BoolOp (opB i) es pos) (.boolop i mes) :=
  ⟨SE_boolop h1.h⟩
theorem WE_not {e:PySem.Expr} {me:ME} {pos} (h1:WE prog w hb T N sc e me):WE prog w hb T N sc (.UnaryOp .Not e pos) (.not me) :=
  ⟨SE_not h1.h⟩
theorem Eh {c a b:PySem.Expr} {mc ma mb:ME} {pos} (h1:WB prog w hb T N sc c mc) (h2:WE prog w hb T N sc a ma) (h3:WE prog w hb T N sc b mb):WE prog w hb T N sc (.IfExp c a b pos) (.ite mc ma mb) :=
  ⟨SE_ite h1.h h2.h h3.h⟩
theorem Eq {op:BOp} {pop:Operator} {a b:PySem.Expr} {ma mb:ME} {pos} (hop:(op = .add∧pop = .Add)∨(op = .sub∧pop = .Sub)∨(op = .mul∧pop = .Mult)∨(op = .mod∧pop = .Mod)) (h1:WE prog w hb T N sc a ma) (h2:WE prog w hb T N sc b mb):WE prog w hb T N sc (.BinOp a pop b pos) (.bin op ma mb) :=
  ⟨SE_bin hop h1.h h2.h⟩
theorem Ek {op:COp} {a b:PySem.Expr} {ma mb:ME} {pos} (h1:WE prog w hb T N sc a ma) (h2:WE prog w hb T N sc b mb) (hs:notSet b=true:=by rfl):WE prog w hb T N sc (.Compare a [opC op] [b] pos) (.cmp op ma mb) :=
  ⟨SE_cmp h1.h h2.h hs⟩
theorem WE_slice {e:PySem.Expr} {me:ME} {n:Nat} {k kp p pos} (h1:WE prog w hb T N sc e me) (ht:∀ o r,letTemporaryGo e o r=pure ()):WE prog w hb T N sc (.Subscript e (.Slice none (some (.Constant (.int n) k kp)) none p) pos) (.slice me n) :=
  ⟨SE_slice h1.h ht⟩
theorem Eu {a b:PySem.Expr} {ma mb:ME} {pos} (h1:WE prog w hb T N sc a ma) (h2:WE prog w hb T N sc b mb) (hs:notSlice b=true:=by rfl):WE prog w hb T N sc (.Subscript a b pos) (.sub ma mb) :=
  ⟨SE_sub h1.h h2.h hs⟩
theorem Er {e:PySem.Expr} {me:ME} {x:Str} {a:Nat} {pos:Pos} (X:K.In hb) (CT:ClsTab K T) (h1:WE prog w hb T N sc e me) (hx:nm a=some x) (he:∀ env,eval (.Attribute e x pos) env=(do
      let o ← eval e env
      standAt pos.atName
      let r ← holding [o] (getAttr o x true)
      letTemporaryGo e o r
      pure r):=by exact fun _=>rfl):WE prog w hb T N sc (.Attribute e x pos) (.attr me a) :=
  ⟨SE_attr X CT h1.h hx he⟩
theorem Ea {x:Str} {np pos:Pos} {f:Nat} {a:Addr} {es:List PySem.Expr} {mes:MEs} (G:Gd w hb K mg mb) (CT:CallTab prog w hb K T adr N) (hv:nsIn K mainGlobals x=some (some (.ref a))) (h1:WEs prog w hb T N sc es mes) (ha:adr f=some a:=by rfl) (hx:sc.names.lookup x=some .globalImplicit:=by kernel_rfl) (hd:(x == ("__debug__" : Str))=false:=by kernel_rfl) (hn:noStar es=true:=by rfl):WE prog w hb T N sc (.Call (.Name x np) es [] pos) (.call f mes) :=
  ⟨SE_call G CT ha hx hv hd h1.h hn⟩
theorem WE_new {x:Str} {np pos:Pos} {c:Nat} {C:Addr} (G:Gd w hb K mg mb) (CT:CallTab prog w hb K T adr N) (hC:clsA c=some C) (hv:nsIn K mainGlobals x=some (some (.ref C))) (hx:sc.names.lookup x=some .globalImplicit:=by kernel_rfl) (hd:(x == ("__debug__" : Str))=false:=by kernel_rfl):WE prog w hb T N sc (.Call (.Name x np) [] [] pos) (.new c) :=
  ⟨SE_new G CT hC hx hv hd⟩
theorem WE_len {e:PySem.Expr} {me:ME} {x:Str} {np pos} (G:Gd w hb K mg mb) (n:BN K sc x (.builtin "len")) (h1:WE prog w hb T N sc e me) (hs:isStarred e=false:=by rfl):WE prog w hb T N sc (.Call (.Name x np) [e] [] pos) (.len me) :=
  ⟨SE_len G n h1.h hs⟩
theorem WE_tupOf {e:PySem.Expr} {me:ME} {x:Str} {np pos} (G:Gd w hb K mg mb) (n:BN K sc x (.type "tuple")) (h1:WE prog w hb T N sc e me) (hs:isStarred e=false:=by rfl):WE prog w hb T N sc (.Call (.Name x np) [e] [] pos) (.tupOf me) :=
  ⟨SE_tupOf G n h1.h hs⟩
theorem WE_lstOf {e:PySem.Expr} {me:ME} {x:Str} {np pos} (G:Gd w hb K mg mb) (n:BN K sc x (.type "list")) (h1:WE prog w hb T N sc e me) (hs:isStarred e=false:=by rfl):WE prog w hb T N sc (.Call (.Name x np) [e] [] pos) (.lstOf me) :=
  ⟨SE_lstOf G n h1.h hs⟩
theorem WE_mlstOf {e:PySem.Expr} {me:ME} {x:Str} {np pos} (G:Gd w hb K mg mb) (n:BN K sc x (.type "list")) (h1:WE prog w hb T N sc e me) (hs:isStarred e=false:=by rfl):WE prog w hb T N sc (.Call (.Name x np) [e] [] pos) (.mlstOf me) :=
  ⟨SE_mlstOf G n h1.h hs⟩
theorem WE_sorted2 {e:PySem.Expr} {me:ME} {x:Str} {np pos} (G:Gd w hb K mg mb) (n:BN K sc x (.builtin "sorted")) (h1:WE prog w hb T N sc e me) (hs:isStarred e=false:=by rfl):WE prog w hb T N sc (.Call (.Name x np) [e] [] pos) (.sorted2 me) :=
  ⟨SE_sorted2 G n h1.h hs⟩
theorem WE_sortedWx {K:Frag} {T:Tab} {N:Nat} {sc:Scope} {y x:Str} {ps:List (Nat × LV)} {ks:List Nat} {np yp pos:Pos} (G:Gd w hb K mg mb) (n:BN K sc x (.builtin "sorted")) (hy:sc.names.lookup y=some .globalImplicit) (hd:(y == ("__debug__" : Str))=false) (h:∃ a es kk,nsIn K mainGlobals y=some (some (.ref a))∧K.lookup a=some (dictOf es kk)∧(a == sysModules)=false∧DenEs w.params (fun b=>K.lookup b) (fun _=>0) 0 es ps) (hn:(ps.map (·.1)).Nodup) (hp:(ps.map (·.1)).Perm ks) (hall:(ks.all fun c=>(nm c).isSome)=true) (hsrt:sortedS (ks.map nmS)=true) (h64:ps.length < 64):WE prog w hb T N sc (.Call (.Name x np) [.Name y yp] [] pos) (.sortedW ks) :=
  ⟨SE_sortedWx G n hy hd h hn hp hall hsrt h64⟩
theorem Em {e:PySem.Expr} {me:ME} {x:Str} {m:Nat} {apos pos:Pos} {es:List PySem.Expr} {mes:MEs} (X:K.In hb) (CL:ClsTab K T) (CT:CallTab prog w hb K T adr N) (h1:WE prog w hb T N sc e me) (h2:WEs prog w hb T N sc es mes) (hx:nm m=some x) (hp:plainBase e=true:=by rfl) (hn:noStar es=true:=by rfl) (h30:es.length < 30:=by decide) (hl:(apos.endLine == pos.line)=true:=by rfl):WE prog w hb T N sc (.Call (.Attribute e x apos) es [] pos) (.meth me m mes) :=
  ⟨SE_meth X CL CT h1.h h2.h hx hp hn h30 hl⟩
theorem WE_append {e e₂:PySem.Expr} {me me₂:ME} {x:Str} {apos pos:Pos} (h1:WE prog w hb T N sc e me) (h2:WE prog w hb T N sc e₂ me₂) (hx:x = "append" := by rfl) (hp:plainBase e=true:=by rfl) (hs:isStarred e₂=false:=by rfl) (hl:(apos.endLine == pos.line)=true:=by rfl):WE prog w hb T N sc (.Call (.Attribute e x apos) [e₂] [] pos) (.append me me₂) :=
  ⟨SE_append h1.h h2.h hx hp hs hl⟩
theorem WE_pop {e:PySem.Expr} {me:ME} {x:Str} {apos pos:Pos} (h1:WE prog w hb T N sc e me) (hx:x = "pop" := by rfl) (hp:plainBase e=true:=by rfl) (hl:(apos.endLine == pos.line)=true:=by rfl):WE prog w hb T N sc (.Call (.Attribute e x apos) [] [] pos) (.pop me) :=
  ⟨SE_pop h1.h hx hp hl⟩
theorem Ef {e₁ e₂:PySem.Expr} {es:List PySem.Expr} {mes:MEs} {pos:Pos} (h:WPl prog w hb T N sc (e₁::e₂::es) mes):WE prog w hb T N sc (.JoinedStr (e₁::e₂::es) pos) (.fstr mes) :=
  ⟨SE_fstr h.h⟩
theorem WE_comp {elt target iter:PySem.Expr} {ifs:List PySem.Expr} {scope:Scope} {pos:Pos} {me:ME} {tg:MT} {mi:MI} {mes:MEs} (ck:CompOk scope sc target tg) (hI:WI prog w hb T N sc target iter mi) (hE:WE prog w hb T N (relabelS scope sc) elt me) (hC:WBl prog w hb T N (relabelS scope sc) ifs mes) (hs:∀ env x,foldedSetIterable iter env x=pure x:=by exact fun _ _=>rfl):WE prog w hb T N sc (.ListComp elt [⟨target,iter,ifs,0⟩] scope pos) (.comp me tg mi mes) :=
  ⟨SE_comp ck hI.h hE.h hC.h hs⟩
theorem Bc {op:COp} {a b:PySem.Expr} {ma mb:ME} {pos} (h1:WE prog w hb T N sc a ma) (h2:WE prog w hb T N sc b mb) (hs:notSet b=true:=by rfl):WB prog w hb T N sc (.Compare a [opC op] [b] pos) (.cmp op ma mb) :=
  ⟨SB_cmp h1.h h2.h hs⟩
theorem WB_notin {a b:PySem.Expr} {ma mb:ME} {pos} (h1:WE prog w hb T N sc a ma) (h2:WE prog w hb T N sc b mb) (hs:notSet b=true:=by rfl):WB prog w hb T N sc (.Compare a [.NotIn] [b] pos) (.notin ma mb) :=
  ⟨SB_notin h1.h h2.h hs⟩
theorem WB_cmpD {a b:PySem.Expr} {ma mb:ME} {pos} (h1:WE prog w hb T N sc a ma) (h2:WE prog w hb T N sc b mb) (hs:notSet b=true:=by rfl):WB prog w hb T N sc (.Compare a [.NotEq] [b] pos) (.cmpD ma mb) :=
  ⟨SB_cmpD h1.h h2.h hs⟩
theorem WB_cmpLD {a b:PySem.Expr} {ma mb:ME} {pos} (h1:WE prog w hb T N sc a ma) (h2:WE prog w hb T N sc b mb) (hs:notSet b=true:=by rfl):WB prog w hb T N sc (.Compare a [.NotEq] [b] pos) (.cmpLD ma mb) :=
  ⟨SB_cmpLD h1.h h2.h hs⟩
theorem Ba {i:Bool} {es:List PySem.Expr} {mes:MEs} {pos} (h1:WBb prog w hb T N sc i es mes):WB prog w hb T N sc (.BoolOp (opB i) es pos) (.boolop i mes) :=
  ⟨SB_boolop h1.h⟩
theorem WB_not {e:PySem.Expr} {me:ME} {pos} (h1:WB prog w hb T N sc e me):WB prog w hb T N sc (.UnaryOp .Not e pos) (.not me) :=
  ⟨SB_not h1.h⟩
theorem Bp {e:PySem.Expr} {me:ME} (h1:WE prog w hb T N sc e me) (hp:∀ env,isTrue e env (eval e env)=(do let v ← eval e env; standAt e.pos; holding [v] (truthy v))):WB prog w hb T N sc e me :=
  ⟨SB_of_plain h1.h hp⟩
theorem En  : WEs prog w hb T N sc [] .nil :=
  ⟨SEs_nil ⟩
theorem Ec {e:PySem.Expr} {es:List PySem.Expr} {me:ME} {mes:MEs} (h1:WE prog w hb T N sc e me) (h2:WEs prog w hb T N sc es mes) (hs:isStarred e=false:=by rfl):WEs prog w hb T N sc (e::es) (.cons me mes) :=
  ⟨SEs_cons h1.h h2.h hs⟩
theorem Eo {i:Bool} {e:PySem.Expr} {me:ME} (h1:WE prog w hb T N sc e me):WEb prog w hb T N sc i [e] (.cons me .nil) :=
  ⟨SEb_one h1.h⟩
theorem Ed {i:Bool} {e e₂:PySem.Expr} {es:List PySem.Expr} {me me₂:ME} {mes:MEs} (h1:WE prog w hb T N sc e me) (h2:WEb prog w hb T N sc i (e₂::es) (.cons me₂ mes)):WEb prog w hb T N sc i (e::e₂::es) (.cons me (.cons me₂ mes)) :=
  ⟨SEb_cons h1.h h2.h⟩
theorem Bo {i:Bool} {e:PySem.Expr} {me:ME} (h1:WB prog w hb T N sc e me):WBb prog w hb T N sc i [e] (.cons me .nil) :=
  ⟨SBb_one h1.h⟩
theorem Bb {i:Bool} {e e₂:PySem.Expr} {es:List PySem.Expr} {me me₂:ME} {mes:MEs} (h1:WB prog w hb T N sc e me) (h2:WBb prog w hb T N sc i (e₂::es) (.cons me₂ mes)):WBb prog w hb T N sc i (e::e₂::es) (.cons me (.cons me₂ mes)) :=
  ⟨SBb_cons h1.h h2.h⟩
theorem WP_fmt {e:PySem.Expr} {me:ME} {pos:Pos} (h1:WE prog w hb T N sc e me):WP prog w hb T N sc (.FormattedValue e (-1) none pos) me :=
  ⟨SP_fmt h1.h⟩
theorem WP_str {x:Str} {me:ME} {m:Nat} {k p} (hx:me = .const (.txt m)∧x.length≤m∨∃ c,nm c=some x∧me = .const (.str c)):WP prog w hb T N sc (.Constant (.str x) k p) me :=
  ⟨SP_str hx⟩
theorem WI_range {target e:PySem.Expr} {me:ME} {x:Str} {np pos} (G:Gd w hb K mg mb) (n:BN K sc x (.type "range")) (h1:WE prog w hb T N sc e me) (hs:isStarred e=false:=by rfl):WI prog w hb T N sc target (.Call (.Name x np) [e] [] pos) (.range me) :=
  ⟨SI_range G n h1.h hs⟩
theorem WI_range3 {target a b c:PySem.Expr} {ma mb' mc:ME} {x:Str} {np pos} (G:Gd w hb K mg mb) (n:BN K sc x (.type "range")) (h1:WE prog w hb T N sc a ma) (h2:WE prog w hb T N sc b mb') (h3:WE prog w hb T N sc c mc) (hs:noStar [a,b,c]=true:=by rfl):WI prog w hb T N sc target (.Call (.Name x np) [a,b,c] [] pos) (.range3 ma mb' mc) :=
  ⟨SI_range3 G n h1.h h2.h h3.h hs⟩
theorem WI_zip {elts:List PySem.Expr} {kk:Nat} {tp:Pos} {a b:PySem.Expr} {ma mb':ME} {x:Str} {np pos} (G:Gd w hb K mg mb) (n:BN K sc x (.type "zip")) (h1:WE prog w hb T N sc a ma) (h2:WE prog w hb T N sc b mb') (hs:noStar [a,b]=true:=by rfl):WI prog w hb T N sc (.Tuple elts kk tp) (.Call (.Name x np) [a,b] [] pos) (.zip ma mb') :=
  ⟨SI_zip G n h1.h h2.h hs⟩
theorem WI_val {target e:PySem.Expr} {me:ME} (h1:WE prog w hb T N sc e me):WI prog w hb T N sc target e (.val me) :=
  ⟨SI_val h1.h⟩
theorem Sn  : WSs prog w hb T N sc [] .nil :=
  ⟨SSs_nil ⟩
theorem Sc {st:Stmt} {sts:List Stmt} {ms:MS} {mss:MSs} (h1:WS prog w hb T N sc st ms) (h2:WSs prog w hb T N sc sts mss):WSs prog w hb T N sc (st::sts) (.cons ms mss) :=
  ⟨SSs_cons h1.h h2.h⟩
theorem Si {c:PySem.Expr} {mc:ME} {a b:List Stmt} {ma mb:MSs} {pos:Pos} (h1:WB prog w hb T N sc c mc) (h2:WSs prog w hb T N sc a ma) (h3:WSs prog w hb T N sc b mb):WS prog w hb T N sc (.If c a b pos) (.ite mc ma mb) :=
  ⟨SS_if h1.h h2.h h3.h⟩
theorem Sr {e:PySem.Expr} {me:ME} {pos:Pos} (h1:WE prog w hb T N sc e me):WS prog w hb T N sc (.Return (some e) pos) (.ret me) :=
  ⟨SS_ret h1.h⟩
theorem WS_setI {oe i v:PySem.Expr} {mo mi mv:ME} {p pos:Pos} (h1:WE prog w hb T N sc v mv) (h2:WE prog w hb T N sc oe mo) (h3:WE prog w hb T N sc i mi) (hs:∀ env,swapsWith v (some (.Subscript oe i p)) pos.line env=pure false:=by exact fun _=>rfl):WS prog w hb T N sc (.Assign [.Subscript oe i p] v pos) (.setI mo mi mv) :=
  ⟨SS_setI h1.h h2.h h3.h hs⟩
theorem WS_setA {oe v:PySem.Expr} {mo mv:ME} {x:Str} {a:Nat} {p pos:Pos} (X:K.In hb) (CL:ClsTab K T) (h1:WE prog w hb T N sc v mv) (h2:WE prog w hb T N sc oe mo) (hx:nm a=some x) (hs:∀ env,swapsWith v (some (.Attribute oe x p)) pos.line env=pure false:=by exact fun _=>rfl):WS prog w hb T N sc (.Assign [.Attribute oe x p] v pos) (.setA mo a mv) :=
  ⟨SS_setA X CL h1.h h2.h hx hs⟩
theorem WS_for {target iter:PySem.Expr} {body:List Stmt} {pos:Pos} {tg:MT} {mi:MI} {mss:MSs} (hI:WI prog w hb T N sc target iter mi) (ht:Tg true sc target tg) (hB:WSs prog w hb T N sc body mss) (hs:∀ env x,foldedSetIterable iter env x=pure x:=by exact fun _ _=>rfl):WS prog w hb T N sc (.For target iter body [] pos) (.forS tg mi mss) :=
  ⟨SS_for hI.h ht hB.h hs⟩
theorem WS_while {c:PySem.Expr} {mc:ME} {body:List Stmt} {pos:Pos} {mss:MSs} (hC:WB prog w hb T N sc c mc) (hB:WSs prog w hb T N sc body mss):WS prog w hb T N sc (.While c body [] pos) (.whileS mc mss) :=
  ⟨SS_while hC.h hB.h⟩
theorem WS_asgComp {x:Str} {k:Nat} {xp pos lpos:Pos} {elt target iter:PySem.Expr} {ifs:List PySem.Expr} {scope:Scope} {me:ME} {tg:MT} {mi:MI} {mes:MEs} (hx:nm k=some x) (hst:sc.names.lookup x=some .local) (ck:CompOk scope sc target tg) (hI:WI prog w hb T N sc target iter mi) (hE:WE prog w hb T N (relabelS scope sc) elt me) (hC:WBl prog w hb T N (relabelS scope sc) ifs mes) (hs:∀ env x,foldedSetIterable iter env x=pure x) (hsw:∀ env,env.scope=sc→swapsWith (.ListComp elt [⟨target,iter,ifs,0⟩] scope lpos) (some (.Name x xp)) pos.line env=pure true):WS prog w hb T N sc (.Assign [.Name x xp] (.ListComp elt [⟨target,iter,ifs,0⟩] scope lpos) pos) (.asg k (.comp me tg mi mes)) :=
  ⟨SS_asgComp hx hst ck hI.h hE.h hC.h hs hsw⟩
theorem WS_asg {x:Str} {k:Nat} {xp pos:Pos} {e:PySem.Expr} {me:ME} (hx:nm k=some x) (hst:Storable true sc x) (h1:WE prog w hb T N sc e me) (hs:∀ env,swapsWith e (some (.Name x xp)) pos.line env=pure false:=by exact fun _=>rfl):WS prog w hb T N sc (.Assign [.Name x xp] e pos) (.asg k me) :=
  ⟨SS_asg hx hst h1.h hs⟩
theorem WS_asgTs {elts:List PySem.Expr} {xs:List Str} {ks:List Nat} {k:Nat} {tp pos:Pos} {e:PySem.Expr} {me:ME} (ht:NmL sc xs ks) (hn:ks.Nodup) (h1:WE prog w hb T N sc e me) (hw:∀ env,env.scope=sc→swappedStores [.Tuple elts k tp] e env=pure (some xs)) (hs:∀ env,swapsWithSole [.Tuple elts k tp] e pos.line env=pure false:=by exact fun _=>rfl):WS prog w hb T N sc (.Assign [.Tuple elts k tp] e pos) (.asgT ks me) :=
  ⟨SS_asgTs ht hn h1.h hs hw⟩
theorem WS_asgT {elts:List PySem.Expr} {ks:List Nat} {k:Nat} {tp pos:Pos} {e:PySem.Expr} {me:ME} (ht:TgL true sc elts ks) (h1:WE prog w hb T N sc e me) (hw:∀ env,env.scope=sc→swappedStores [.Tuple elts k tp] e env=pure none) (hs:∀ env,swapsWithSole [.Tuple elts k tp] e pos.line env=pure false:=by exact fun _=>rfl):WS prog w hb T N sc (.Assign [.Tuple elts k tp] e pos) (.asgT ks me) :=
  ⟨SS_asgT ht h1.h hs hw⟩
theorem WS_expr {e:PySem.Expr} {me:ME} {pos:Pos} (h1:WE prog w hb T N sc e me) (hs:∀ env,swapsWith e none pos.line env=pure false:=by exact fun _=>rfl):WS prog w hb T N sc (.Expr e pos) (.expr me) :=
  ⟨SS_expr h1.h hs⟩
theorem WS_tryF {body:List Stmt} {f₀:Stmt} {fs:List Stmt} {pos:Pos} {mb mf:MSs} (hB:WSs prog w hb T N sc body mb) (hF:WSs prog w hb (quietT T) N sc (f₀::fs) mf):WS prog w hb T N sc (.Try body [] [] (f₀::fs) pos) (.tryF mb mf) :=
  ⟨SS_tryF hB.h hF.h⟩
theorem WS_tryE {body:List Stmt} {mbd:MSs} {c:Str} {fx told:Str} {x y:Nat} {np p1 p2 p3 p4 p5 p6 hpos pos:Pos} {kk:Nat} (G:Gd w hb K mg mb) (X:XB bm) (hC:K.lookup kfA=some (excClassObj nm' q kfA Na bs bm hdct sn sub ab col dd k0 k1 k2 k3 k5 "Exception.__new__")) (Ct:Caught K) (hB:WSs prog w hb T Nn sc body mbd) (hx:nm x=some fx) (hy:nm y=some told) (hne:y≠x) (hcx:sc.names.lookup c=some .globalImplicit) (hcv:nsIn K mainGlobals c=some (some (.ref kfA))) (hcd:(c == ("__debug__" : Str))=false) (hfl:sc.names.lookup fx=some .local) (htl:sc.names.lookup told=some .local) (he:∀ env,eval (.Attribute (.Name fx p1) "spot" p2) env=(do
      let o ← eval (.Name fx p1) env
      standAt p2.atName
      let r ← holding [o] (getAttr o "spot" true)
      letTemporaryGo (.Name fx p1) o r
      pure r)) (hs:∀ env,swapsWith (.Tuple [.Constant .none 0 p3,.Attribute (.Name fx p1) "spot" p2] kk p4) (some (.Name told p5)) p6.line env=pure false):WS prog w hb T Nn sc (.Try body [.ExceptHandler (some (.Name c np)) (some fx) [.Assign [.Name told p5] (.Tuple [.Constant .none 0 p3,.Attribute (.Name fx p1) "spot" p2] kk p4) p6] hpos] [] [] pos) (.tryE mbd x y) :=
  ⟨SS_tryE G X hC Ct hB.h hx hy hne hcx hcv hcd hfl htl he hs⟩
theorem Rs (GG:Ground prog w hb mg mb) {T:Tab} {n:Nat} {sc:Scope} {x:Str} {np cpos pos:Pos} {msg spot:PySem.Expr} {mm ms:ME} (hx:sc.names.lookup x=some .globalImplicit) (hv:nsIn (KK w.params) mainGlobals x=some (some (.ref kfA))) (hd:(x == ("__debug__" : Str))=false) (h1:WE prog w hb T n sc msg mm) (h2:WE prog w hb T n sc spot ms) (hs:noStar [msg,spot]=true):WS prog w hb T n sc (.Raise (some (.Call (.Name x np) [msg,spot] [] cpos)) none pos) (.raise mm ms) :=
  ⟨raise_rule GG hx hv hd h1.h h2.h hs⟩
end
end Mine
namespace Mine
open PySem PySem.Calls PySem.W PyProof.Rows PySem.SeqAt
section
variable {prog:Program} {w:World} {hb:Heap} {mg mb:Str→Option Value}
theorem ok0 (GG:Ground prog w hb mg mb):BodyOk prog w hb (KK w.params) methIx initIx fldIx adrOf 600 F_law :=
  ⟨F_law.params.filterMap nm,_,_,⟨⟨_,_,_,_,_,_,_,_,_,_,_,_,_,rfl,rfl,fun vals h=>match vals,h with | [v0],_=>rfl⟩,rfl,by decide,by decide,by decide,noFree_of (by decide),rfl,rfl,rfl⟩,fun T n hm hi hf CT CQ =>
    have CL:=GG.C T hf
    have G:=GG.G
    have X:=G.X
    WSs.h (Sc (WS_asgTs (.cons n105 (by kernel_rfl) (.cons n163 (by kernel_rfl) (.cons n176 (by kernel_rfl) .nil))) (by decide) (Et (Ec (WE_mdct (.cons n80 (.cons n188 (.cons n217 .nil))) (.cons (WE_lstOf G bn_161 (WE_slice (El n205) (fun _ _=>rfl))) (.cons Ei (.cons Ei .nil))) rfl (by decide) (by decide) (List.cons_ne_nil _ _)) (Ec (WE_new G CT rfl g_25) (Ec (WE_lst (Ec WE_mdct0 (Ec WE_mdct0 En))) En)))) (swap_of rfl (by kernel_rfl)))
 (Sc (WS_asg n172 (.inl (by kernel_rfl)) (Ea G CT g_46 (Ec (El n105) (Ec Ei (Ec (Eu (Et (Ec (Es n130) (Ec (Es n75) En))) (Ea G CT g_39 (Ec (El n105) (Ec Ei En)))) En)))))
 (Sc (WS_asg n99 (.inl (by kernel_rfl)) (Ea G CT g_44 (Ec (El n172) (Ec (WE_comp (compOk_of rfl (by kernel_rfl) (.one n170 (.inl (by kernel_rfl)))) (WI_val (WE_sortedWx G bn_216 (by kernel_rfl) (by kernel_rfl) (world_51 w.params) (by decide) (by decide) (by decide +kernel) (by decide +kernel) (by decide))) (Et (Ec (El n170) (Ec (Eu (Eg G den_51) (El n170)) (Ec Eb En)))) .nil) (Ec (El n176) En)))))
 (Sc (WS_for (WI_val (WE_sortedWx G bn_216 (by kernel_rfl) (by kernel_rfl) (world_51 w.params) (by decide) (by decide) (by decide +kernel) (by decide +kernel) (by decide))) (.one n170 (.inl (by kernel_rfl))) (Sc (WS_expr (Em X CL CT (Er X CL (El n163) n171) (Ec (El n170) (Ec (Eu (Eg G den_51) (El n170)) (Ec Ei En))) n196))
 Sn))
 (Sc (WS_expr (Em X CL CT (El n163) (Ec (Et (Ec (Es n192) (Ec Ei (Ec (Es n185) (Ec (Et (Ec (Et (Ec (Et (Ec (Es n130) (Ec Eb (Ec (Et En) (Ec WE_none En))))) (Ec (Es n162) En))) En)) (Ec (Et (Ec (Es n75) (Ec Ei (Ec Eb En)))) En)))))) En) n175))
 (Sc (WS_for (WI_range G bn_199 Ei) (.one n151 (.inl (by kernel_rfl))) (Sc (WS_tryE G xbK rfl (caughtK _) (Sc (WS_asg n226 (.inl (by kernel_rfl)) (Et (Ec (Em X CL CT (El n163) (Ec (El n172) En) n242) (Ec WE_none En))))
 Sn) n104 n226 (by decide) (by kernel_rfl) g_24 (by kernel_rfl) (by kernel_rfl) (by kernel_rfl) (fun _=>rfl) (fun _=>rfl))
 (Sc (Si (Ba (i:=false) (Bb (Bc (op:=.ne) (El n226) (El n99)) (Bo (WB_cmpLD (Er X CL (Er X CL (El n163) n171) n204) (WE_lst (Ec (Eg G den_51) En)))))) (Sc (Sr Eb)
 Sn) Sn)
 (Sc (Si (Ba (i:=false) (Bb (WB_cmpD (Er X CL (Er X CL (El n163) n171) n63) (Eu (El n176) Ei)) (Bo (WB_cmpD (Er X CL (El n163) n78) (Eu (El n176) Ei))))) (Sc (Sr Eb)
 Sn) Sn)
 Sn))))
 (Sc (Sr Eb)
 Sn)))))))⟩
theorem ok1 (GG:Ground prog w hb mg mb):BodyOk prog w hb (KK w.params) methIx initIx fldIx adrOf 521 F__law_dip :=
  ⟨F__law_dip.params.filterMap nm,_,_,⟨⟨_,_,_,_,_,_,_,_,_,_,_,_,_,rfl,rfl,fun vals h=>match vals,h with | [v0,v1],_=>rfl⟩,rfl,by decide,by decide,by decide,noFree_of (by decide),rfl,rfl,rfl⟩,fun T n hm hi hf CT CQ =>
    have CL:=GG.C T hf
    have G:=GG.G
    have X:=G.X
    WSs.h (Sc (WS_asgTs (.cons n80 (by kernel_rfl) (.cons n188 (by kernel_rfl) .nil)) (by decide) (Et (Ec (Eu (El n105) (Es n80)) (Ec (Eu (El n105) (Es n188)) En))) (swap_of rfl (by kernel_rfl)))
 (Sc (WS_setI (Eq (.inl ⟨rfl,rfl⟩) (El n188) Ei) (El n105) (Es n188))
 (Sc (Si (Bc (op:=.lt) (El n188) (WE_len G bn_154 (El n80))) (Sc (Sr (Eq (.inr (.inr (.inr ⟨rfl,rfl⟩))) (Eu (El n80) (El n188)) (El n164)))
 Sn) Sn)
 (Sc (Sr (Eq (.inr (.inr (.inr ⟨rfl,rfl⟩))) (Eq (.inr (.inr (.inr ⟨rfl,rfl⟩))) (Eq (.inl ⟨rfl,rfl⟩) (Eq (.inl ⟨rfl,rfl⟩) (Eq (.inl ⟨rfl,rfl⟩) (Eq (.inr (.inr (.inl ⟨rfl,rfl⟩))) (Eq (.inr (.inr (.inl ⟨rfl,rfl⟩))) Ei (El n188)) (El n188)) (Eq (.inr (.inr (.inl ⟨rfl,rfl⟩))) Ei (El n188))) (Eq (.inr (.inr (.inl ⟨rfl,rfl⟩))) Ei (WE_len G bn_154 (El n80)))) Ei) Ei) (El n164)))
 Sn))))⟩
theorem ok2 (GG:Ground prog w hb mg mb):BodyOk prog w hb (KK w.params) methIx initIx fldIx adrOf 528 F__law_spot :=
  ⟨F__law_spot.params.filterMap nm,_,_,⟨⟨_,_,_,_,_,_,_,_,_,_,_,_,_,rfl,rfl,fun vals h=>match vals,h with | [v0],_=>rfl⟩,rfl,by decide,by decide,by decide,noFree_of (by decide),rfl,rfl,rfl⟩,fun T n hm hi hf CT CQ =>
    have CL:=GG.C T hf
    have G:=GG.G
    have X:=G.X
    WSs.h (Sc (WS_setI (Eq (.inl ⟨rfl,rfl⟩) (Eu (El n105) (Es n217)) Ei) (El n105) (Es n217))
 (Sc (Sr (Eu (El n105) (Es n217)))
 Sn))⟩
theorem ok3 (GG:Ground prog w hb mg mb):BodyOk prog w hb (KK w.params) methIx initIx fldIx adrOf 535 F__law_leaf :=
  ⟨F__law_leaf.params.filterMap nm,_,_,⟨⟨_,_,_,_,_,_,_,_,_,_,_,_,_,rfl,rfl,fun vals h=>match vals,h with | [v0,v1],_=>rfl⟩,rfl,by decide,by decide,by decide,noFree_of (by decide),rfl,rfl,rfl⟩,fun T n hm hi hf CT CQ =>
    have CL:=GG.C T hf
    have G:=GG.G
    have X:=G.X
    WSs.h (Sc (WS_asgTs (.cons n217 (by kernel_rfl) (.cons n240 (by kernel_rfl) .nil)) (by decide) (Et (Ec (Ea G CT g_48 (Ec (El n105) En)) (Ec (Ea G CT g_39 (Ec (El n105) (Ec Ei En))) En))) (swap_of rfl (by kernel_rfl)))
 (Sc (Si (Bc (op:=.eq) (El n240) Ei) (Sc (Sr (Et (Ec (Es n170) (Ec (El n217) (Ec (Eu (Et (Ec (Es n203) (Ec (Es n223) (Ec (Es n232) (Ec (Es n247) (Ec (Es n111) (Ec (Es n52) En))))))) (Ea G CT g_39 (Ec (El n105) (Ec Ei En)))) En)))))
 Sn) Sn)
 (Sc (Si (Bc (op:=.eq) (El n72) (Es n75)) (Sc (Sr (Eu (Et (Ec (Et (Ec (Es n75) (Ec (El n217) (Ec Eb En)))) (Ec (Et (Ec (Es n170) (Ec (El n217) (Ec (Es n70) En)))) (Ec (Et (Ec (Es n170) (Ec (El n217) (Ec (Es n246) En)))) (Ec (Et (Ec (Es n170) (Ec (El n217) (Ec (Eu (Et (Ec (Es n70) (Ec (Es n246) (Ec (Es n117) En)))) (Eq (.inr (.inr (.inr ⟨rfl,rfl⟩))) (El n240) Ei)) En)))) En))))) (Eq (.inr (.inr (.inr ⟨rfl,rfl⟩))) (El n240) Ei)))
 Sn) Sn)
 (Sc (Si (Bc (op:=.eq) (El n72) (Es n218)) (Sc (Sr (Eh (Bc (op:=.eq) (Eq (.inr (.inr (.inr ⟨rfl,rfl⟩))) (El n240) Ei) Ei) (Et (Ec (Es n218) (Ec (El n217) (Ec (Es n198) En)))) (Et (Ec (Es n170) (Ec (El n217) (Ec (Es n223) En))))))
 Sn) Sn)
 (Sc (Si (Ba (i:=true) (Bb (Bc (op:=.eq) (El n72) (Es n208)) (Bo (Bc (op:=.lt) (El n240) Ei)))) (Sc (Sr (Et (Ec (Es n199) (Ec (El n217) (Ec (Et (Ec (Es n130) (Ec (Ea G CT g_48 (Ec (El n105) En)) (Ec Ei En)))) (Ec (Ea G CT g_45 (Ec (El n105) (Ec (Es n130) En))) En))))))
 Sn) Sn)
 (Sc (Si (Bc (op:=.eq) (El n72) (Es n208)) (Sc (Sr (Et (Ec (Es n170) (Ec (El n217) (Ec (Es n203) En)))))
 Sn) Sn)
 (Sc (Sr (Eh (Bc (op:=.lt) (El n240) Ei) (Et (Ec (Es n170) (Ec (El n217) (Ec (Eu (Et (Ec (Es n118) (Ec (Es n111) (Ec (Es n243) (Ec (Es n118) (Ec (Es n243) (Ec (Es n117) (Ec (Es n118) En)))))))) (El n240)) En)))) (Et (Ec (Es n130) (Ec (El n217) (Ec Ei En))))))
 Sn)))))))⟩
theorem ok4 (GG:Ground prog w hb mg mb):BodyOk prog w hb (KK w.params) methIx initIx fldIx adrOf 542 F__law_expr :=
  ⟨F__law_expr.params.filterMap nm,_,_,⟨⟨_,_,_,_,_,_,_,_,_,_,_,_,_,rfl,rfl,fun vals h=>match vals,h with | [v0,v1,v2],_=>rfl⟩,rfl,by decide,by decide,by decide,noFree_of (by decide),rfl,rfl,rfl⟩,fun T n hm hi hf CT CQ =>
    have CL:=GG.C T hf
    have G:=GG.G
    have X:=G.X
    WSs.h (Sc (WS_asg n240 (.inl (by kernel_rfl)) (Eh (Ba (i:=true) (Bb (Bc (op:=.gt) (El n108) Ei) (Bo (Bc (op:=.lt) (Eu (El n105) (Es n188)) Ei)))) (Ea G CT g_39 (Ec (El n105) (Ec Ei En))) Ei))
 (Sc (Si (Bc (op:=.eq) (El n240) Ei) (Sc (Sr (Ea G CT g_46 (Ec (El n105) (Ec (Eq (.inr (.inl ⟨rfl,rfl⟩)) (El n108) Ei) (Ec (El n72) En)))))
 Sn) Sn)
 (Sc (Si (Ba (i:=false) (Bb (Bc (op:=.lt) (El n240) Ei) (Bo (Bc (op:=.isin) (El n72) (Et (Ec (Es n208) (Ec (Es n218) En))))))) (Sc (Sr (Ea G CT g_45 (Ec (El n105) (Ec (El n72) En))))
 Sn) Sn)
 (Sc (WS_asg n217 (.inl (by kernel_rfl)) (Ea G CT g_48 (Ec (El n105) En)))
 (Sc (Si (Ba (i:=true) (Bb (Bc (op:=.eq) (El n240) Ei) (Bo (Bc (op:=.eq) (El n72) (Es n130))))) (Sc (WS_asg n57 (.inl (by kernel_rfl)) (Et (Ec (Es n170) (Ec (Eq (.inl ⟨rfl,rfl⟩) (El n217) Ei) (Ec (Eu (Et (Ec (Es n232) (Ec (Es n52) (Ec (Es n232) (Ec (Es n111) En))))) (Ea G CT g_39 (Ec (El n105) (Ec Ei En)))) En)))))
 (Sc (Sr (Et (Ec (Es n123) (Ec (El n217) (Ec (El n57) (Ec (Et (Ec (Ea G CT g_41 (Ec (El n105) (Ec (Eq (.inr (.inl ⟨rfl,rfl⟩)) (El n108) Ei) (Ec (Es n130) En)))) En)) En))))))
 Sn)) Sn)
 (Sc (Si (Bc (op:=.eq) (El n240) Ei) (Sc (Sr (Et (Ec (Es n77) (Ec (El n217) (Ec (Es n185) (Ec (Et (Ec (Ea G CT g_41 (Ec (El n105) (Ec (Eq (.inr (.inl ⟨rfl,rfl⟩)) (El n108) Ei) (Ec (Es n130) En)))) En)) En))))))
 Sn) Sn)
 (Sc (WS_asg n213 (.inl (by kernel_rfl)) (Eh (Bc (op:=.eq) (El n72) (Es n130)) (Es n3) (Eu (Et (Ec (Es n9) (Ec (Es n8) En))) (Eq (.inr (.inr (.inr ⟨rfl,rfl⟩))) (El n240) Ei))))
 (Sc (WS_asg n129 (.inl (by kernel_rfl)) (Eh (Bc (op:=.eq) (El n213) (Es n8)) (Es n75) (Es n130)))
 (Sc (WS_asg n180 (.inl (by kernel_rfl)) (Ea G CT g_41 (Ec (El n105) (Ec (Eq (.inr (.inl ⟨rfl,rfl⟩)) (El n108) Ei) (Ec (El n129) En)))))
 (Sc (Sr (Et (Ec (Es n74) (Ec (El n217) (Ec (El n213) (Ec (El n180) (Ec (Ea G CT g_41 (Ec (El n105) (Ec Ei (Ec (El n129) En)))) En)))))))
 Sn))))))))))⟩
theorem ok5 (GG:Ground prog w hb mg mb):BodyOk prog w hb (KK w.params) methIx initIx fldIx adrOf 547 F__law_item :=
  ⟨F__law_item.params.filterMap nm,_,_,⟨⟨_,_,_,_,_,_,_,_,_,_,_,_,_,rfl,rfl,fun vals h=>match vals,h with | [v0,v1],_=>rfl⟩,rfl,by decide,by decide,by decide,noFree_of (by decide),rfl,rfl,rfl⟩,fun T n hm hi hf CT CQ =>
    have CL:=GG.C T hf
    have G:=GG.G
    have X:=G.X
    WSs.h (Sc (WS_asgTs (.cons n217 (by kernel_rfl) (.cons n240 (by kernel_rfl) .nil)) (by decide) (Et (Ec (Ea G CT g_48 (Ec (El n105) En)) (Ec (Ea G CT g_39 (Ec (El n105) (Ec Ei En))) En))) (swap_of rfl (by kernel_rfl)))
 (Sc (Si (Bc (op:=.eq) (El n240) Ei) (Sc (Sr (Et (Ec (Es n88) (Ec (El n217) (Ec (Ea G CT g_41 (Ec (El n105) (Ec (El n108) (Ec (Es n75) En)))) En)))))
 Sn) Sn)
 (Sc (Si (Ba (i:=true) (Bb (Bc (op:=.eq) (El n240) Ei) (Bo (Bc (op:=.eq) (Ea G CT g_39 (Ec (El n105) (Ec Ei En))) Ei)))) (Sc (Sr (Eu (Et (Ec (Et (Ec (Es n184) (Ec (El n217) (Ec (Et (Ec (Es n130) (Ec (El n217) (Ec Ei En)))) En)))) (Ec (Et (Ec (Es n66) (Ec (El n217) (Ec (Es n111) (Ec (Et (Ec (Es n130) (Ec (El n217) (Ec Ei En)))) En))))) En))) (Ea G CT g_39 (Ec (El n105) (Ec Ei En)))))
 Sn) Sn)
 (Sc (WS_asgT (.cons n72 (.inr ⟨rfl,by kernel_rfl⟩) (.cons n210 (.inl (by kernel_rfl)) .nil)) (Et (Ec (Eu (Et (Ec (Es n130) (Ec (Es n75) (Ec (Es n130) (Ec (Es n208) (Ec (Es n218) En)))))) (Ea G CT g_39 (Ec (El n105) (Ec Ei En)))) (Ec (Ea G CT g_39 (Ec (El n105) (Ec Ei En))) En))) (swap_of rfl (by kernel_rfl)))
 (Sc (WS_asg n235 (.inl (by kernel_rfl)) (Eh (Bc (op:=.isin) (El n72) (Et (Ec (Es n130) (Ec (Es n75) En)))) (Ek (op:=.lt) (Ea G CT g_39 (Ec (El n105) (Ec Ei En))) Ei) (Ek (op:=.eq) (Ea G CT g_39 (Ec (El n105) (Ec Ei En))) Ei)))
 (Sc (WS_asg n95 (.inl (by kernel_rfl)) (Eh (Bc (op:=.eq) (El n210) Ei) (Et (Ec (Et (Ec (Es n131) En)) En)) (Eh (Bc (op:=.eq) (El n210) Ei) (Et (Ec (Ea G CT g_45 (Ec (El n105) (Ec (Es n208) En))) En)) (Et En))))
 (Sc (WS_asg n98 (.inl (by kernel_rfl)) (Eh (Ba (i:=true) (Bb (Bc (op:=.isin) (El n72) (Et (Ec (Es n130) (Ec (Es n208) En)))) (Bo (Bc (op:=.eq) (Ea G CT g_39 (Ec (El n105) (Ec Ei En))) Ei)))) (Ea G CT g_45 (Ec (El n105) (Ec (Es n208) En))) WE_none))
 (Sc (WS_asgTs (.cons n170 (by kernel_rfl) (.cons n233 (by kernel_rfl) .nil)) (by decide) (Et (Ec (Eu (Et (Ec (Es n111) (Ec (Es n117) (Ec (Es n118) (Ec (Es n243) En))))) (Ea G CT g_39 (Ec (El n105) (Ec Ei En)))) (Ec WE_none En))) (swap_of rfl (by kernel_rfl)))
 (Sc (Si (Ba (i:=true) (Bb (Bc (op:=.lt) (Ea G CT g_39 (Ec (El n105) (Ec Ei En))) Ei) (Bo (Bc (op:=.eq) (El n95) (Et En))))) (Sc (WS_asg n233 (.inl (by kernel_rfl)) (Ea G CT g_41 (Ec (El n105) (Ec (El n108) (Ec (El n72) En)))))
 Sn) (Sc (Si (Ba (i:=true) (Bb (Bc (op:=.ne) (El n95) (Et En)) (Bo (Bc (op:=.lt) (Ea G CT g_39 (Ec (El n105) (Ec Ei En))) Ei)))) (Sc (WS_asg n233 (.inl (by kernel_rfl)) (Et (Ec (Es n57) (Ec (Ea G CT g_48 (Ec (El n105) En)) (Ec (WE_tupOf G bn_227 (WE_comp (compOk_of rfl (by kernel_rfl) (.one n151 (.inl (by kernel_rfl)))) (WI_range G bn_199 (Ea G CT g_39 (Ec (El n105) (Ec Ei En)))) (Ea G CT g_45 (Ec (El n105) (Ec (El n72) En))) .nil)) En)))))
 Sn) Sn)
 Sn))
 (Sc (Sr (Et (Ec (Es n91) (Ec (El n217) (Ec (Et (Ec (El n72) (Ec (El n235) (Ec (El n95) (Ec (El n98) En))))) (Ec (El n170) (Ec (El n233) En)))))))
 Sn))))))))))⟩
theorem ok6 (GG:Ground prog w hb mg mb):BodyOk prog w hb (KK w.params) methIx initIx fldIx adrOf 552 F__law_let :=
  ⟨F__law_let.params.filterMap nm,_,_,⟨⟨_,_,_,_,_,_,_,_,_,_,_,_,_,rfl,rfl,fun vals h=>match vals,h with | [v0,v1,v2],_=>rfl⟩,rfl,by decide,by decide,by decide,noFree_of (by decide),rfl,rfl,rfl⟩,fun T n hm hi hf CT CQ =>
    have CL:=GG.C T hf
    have G:=GG.G
    have X:=G.X
    WSs.h (Sc (WS_asg n217 (.inl (by kernel_rfl)) (Ea G CT g_48 (Ec (El n105) En)))
 (Sc (WS_asgComp n140 (by kernel_rfl) (compOk_of rfl (by kernel_rfl) (.one n151 (.inl (by kernel_rfl)))) (WI_range G bn_199 (Eq (.inl ⟨rfl,rfl⟩) Ei (Ea G CT g_39 (Ec (El n105) (Ec Ei En))))) (Ea G CT g_43 (Ec (El n105) (Ec (El n108) En))) .nil (fun _ _=>rfl) (swaps_of rfl (by kernel_rfl) rfl (by kernel_rfl)))
 (Sc (Sr (Et (Ec (Es n156) (Ec (El n217) (Ec (WE_tupOf G bn_227 (El n140)) (Ec (Ea G CT g_41 (Ec (El n105) (Ec (El n108) (Ec (El n72) En)))) En))))))
 Sn)))⟩
theorem ok7 (GG:Ground prog w hb mg mb):BodyOk prog w hb (KK w.params) methIx initIx fldIx adrOf 514 F__law_stands:=by
  refine ⟨F__law_stands.params.filterMap nm,_,_,⟨⟨_,_,_,_,_,_,_,_,_,_,_,_,_,rfl,rfl,fun vals h=>?_⟩,rfl,?_,?_,?_,noFree_of ?_,rfl,rfl,rfl⟩,fun T n hm hi hf CT CQ=>?_⟩
  · have h:vals.length=0:=h
    match vals,h with
    | [],_=>rfl
  · decide
  · decide
  · decide
  · decide
  · have G:=GG.G
    have X:=G.X
    refine WSs.h ?_
    exact (Sc (Sr (WE_dct (.cons n174 (.cons n75 (.cons n130 (.cons n218 (.cons n208 .nil))))) (.cons (Et (Ec (Es n174) (Ec (Es n75) (Ec (Es n130) (Ec (Es n218) (Ec (Es n208) En)))))) (.cons (Et (Ec (Es n75) (Ec (Es n130) En))) (.cons (Et (Ec (Es n130) En)) (.cons (Et (Ec (Es n218) En)) (.cons (Et (Ec (Es n208) En)) .nil))))) rfl (by decide) (by decide) (List.cons_ne_nil _ _)))
 Sn)
theorem ok8 (GG:Ground prog w hb mg mb):BodyOk prog w hb (KK w.params) methIx initIx fldIx adrOf 559 F__law_fits :=
  ⟨F__law_fits.params.filterMap nm,_,_,⟨⟨_,_,_,_,_,_,_,_,_,_,_,_,_,rfl,rfl,fun vals h=>match vals,h with | [v0,v1,v2,v3],_=>rfl⟩,rfl,by decide,by decide,by decide,noFree_of (by decide),rfl,rfl,rfl⟩,fun T n hm hi hf CT CQ =>
    have CL:=GG.C T hf
    have G:=GG.G
    have X:=G.X
    WSs.h (Sc (Sr (Ex (i:=true) (Ed (Ek (op:=.eq) (Eu (El n144) Ei) (El n212)) (Ed (Ex (i:=false) (Ed (El n235) (Eo (WE_not (Eu (El n144) Ei))))) (Eo (Ek (op:=.isin) (El n72) (Eu (Ea G CT g_49 En) (Eu (El n144) Ei))))))))
 Sn)⟩
end
end Mine
namespace Mine
open PySem PySem.Calls PySem.W PyProof.Rows PySem.SeqAt
section
variable {prog:Program} {w:World} {hb:Heap} {mg mb:Str→Option Value}
theorem ok9 (GG:Ground prog w hb mg mb):BodyOk prog w hb (KK w.params) methIx initIx fldIx adrOf 564 F__law_array :=
  ⟨F__law_array.params.filterMap nm,_,_,⟨⟨_,_,_,_,_,_,_,_,_,_,_,_,_,rfl,rfl,fun vals h=>match vals,h with | [v0,v1,v2],_=>rfl⟩,rfl,by decide,by decide,by decide,noFree_of (by decide),rfl,rfl,rfl⟩,fun T n hm hi hf CT CQ =>
    have CL:=GG.C T hf
    have G:=GG.G
    have X:=G.X
    WSs.h (Sc (WS_asgT (.cons n72 (.inl (by kernel_rfl)) (.cons n235 (.inl (by kernel_rfl)) .nil)) (Et (Ec (Es n174) (Ec Eb En))) (swap_of rfl (by kernel_rfl)))
 (Sc (WS_for (WI_val (Eu (El n172) Ei)) (.one n187 (.inl (by kernel_rfl))) (Sc (WS_asgT (.cons n144 (.inr ⟨rfl,by kernel_rfl⟩) (.cons n71 (.inl (by kernel_rfl)) .nil)) (Ea G CT g_44 (Ec (El n187) (Ec (El n101) (Ec (El n176) En)))) (fun _ _=>rfl))
 (Sc (Si (Bc (op:=.isnot) (El n71) WE_none) (Sc (Sr (Et (Ec WE_none (Ec (El n71) En))))
 Sn) Sn)
 (Sc (WS_asgComp n214 (by kernel_rfl) (compOk_of rfl (by kernel_rfl) (.one n180 (.inl (by kernel_rfl)))) (WI_val (Eu (Ea G CT g_49 En) (El n72))) (El n180) (.cons (Bc (op:=.isin) (El n180) (Eu (Ea G CT g_49 En) (Eu (El n144) Ei))) .nil) (fun _ _=>rfl) (swaps_of rfl (by kernel_rfl) rfl (by kernel_rfl)))
 (Sc (Si (Ba (i:=false) (Bb (Bc (op:=.ne) (Eu (El n144) Ei) Ei) (Bo (Bc (op:=.eq) (El n214) (WE_lst En))))) (Sc (Sr (Et (Ec WE_none (Ec (Eu (El n187) Ei) En))))
 Sn) Sn)
 (Sc (WS_asgTs (.cons n72 (by kernel_rfl) (.cons n235 (by kernel_rfl) .nil)) (by decide) (Et (Ec (Eu (El n214) Ei) (Ec (Ex (i:=false) (Ed (El n235) (Eo (Eu (El n144) Ei)))) En))) (swap_of rfl (by kernel_rfl)))
 Sn))))))
 (Sc (Sr (Et (Ec (Et (Ec (El n72) (Ec (El n235) (Ec Ei En)))) (Ec WE_none En))))
 Sn)))⟩
theorem ok10 (GG:Ground prog w hb mg mb):BodyOk prog w hb (KK w.params) methIx initIx fldIx adrOf 571 F__law_set_told :=
  ⟨F__law_set_told.params.filterMap nm,_,_,⟨⟨_,_,_,_,_,_,_,_,_,_,_,_,_,rfl,rfl,fun vals h=>match vals,h with | [v0,v1,v2],_=>rfl⟩,rfl,by decide,by decide,by decide,noFree_of (by decide),rfl,rfl,rfl⟩,fun T n hm hi hf CT CQ =>
    have CL:=GG.C T hf
    have G:=GG.G
    have X:=G.X
    WSs.h (Sc (WS_asgT (.cons n144 (.inl (by kernel_rfl)) (.cons n71 (.inl (by kernel_rfl)) .nil)) (Ea G CT g_44 (Ec (El n172) (Ec (El n101) (Ec (El n176) En)))) (fun _ _=>rfl))
 (Sc (Si (Bc (op:=.isnot) (El n71) WE_none) (Sc (Sr (El n71))
 Sn) Sn)
 (Sc (Sr (Eh (Bp (Ea G CT g_42 (Ec (El n144) (Ec (Es n208) (Ec Eb (Ec Ei En))))) plain_call) WE_none (Eu (El n172) Ei)))
 Sn)))⟩
theorem ok11 (GG:Ground prog w hb mg mb):BodyOk prog w hb (KK w.params) methIx initIx fldIx adrOf 576 F__law_declared :=
  ⟨F__law_declared.params.filterMap nm,_,_,⟨⟨_,_,_,_,_,_,_,_,_,_,_,_,_,rfl,rfl,fun vals h=>match vals,h with | [v0,v1,v2],_=>rfl⟩,rfl,by decide,by decide,by decide,noFree_of (by decide),rfl,rfl,rfl⟩,fun T n hm hi hf CT CQ =>
    have CL:=GG.C T hf
    have G:=GG.G
    have X:=G.X
    WSs.h (Sc (WS_asgT (.cons n72 (.inl (by kernel_rfl)) (.cons n235 (.inl (by kernel_rfl)) (.cons n95 (.inl (by kernel_rfl)) (.cons n98 (.inl (by kernel_rfl)) .nil)))) (Eu (El n139) Ei) (fun _ _=>rfl))
 (Sc (Si (Ba (i:=true) (Bb (Bp (El n235) plain_name) (Bo (Bc (op:=.isin) (El n72) (Et (Ec (Es n208) (Ec (Es n218) En))))))) (Sc (Sr (Eu (El n139) Ei))
 Sn) Sn)
 (Sc (WS_asg n214 (.inl (by kernel_rfl)) (Eh (Bc (op:=.isnot) (El n98) WE_none) (WE_lst (Ec (El n98) En)) (WE_lst En)))
 (Sc (WS_asg n214 (.inl (by kernel_rfl)) (Eq (.inl ⟨rfl,rfl⟩) (El n214) (WE_comp (compOk_of rfl (by kernel_rfl) (.one n187 (.inl (by kernel_rfl)))) (WI_val (El n95)) (El n187) (.cons (Bc (op:=.ne) (El n187) (Et (Ec (Es n131) En))) .nil))))
 (Sc (WS_for (WI_val (El n214)) (.one n187 (.inl (by kernel_rfl))) (Sc (WS_asg n71 (.inl (by kernel_rfl)) (Ea G CT g_47 (Ec (El n187) (Ec (El n101) (Ec (El n176) En)))))
 (Sc (Si (Bc (op:=.isnot) (El n71) WE_none) (Sc (Sr (El n71))
 Sn) Sn)
 Sn)))
 (Sc (Si (Bc (op:=.is) (Eu (El n139) Ei) WE_none) (Sc (Sr (Eh (Ba (i:=true) (Bb (Bc (op:=.eq) (El n95) (Et (Ec (Et (Ec (Es n131) En)) En))) (Bo (Bp (El n235) plain_name)))) (Eu (El n139) Ei) WE_none))
 Sn) Sn)
 (Sc (WS_asgT (.cons n144 (.inl (by kernel_rfl)) (.cons n71 (.inl (by kernel_rfl)) .nil)) (Ea G CT g_44 (Ec (Eu (El n139) Ei) (Ec (El n101) (Ec (El n176) En)))) (fun _ _=>rfl))
 (Sc (Si (Bc (op:=.isnot) (El n71) WE_none) (Sc (Sr (El n71))
 Sn) Sn)
 (Sc (Sr (Eh (Bp (Ea G CT g_42 (Ec (El n144) (Ec (El n72) (Ec (El n235) (Ec (WE_len G bn_154 (El n95)) En))))) plain_call) WE_none (Eu (El n139) Ei)))
 Sn)))))))))⟩
theorem ok12 (GG:Ground prog w hb mg mb):BodyOk prog w hb (KK w.params) methIx initIx fldIx adrOf 583 F__law_within :=
  ⟨F__law_within.params.filterMap nm,_,_,⟨⟨_,_,_,_,_,_,_,_,_,_,_,_,_,rfl,rfl,fun vals h=>match vals,h with | [v0,v1,v2],_=>rfl⟩,rfl,by decide,by decide,by decide,noFree_of (by decide),rfl,rfl,rfl⟩,fun T n hm hi hf CT CQ =>
    have CL:=GG.C T hf
    have G:=GG.G
    have X:=G.X
    WSs.h (Sc (WS_asgTs (.cons n152 (by kernel_rfl) (.cons n206 (by kernel_rfl) .nil)) (by decide) (Et (Ec (WE_mlstOf G bn_161 (El n101)) (Ec (WE_mlst En) En))) (swap_of rfl (by kernel_rfl)))
 (Sc (WS_for (WI_val (Eu (El n172) Ei)) (.one n139 (.inl (by kernel_rfl))) (Sc (Si (Bc (op:=.eq) (Eu (El n139) Ei) (Es n91)) (Sc (WS_asg n71 (.inl (by kernel_rfl)) (Ea G CT g_38 (Ec (El n139) (Ec (El n152) (Ec (El n176) En)))))
 (Sc (Si (Ba (i:=true) (Bb (Bc (op:=.is) (El n71) WE_none) (Bo (Bc (op:=.isin) (Eu (El n139) Ei) (El n206))))) (Sc (WS_asg n71 (.inl (by kernel_rfl)) (Eu (El n139) Ei))
 Sn) Sn)
 (Sc (WS_expr (WE_append (El n206) (Eu (El n139) Ei)))
 (Sc (WS_expr (WE_append (El n152) (Et (Ec (Eu (El n139) Ei) (Ec (Et (Ec (Eu (Eu (El n139) Ei) Ei) (Ec (Eu (Eu (El n139) Ei) Ei) (Ec (WE_len G bn_154 (Eu (Eu (El n139) Ei) Ei)) En)))) (Ec Eb En))))))
 Sn)))) (Sc (Si (Bc (op:=.eq) (Eu (El n139) Ei) (Es n88)) (Sc (WS_asgT (.cons n144 (.inl (by kernel_rfl)) (.cons n71 (.inl (by kernel_rfl)) .nil)) (Ea G CT g_44 (Ec (Eu (El n139) Ei) (Ec (El n152) (Ec (El n176) En)))) (fun _ _=>rfl))
 (Sc (Si (Ba (i:=true) (Bb (Bc (op:=.is) (El n71) WE_none) (Bo (WB_not (Bp (Ea G CT g_42 (Ec (El n144) (Ec (Es n75) (Ec Eb (Ec Ei En))))) plain_call))))) (Sc (WS_asg n71 (.inl (by kernel_rfl)) (Eu (El n139) Ei))
 Sn) Sn)
 Sn)) (Sc (WS_asg n71 (.inl (by kernel_rfl)) (Eu (El n139) Ei))
 Sn))
 Sn))
 (Sc (Si (Bc (op:=.isnot) (El n71) WE_none) (Sc (Sr (Et (Ec WE_none (Ec (El n71) En))))
 Sn) Sn)
 Sn)))
 (Sc (Sr (Ea G CT g_44 (Ec (Eu (El n172) Ei) (Ec (El n152) (Ec (El n176) En)))))
 Sn)))⟩
theorem ok13 (GG:Ground prog w hb mg mb):BodyOk prog w hb (KK w.params) methIx initIx fldIx adrOf 590 F__law_element :=
  ⟨F__law_element.params.filterMap nm,_,_,⟨⟨_,_,_,_,_,_,_,_,_,_,_,_,_,rfl,rfl,fun vals h=>match vals,h with | [v0,v1,v2],_=>rfl⟩,rfl,by decide,by decide,by decide,noFree_of (by decide),rfl,rfl,rfl⟩,fun T n hm hi hf CT CQ =>
    have CL:=GG.C T hf
    have G:=GG.G
    have X:=G.X
    WSs.h (Sc (WS_asgT (.cons n202 (.inl (by kernel_rfl)) (.cons n71 (.inl (by kernel_rfl)) .nil)) (Ea G CT g_44 (Ec (Eu (El n172) Ei) (Ec (El n101) (Ec (El n176) En)))) (fun _ _=>rfl))
 (Sc (Si (Ba (i:=false) (Bb (Bc (op:=.isnot) (El n71) WE_none) (Bo (Bc (op:=.ne) (Eu (El n202) Ei) Ei)))) (Sc (Sr (Et (Ec WE_none (Ec (Eh (Bc (op:=.is) (El n71) WE_none) (Eu (El n172) Ei) (El n71)) En))))
 Sn) Sn)
 (Sc (WS_asgT (.cons n188 (.inl (by kernel_rfl)) (.cons n71 (.inl (by kernel_rfl)) .nil)) (Ea G CT g_44 (Ec (Eu (Eu (El n172) Ei) Ei) (Ec (El n101) (Ec (El n176) En)))) (fun _ _=>rfl))
 (Sc (Si (Ba (i:=false) (Bb (Bc (op:=.isnot) (El n71) WE_none) (Bo (WB_not (Bp (Ea G CT g_42 (Ec (El n188) (Ec (Es n130) (Ec Eb (Ec Ei En))))) plain_call))))) (Sc (Sr (Et (Ec WE_none (Ec (Eh (Bc (op:=.is) (El n71) WE_none) (Eu (Eu (Eu (El n172) Ei) Ei) Ei) (El n71)) En))))
 Sn) Sn)
 (Sc (WS_asg n235 (.inl (by kernel_rfl)) (Ex (i:=false) (Ed (Eu (El n202) Ei) (Eo (Eu (El n188) Ei)))))
 (Sc (Sr (Eh (Ba (i:=true) (Bb (Bp (El n235) plain_name) (Bo (Bc (op:=.isin) (Eu (El n202) Ei) (Et (Ec (Es n218) (Ec (Es n208) En))))))) (Et (Ec WE_none (Ec (Eu (El n172) Ei) En))) (Et (Ec (Et (Ec (Eu (El n202) Ei) (Ec (El n235) (Ec Ei En)))) (Ec WE_none En)))))
 Sn))))))⟩
theorem ok14 (GG:Ground prog w hb mg mb):BodyOk prog w hb (KK w.params) methIx initIx fldIx adrOf 595 F__law_kind :=
  ⟨F__law_kind.params.filterMap nm,_,_,⟨⟨_,_,_,_,_,_,_,_,_,_,_,_,_,rfl,rfl,fun vals h=>match vals,h with | [v0,v1,v2],_=>rfl⟩,rfl,by decide,by decide,by decide,noFree_of (by decide),rfl,rfl,rfl⟩,fun T n hm hi hf CT CQ =>
    have CL:=GG.C T hf
    have G:=GG.G
    have X:=G.X
    WSs.h (Sc (WS_asgTs (.cons n181 (by kernel_rfl) (.cons n217 (by kernel_rfl) .nil)) (by decide) (Et (Ec (Eu (El n172) Ei) (Ec (Eu (El n172) Ei) En))) (swap_of rfl (by kernel_rfl)))
 (Sc (Si (Bc (op:=.isin) (El n181) (Et (Ec (Es n130) (Ec (Es n75) (Ec (Es n218) En))))) (Sc (Sr (Et (Ec (Et (Ec (El n181) (Ec Eb (Ec Ei En)))) (Ec WE_none En))))
 Sn) Sn)
 (Sc (Si (Bc (op:=.eq) (El n181) (Es n170)) (Sc (WS_asgComp n149 (by kernel_rfl) (compOk_of rfl (by kernel_rfl) (.many (.cons n170 (.inl (by kernel_rfl)) (.cons n144 (.inl (by kernel_rfl)) (.cons n135 (.inl (by kernel_rfl)) .nil))))) (WI_val (El n101)) (Et (Ec (El n144) (Ec (El n135) En))) (.cons (Bc (op:=.eq) (El n170) (Eu (El n172) Ei)) .nil) (fun _ _=>rfl) (swaps_of rfl (by kernel_rfl) rfl (by kernel_rfl)))
 (Sc (Si (Ba (i:=true) (Bb (Bc (op:=.ne) (El n149) (WE_lst En)) (Bo (Bp (Eu (Eu (El n149) WE_neg) Ei) plain_sub)))) (Sc (WS_setI Eb (Eu (El n176) Ei) (Eu (El n172) Ei))
 Sn) Sn)
 (Sc (Sr (Eh (Bc (op:=.ne) (El n149) (WE_lst En)) (Et (Ec (Eu (Eu (El n149) WE_neg) Ei) (Ec WE_none En))) (Et (Ec WE_none (Ec (El n217) En)))))
 Sn))) Sn)
 (Sc (Si (Bc (op:=.eq) (El n181) (Es n156)) (Sc (Sr (Ea G CT g_50 (Ec (El n172) (Ec (El n101) (Ec (El n176) En)))))
 Sn) Sn)
 (Sc (Si (Bc (op:=.eq) (El n181) (Es n57)) (Sc (Sr (Ea G CT g_37 (Ec (El n172) (Ec (El n101) (Ec (El n176) En)))))
 Sn) Sn)
 (Sc (Si (Bc (op:=.eq) (El n181) (Es n123)) (Sc (Sr (Ea G CT g_40 (Ec (El n172) (Ec (El n101) (Ec (El n176) En)))))
 Sn) Sn)
 (Sc (Si (Bc (op:=.eq) (El n181) (Es n77)) (Sc (WS_asgT (.cons n144 (.inl (by kernel_rfl)) (.cons n71 (.inl (by kernel_rfl)) .nil)) (Ea G CT g_44 (Ec (Eu (Eu (El n172) Ei) Ei) (Ec (El n101) (Ec (El n176) En)))) (fun _ _=>rfl))
 (Sc (Si (Bc (op:=.is) (El n71) WE_none) (Sc (WS_setI Eb (Eu (El n176) Ei) (Es n185))
 Sn) Sn)
 (Sc (Si (Ba (i:=true) (Bb (Bc (op:=.is) (El n71) WE_none) (Bo (WB_not (Bp (Ea G CT g_42 (Ec (El n144) (Ec (Es n130) (Ec Eb (Ec Ei En))))) plain_call))))) (Sc (WS_asg n71 (.inl (by kernel_rfl)) (El n217))
 Sn) Sn)
 (Sc (Sr (Eh (Bc (op:=.is) (El n71) WE_none) (Et (Ec (Et (Ec (Es n75) (Ec Eb (Ec Ei En)))) (Ec WE_none En))) (Et (Ec WE_none (Ec (El n71) En)))))
 Sn)))) Sn)
 (Sc (WS_asgT (.cons n180 (.inl (by kernel_rfl)) (.cons n71 (.inl (by kernel_rfl)) .nil)) (Ea G CT g_44 (Ec (Eu (El n172) (Eh (Bc (op:=.eq) (El n181) (Es n199)) Ei Ei)) (Ec (El n101) (Ec (El n176) En)))) (fun _ _=>rfl))
 (Sc (Si (Ba (i:=true) (Bb (Bc (op:=.is) (El n71) WE_none) (Bb (Bc (op:=.eq) (El n181) (Es n199)) (Bo (WB_not (Bp (Ea G CT g_42 (Ec (El n180) (Ec (Es n130) (Ec Eb (Ec Ei En))))) plain_call)))))) (Sc (WS_asg n71 (.inl (by kernel_rfl)) (El n217))
 Sn) Sn)
 (Sc (Si (Bc (op:=.isnot) (El n71) WE_none) (Sc (Sr (Et (Ec WE_none (Ec (El n71) En))))
 Sn) Sn)
 (Sc (WS_asgT (.cons n183 (.inr ⟨rfl,by kernel_rfl⟩) (.cons n71 (.inl (by kernel_rfl)) .nil)) (Ea G CT g_44 (Ec (Eu (El n172) (Eh (Bc (op:=.eq) (El n181) (Es n199)) Ei Ei)) (Ec (El n101) (Ec (El n176) En)))) (fun _ _=>rfl))
 (Sc (Si (Bc (op:=.isnot) (El n71) WE_none) (Sc (Sr (Et (Ec WE_none (Ec (El n71) En))))
 Sn) Sn)
 (Sc (Si (Bc (op:=.eq) (El n181) (Es n199)) (Sc (Sr (Eh (Bp (Ea G CT g_42 (Ec (El n183) (Ec (Es n130) (Ec Eb (Ec Ei En))))) plain_call) (Et (Ec (Et (Ec (Es n208) (Ec Eb (Ec Ei En)))) (Ec WE_none En))) (Et (Ec WE_none (Ec (El n217) En)))))
 Sn) Sn)
 (Sc (WS_asgT (.cons n72 (.inr ⟨rfl,by kernel_rfl⟩) (.cons n214 (.inl (by kernel_rfl)) .nil)) (Et (Ec (Eu (WE_dct (.cons n3 (.cons n9 (.cons n8 .nil))) (.cons (Es n130) (.cons (Es n130) (.cons (Es n75) .nil))) rfl (by decide) (by decide) (List.cons_ne_nil _ _)) (Eu (El n172) Ei)) (Ec (Et (Ec (El n180) (Ec (El n183) En))) En))) (swap_of rfl (by kernel_rfl)))
 (Sc (WS_asg n136 (.inl (by kernel_rfl)) (Ek (op:=.eq) (WE_comp (compOk_of rfl (by kernel_rfl) (.one n144 (.inl (by kernel_rfl)))) (WI_val (El n214)) (El n144) (.cons (WB_not (Bp (Ea G CT g_42 (Ec (El n144) (Ec (El n72) (Ec Eb (Ec Ei En))))) plain_call)) .nil)) (WE_lst En)))
 (Sc (Si (Bc (op:=.eq) (Eu (El n172) Ei) (Es n9)) (Sc (WS_asg n136 (.inl (by kernel_rfl)) (Ex (i:=true) (Ed (Ek (op:=.eq) (Eu (El n180) Ei) Ei) (Ed (Ek (op:=.eq) (Eu (El n183) Ei) Ei) (Eo (Ek (op:=.ne) (WE_comp (compOk_of rfl (by kernel_rfl) (.one n143 (.inl (by kernel_rfl)))) (WI_val (Eu (Ea G CT g_49 En) (Eu (El n180) Ei))) (El n143) (.cons (Bc (op:=.isin) (El n143) (Eu (Ea G CT g_49 En) (Eu (El n183) Ei))) .nil)) (WE_lst En)))))))
 (Sc (WS_asg n72 (.inr ⟨rfl,by kernel_rfl⟩) (Es n75))
 Sn)) Sn)
 (Sc (Sr (Eh (Bp (El n136) plain_name) (Et (Ec (Et (Ec (El n72) (Ec (Ex (i:=false) (Ed (Eu (El n180) Ei) (Eo (Eu (El n183) Ei)))) (Ec Ei En)))) (Ec WE_none En))) (Et (Ec WE_none (Ec (El n217) En)))))
 Sn)))))))))))))))))⟩
theorem ok15 (GG:Ground prog w hb mg mb):BodyOk prog w hb (KK w.params) methIx initIx fldIx adrOf 191 F_kind_text :=
  ⟨F_kind_text.params.filterMap nm,_,_,⟨⟨_,_,_,_,_,_,_,_,_,_,_,_,_,rfl,rfl,fun vals h=>match vals,h with | [v0],_=>rfl⟩,rfl,by decide,by decide,by decide,noFree_of (by decide),rfl,rfl,rfl⟩,fun T n hm hi hf CT CQ =>
    have CL:=GG.C T hf
    have G:=GG.G
    have X:=G.X
    WSs.h (Sc (WS_asgT (.cons n72 (.inl (by kernel_rfl)) (.cons n138 (.inl (by kernel_rfl)) (.cons n95 (.inl (by kernel_rfl)) .nil))) (El n144) (fun _ _=>rfl))
 (Sc (WS_asg n225 (.inl (by kernel_rfl)) (Eq (.inl ⟨rfl,rfl⟩) (Eh (Bp (El n138) plain_name) (WE_txt (by decide)) (Es n0)) (Eh (Bc (op:=.eq) (El n72) (Es n174)) (Es n177) (El n72))))
 (Sc (Sr (Eh (Bc (op:=.eq) (El n95) Ei) (El n225) (Ef (.cons (WP_str (.inl ⟨rfl,by decide⟩)) (.cons (WP_fmt (El n95)) (.cons (WP_str (.inl ⟨rfl,by decide⟩)) (.cons (WP_fmt (El n225)) .nil)))))))
 Sn)))⟩
theorem ok16 (GG:Ground prog w hb mg mb):BodyOk prog w hb (KK w.params) methIx initIx fldIx adrOf 198 F_fits :=
  ⟨F_fits.params.filterMap nm,_,_,⟨⟨_,_,_,_,_,_,_,_,_,_,_,_,_,rfl,rfl,fun vals h=>match vals,h with | [v0,v1],_=>rfl⟩,rfl,by decide,by decide,by decide,noFree_of (by decide),rfl,rfl,rfl⟩,fun T n hm hi hf CT CQ =>
    have CL:=GG.C T hf
    have G:=GG.G
    have X:=G.X
    WSs.h (Sc (Si (Ba (i:=false) (Bb (Bc (op:=.ne) (Eu (El n144) Ei) (Eu (El n239) Ei)) (Bo (Ba (i:=true) (Bb (Bp (Eu (El n144) Ei) plain_sub) (Bo (WB_not (Bp (Eu (El n239) Ei) plain_sub)))))))) (Sc (Sr Eb)
 Sn) Sn)
 (Sc (Sr (Ex (i:=false) (Ed (Ek (op:=.isin) (Eu (El n144) Ei) (Et (Ec (Eu (El n239) Ei) (Ec (Es n174) En)))) (Eo (Ex (i:=true) (Ed (Ek (op:=.eq) (Eu (El n239) Ei) (Es n130)) (Eo (Ek (op:=.eq) (Eu (El n144) Ei) (Es n75)))))))))
 Sn))⟩
theorem ok17 (GG:Ground prog w hb mg mb):BodyOk prog w hb (KK w.params) methIx initIx fldIx adrOf 205 F_want :=
  ⟨F_want.params.filterMap nm,_,_,⟨⟨_,_,_,_,_,_,_,_,_,_,_,_,_,rfl,rfl,fun vals h=>match vals,h with | [v0,v1,v2,v3],_=>rfl⟩,rfl,by decide,by decide,by decide,noFree_of (by decide),rfl,rfl,rfl⟩,fun T n hm hi hf CT CQ =>
    have CL:=GG.C T hf
    have G:=GG.G
    have X:=G.X
    WSs.h (Sc (Si (WB_not (Bp (Ea G CT g_106 (Ec (El n144) (Ec (El n239) En))) plain_call)) (Sc (Rs GG (by kernel_rfl) g_24 (by kernel_rfl) (Ef (.cons (WP_fmt (El n241)) (.cons (WP_str (.inl ⟨rfl,by decide⟩)) (.cons (WP_fmt (Ea G CT g_146 (Ec (El n239) En))) (.cons (WP_str (.inl ⟨rfl,by decide⟩)) (.cons (WP_fmt (Ea G CT g_146 (Ec (El n144) En))) .nil)))))) (El n217) rfl)
 Sn) Sn)
 Sn)⟩
theorem ok18 (GG:Ground prog w hb mg mb):BodyOk prog w hb (KK w.params) methIx initIx fldIx adrOf 212 F_common :=
  ⟨F_common.params.filterMap nm,_,_,⟨⟨_,_,_,_,_,_,_,_,_,_,_,_,_,rfl,rfl,fun vals h=>match vals,h with | [v0,v1,v2,v3],_=>rfl⟩,rfl,by decide,by decide,by decide,noFree_of (by decide),rfl,rfl,rfl⟩,fun T n hm hi hf CT CQ =>
    have CL:=GG.C T hf
    have G:=GG.G
    have X:=G.X
    WSs.h (Sc (WS_asg n73 (.inl (by kernel_rfl)) (Et (Ec (Eu (El n180) Ei) (Ec (Eu (El n183) Ei) En))))
 (Sc (Si (Ba (i:=false) (Bb (Bc (op:=.ne) (Eu (El n180) Ei) (Eu (El n183) Ei)) (Bo (Ba (i:=true) (Bb (Bc (op:=.ne) (Eu (El n180) Ei) (Eu (El n183) Ei)) (Bb (WB_notin (Es n174) (El n73)) (Bo (Bc (op:=.ne) (WE_sorted2 G bn_216 (El n73)) (WE_lst (Ec (Es n75) (Ec (Es n130) En))))))))))) (Sc (Rs GG (by kernel_rfl) g_24 (by kernel_rfl) (Ef (.cons (WP_fmt (El n241)) (.cons (WP_str (.inl ⟨rfl,by decide⟩)) (.cons (WP_fmt (Ea G CT g_146 (Ec (El n180) En))) (.cons (WP_str (.inl ⟨rfl,by decide⟩)) (.cons (WP_fmt (Ea G CT g_146 (Ec (El n183) En))) .nil)))))) (El n217) rfl)
 Sn) Sn)
 (Sc (WS_asg n72 (.inl (by kernel_rfl)) (Eh (Ba (i:=false) (Bb (Bc (op:=.eq) (Eu (El n180) Ei) (Eu (El n183) Ei)) (Bo (Bc (op:=.eq) (Eu (El n183) Ei) (Es n174))))) (Eu (El n180) Ei) (Eh (Bc (op:=.eq) (Eu (El n180) Ei) (Es n174)) (Eu (El n183) Ei) (Es n130))))
 (Sc (Sr (Et (Ec (El n72) (Ec (Ex (i:=false) (Ed (Eu (El n180) Ei) (Eo (Eu (El n183) Ei)))) (Ec (Eu (El n180) Ei) En)))))
 Sn))))⟩
theorem ok19 (GG:Ground prog w hb mg mb):BodyOk prog w hb (KK w.params) methIx initIx fldIx adrOf 226 F_Names___init__ :=
  ⟨F_Names___init__.params.filterMap nm,_,_,⟨⟨_,_,_,_,_,_,_,_,_,_,_,_,_,rfl,rfl,fun vals h=>match vals,h with | [v0],_=>rfl⟩,rfl,by decide,by decide,by decide,noFree_of (by decide),rfl,rfl,rfl⟩,fun T n hm hi hf CT CQ =>
    have CL:=GG.C T hf
    have G:=GG.G
    have X:=G.X
    WSs.h (Sc (WS_setA X CL (WE_mlst (Ec WE_mdct0 En)) (El n207) n204)
 (Sc (WS_setA X CL WE_mdct0 (El n207) n63)
 Sn))⟩
theorem ok20 (GG:Ground prog w hb mg mb):BodyOk prog w hb (KK w.params) methIx initIx fldIx adrOf 233 F_Names_push :=
  ⟨F_Names_push.params.filterMap nm,_,_,⟨⟨_,_,_,_,_,_,_,_,_,_,_,_,_,rfl,rfl,fun vals h=>match vals,h with | [v0],_=>rfl⟩,rfl,by decide,by decide,by decide,noFree_of (by decide),rfl,rfl,rfl⟩,fun T n hm hi hf CT CQ =>
    have CL:=GG.C T hf
    have G:=GG.G
    have X:=G.X
    WSs.h (Sc (WS_expr (WE_append (Er X CL (El n207) n204) WE_mdct0))
 Sn)⟩
theorem ok21 (GG:Ground prog w hb mg mb):BodyOk prog w hb (KK w.params) methIx initIx fldIx adrOf 240 F_Names_pop :=
  ⟨F_Names_pop.params.filterMap nm,_,_,⟨⟨_,_,_,_,_,_,_,_,_,_,_,_,_,rfl,rfl,fun vals h=>match vals,h with | [v0],_=>rfl⟩,rfl,by decide,by decide,by decide,noFree_of (by decide),rfl,rfl,rfl⟩,fun T n hm hi hf CT CQ =>
    have CL:=GG.C T hf
    have G:=GG.G
    have X:=G.X
    WSs.h (Sc (WS_expr (WE_pop (Er X CL (El n207) n204)))
 Sn)⟩
theorem ok22 (GG:Ground prog w hb mg mb):BodyOk prog w hb (KK w.params) methIx initIx fldIx adrOf 247 F_Names_put :=
  ⟨F_Names_put.params.filterMap nm,_,_,⟨⟨_,_,_,_,_,_,_,_,_,_,_,_,_,rfl,rfl,fun vals h=>match vals,h with | [v0,v1,v2,v3],_=>rfl⟩,rfl,by decide,by decide,by decide,noFree_of (by decide),rfl,rfl,rfl⟩,fun T n hm hi hf CT CQ =>
    have CL:=GG.C T hf
    have G:=GG.G
    have X:=G.X
    WSs.h (Sc (Si (Bc (op:=.isin) (El n170) (Eu (Er X CL (El n207) n204) WE_neg)) (Sc (Rs GG (by kernel_rfl) g_24 (by kernel_rfl) (Ef (.cons (WP_fmt (El n170)) (.cons (WP_str (.inl ⟨rfl,by decide⟩)) .nil))) (El n217) rfl)
 Sn) Sn)
 (Sc (WS_setI (El n144) (Eu (Er X CL (El n207) n204) WE_neg) (El n170))
 Sn))⟩
theorem ok23 (GG:Ground prog w hb mg mb):BodyOk prog w hb (KK w.params) methIx initIx fldIx adrOf 254 F_Names_kind_of :=
  ⟨F_Names_kind_of.params.filterMap nm,_,_,⟨⟨_,_,_,_,_,_,_,_,_,_,_,_,_,rfl,rfl,fun vals h=>match vals,h with | [v0,v1,v2],_=>rfl⟩,rfl,by decide,by decide,by decide,noFree_of (by decide),rfl,rfl,rfl⟩,fun T n hm hi hf CT CQ =>
    have CL:=GG.C T hf
    have G:=GG.G
    have X:=G.X
    WSs.h (Sc (WS_for (WI_range3 G bn_199 (Eq (.inr (.inl ⟨rfl,rfl⟩)) (WE_len G bn_154 (Er X CL (El n207) n204)) Ei) WE_neg WE_neg) (.one n188 (.inl (by kernel_rfl))) (Sc (Si (Bc (op:=.isin) (El n170) (Eu (Er X CL (El n207) n204) (El n188))) (Sc (Si (Bc (op:=.eq) (El n188) Ei) (Sc (WS_setI Eb (Er X CL (El n207) n63) (El n170))
 Sn) Sn)
 (Sc (Sr (Eu (Eu (Er X CL (El n207) n204) (El n188)) (El n170)))
 Sn)) Sn)
 Sn))
 (Sc (Rs GG (by kernel_rfl) g_24 (by kernel_rfl) (Ef (.cons (WP_fmt (El n170)) (.cons (WP_str (.inl ⟨rfl,by decide⟩)) .nil))) (El n217) rfl)
 Sn))⟩
theorem ok24 (GG:Ground prog w hb mg mb):BodyOk prog w hb (KK w.params) methIx initIx fldIx adrOf 275 F_Kinds___init__ :=
  ⟨F_Kinds___init__.params.filterMap nm,_,_,⟨⟨_,_,_,_,_,_,_,_,_,_,_,_,_,rfl,rfl,fun vals h=>match vals,h with | [v0],_=>rfl⟩,rfl,by decide,by decide,by decide,noFree_of (by decide),rfl,rfl,rfl⟩,fun T n hm hi hf CT CQ =>
    have CL:=GG.C T hf
    have G:=GG.G
    have X:=G.X
    WSs.h (Sc (WS_setA X CL (WE_new G CT rfl g_26) (El n207) n171)
 (Sc (WS_setA X CL WE_mdct0 (El n207) n193)
 (Sc (WS_setA X CL WE_mdct0 (El n207) n64)
 (Sc (WS_setA X CL WE_mdct0 (El n207) n67)
 (Sc (WS_setA X CL Eb (El n207) n137)
 (Sc (WS_setA X CL WE_mdct0 (El n207) n78)
 Sn))))))⟩
end
end Mine
namespace Mine
open PySem PySem.Calls PySem.W PyProof.Rows PySem.SeqAt
section
variable {prog:Program} {w:World} {hb:Heap} {mg mb:Str→Option Value}
theorem ok25 (GG:Ground prog w hb mg mb):BodyOk prog w hb (KK w.params) methIx initIx fldIx adrOf 287 F_Kinds_kind :=
  ⟨F_Kinds_kind.params.filterMap nm,_,_,⟨⟨_,_,_,_,_,_,_,_,_,_,_,_,_,rfl,rfl,fun vals h=>match vals,h with | [v0,v1],_=>rfl⟩,rfl,by decide,by decide,by decide,noFree_of (by decide),rfl,rfl,rfl⟩,fun T n hm hi hf CT CQ =>
    have CL:=GG.C T hf
    have G:=GG.G
    have X:=G.X
    WSs.h (Sc (WS_asgTs (.cons n181 (by kernel_rfl) (.cons n217 (by kernel_rfl) .nil)) (by decide) (Et (Ec (Eu (El n172) Ei) (Ec (Eu (El n172) Ei) En))) (swap_of rfl (by kernel_rfl)))
 (Sc (Si (Bc (op:=.isin) (El n181) (Et (Ec (Es n130) (Ec (Es n75) (Ec (Es n218) En))))) (Sc (Sr (Et (Ec (El n181) (Ec Eb (Ec Ei En)))))
 Sn) Sn)
 (Sc (Si (Bc (op:=.eq) (El n181) (Es n170)) (Sc (Sr (Em X CL CT (Er X CL (El n207) n171) (Ec (Eu (El n172) Ei) (Ec (El n217) En)) n145))
 Sn) Sn)
 (Sc (Si (Bc (op:=.eq) (El n181) (Es n74)) (Sc (Sr (Em X CL CT (El n207) (Ec (El n172) En) n81))
 Sn) Sn)
 (Sc (Si (Bc (op:=.eq) (El n181) (Es n230)) (Sc (Sr (Em X CL CT (El n207) (Ec (Eu (El n172) Ei) (Ec (Em X CL CT (El n207) (Ec (Eu (El n172) Ei) En) n144) (Ec (El n217) En))) n228))
 Sn) Sn)
 (Sc (Si (Bc (op:=.eq) (El n181) (Es n123)) (Sc (Sr (Em X CL CT (El n207) (Ec (Em X CL CT (El n207) (Ec (Eu (El n172) Ei) En) n144) (Ec (Eu (El n172) Ei) (Ec (El n217) En))) n127))
 Sn) Sn)
 (Sc (Si (Bc (op:=.eq) (El n181) (Es n77)) (Sc (Sr (Em X CL CT (El n207) (Ec (Eu (El n172) Ei) (Ec (WE_comp (compOk_of rfl (by kernel_rfl) (.one n187 (.inl (by kernel_rfl)))) (WI_val (Eu (El n172) Ei)) (Em X CL CT (El n207) (Ec (El n187) En) n144) .nil) (Ec (El n217) En))) n77))
 Sn) Sn)
 (Sc (Si (Bc (op:=.isin) (El n181) (Et (Ec (Es n57) (Ec (Es n59) (Ec (Es n208) (Ec (Es n199) En)))))) (Sc (Sr (Em X CL CT (El n207) (Ec (El n181) (Ec (El n172) En)) n112))
 Sn) Sn)
 (Sc (Si (Bc (op:=.isin) (El n181) (Et (Ec (Es n113) (Ec (Es n85) En)))) (Sc (Sr (Em X CL CT (El n207) (Ec (El n181) (Ec (El n172) En)) n114))
 Sn) Sn)
 (Sc (Si (Bc (op:=.eq) (El n181) (Es n119)) (Sc (Sr (Em X CL CT (El n207) (Ec (El n172) En) n82))
 Sn) Sn)
 (Sc (Si (Bc (op:=.eq) (El n181) (Es n156)) (Sc (Sr (Em X CL CT (El n207) (Ec (El n172) En) n242))
 Sn) Sn)
 (Sc (Rs GG (by kernel_rfl) g_24 (by kernel_rfl) (Ef (.cons (WP_fmt (El n181)) (.cons (WP_str (.inl ⟨rfl,by decide⟩)) .nil))) (El n217) rfl)
 Sn))))))))))))⟩
theorem ok26 (GG:Ground prog w hb mg mb):BodyOk prog w hb (KK w.params) methIx initIx fldIx adrOf 294 F_Kinds_known_set :=
  ⟨F_Kinds_known_set.params.filterMap nm,_,_,⟨⟨_,_,_,_,_,_,_,_,_,_,_,_,_,rfl,rfl,fun vals h=>match vals,h with | [v0,v1,v2],_=>rfl⟩,rfl,by decide,by decide,by decide,noFree_of (by decide),rfl,rfl,rfl⟩,fun T n hm hi hf CT CQ =>
    have CL:=GG.C T hf
    have G:=GG.G
    have X:=G.X
    WSs.h (Sc (WS_expr (Ea G CT g_237 (Ec (Em X CL CT (El n207) (Ec (El n172) En) n144) (Ec (Eg G den_29) (Ec (Eu (El n172) Ei) (Ec (El n241) En))))))
 Sn)⟩
theorem ok27 (GG:Ground prog w hb mg mb):BodyOk prog w hb (KK w.params) methIx initIx fldIx adrOf 301 F_Kinds_chain :=
  ⟨F_Kinds_chain.params.filterMap nm,_,_,⟨⟨_,_,_,_,_,_,_,_,_,_,_,_,_,rfl,rfl,fun vals h=>match vals,h with | [v0,v1],_=>rfl⟩,rfl,by decide,by decide,by decide,noFree_of (by decide),rfl,rfl,rfl⟩,fun T n hm hi hf CT CQ =>
    have CL:=GG.C T hf
    have G:=GG.G
    have X:=G.X
    WSs.h (Sc (WS_asg n236 (.inl (by kernel_rfl)) (WE_mlst En))
 (Sc (WS_while (Bc (op:=.eq) (Eu (El n172) Ei) (Es n74)) (Sc (WS_expr (WE_append (El n236) (El n172)))
 (Sc (WS_asg n172 (.inl (by kernel_rfl)) (Eu (El n172) Ei))
 Sn)))
 (Sc (WS_asg n110 (.inl (by kernel_rfl)) (Em X CL CT (El n207) (Ec (El n172) En) n144))
 (Sc (WS_while (Bc (op:=.gt) (WE_len G bn_154 (El n236)) Ei) (Sc (WS_asg n172 (.inl (by kernel_rfl)) (WE_pop (El n236)))
 (Sc (WS_asg n110 (.inl (by kernel_rfl)) (Em X CL CT (El n207) (Ec (Eu (El n172) Ei) (Ec (El n110) (Ec (Em X CL CT (El n207) (Ec (Eu (El n172) Ei) En) n144) (Ec (Eu (El n172) Ei) En)))) n142))
 Sn)))
 (Sc (Sr (El n110))
 Sn)))))⟩
theorem ok28 (GG:Ground prog w hb mg mb):BodyOk prog w hb (KK w.params) methIx initIx fldIx adrOf 308 F_Kinds_joined :=
  ⟨F_Kinds_joined.params.filterMap nm,_,_,⟨⟨_,_,_,_,_,_,_,_,_,_,_,_,_,rfl,rfl,fun vals h=>match vals,h with | [v0,v1,v2,v3,v4],_=>rfl⟩,rfl,by decide,by decide,by decide,noFree_of (by decide),rfl,rfl,rfl⟩,fun T n hm hi hf CT CQ =>
    have CL:=GG.C T hf
    have G:=GG.G
    have X:=G.X
    WSs.h (Sc (WS_asg n138 (.inl (by kernel_rfl)) (Ex (i:=false) (Ed (Eu (El n180) Ei) (Eo (Eu (El n183) Ei)))))
 (Sc (Si (Bc (op:=.isin) (El n213) (Et (Ec (Es n3) (Ec (Es n5) (Ec (Es n2) (Ec (Es n97) (Ec (Es n169) En))))))) (Sc (WS_expr (Ea G CT g_237 (Ec (El n180) (Ec (Eg G den_20) (Ec (El n217) (Ec (El n213) En))))))
 (Sc (WS_expr (Ea G CT g_237 (Ec (El n183) (Ec (Eg G den_20) (Ec (El n217) (Ec (El n213) En))))))
 (Sc (Sr (Et (Ec (Es n130) (Ec (El n138) (Ec Ei En)))))
 Sn))) Sn)
 (Sc (Si (Bc (op:=.eq) (El n213) (Es n35)) (Sc (WS_expr (Ea G CT g_237 (Ec (El n180) (Ec (Eg G den_20) (Ec (El n217) (Ec (El n213) En))))))
 (Sc (WS_expr (Ea G CT g_237 (Ec (El n183) (Ec (Eg G den_22) (Ec (El n217) (Ec (El n213) En))))))
 (Sc (Sr (Et (Ec (Es n130) (Ec (Eu (El n180) Ei) (Ec Ei En)))))
 Sn))) Sn)
 (Sc (Si (Bc (op:=.isin) (El n213) (Et (Ec (Es n8) (Ec (Es n34) (Ec (Es n6) (Ec (Es n10) (Ec (Es n11) (Ec (Es n244) En)))))))) (Sc (WS_expr (Ea G CT g_237 (Ec (El n180) (Ec (Eg G den_17) (Ec (El n217) (Ec (El n213) En))))))
 (Sc (WS_expr (Ea G CT g_237 (Ec (El n183) (Ec (Eg G den_17) (Ec (El n217) (Ec (El n213) En))))))
 (Sc (Sr (Et (Ec (Es n75) (Ec (El n138) (Ec Ei En)))))
 Sn))) Sn)
 (Sc (Si (Bc (op:=.isin) (El n213) (Et (Ec (Es n231) (Ec (Es n94) (Ec (Es n222) (Ec (Es n132) (Ec (Es n219) (Ec (Es n221) En)))))))) (Sc (WS_expr (Ea G CT g_237 (Ec (El n180) (Ec (Eg G den_29) (Ec (El n217) (Ec (El n213) En))))))
 (Sc (WS_expr (Ea G CT g_237 (Ec (El n183) (Ec (Eg G den_29) (Ec (El n217) (Ec (El n213) En))))))
 (Sc (Sr (Eh (Bc (op:=.isin) (El n213) (Et (Ec (Es n219) (Ec (Es n221) En)))) (Et (Ec (Es n75) (Ec Eb (Ec Ei En)))) (Eg G den_29)))
 Sn))) Sn)
 (Sc (Si (Bc (op:=.eq) (El n213) (Es n121)) (Sc (WS_expr (Ea G CT g_237 (Ec (El n180) (Ec (Eg G den_20) (Ec (El n217) (Ec (El n213) En))))))
 (Sc (WS_expr (Ea G CT g_237 (Ec (El n183) (Ec (Eg G den_29) (Ec (El n217) (Ec (El n213) En))))))
 (Sc (Sr (Et (Ec (Es n75) (Ec (Eu (El n180) Ei) (Ec Ei En)))))
 Sn))) Sn)
 (Sc (Si (Bc (op:=.eq) (El n213) (Es n4)) (Sc (Sr (Em X CL CT (El n207) (Ec (El n180) (Ec (El n183) (Ec (El n217) En))) n197))
 Sn) Sn)
 (Sc (Sr (Em X CL CT (El n207) (Ec (El n213) (Ec (El n180) (Ec (El n183) (Ec (El n217) En)))) n86))
 Sn))))))))⟩
theorem ok29 (GG:Ground prog w hb mg mb):BodyOk prog w hb (KK w.params) methIx initIx fldIx adrOf 322 F_Kinds_compared :=
  ⟨F_Kinds_compared.params.filterMap nm,_,_,⟨⟨_,_,_,_,_,_,_,_,_,_,_,_,_,rfl,rfl,fun vals h=>match vals,h with | [v0,v1,v2,v3,v4],_=>rfl⟩,rfl,by decide,by decide,by decide,noFree_of (by decide),rfl,rfl,rfl⟩,fun T n hm hi hf CT CQ =>
    have CL:=GG.C T hf
    have G:=GG.G
    have X:=G.X
    WSs.h (Sc (Si (WB_notin (El n213) (Et (Ec (Es n9) (Ec (Es n12) (Ec (Es n15) (Ec (Es n16) (Ec (Es n13) (Ec (Es n14) (Ec (Es n1) En))))))))) (Sc (Rs GG (by kernel_rfl) g_24 (by kernel_rfl) (Ef (.cons (WP_fmt (El n213)) (.cons (WP_str (.inl ⟨rfl,by decide⟩)) .nil))) (El n217) rfl)
 Sn) Sn)
 (Sc (WS_asg n110 (.inl (by kernel_rfl)) (Ea G CT g_84 (Ec (El n180) (Ec (El n183) (Ec (El n217) (Ec (El n213) En))))))
 (Sc (Si (Bc (op:=.ne) (Eu (El n110) Ei) Ei) (Sc (Rs GG (by kernel_rfl) g_24 (by kernel_rfl) (Ef (.cons (WP_fmt (El n213)) (.cons (WP_str (.inl ⟨rfl,by decide⟩)) .nil))) (El n217) rfl)
 Sn) Sn)
 (Sc (Sr (Et (Ec (Es n75) (Ec (Eu (El n110) Ei) (Ec Ei En)))))
 Sn))))⟩
theorem ok30 (GG:Ground prog w hb mg mb):BodyOk prog w hb (KK w.params) methIx initIx fldIx adrOf 336 F_Kinds_indexed :=
  ⟨F_Kinds_indexed.params.filterMap nm,_,_,⟨⟨_,_,_,_,_,_,_,_,_,_,_,_,_,rfl,rfl,fun vals h=>match vals,h with | [v0,v1,v2,v3],_=>rfl⟩,rfl,by decide,by decide,by decide,noFree_of (by decide),rfl,rfl,rfl⟩,fun T n hm hi hf CT CQ =>
    have CL:=GG.C T hf
    have G:=GG.G
    have X:=G.X
    WSs.h (Sc (Si (Ba (i:=false) (Bb (Bc (op:=.eq) (Eu (El n144) Ei) Ei) (Bo (Bc (op:=.ne) (Eu (El n144) Ei) (WE_len G bn_154 (El n128)))))) (Sc (Rs GG (by kernel_rfl) g_24 (by kernel_rfl) (Ef (.cons (WP_fmt (Ea G CT g_146 (Ec (El n144) En))) (.cons (WP_str (.inl ⟨rfl,by decide⟩)) (.cons (WP_fmt (WE_len G bn_154 (El n128))) (.cons (WP_str (.inl ⟨rfl,by decide⟩)) .nil))))) (El n217) rfl)
 Sn) Sn)
 (Sc (WS_asg n138 (.inl (by kernel_rfl)) (Eu (El n144) Ei))
 (Sc (WS_for (WI_val (El n128)) (.one n187 (.inl (by kernel_rfl))) (Sc (WS_asg n110 (.inl (by kernel_rfl)) (Em X CL CT (El n207) (Ec (El n187) En) n144))
 (Sc (WS_expr (Ea G CT g_237 (Ec (El n110) (Ec (Eg G den_20) (Ec (Eu (El n187) Ei) (Ec (Es n123) En))))))
 (Sc (WS_asg n138 (.inl (by kernel_rfl)) (Ex (i:=false) (Ed (El n138) (Eo (Eu (El n110) Ei)))))
 Sn))))
 (Sc (Si (Ba (i:=true) (Bb (Bp (El n138) plain_name) (Bo (Bc (op:=.isin) (Eu (El n144) Ei) (Et (Ec (Es n218) (Ec (Es n208) En))))))) (Sc (Rs GG (by kernel_rfl) g_24 (by kernel_rfl) (Ef (.cons (WP_fmt (Ea G CT g_146 (Ec (El n144) En))) (.cons (WP_str (.inl ⟨rfl,by decide⟩)) .nil))) (El n217) rfl)
 Sn) Sn)
 (Sc (Sr (Et (Ec (Eu (El n144) Ei) (Ec (El n138) (Ec Ei En)))))
 Sn)))))⟩
theorem ok31 (GG:Ground prog w hb mg mb):BodyOk prog w hb (KK w.params) methIx initIx fldIx adrOf 343 F_Kinds_of_all :=
  ⟨F_Kinds_of_all.params.filterMap nm,_,_,⟨⟨_,_,_,_,_,_,_,_,_,_,_,_,_,rfl,rfl,fun vals h=>match vals,h with | [v0,v1,v2],_=>rfl⟩,rfl,by decide,by decide,by decide,noFree_of (by decide),rfl,rfl,rfl⟩,fun T n hm hi hf CT CQ =>
    have CL:=GG.C T hf
    have G:=GG.G
    have X:=G.X
    WSs.h (Sc (WS_asg n110 (.inl (by kernel_rfl)) (Et (Ec (Es n174) (Ec Eb (Ec Ei En)))))
 (Sc (WS_for (WI_val (El n173)) (.one n172 (.inl (by kernel_rfl))) (Sc (WS_asg n152 (.inl (by kernel_rfl)) (Em X CL CT (El n207) (Ec (El n172) En) n144))
 (Sc (Si (Bc (op:=.ne) (Eu (El n152) Ei) Ei) (Sc (Rs GG (by kernel_rfl) g_24 (by kernel_rfl) (Ef (.cons (WP_fmt (El n241)) (.cons (WP_str (.inl ⟨rfl,by decide⟩)) .nil))) (Eu (El n172) Ei) rfl)
 Sn) Sn)
 (Sc (WS_asg n110 (.inl (by kernel_rfl)) (Ea G CT g_84 (Ec (El n110) (Ec (El n152) (Ec (Eu (El n172) Ei) (Ec (El n241) En))))))
 Sn))))
 (Sc (Sr (El n110))
 Sn)))⟩
theorem ok32 (GG:Ground prog w hb mg mb):BodyOk prog w hb (KK w.params) methIx initIx fldIx adrOf 350 F_Kinds_gathered :=
  ⟨F_Kinds_gathered.params.filterMap nm,_,_,⟨⟨_,_,_,_,_,_,_,_,_,_,_,_,_,rfl,rfl,fun vals h=>match vals,h with | [v0,v1,v2],_=>rfl⟩,rfl,by decide,by decide,by decide,noFree_of (by decide),rfl,rfl,rfl⟩,fun T n hm hi hf CT CQ =>
    have CL:=GG.C T hf
    have G:=GG.G
    have X:=G.X
    WSs.h (Sc (Si (Bc (op:=.eq) (El n181) (Es n199)) (Sc (WS_expr (Ea G CT g_237 (Ec (Em X CL CT (El n207) (Ec (Eu (El n172) Ei) En) n144) (Ec (Eg G den_22) (Ec (Eu (El n172) Ei) (Ec (Es n7) En))))))
 (Sc (WS_expr (Ea G CT g_237 (Ec (Em X CL CT (El n207) (Ec (Eu (El n172) Ei) En) n144) (Ec (Eg G den_22) (Ec (Eu (El n172) Ei) (Ec (Es n7) En))))))
 (Sc (Sr (Eg G den_29))
 Sn))) Sn)
 (Sc (Si (Bc (op:=.eq) (El n181) (Es n208)) (Sc (WS_expr (Ea G CT g_237 (Ec (Em X CL CT (El n207) (Ec (Eu (El n172) Ei) (Ec (Es n208) En)) n179) (Ec (Eg G den_22) (Ec (Eu (El n172) Ei) (Ec (Es n208) En))))))
 (Sc (Sr (Eg G den_29))
 Sn)) Sn)
 (Sc (Si (Bc (op:=.eq) (El n181) (Es n57)) (Sc (WS_asg n110 (.inl (by kernel_rfl)) (Em X CL CT (El n207) (Ec (Eu (El n172) Ei) (Ec (Es n57) En)) n179))
 (Sc (Sr (Et (Ec (Eu (El n110) Ei) (Ec (Eu (El n110) Ei) (Ec Ei En)))))
 Sn)) Sn)
 (Sc (WS_asg n110 (.inl (by kernel_rfl)) (Et (Ec (Es n174) (Ec Eb (Ec Ei En)))))
 (Sc (WS_for (WI_val (Eu (El n172) Ei)) (.one n202 (.inl (by kernel_rfl))) (Sc (Si (Bc (op:=.ne) (WE_len G bn_154 (El n202)) (WE_len G bn_154 (Eu (Eu (El n172) Ei) Ei))) (Sc (Rs GG (by kernel_rfl) g_24 (by kernel_rfl) (WE_txt (by decide)) (Eu (El n172) Ei) rfl)
 Sn) Sn)
 (Sc (WS_asg n110 (.inl (by kernel_rfl)) (Ea G CT g_84 (Ec (El n110) (Ec (Em X CL CT (El n207) (Ec (El n202) (Ec (Es n57) En)) n179) (Ec (Eu (El n172) Ei) (Ec (Es n57) En))))))
 Sn)))
 (Sc (Sr (Et (Ec (Eu (El n110) Ei) (Ec (Eu (El n110) Ei) (Ec Ei En)))))
 Sn))))))⟩
theorem ok33 (GG:Ground prog w hb mg mb):BodyOk prog w hb (KK w.params) methIx initIx fldIx adrOf 392 F_Kinds_within :=
  ⟨F_Kinds_within.params.filterMap nm,_,_,⟨⟨_,_,_,_,_,_,_,_,_,_,_,_,_,rfl,rfl,fun vals h=>match vals,h with | [v0,v1],_=>rfl⟩,rfl,by decide,by decide,by decide,noFree_of (by decide),rfl,rfl,rfl⟩,fun T n hm hi hf CT CQ =>
    have CL:=GG.C T hf
    have G:=GG.G
    have X:=G.X
    WSs.h (Sc (WS_expr (Em X CL CT (Er X CL (El n207) n171) En n195))
 (Sc (WS_tryF (Sc (WS_for (WI_val (Eu (El n172) Ei)) (.one n139 (.inl (by kernel_rfl))) (Sc (Si (Bc (op:=.eq) (Eu (El n139) Ei) (Es n91)) (Sc (WS_asg n144 (.inl (by kernel_rfl)) (Em X CL CT (El n207) (Ec (El n139) (Ec Eb En)) n92))
 (Sc (WS_expr (Em X CL CT (Er X CL (El n207) n171) (Ec (Eu (El n139) Ei) (Ec (El n144) (Ec (Eu (El n139) Ei) En))) n196))
 Sn)) (Sc (Si (Bc (op:=.eq) (Eu (El n139) Ei) (Es n88)) (Sc (WS_expr (Ea G CT g_237 (Ec (Em X CL CT (El n207) (Ec (Eu (El n139) Ei) En) n144) (Ec (Eg G den_17) (Ec (Eu (El n139) Ei) (Ec (Es n88) En))))))
 Sn) (Sc (Rs GG (by kernel_rfl) g_24 (by kernel_rfl) (Ef (.cons (WP_str (.inl ⟨rfl,by decide⟩)) (.cons (WP_fmt (Eu (El n139) Ei)) .nil))) (Eu (El n139) Ei) rfl)
 Sn))
 Sn))
 Sn))
 (Sc (Sr (Em X CL CT (El n207) (Ec (Eu (El n172) Ei) En) n144))
 Sn)) (Sc (WS_expr (Em X (GG.C _ hf) CQ (Er X (GG.C _ hf) (El n207) n171) En n190))
 Sn))
 Sn))⟩
theorem ok34 (GG:Ground prog w hb mg mb):BodyOk prog w hb (KK w.params) methIx initIx fldIx adrOf 397 F_Kinds_call :=
  ⟨F_Kinds_call.params.filterMap nm,_,_,⟨⟨_,_,_,_,_,_,_,_,_,_,_,_,_,rfl,rfl,fun vals h=>match vals,h with | [v0,v1,v2,v3],_=>rfl⟩,rfl,by decide,by decide,by decide,noFree_of (by decide),rfl,rfl,rfl⟩,fun T n hm hi hf CT CQ =>
    have CL:=GG.C T hf
    have G:=GG.G
    have X:=G.X
    WSs.h (Sc (WS_asg n138 (.inl (by kernel_rfl)) (Ek (op:=.gt) (WE_len G bn_154 (WE_comp (compOk_of rfl (by kernel_rfl) (.one n144 (.inl (by kernel_rfl)))) (WI_val (El n148)) (El n144) (.cons (Bp (Eu (El n144) Ei) plain_sub) .nil))) Ei))
 (Sc (Si (Bc (op:=.isin) (El n170) (Er X CL (El n207) n193)) (Sc (WS_setI Eb (Er X CL (El n207) n78) (El n170))
 (Sc (WS_expr (Em X CL CT (El n207) (Ec (El n170) (Ec (El n148) (Ec (Eu (Er X CL (El n207) n193) (El n170)) (Ec (El n217) En)))) n238))
 (Sc (Sr (Et (Ec (Es n75) (Ec Eb (Ec Ei En)))))
 Sn))) Sn)
 (Sc (Si (Bc (op:=.isin) (El n170) (Eg G den_19)) (Sc (WS_asgT (.cons n239 (.inl (by kernel_rfl)) (.cons n72 (.inl (by kernel_rfl)) .nil)) (Eu (Eg G den_19) (El n170)) (fun _ _=>rfl))
 (Sc (WS_expr (Em X CL CT (El n207) (Ec (El n170) (Ec (El n148) (Ec (El n239) (Ec (El n217) En)))) n238))
 (Sc (Sr (Et (Ec (El n72) (Ec (El n138) (Ec Ei En)))))
 Sn))) Sn)
 (Sc (Si (Ba (i:=true) (Bb (Bc (op:=.isin) (El n170) (Eg G den_27)) (Bo (Bc (op:=.gt) (WE_len G bn_154 (El n148)) Ei)))) (Sc (Sr (Em X CL CT (El n207) (Ec (El n170) (Ec (El n148) (Ec (El n217) En))) n182))
 Sn) Sn)
 (Sc (Rs GG (by kernel_rfl) g_24 (by kernel_rfl) (Ef (.cons (WP_fmt (El n170)) (.cons (WP_str (.inl ⟨rfl,by decide⟩)) (.cons (WP_fmt (WE_len G bn_154 (El n148))) (.cons (WP_str (.inl ⟨rfl,by decide⟩)) .nil))))) (El n217) rfl)
 Sn)))))⟩
theorem ok35 (GG:Ground prog w hb mg mb):BodyOk prog w hb (KK w.params) methIx initIx fldIx adrOf 404 F_Kinds_want_each :=
  ⟨F_Kinds_want_each.params.filterMap nm,_,_,⟨⟨_,_,_,_,_,_,_,_,_,_,_,_,_,rfl,rfl,fun vals h=>match vals,h with | [v0,v1,v2,v3,v4],_=>rfl⟩,rfl,by decide,by decide,by decide,noFree_of (by decide),rfl,rfl,rfl⟩,fun T n hm hi hf CT CQ =>
    have CL:=GG.C T hf
    have G:=GG.G
    have X:=G.X
    WSs.h (Sc (Si (Bc (op:=.ne) (WE_len G bn_154 (El n148)) (WE_len G bn_154 (El n239))) (Sc (Rs GG (by kernel_rfl) g_24 (by kernel_rfl) (Ef (.cons (WP_fmt (El n170)) (.cons (WP_str (.inl ⟨rfl,by decide⟩)) (.cons (WP_fmt (WE_len G bn_154 (El n239))) (.cons (WP_str (.inl ⟨rfl,by decide⟩)) (.cons (WP_fmt (WE_len G bn_154 (El n148))) .nil)))))) (El n217) rfl)
 Sn) Sn)
 (Sc (WS_for (WI_zip G bn_248 (El n148) (El n239)) (.many (.cons n144 (.inl (by kernel_rfl)) (.cons n180 (.inl (by kernel_rfl)) .nil))) (Sc (WS_expr (Ea G CT g_237 (Ec (El n144) (Ec (El n180) (Ec (El n217) (Ec (El n170) En))))))
 Sn))
 Sn))⟩
theorem ok36 (GG:Ground prog w hb mg mb):BodyOk prog w hb (KK w.params) methIx initIx fldIx adrOf 432 F_Kinds_type_kind :=
  ⟨F_Kinds_type_kind.params.filterMap nm,_,_,⟨⟨_,_,_,_,_,_,_,_,_,_,_,_,_,rfl,rfl,fun vals h=>match vals,h with | [v0,v1,v2],_=>rfl⟩,rfl,by decide,by decide,by decide,noFree_of (by decide),rfl,rfl,rfl⟩,fun T n hm hi hf CT CQ =>
    have CL:=GG.C T hf
    have G:=GG.G
    have X:=G.X
    WSs.h (Sc (WS_asgT (.cons n72 (.inl (by kernel_rfl)) (.cons n138 (.inl (by kernel_rfl)) (.cons n95 (.inl (by kernel_rfl)) (.cons n98 (.inl (by kernel_rfl)) .nil)))) (El n147) (fun _ _=>rfl))
 (Sc (Si (Ba (i:=true) (Bb (Bp (El n138) plain_name) (Bo (Bc (op:=.isin) (El n72) (Et (Ec (Es n218) (Ec (Es n208) En))))))) (Sc (Rs GG (by kernel_rfl) g_24 (by kernel_rfl) (Ef (.cons (WP_str (.inl ⟨rfl,by decide⟩)) (.cons (WP_fmt (El n72)) (.cons (WP_str (.inl ⟨rfl,by decide⟩)) .nil)))) (El n217) rfl)
 Sn) Sn)
 (Sc (Si (Bc (op:=.isnot) (El n98) WE_none) (Sc (WS_expr (Em X CL CT (El n207) (Ec (El n98) (Ec (Es n98) En)) n150))
 Sn) Sn)
 (Sc (WS_for (WI_val (El n95)) (.one n187 (.inl (by kernel_rfl))) (Sc (Si (Bc (op:=.ne) (Eu (El n187) Ei) (Es n131)) (Sc (WS_expr (Em X CL CT (El n207) (Ec (El n187) (Ec (WE_txt (by decide)) En)) n150))
 Sn) Sn)
 Sn))
 (Sc (Sr (Et (Ec (El n72) (Ec (El n138) (Ec (WE_len G bn_154 (El n95)) En)))))
 Sn)))))⟩
theorem ok37 (GG:Ground prog w hb mg mb):BodyOk prog w hb (KK w.params) methIx initIx fldIx adrOf 437 F_Kinds_declared :=
  ⟨F_Kinds_declared.params.filterMap nm,_,_,⟨⟨_,_,_,_,_,_,_,_,_,_,_,_,_,rfl,rfl,fun vals h=>match vals,h with | [v0,v1,v2],_=>rfl⟩,rfl,by decide,by decide,by decide,noFree_of (by decide),rfl,rfl,rfl⟩,fun T n hm hi hf CT CQ =>
    have CL:=GG.C T hf
    have G:=GG.G
    have X:=G.X
    WSs.h (Sc (WS_asg n144 (.inl (by kernel_rfl)) (Em X CL CT (El n207) (Ec (Eu (El n139) Ei) (Ec (Eu (El n139) Ei) En)) n229))
 (Sc (Si (Bc (op:=.isnot) (Eu (El n139) Ei) WE_none) (Sc (WS_expr (Ea G CT g_237 (Ec (Em X CL CT (El n207) (Ec (Eu (El n139) Ei) En) n144) (Ec (El n144) (Ec (Eu (El n139) Ei) (Ec (Eu (El n139) Ei) En))))))
 Sn) (Sc (Si (Bc (op:=.gt) (WE_len G bn_154 (WE_comp (compOk_of rfl (by kernel_rfl) (.one n187 (.inl (by kernel_rfl)))) (WI_val (Eu (Eu (El n139) Ei) Ei)) (El n187) (.cons (Bc (op:=.eq) (Eu (El n187) Ei) (Es n131)) .nil))) Ei) (Sc (Si (Ba (i:=true) (Bb (Bp (Eu (El n144) Ei) plain_sub) (Bo (WB_not (Bp (El n134) plain_name))))) (Sc (Rs GG (by kernel_rfl) g_24 (by kernel_rfl) (Ef (.cons (WP_fmt (Eu (El n139) Ei)) (.cons (WP_str (.inl ⟨rfl,by decide⟩)) .nil))) (Eu (El n139) Ei) rfl)
 Sn) Sn)
 Sn) Sn)
 Sn))
 (Sc (Sr (El n144))
 Sn)))⟩
theorem ok38 (GG:Ground prog w hb mg mb):BodyOk prog w hb (KK w.params) methIx initIx fldIx adrOf 451 F_Kinds_plain_kind :=
  ⟨F_Kinds_plain_kind.params.filterMap nm,_,_,⟨⟨_,_,_,_,_,_,_,_,_,_,_,_,_,rfl,rfl,fun vals h=>match vals,h with | [v0,v1],_=>rfl⟩,rfl,by decide,by decide,by decide,noFree_of (by decide),rfl,rfl,rfl⟩,fun T n hm hi hf CT CQ =>
    have CL:=GG.C T hf
    have G:=GG.G
    have X:=G.X
    WSs.h (Sc (Sr (Et (Ec (Eu (El n147) Ei) (Ec (Eu (El n147) Ei) (Ec (WE_len G bn_154 (Eu (El n147) Ei)) En)))))
 Sn)⟩
theorem ok39 (GG:Ground prog w hb mg mb):BodyOk prog w hb (KK w.params) methIx initIx fldIx adrOf 456 F_Kinds_note_predicate :=
  ⟨F_Kinds_note_predicate.params.filterMap nm,_,_,⟨⟨_,_,_,_,_,_,_,_,_,_,_,_,_,rfl,rfl,fun vals h=>match vals,h with | [v0,v1],_=>rfl⟩,rfl,by decide,by decide,by decide,noFree_of (by decide),rfl,rfl,rfl⟩,fun T n hm hi hf CT CQ =>
    have CL:=GG.C T hf
    have G:=GG.G
    have X:=G.X
    WSs.h (Sc (WS_asg n170 (.inl (by kernel_rfl)) (Eu (El n139) Ei))
 (Sc (Si (Ba (i:=false) (Bb (Bc (op:=.isin) (El n170) (Er X CL (El n207) n193)) (Bb (Bc (op:=.isin) (El n170) (Eg G den_19)) (Bo (Bc (op:=.isin) (El n170) (Eg G den_27)))))) (Sc (Rs GG (by kernel_rfl) g_24 (by kernel_rfl) (Ef (.cons (WP_fmt (El n170)) (.cons (WP_str (.inl ⟨rfl,by decide⟩)) .nil))) (Eu (El n139) Ei) rfl)
 Sn) Sn)
 (Sc (WS_setI (WE_tupOf G bn_227 (WE_comp (compOk_of rfl (by kernel_rfl) (.many (.cons n147 (.inl (by kernel_rfl)) (.cons n186 (.inl (by kernel_rfl)) .nil)))) (WI_val (Eu (El n139) Ei)) (Em X CL CT (El n207) (Ec (El n147) En) n189) .nil)) (Er X CL (El n207) n193) (El n170))
 Sn)))⟩
end
end Mine
namespace Mine.L
section
variable {T:Tab} {ρ:Loc} {σ:Sto}
def kTup (vs:List LV) (σ:Sto):R LV:=some (.val (.tup vs),σ)
def kLst (vs:List LV) (σ:Sto):R LV:=some (.val (.lst vs),σ)
def kMlst (vs:List LV) (σ:Sto):R LV:=some (.val (.cell σ.length),σ++[.list vs])
def kDct (ks:List Nat) (vs:List LV) (σ:Sto):R LV:=some (.val (.dct (ks.zip vs)),σ)
def kMdct (ks:List Nat) (vs:List LV) (σ:Sto):R LV:=some (.val (.cell σ.length),σ++[.dict (ks.zip vs)])
def kNot (v:LV) (σ:Sto):R LV:=onB v fun b=>some (.val (.bool (!b)),σ)
def kIte (T:Tab) (a b:ME) (ρ:Loc) (v:LV) (σ:Sto):R LV:=onB v fun b' => if b' then evalM T a ρ σ else evalM T b ρ σ
def kBin2 (op:BOp) (x y:LV) (σ:Sto):R LV:=lift (binL op x y) σ
def kBin (T:Tab) (op:BOp) (b:ME) (ρ:Loc) (x:LV) (σ:Sto):R LV:=bindR (evalM T b ρ σ) (kBin2 op x)
def kCmp2 (op:COp) (x y:LV) (σ:Sto):R LV:=lift ((cmpL σ op x y).map .bool) σ
def kCmp (T:Tab) (op:COp) (b:ME) (ρ:Loc) (x:LV) (σ:Sto):R LV:=bindR (evalM T b ρ σ) (kCmp2 op x)
def kNotin2 (x y:LV) (σ:Sto):R LV:=match y with
  | .tup ys=>lift ((inLs x ys).map fun r => .bool (!r)) σ
  | _=>none
def kNotin (T:Tab) (b:ME) (ρ:Loc) (x:LV) (σ:Sto):R LV:=bindR (evalM T b ρ σ) (kNotin2 x)
def kCmpD2 (x y:LV) (σ:Sto):R LV:=match dictOfL σ x,dictOfL σ y with
  | some d,some e=>lift ((eqD d e).map fun r => .bool (!r)) σ
  | _,_=>none
def kCmpD (T:Tab) (b:ME) (ρ:Loc) (x:LV) (σ:Sto):R LV:=bindR (evalM T b ρ σ) (kCmpD2 x)
def kCmpLD2 (x y:LV) (σ:Sto):R LV:=match oneItem σ x,oneItem σ y with
  | some (.cell i),some (.dct e)=>(match σ[i]? with
    | some (.dict d)=>lift ((eqD d e).map fun r => .bool (!r)) σ
    | _=>none)
  | _,_=>none
def kCmpLD (T:Tab) (b:ME) (ρ:Loc) (x:LV) (σ:Sto):R LV:=bindR (evalM T b ρ σ) (kCmpLD2 x)
def kSub2 (x y:LV) (σ:Sto):R LV:=lift (subL σ x y) σ
def kSub (T:Tab) (b:ME) (ρ:Loc) (x:LV) (σ:Sto):R LV:=bindR (evalM T b ρ σ) (kSub2 x)
def kSlice (n:Nat) (x:LV) (σ:Sto):R LV:=match x with
  | .lst xs=>if xs.length < most then some (.val (.lst (xs.take n)),σ) else none
  | _=>none
def noAny (v:LV):Option LV:=match v with | .any=>none | v=>some v
def kAttr (T:Tab) (x:Nat) (o:LV) (σ:Sto):R LV:=match o with
  | .obj c i=>(match T.fld c x,σ[i]? with
    | true,some (.dict as)=>lift ((lookA x as).bind noAny) σ
    | _,_=>none)
  | _=>none
def kCallO (T:Tab) (f:Nat) (o:LV) (vs:List LV) (σ:Sto):R LV:=T.call f (o::vs) σ
def kMeth (T:Tab) (m:Nat) (es:MEs) (ρ:Loc) (v:LV) (σ:Sto):R LV:=match v with
  | .obj c i=>(match σ[i]? with
    | some (.dict as)=>(match lookA m as,T.meth c m with
      | none,some f=>bindR (evalMs T es ρ σ) (kCallO T f (.obj c i))
      | _,_=>none)
    | _=>none)
  | _=>none
def kLen (v:LV) (σ:Sto):R LV:=lift ((lenL σ v).map fun n => .int n) σ
def kTupOf (v:LV) (σ:Sto):R LV:=match v with
  | .lst xs=>if xs.length < most then some (.val (.tup xs),σ) else none
  | _=>none
def kLstOf (v:LV) (σ:Sto):R LV:=match v with
  | .lst xs=>if xs.length < most then some (.val (.lst xs),σ) else none
  | _=>none
def kMlstOf (v:LV) (σ:Sto):R LV:=match itemsL σ v with
  | some xs=>if xs.length < most then some (.val (.cell σ.length),σ++[.list xs]) else none
  | none=>none
def kSorted2 (T:Tab) (v:LV) (σ:Sto):R LV:=match v with
  | .tup [.str a,.str b]=>if T.rs then some (.val (.lst (if b < a then [.str b,.str a] else [.str a,.str b])),σ) else none
  | _=>none
def kAppend2 (i:Nat) (x:LV) (σ:Sto):R LV:=match σ[i]? with
  | some (.list xs)=>if xs.length < most then some (.val .none,σ.set i (.list (xs++[x]))) else none
  | _=>none
def kAppend (T:Tab) (v:ME) (ρ:Loc) (l:LV) (σ:Sto):R LV:=match l with
  | .cell i=>(match σ[i]? with
    | some (.list _)=>bindR (evalM T v ρ σ) (kAppend2 i)
    | _=>none)
  | _=>none
def kPop (l:LV) (σ:Sto):R LV:=match l with
  | .cell i=>(match σ[i]? with
    | some (.list xs)=>(match xs.getLast? with
      | some x=>if xs.length < most then some (.val x,σ.set i (.list xs.dropLast)) else none
      | none=>none)
    | _=>none)
  | _=>none
def kComp2 (vs:List LV) (σ:Sto):R LV:=some (.val (.lst vs),σ)
def kComp (T:Tab) (elt:ME) (tg:MT) (conds:MEs) (ρ:Loc) (src:Src) (σ:Sto):R LV:=bindR (compM (allM T conds) (evalM T elt) tg ρ src most 0 σ) kComp2
def kFstr (n:Nat) (σ:Sto):R LV:=some (.val (.txt n),σ)
def kNew (c i:Nat) (u:LV) (σ':Sto):R LV:=match u with
  | .none=>some (.val (.obj c i),σ')
  | _=>none
theorem ev_const {v}:evalM T (.const v) ρ σ=some (.val v,σ):=rfl
theorem ev_loc {x}:evalM T (.loc x) ρ σ=lift (lookA x ρ) σ:=rfl
theorem ev_glob {x v}:evalM T (.glob x v) ρ σ=some (.val v,σ):=rfl
theorem ev_tup {es}:evalM T (.tup es) ρ σ=bindR (evalMs T es ρ σ) kTup:=rfl
theorem ev_lst {es}:evalM T (.lst es) ρ σ=bindR (evalMs T es ρ σ) kLst:=rfl
theorem ev_mlst {es}:evalM T (.mlst es) ρ σ=bindR (evalMs T es ρ σ) kMlst:=rfl
theorem ev_dct {ks es}:evalM T (.dct ks es) ρ σ=bindR (evalMs T es ρ σ) (kDct ks):=rfl
theorem ev_mdct {ks es}:evalM T (.mdct ks es) ρ σ=bindR (evalMs T es ρ σ) (kMdct ks):=rfl
theorem ev_boolop {i es}:evalM T (.boolop i es) ρ σ=boolM T i es ρ σ:=rfl
theorem ev_not {e}:evalM T (.not e) ρ σ=bindR (evalM T e ρ σ) kNot:=rfl
theorem ev_ite {c a b}:evalM T (.ite c a b) ρ σ=bindR (evalM T c ρ σ) (kIte T a b ρ):=rfl
theorem ev_bin {op a b}:evalM T (.bin op a b) ρ σ=bindR (evalM T a ρ σ) (kBin T op b ρ):=rfl
theorem ev_cmp {op a b}:evalM T (.cmp op a b) ρ σ=bindR (evalM T a ρ σ) (kCmp T op b ρ):=rfl
theorem ev_notin {a b}:evalM T (.notin a b) ρ σ=bindR (evalM T a ρ σ) (kNotin T b ρ):=rfl
theorem ev_cmpD {a b}:evalM T (.cmpD a b) ρ σ=bindR (evalM T a ρ σ) (kCmpD T b ρ):=rfl
theorem ev_cmpLD {a b}:evalM T (.cmpLD a b) ρ σ=bindR (evalM T a ρ σ) (kCmpLD T b ρ):=rfl
theorem ev_sub {a b}:evalM T (.sub a b) ρ σ=bindR (evalM T a ρ σ) (kSub T b ρ):=rfl
theorem ev_slice {a n}:evalM T (.slice a n) ρ σ=bindR (evalM T a ρ σ) (kSlice n):=rfl
theorem ev_attr {a x}:evalM T (.attr a x) ρ σ=bindR (evalM T a ρ σ) (kAttr T x):=rfl
theorem ev_call {f es}:evalM T (.call f es) ρ σ=bindR (evalMs T es ρ σ) (T.call f):=rfl
theorem ev_meth {o m es}:evalM T (.meth o m es) ρ σ=bindR (evalM T o ρ σ) (kMeth T m es ρ):=rfl
theorem ev_len {a}:evalM T (.len a) ρ σ=bindR (evalM T a ρ σ) kLen:=rfl
theorem ev_tupOf {a}:evalM T (.tupOf a) ρ σ=bindR (evalM T a ρ σ) kTupOf:=rfl
theorem ev_lstOf {a}:evalM T (.lstOf a) ρ σ=bindR (evalM T a ρ σ) kLstOf:=rfl
theorem ev_mlstOf {a}:evalM T (.mlstOf a) ρ σ=bindR (evalM T a ρ σ) kMlstOf:=rfl
theorem ev_sortedW {ks}:evalM T (.sortedW ks) ρ σ=if T.rs then some (.val (.lst (ks.map .str)),σ) else none:=rfl
theorem ev_sorted2 {a}:evalM T (.sorted2 a) ρ σ=bindR (evalM T a ρ σ) (kSorted2 T):=rfl
theorem ev_append {a b}:evalM T (.append a b) ρ σ=bindR (evalM T a ρ σ) (kAppend T b ρ):=rfl
theorem ev_pop {a}:evalM T (.pop a) ρ σ=bindR (evalM T a ρ σ) kPop:=rfl
theorem ev_comp {e tg src cs}:evalM T (.comp e tg src cs) ρ σ=if T.rs then bindR (iterM T src ρ σ) (kComp T e tg cs ρ) else none:=rfl
theorem ev_fstr {es}:evalM T (.fstr es) ρ σ=bindR (fstrM T 0 es ρ σ) kFstr:=rfl
theorem ev_new {c}:evalM T (.new c) ρ σ=match T.init c with
  | some f=>bindR (T.call f [.obj c σ.length] (σ++[.dict []])) (kNew c σ.length)
  | none=>none:=rfl
def kCons2 (v:LV) (vs:List LV) (σ:Sto):R (List LV):=some (.val (v::vs),σ)
def kCons (T:Tab) (es:MEs) (ρ:Loc) (v:LV) (σ:Sto):R (List LV):=bindR (evalMs T es ρ σ) (kCons2 v)
theorem es_nil:evalMs T .nil ρ σ=some (.val [],σ):=rfl
theorem es_cons {e es}:evalMs T (.cons e es) ρ σ=bindR (evalM T e ρ σ) (kCons T es ρ):=rfl
def kBool (T:Tab) (i:Bool) (es:MEs) (ρ:Loc) (v:LV) (σ:Sto):R LV:=onB v fun b=>if b == i then boolM T i es ρ σ else some (.val (.bool b),σ)
theorem bm_one {i e}:boolM T i (.cons e .nil) ρ σ=evalM T e ρ σ:=rfl
theorem bm_cons {i e e2 es}:boolM T i (.cons e (.cons e2 es)) ρ σ=bindR (evalM T e ρ σ) (kBool T i (.cons e2 es) ρ):=rfl
def kAll (T:Tab) (es:MEs) (ρ:Loc) (v:LV) (σ:Sto):R Bool:=onB v fun b=>if b then allM T es ρ σ else some (.val false,σ)
theorem al_nil:allM T .nil ρ σ=some (.val true,σ):=rfl
theorem al_cons {e es}:allM T (.cons e es) ρ σ=bindR (evalM T e ρ σ) (kAll T es ρ):=rfl
def kFst (T:Tab) (n:Nat) (es:MEs) (ρ:Loc) (v:LV) (σ:Sto):R Nat:=match fmtL v with
  | some m=>if n + m≤txtMost then fstrM T (n + m) es ρ σ else none
  | none=>none
theorem fs_nil {n}:fstrM T n .nil ρ σ=some (.val n,σ):=rfl
theorem fs_cons {n e es}:fstrM T n (.cons e es) ρ σ=bindR (evalM T e ρ σ) (kFst T n es ρ):=rfl
def kVal (v:LV) (σ:Sto):R Src:=if (itemsL σ v).isSome then some (.val (.seq v),σ) else none
def kRange (v:LV) (σ:Sto):R Src:=match v with
  | .int n=>if small n then some (.val (.range 0 1 n.toNat),σ) else none
  | _=>none
def kRange3c (v u w:LV) (σ:Sto):R Src:=match v,u,w with
  | .int n,.int (-1),.int (-1)=>if small n then some (.val (.range n (-1) (n + 1).toNat),σ) else none
  | _,_,_=>none
def kRange3b (T:Tab) (c:ME) (ρ:Loc) (v u:LV) (σ:Sto):R Src:=bindR (evalM T c ρ σ) (kRange3c v u)
def kRange3 (T:Tab) (b c:ME) (ρ:Loc) (v:LV) (σ:Sto):R Src:=bindR (evalM T b ρ σ) (kRange3b T c ρ v)
def kZip2 (v u:LV) (σ:Sto):R Src:=match v,u with
  | .lst [x],.tup [y]=>some (.val (.zip x y),σ)
  | _,_=>none
def kZip (T:Tab) (b:ME) (ρ:Loc) (v:LV) (σ:Sto):R Src:=bindR (evalM T b ρ σ) (kZip2 v)
theorem it_val {e}:iterM T (.val e) ρ σ=bindR (evalM T e ρ σ) kVal:=rfl
theorem it_range {a}:iterM T (.range a) ρ σ=bindR (evalM T a ρ σ) kRange:=rfl
theorem it_range3 {a b c}:iterM T (.range3 a b c) ρ σ=bindR (evalM T a ρ σ) (kRange3 T b c ρ):=rfl
theorem it_zip {a b}:iterM T (.zip a b) ρ σ=bindR (evalM T a ρ σ) (kZip T b ρ):=rfl
def sExpr (ρ:Loc) (v:LV) (σ:Sto):RS:=some (.next,ρ,σ)
def sAsg (x:Nat) (ρ:Loc) (v:LV) (σ:Sto):RS:=some (.next,putA x v ρ,σ)
def sAsgT (T:Tab) (xs:List Nat) (ρ:Loc) (v:LV) (σ:Sto):RS:=if T.rs then (match bindT (.many xs) v ρ with
  | some ρ' => some (.next,ρ',σ)
  | none=>none) else none
def sSetI3 (ρ:Loc) (x d c:LV) (σ:Sto):RS:=match d,c with
  | .cell i,.str c=>(match σ[i]? with
    | some (.dict es)=>if es.length < most then some (.next,ρ,σ.set i (.dict (putA c x es))) else none
    | _=>none)
  | _,_=>none
def sSetI2 (T:Tab) (k:ME) (ρ:Loc) (x d:LV) (σ:Sto):RS:=bindS (evalM T k ρ σ) ρ (sSetI3 ρ x d)
def sSetI (T:Tab) (o k:ME) (ρ:Loc) (x:LV) (σ:Sto):RS:=bindS (evalM T o ρ σ) ρ (sSetI2 T k ρ x)
def sSetA2 (T:Tab) (a:Nat) (ρ:Loc) (x d:LV) (σ:Sto):RS:=match d with
  | .obj c i=>(match T.fld c a,σ[i]? with
    | true,some (.dict es)=>if es.length < most then some (.next,ρ,σ.set i (.dict (putA a x es))) else none
    | _,_=>none)
  | _=>none
def sSetA (T:Tab) (o:ME) (a:Nat) (ρ:Loc) (x:LV) (σ:Sto):RS:=bindS (evalM T o ρ σ) ρ (sSetA2 T a ρ x)
def sIte (T:Tab) (a b:MSs) (ρ:Loc) (v:LV) (σ:Sto):RS:=onB v fun b' => if b' then execMs T a ρ σ else execMs T b ρ σ
def sFor (T:Tab) (tg:MT) (body:MSs) (ρ:Loc) (src:Src) (σ:Sto):RS:=forM (execMs T body) tg src most 0 ρ σ
def sRet (ρ:Loc) (v:LV) (σ:Sto):RS:=some (.ret v,ρ,σ)
def sRaise2 (T:Tab) (ρ:Loc) (m v:LV) (σ:Sto):RS:=match txtL m,v with
  | some _,.int i=>if T.rs then some (.exc i,ρ,σ) else none
  | _,_=>none
def sRaise (T:Tab) (spot:ME) (ρ:Loc) (m:LV) (σ:Sto):RS:=bindS (evalM T spot ρ σ) ρ (sRaise2 T ρ m)
def qT (T:Tab):Tab:={ T with call:=T.callQ,rs:=false }
def sFin (T:Tab) (fin:MSs) (r:RS):RS:=match r with
  | some (f,ρ,σ)=>(match execMs (qT T) fin ρ σ with
    | some (.next,ρ,σ)=>some (f,ρ,σ)
    | _=>none)
  | none=>none
def sCatch (x y:Nat) (r:RS):RS:=match r with
  | some (.exc i,ρ,σ)=>some (.next,(putA y (.tup [.none,.int i]) ρ).filter (fun e=>e.1 != x),σ)
  | r=>r
theorem ex_expr {e}:execM T (.expr e) ρ σ=bindS (evalM T e ρ σ) ρ (sExpr ρ):=rfl
theorem ex_asg {x e}:execM T (.asg x e) ρ σ=bindS (evalM T e ρ σ) ρ (sAsg x ρ):=rfl
theorem ex_asgT {xs e}:execM T (.asgT xs e) ρ σ=bindS (evalM T e ρ σ) ρ (sAsgT T xs ρ):=rfl
theorem ex_setI {o k v}:execM T (.setI o k v) ρ σ=bindS (evalM T v ρ σ) ρ (sSetI T o k ρ):=rfl
theorem ex_setA {o a v}:execM T (.setA o a v) ρ σ=bindS (evalM T v ρ σ) ρ (sSetA T o a ρ):=rfl
theorem ex_ite {c a b}:execM T (.ite c a b) ρ σ=bindS (evalM T c ρ σ) ρ (sIte T a b ρ):=rfl
theorem ex_for {tg src body}:execM T (.forS tg src body) ρ σ=if T.rs then bindS (iterM T src ρ σ) ρ (sFor T tg body ρ) else none:=rfl
theorem ex_while {c body}:execM T (.whileS c body) ρ σ=whileM (evalM T c) (execMs T body) whileMost ρ σ:=rfl
theorem ex_ret {e}:execM T (.ret e) ρ σ=bindS (evalM T e ρ σ) ρ (sRet ρ):=rfl
theorem ex_raise {m s}:execM T (.raise m s) ρ σ=bindS (evalM T m ρ σ) ρ (sRaise T s ρ):=rfl
theorem ex_tryF {b f}:execM T (.tryF b f) ρ σ=sFin T f (execMs T b ρ σ):=by
  unfold execM sFin qT; rfl
theorem ex_tryE {b x y}:execM T (.tryE b x y) ρ σ=sCatch x y (execMs T b ρ σ):=by
  unfold execM sCatch; rfl
theorem exs_nil:execMs T .nil ρ σ=some (.next,ρ,σ):=rfl
theorem exs_cons {s ss}:execMs T (.cons s ss) ρ σ=seqS (execM T s ρ σ) (execMs T ss):=rfl
end
def CM (n f:Nat) (vs:List LV) (σ:Sto):R LV:=callM fns methIx initIx fldIx true n f vs σ
def CQ (n f:Nat) (vs:List LV) (σ:Sto):R LV:=callM fns methIx initIx fldIx false n f vs σ
def TT (n:Nat):Tab:=⟨CM n,CQ n,true,methIx,initIx,fldIx⟩
def TQ (n:Nat):Tab:=⟨CQ n,CQ n,false,methIx,initIx,fldIx⟩
def fin (r:RS):R LV:=match r with
  | some (.next,_,σ)=>some (.val .none,σ)
  | some (.ret v,_,σ)=>some (.val v,σ)
  | some (.exc i,_,σ)=>some (.exc i,σ)
  | none=>none
theorem CM_eq {n f:Nat} {vs:List LV} {σ:Sto} {fn:Fn} {ρ:Loc} (hn:0 < n) (hf:fns f=some fn) (hz:zipL fn.params vs=some ρ):CM n f vs σ=fin (execMs (TT (n - 1)) fn.body ρ σ):=by
  cases n with
  | zero=>cases hn
  | succ n =>
    unfold CM callM
    rw [hf]
    dsimp only
    rw [hz]
    rfl
theorem CQ_eq {n f:Nat} {vs:List LV} {σ:Sto} {fn:Fn} {ρ:Loc} (hn:0 < n) (hf:fns f=some fn) (hz:zipL fn.params vs=some ρ):CQ n f vs σ=fin (execMs (TQ (n - 1)) fn.body ρ σ):=by
  cases n with
  | zero=>cases hn
  | succ n =>
    unfold CQ callM
    rw [hf]
    dsimp only
    rw [hz]
    rfl
theorem TT_call {n:Nat}:(TT n).call=CM n:=rfl
theorem TT_rs {n:Nat}:(TT n).rs=true:=rfl
theorem TT_meth {n:Nat}:(TT n).meth=methIx:=rfl
theorem TT_init {n:Nat}:(TT n).init=initIx:=rfl
theorem TT_fld {n:Nat}:(TT n).fld=fldIx:=rfl
theorem TT_q {n:Nat}:qT (TT n)=TQ n:=rfl
theorem TQ_call {n:Nat}:(TQ n).call=CQ n:=rfl
theorem TQ_rs {n:Nat}:(TQ n).rs=false:=rfl
theorem TQ_meth {n:Nat}:(TQ n).meth=methIx:=rfl
theorem TQ_fld {n:Nat}:(TQ n).fld=fldIx:=rfl
def forL (body:Loc→Sto→RS) (tg:MT):List LV→Loc→Sto→RS
  | [],ρ,σ=>some (.next,ρ,σ)
  | x::xs,ρ,σ=>match bindT tg x ρ with
    | some ρ' => seqS (body ρ' σ) (forL body tg xs)
    | none=>none
theorem forM_at {body:Loc→Sto→RS} {tg:MT} {src:Src} (xs:List LV) (hs:∀ σ k,itemAt σ src k=some xs[k]?):∀ n k ρ σ,k≤xs.length→xs.length < n + k→forM body tg src n k ρ σ=forL body tg (xs.drop k) ρ σ
  | 0,k,ρ,σ,h0,h=>by exfalso; omega
  | n + 1,k,ρ,σ,h0,h=>by
    unfold forM
    rw [hs]
    by_cases hk:k < xs.length
    · rw [List.getElem?_eq_getElem hk,List.drop_eq_getElem_cons hk]
      unfold forL
      dsimp only
      cases bindT tg xs[k] ρ with
      | none=>rfl
      | some ρ' =>
        dsimp only
        congr 1
        funext ρ σ
        exact forM_at xs hs n (k + 1) ρ σ hk (by omega)
    · rw [List.getElem?_eq_none (by omega),List.drop_eq_nil_of_le (by omega)]
      rfl
theorem sFor_tup {T:Tab} {tg:MT} {body:MSs} {ρ:Loc} {xs:List LV} {σ:Sto} (h:xs.length < most):sFor T tg body ρ (.seq (.tup xs)) σ=forL (execMs T body) tg xs ρ σ:=by
  unfold sFor
  exact (forM_at xs (fun _ _=>rfl) most 0 ρ σ (Nat.zero_le _) (by omega)).trans (by rw [List.drop_zero])
theorem sFor_lst {T:Tab} {tg:MT} {body:MSs} {ρ:Loc} {xs:List LV} {σ:Sto} (h:xs.length < most):sFor T tg body ρ (.seq (.lst xs)) σ=forL (execMs T body) tg xs ρ σ:=by
  unfold sFor
  exact (forM_at xs (fun _ _=>rfl) most 0 ρ σ (Nat.zero_le _) (by omega)).trans (by rw [List.drop_zero])
def rangeL (a c:Int) (n:Nat):List LV:=(List.range n).map fun (k:Nat) => .int (a + k * c)
theorem range_at (a c:Int) (n:Nat) (σ:Sto) (k:Nat):itemAt σ (.range a c n) k=some (rangeL a c n)[k]? := by
  show some (if k < n then some (LV.int (a + ↑k * c)) else none)=_
  unfold rangeL
  rw [List.getElem?_map]
  by_cases h:k < n
  · rw [if_pos h,List.getElem?_range h]; rfl
  · rw [if_neg h,List.getElem?_eq_none (by simp; omega)]; rfl
theorem sFor_range {T:Tab} {tg:MT} {body:MSs} {ρ:Loc} {a c:Int} {n:Nat} {σ:Sto} (h:n < most):sFor T tg body ρ (.range a c n) σ=forL (execMs T body) tg (rangeL a c n) ρ σ:=by
  unfold sFor
  exact (forM_at (rangeL a c n) (range_at a c n) most 0 ρ σ (Nat.zero_le _) (by unfold rangeL; simp; omega)).trans (by rw [List.drop_zero])
theorem sFor_zip {T:Tab} {tg:MT} {body:MSs} {ρ:Loc} {x y:LV} {σ:Sto}:sFor T tg body ρ (.zip x y) σ=forL (execMs T body) tg [.tup [x,y]] ρ σ:=by
  unfold sFor
  refine (forM_at [.tup [x,y]] (fun σ k=>?_) most 0 ρ σ (Nat.zero_le _) (by show 1 < most + 0; decide)).trans (by rw [List.drop_zero])
  cases k <;> rfl
theorem forL_nil {body:Loc→Sto→RS} {tg:MT} {ρ:Loc} {σ:Sto}:forL body tg [] ρ σ=some (.next,ρ,σ):=rfl
theorem forL_one {body:Loc→Sto→RS} {x:Nat} {v:LV} {xs:List LV} {ρ:Loc} {σ:Sto}:forL body (.one x) (v::xs) ρ σ=seqS (body (putA x v ρ) σ) (forL body (.one x) xs):=rfl
def cL2 (rest:Sto→R (List LV)) (v:LV) (σ:Sto):R (List LV):=bindR (rest σ) (kCons2 v)
def cL1 (elt:Loc→Sto→R LV) (rest:Sto→R (List LV)) (ρ':Loc) (b:Bool) (σ:Sto):R (List LV):=if b then bindR (elt ρ' σ) (cL2 rest) else rest σ
def compL (cond:Loc→Sto→R Bool) (elt:Loc→Sto→R LV) (tg:MT) (ρ:Loc):List LV→Sto→R (List LV)
  | [],σ=>some (.val [],σ)
  | x::xs,σ=>match bindT tg x ρ with
    | some ρ' => bindR (cond ρ' σ) (cL1 elt (compL cond elt tg ρ xs) ρ')
    | none=>none
theorem compM_at {cond:Loc→Sto→R Bool} {elt:Loc→Sto→R LV} {tg:MT} {ρ:Loc} {src:Src} (xs:List LV) (hs:∀ σ k,itemAt σ src k=some xs[k]?):∀ n k σ,k≤xs.length→xs.length < n + k→compM cond elt tg ρ src n k σ=compL cond elt tg ρ (xs.drop k) σ
  | 0,k,σ,h0,h=>by exfalso; omega
  | n + 1,k,σ,h0,h=>by
    unfold compM
    rw [hs]
    by_cases hk:k < xs.length
    · rw [List.getElem?_eq_getElem hk,List.drop_eq_getElem_cons hk]
      unfold compL
      dsimp only
      cases bindT tg xs[k] ρ with
      | none=>rfl
      | some ρ' =>
        rw [lift_some,bindR_val]
        congr 1
        funext b σ
        unfold cL1
        have:=fun σ=>compM_at (cond:=cond) (elt:=elt) (tg:=tg) (ρ:=ρ) xs hs n (k + 1) σ hk (by omega)
        cases b
        · exact this σ
        · simp only [if_true]
          congr 1
          funext v σ
          unfold cL2
          rw [this σ]
          rfl
    · rw [List.getElem?_eq_none (by omega),List.drop_eq_nil_of_le (by omega)]
      rfl
theorem kComp_tup {T:Tab} {e:ME} {tg:MT} {cs:MEs} {ρ:Loc} {xs:List LV} {σ:Sto} (h:xs.length < most):kComp T e tg cs ρ (.seq (.tup xs)) σ=bindR (compL (allM T cs) (evalM T e) tg ρ xs σ) kComp2:=by
  unfold kComp; rw [compM_at xs (fun _ _=>rfl) most 0 σ (Nat.zero_le _) (by omega),List.drop_zero]
theorem kComp_lst {T:Tab} {e:ME} {tg:MT} {cs:MEs} {ρ:Loc} {xs:List LV} {σ:Sto} (h:xs.length < most):kComp T e tg cs ρ (.seq (.lst xs)) σ=bindR (compL (allM T cs) (evalM T e) tg ρ xs σ) kComp2:=by
  unfold kComp; rw [compM_at xs (fun _ _=>rfl) most 0 σ (Nat.zero_le _) (by omega),List.drop_zero]
theorem kComp_range {T:Tab} {e:ME} {tg:MT} {cs:MEs} {ρ:Loc} {a c:Int} {n:Nat} {σ:Sto} (h:n < most):kComp T e tg cs ρ (.range a c n) σ=bindR (compL (allM T cs) (evalM T e) tg ρ (rangeL a c n) σ) kComp2:=by
  unfold kComp; rw [compM_at (rangeL a c n) (range_at a c n) most 0 σ (Nat.zero_le _) (by unfold rangeL; simp; omega),List.drop_zero]
theorem compL_nil {cond:Loc→Sto→R Bool} {elt:Loc→Sto→R LV} {tg:MT} {ρ:Loc} {σ:Sto}:compL cond elt tg ρ [] σ=some (.val [],σ):=rfl
theorem compL_one {cond:Loc→Sto→R Bool} {elt:Loc→Sto→R LV} {x:Nat} {ρ:Loc} {v:LV} {xs:List LV} {σ:Sto}:compL cond elt (.one x) ρ (v::xs) σ=bindR (cond (putA x v ρ) σ) (cL1 elt (compL cond elt (.one x) ρ xs) (putA x v ρ)):=rfl
theorem comp_pure {cond:Loc→Sto→R Bool} {elt:Loc→Sto→R LV} {tg:MT} {ρ:Loc} {src:Src} {σ:Sto} {c:LV→Bool} {e:LV→LV} (xs:List LV) (hs:∀ k,itemAt σ src k=some xs[k]?)
    (hx:∀ x∈xs,∃ ρ',bindT tg x ρ=some ρ' ∧ cond ρ' σ=some (.val (c x),σ)∧(c x=true→elt ρ' σ=some (.val (e x),σ))) :
    ∀ n k,k≤xs.length→xs.length < n + k→compM cond elt tg ρ src n k σ=some (.val (((xs.drop k).filter c).map e),σ)
  | 0,k,h0,h=>by exfalso; omega
  | n + 1,k,h0,h=>by
    unfold compM
    rw [hs]
    by_cases hk:k < xs.length
    · rw [List.getElem?_eq_getElem hk,List.drop_eq_getElem_cons hk]
      dsimp only
      obtain ⟨ρ',h1,h2,h3⟩:=hx xs[k] (List.getElem_mem hk)
      rw [h1,lift_some,bindR_val,h2,bindR_val,List.filter_cons]
      cases hc:c xs[k] with
      | false=>simp only [Bool.false_eq_true,if_false]; exact comp_pure xs hs hx n (k + 1) hk (by omega)
      | true =>
        simp only [if_true]
        rw [h3 hc,bindR_val,comp_pure xs hs hx n (k + 1) hk (by omega),bindR_val]
        rfl
    · rw [List.getElem?_eq_none (by omega),List.drop_eq_nil_of_le (by omega)]
      rfl
theorem kComp_pure {T:Tab} {el:ME} {tg:MT} {cs:MEs} {ρ:Loc} {v:LV} {σ:Sto} {c:LV→Bool} {e:LV→LV} {xs:List LV} (hi:itemsL σ v=some xs) (h:xs.length < most)
    (hx:∀ x∈xs,∃ ρ',bindT tg x ρ=some ρ' ∧ allM T cs ρ' σ=some (.val (c x),σ)∧(c x=true→evalM T el ρ' σ=some (.val (e x),σ))) :
    kComp T el tg cs ρ (.seq v) σ=some (.val (.lst ((xs.filter c).map e)),σ):=by
  unfold kComp
  rw [comp_pure xs (fun k=>by show (itemsL σ v).map _=_; rw [hi]; rfl) hx most 0 (Nat.zero_le _) (by omega),bindR_val,List.drop_zero]
  rfl
theorem fin_next {ρ:Loc} {σ:Sto}:fin (some (.next,ρ,σ))=some (.val .none,σ):=rfl
theorem fin_ret {v:LV} {ρ:Loc} {σ:Sto}:fin (some (.ret v,ρ,σ))=some (.val v,σ):=rfl
theorem fin_exc {i:Int} {ρ:Loc} {σ:Sto}:fin (some (.exc i,ρ,σ))=some (.exc i,σ):=rfl
theorem idx_nat {n k:Nat} (h:k < n) (h2:k < 1000):idx n (k:Int)=some k:=by
  unfold idx small
  rw [if_pos (by simp only [Bool.and_eq_true,decide_eq_true_eq]; omega),if_pos (by omega),if_pos (by omega)]
  simp
theorem idx_last {n:Nat} (h:0 < n):idx n (-1)=some (n - 1):=by
  unfold idx small
  rw [if_pos (by decide),if_neg (by decide),if_pos (by omega)]
  congr 1; omega
theorem x_subT {σ:Sto} {k:Nat} {xs:List LV} (hk:k < xs.length) (h2:k < 1000):subL σ (.tup xs) (.int k)=xs[k]? := by
  show (idx xs.length (k:Int)).bind (xs[·]?)=_
  rw [idx_nat hk h2]; rfl
theorem x_sub0 {σ:Sto} {a:LV} {r:List LV}:subL σ (.tup (a::r)) (.int 0)=some a:=x_subT (k:=0) (by simp) (by decide)
theorem x_sub1 {σ:Sto} {a b:LV} {r:List LV}:subL σ (.tup (a::b::r)) (.int 1)=some b:=x_subT (k:=1) (by simp) (by decide)
theorem x_sub2 {σ:Sto} {a b c:LV} {r:List LV}:subL σ (.tup (a::b::c::r)) (.int 2)=some c:=x_subT (k:=2) (by simp) (by decide)
theorem x_sub3 {σ:Sto} {a b c d:LV} {r:List LV}:subL σ (.tup (a::b::c::d::r)) (.int 3)=some d:=x_subT (k:=3) (by simp) (by decide)
theorem x_sub4 {σ:Sto} {a b c d e:LV} {r:List LV}:subL σ (.tup (a::b::c::d::e::r)) (.int 4)=some e:=x_subT (k:=4) (by simp) (by decide)
theorem x_subLk {σ:Sto} {k:Nat} {xs:List LV} (hk:k < xs.length) (h2:k < 1000):subL σ (.lst xs) (.int k)=xs[k]? := by
  show (idx xs.length (k:Int)).bind (xs[·]?)=_
  rw [idx_nat hk h2]; rfl
theorem x_sub0l {σ:Sto} {a:LV} {r:List LV}:subL σ (.lst (a::r)) (.int 0)=some a:=x_subLk (k:=0) (by simp) (by decide)
theorem x_sub1l {σ:Sto} {a b:LV} {r:List LV}:subL σ (.lst (a::b::r)) (.int 1)=some b:=x_subLk (k:=1) (by simp) (by decide)
theorem x_subL {σ:Sto} {xs:List LV} {a:LV}:subL σ (.lst (xs++[a])) (.int (-1))=some a:=by
  show (idx (xs++[a]).length (-1)).bind ((xs++[a])[·]?)=_
  rw [idx_last (by simp)]; simp
theorem x_subC {σ:Sto} {i:Nat} {xs:List LV} {a:LV} (h:σ[i]? = some (.list (xs++[a]))):subL σ (.cell i) (.int (-1))=some a:=by
  unfold subL
  simp only [h]
  rw [idx_last (by simp)]; simp
theorem x_subN {σ:Sto} {i k:Nat} {xs:List LV} (h:σ[i]? = some (.list xs)) (hk:k < xs.length) (h2:k < 1000):subL σ (.cell i) (.int k)=xs[k]? := by
  unfold subL
  simp only [h]
  rw [idx_nat hk h2]; rfl
theorem x_subD {σ:Sto} {es:List (Nat × LV)} {c:Nat}:subL σ (.dct es) (.str c)=lookA c es:=rfl
theorem x_eqs {a b:Nat}:eqL (.str a) (.str b)=some (a == b):=rfl
theorem x_eqi {a b:Int}:eqL (.int a) (.int b)=some (a == b):=rfl
theorem x_ceq {σ:Sto} {a b:LV}:cmpL σ .eq a b=eqL a b:=rfl
theorem x_cne {σ:Sto} {a b:LV}:cmpL σ .ne a b=(eqL a b).map (!·):=rfl
theorem x_clt {σ:Sto} {a b:Int}:cmpL σ .lt (.int a) (.int b)=some (decide (a < b)):=rfl
theorem x_cgt {σ:Sto} {a b:Int}:cmpL σ .gt (.int a) (.int b)=some (decide (a > b)):=rfl
theorem x_cis {σ:Sto} {a:LV}:cmpL σ .is a .none=noneL a:=rfl
theorem x_cisn {σ:Sto} {a:LV}:cmpL σ .isnot a .none=(noneL a).map (!·):=rfl
theorem x_cin {σ:Sto} {a b:LV}:cmpL σ .isin a b=isinL σ a b:=rfl
theorem x_nn:noneL .none=some true:=rfl
theorem x_nt {xs:List LV}:noneL (.tup xs)=some false:=rfl
theorem x_ni {i:Int}:noneL (.int i)=some false:=rfl
theorem x_in0 {σ:Sto} {c:Nat}:isinL σ (.str c) (.tup [])=some false:=rfl
def strz (cs:List Nat):List LV:=cs.map .str
theorem dataLs_strs:∀ cs:List Nat,dataLs (strz cs)=true
  | []=>rfl
  | c::r=>by show (true && dataLs (strz r))=true; rw [dataLs_strs r]; rfl
theorem x_ins {σ:Sto} {c:Nat} (cs:List Nat):isinL σ (.str c) (.tup (strz cs))=some (cs.any fun d=>d == c):=by
  show inLs (.str c) (strz cs)=_
  unfold inLs
  rw [dataLs_strs]
  show some ((strz cs).any fun y=>eqB y (.str c))=_
  unfold strz
  rw [List.any_map]
  rfl
theorem x_in1 {σ:Sto} {c a:Nat}:isinL σ (.str c) (.tup [.str a])=some (a == c):=(x_ins [a]).trans (by simp)
theorem x_in2 {σ:Sto} {c a b:Nat}:isinL σ (.str c) (.tup [.str a,.str b])=some (a == c || b == c):=(x_ins [a,b]).trans (by simp)
theorem x_in3 {σ:Sto} {c a b d:Nat}:isinL σ (.str c) (.tup [.str a,.str b,.str d])=some (a == c || (b == c || d == c)):=(x_ins [a,b,d]).trans (by simp)
theorem x_in4 {σ:Sto} {c a b d e:Nat}:isinL σ (.str c) (.tup [.str a,.str b,.str d,.str e])=some (a == c || (b == c || (d == c || e == c))):=(x_ins [a,b,d,e]).trans (by simp)
theorem x_in5 {σ:Sto} {c a b d e f:Nat}:isinL σ (.str c) (.tup [.str a,.str b,.str d,.str e,.str f])=some (a == c || (b == c || (d == c || (e == c || f == c)))):=(x_ins [a,b,d,e,f]).trans (by simp)
theorem y_look {k j:Nat} {v:LV}:∀ ρ:Loc,lookA k (putA j v ρ)=if j=k then some v else lookA k ρ
  | []=>by
    unfold putA lookA
    by_cases h:j=k
    · rw [if_pos h,if_pos h]
    · rw [if_neg h,if_neg h]; rfl
  | (a,u)::r=>by
    unfold putA
    by_cases h:a=j
    · subst h
      rw [if_pos rfl]
      unfold lookA
      by_cases h:a=k
      · rw [if_pos h,if_pos h]
      · rw [if_neg h,if_neg h,if_neg h]
    · rw [if_neg h]
      unfold lookA
      by_cases h2:a=k
      · rw [if_pos h2,if_neg (by omega),if_pos h2]
      · rw [if_neg h2,if_neg h2]
        exact y_look r
theorem x_tf:(true == false)=false:=rfl
theorem x_ft:(false == true)=false:=rfl
theorem x_vt {xs:List LV} {σ:Sto}:kVal (.tup xs) σ=some (.val (.seq (.tup xs)),σ):=rfl
theorem x_vl {xs:List LV} {σ:Sto}:kVal (.lst xs) σ=some (.val (.seq (.lst xs)),σ):=rfl
theorem k_len {v:LV} {σ:Sto} {n:Nat} (h:lenL σ v=some n):kLen v σ=some (.val (.int n),σ):=by
  unfold kLen; rw [h]; rfl
theorem w_fs {c:Nat}:fmtL (.str c)=some 64:=rfl
theorem w_ft {n:Nat} (h:n≤100000):fmtL (.txt n)=some n:=if_pos h
theorem w_fi:fmtL (.int 1)=some 12:=rfl
theorem w_ts {c:Nat}:txtL (.str c)=some 64:=rfl
theorem w_tt {n:Nat}:txtL (.txt n)=some n:=rfl
local macro_rules
  | `(tactic| open_k with ([$ts,*],0)) => `(tactic| simp -implicitDefEqProofs only [$[$ts:term],*,exs_nil,exs_cons,kTup,kLst,kMlst,kDct,kMdct,kNot,kIte,kBin2,kBin,kCmp2,kCmp,kNotin2,kNotin,kCmpD,kCmpLD,kSub2,kSub,kCallO,kMlstOf,kSorted2,kAppend2,kAppend,kPop,kComp2,kFstr,kNew,kCons2,kCons,kBool,kAll,kFst,kRange3b,kRange3,kZip2,kZip,sExpr,sAsg,sAsgT,sSetI2,sSetI,sSetA2,sSetA,sIte,sRet,sRaise2,sRaise,sFin,sCatch,fin_next,fin_ret,fin_exc,x_sub0,x_sub1,x_sub2,x_sub3,x_sub4,x_sub0l,x_sub1l,x_subL,x_eqs,x_eqi,x_ceq,x_cne,x_clt,x_cgt,x_cis,x_cisn,x_cin,x_nn,x_nt,x_ni,x_in0,x_in1,x_in2,x_in3,x_in4,x_in5,x_tf,x_ft,x_vt,x_vl,cL1,cL2,bindR_val,bindR_exc,bindS_val,bindS_exc,seqS_next,seqS_ret,seqS_exc,lift_some,onB_bool,noAny,lookA,TT_rs,TT_meth,TT_init,TT_fld,TT_q,TQ_call,TQ_rs,TQ_meth,TQ_fld,methIx,initIx,fldIx,bindT,setAll,forL_nil,forL_one,compL_nil,compL_one,List.zip_cons_cons,List.zip_nil_left,Option.map_some,Option.map_none,Option.bind_some,if_true,if_false,Bool.false_eq_true,reduceCtorEq,decide_true,decide_false,Nat.reduceEqDiff,Nat.reduceBEq,Nat.reduceLT,Nat.reduceAdd,↓reduceIte,Int.reduceLT,Int.reduceAdd,Int.reduceSub,Int.reduceMul,Int.reduceNeg,Int.reduceBEq,Bool.true_or,Bool.or_true,Bool.false_or,Bool.or_false,Bool.true_and,Bool.and_true,Bool.false_and,Bool.and_false,Bool.not_true,Bool.not_false,beq_self_eq_true,Nat.reduceBNe])
local macro_rules
  | `(tactic| open_k with ([$ts,*],1)) => `(tactic| open_k with ([$ts,*,ev_const,ev_loc,ev_glob,ev_tup,ev_lst,ev_mlst,ev_dct,ev_mdct,ev_boolop,ev_not,ev_ite,ev_bin,ev_cmp,ev_notin,ev_cmpD,ev_cmpLD,ev_sub,ev_slice,ev_attr,ev_call,ev_meth,ev_len,ev_tupOf,ev_lstOf,ev_mlstOf,ev_sortedW,ev_sorted2,ev_append,ev_pop,ev_comp,ev_fstr,ev_new,es_nil,es_cons,bm_one,bm_cons,al_nil,al_cons,fs_nil,fs_cons,it_val,it_range,it_range3,it_zip,ex_expr,ex_asg,ex_asgT,ex_setI,ex_setA,ex_ite,ex_ret,ex_raise,ex_tryF,ex_tryE,kCmpD2,kCmpLD2,kSlice,kTupOf,kLstOf,kRange,kRange3c,sSetI3,x_subD,ex_for,putA,TT_call],0))
  | `(tactic| open_k with ([$ts,*],2)) => `(tactic| open_k with ([$ts,*,kCmpD2,kCmpLD2,kSlice,kTupOf,kLstOf,kRange,kRange3c,sSetI3,x_subD,putA,TT_call],0))
  | `(tactic| open_k with ([$ts,*],3)) => `(tactic| open_k with ([$ts,*,ev_const,ev_loc,ev_glob,ev_tup,ev_lst,ev_mlst,ev_dct,ev_mdct,ev_boolop,ev_not,ev_ite,ev_bin,ev_cmp,ev_notin,ev_cmpD,ev_cmpLD,ev_sub,ev_slice,ev_attr,ev_call,ev_meth,ev_len,ev_tupOf,ev_lstOf,ev_mlstOf,ev_sortedW,ev_sorted2,ev_append,ev_pop,ev_comp,ev_fstr,ev_new,es_nil,es_cons,bm_one,bm_cons,al_nil,al_cons,fs_nil,fs_cons,it_val,it_range,it_range3,it_zip,ex_expr,ex_asg,ex_asgT,ex_setI,ex_setA,ex_ite,ex_ret,ex_raise,ex_tryF,ex_tryE,kCmpD2,kCmpLD2,kSlice,kTupOf,kLstOf,kRange,kRange3c,sSetI3,x_subD,ex_for,y_look,TT_call],0))
  | `(tactic| open_k with ([$ts,*],4)) => `(tactic| open_k with ([$ts,*,ev_const,ev_loc,ev_glob,ev_tup,ev_lst,ev_mlst,ev_dct,ev_mdct,ev_boolop,ev_not,ev_ite,ev_bin,ev_cmp,ev_notin,ev_cmpD,ev_cmpLD,ev_sub,ev_slice,ev_attr,ev_call,ev_meth,ev_len,ev_tupOf,ev_lstOf,ev_mlstOf,ev_sortedW,ev_sorted2,ev_append,ev_pop,ev_comp,ev_fstr,ev_new,es_nil,es_cons,bm_one,bm_cons,al_nil,al_cons,fs_nil,fs_cons,it_val,it_range,it_range3,it_zip,ex_expr,ex_asg,ex_asgT,ex_setI,ex_setA,ex_ite,ex_ret,ex_raise,ex_tryF,ex_tryE,kCmpD2,kCmpLD2,kSlice,kTupOf,kLstOf,kRange,sSetI3,x_subD,ex_for,y_look,TT_call],0))
  | `(tactic| open_k with ([$ts,*],5)) => `(tactic| open_k with ([$ts,*,w_fs,w_ft,w_fi,w_ts,w_tt,txtMost,Nat.reduceLeDiff,ev_const,ev_loc,ev_glob,ev_tup,ev_lst,ev_mlst,ev_dct,ev_mdct,ev_boolop,ev_not,ev_ite,ev_bin,ev_cmp,ev_notin,ev_cmpD,ev_cmpLD,ev_sub,ev_slice,ev_attr,ev_call,ev_meth,ev_len,ev_tupOf,ev_lstOf,ev_mlstOf,ev_sortedW,ev_sorted2,ev_append,ev_pop,ev_comp,ev_fstr,ev_new,es_nil,es_cons,bm_one,bm_cons,al_nil,al_cons,fs_nil,fs_cons,it_val,it_range,it_range3,it_zip,ex_expr,ex_asg,ex_asgT,ex_setI,ex_setA,ex_ite,ex_ret,ex_raise,ex_tryF,ex_tryE,kCmpD2,kCmpLD2,kSlice,kTupOf,kLstOf,kRange,sSetI3,x_subD,ex_for,y_look,TT_call],0))
  | `(tactic| open_k with ([$ts,*],8)) => `(tactic| open_k with ([$ts,*,w_fs,w_ft,w_fi,w_ts,w_tt,txtMost,Nat.reduceLeDiff,ev_const,ev_loc,ev_glob,ev_tup,ev_lst,ev_mlst,ev_dct,ev_mdct,ev_boolop,ev_not,ev_ite,ev_bin,ev_cmp,ev_notin,ev_cmpD,ev_cmpLD,ev_sub,ev_slice,ev_attr,ev_call,ev_meth,ev_len,ev_tupOf,ev_lstOf,ev_mlstOf,ev_sortedW,ev_sorted2,ev_append,ev_pop,ev_comp,ev_fstr,ev_new,es_nil,es_cons,bm_one,bm_cons,al_nil,al_cons,fs_nil,fs_cons,it_val,it_range,it_range3,it_zip,ex_expr,ex_asg,ex_asgT,ex_setI,ex_setA,ex_ite,ex_ret,ex_raise,ex_tryF,ex_tryE,kCmpD2,kCmpLD2,kSlice,kTupOf,kLstOf,kRange,kRange3c,sSetI3,x_subD,ex_for,y_look,TT_call],0))
  | `(tactic| open_k with ([$ts,*],9)) => `(tactic| open_k with ([$ts,*,ev_const,ev_loc,ev_glob,ev_tup,ev_lst,ev_mlst,ev_dct,ev_mdct,ev_boolop,ev_not,ev_ite,ev_bin,ev_cmp,ev_notin,ev_cmpD,ev_cmpLD,ev_sub,ev_slice,ev_attr,ev_call,ev_meth,ev_len,ev_tupOf,ev_lstOf,ev_mlstOf,ev_sortedW,ev_sorted2,ev_append,ev_pop,ev_comp,ev_fstr,ev_new,es_nil,es_cons,bm_one,bm_cons,al_nil,al_cons,fs_nil,fs_cons,it_val,it_range,it_range3,it_zip,ex_expr,ex_asg,ex_asgT,ex_setI,ex_setA,ex_ite,ex_ret,ex_raise,ex_tryF,ex_tryE,kCmpD2,kCmpLD2,kSlice,kTupOf,kLstOf,kRange,kRange3c,x_subD,ex_for,y_look,TT_call],0))
  | `(tactic| open_k with ([$ts,*],10)) => `(tactic| open_k with ([$ts,*,ev_const,ev_loc,ev_glob,ev_tup,ev_lst,ev_mlst,ev_dct,ev_mdct,ev_boolop,ev_not,ev_ite,ev_bin,ev_cmp,ev_notin,ev_cmpD,ev_cmpLD,ev_sub,ev_slice,ev_attr,ev_call,ev_meth,ev_len,ev_tupOf,ev_lstOf,ev_mlstOf,ev_sortedW,ev_sorted2,ev_append,ev_pop,ev_comp,ev_fstr,ev_new,es_nil,es_cons,bm_one,bm_cons,al_nil,al_cons,fs_nil,fs_cons,it_val,it_range,it_range3,it_zip,ex_expr,ex_asg,ex_asgT,ex_setI,ex_setA,ex_ite,ex_ret,ex_raise,ex_tryF,ex_tryE,kCmpD2,kCmpLD2,kSlice,kLstOf,kRange3c,x_subD,ex_for,y_look,TT_call],0))
  | `(tactic| open_k with ([$ts,*],14)) => `(tactic| open_k with ([$ts,*,ev_const,ev_loc,ev_glob,ev_tup,ev_lst,ev_mlst,ev_dct,ev_mdct,ev_boolop,ev_not,ev_ite,ev_bin,ev_cmp,ev_notin,ev_cmpD,ev_cmpLD,ev_sub,ev_slice,ev_attr,ev_call,ev_meth,ev_len,ev_tupOf,ev_lstOf,ev_mlstOf,ev_sortedW,ev_sorted2,ev_append,ev_pop,ev_comp,ev_fstr,ev_new,es_nil,es_cons,bm_one,bm_cons,al_nil,al_cons,fs_nil,fs_cons,it_val,it_range,it_range3,it_zip,ex_expr,ex_asg,ex_asgT,ex_setI,ex_setA,ex_ite,ex_ret,ex_raise,ex_tryF,ex_tryE,kCmpD2,kCmpLD2,kTupOf,kRange,kRange3c,sSetI3,x_subD,ex_for,TT_call],0))
inductive Bs where
  | non | boo | int | str | set
  deriving DecidableEq
def Bs.code:Bs→Nat
  | .non=>174 | .boo=>75 | .int=>130 | .str=>218 | .set=>208
structure Kd where
  b:Bs
  v:Bool
  d:Bool
def Kd.n (k:Kd):Int:=if k.d then 1 else 0
def encK (k:Kd):LV:=.tup [.str k.b.code,.bool k.v,.int k.n]
def fitsK (k w:Kd):Bool:=k.d == w.d && (!k.v || w.v) && (k.b == w.b || k.b == .non || (w.b == .int && k.b == .boo))
def okC (a b:Kd):Bool:=a.d == b.d && (a.b == b.b || a.b == .non || b.b == .non || (a.b == .boo && b.b == .int) || (a.b == .int && b.b == .boo))
def comK (a b:Kd):Kd:=⟨if a.b == b.b || b.b == .non then a.b else if a.b == .non then b.b else .int,a.v || b.v,a.d⟩
theorem code_eq (a b:Bs):(a.code == b.code)=(a == b):=by cases a <;> cases b <;> rfl
theorem ev_fits {n:Nat} {σ:Sto} (hn:0 < n) (k w:Kd):CM n 16 [encK k,encK w] σ=some (.val (.bool (fitsK k w)),σ):=by
  rw [CM_eq hn rfl rfl]
  rcases k with ⟨kb,kv,kd⟩
  rcases w with ⟨wb,wv,wd⟩
  cases kv <;> cases kd <;> cases wv <;> cases wd <;> open_k with ([F_fits,encK,Kd.n,code_eq],1) <;> cases kb <;> cases wb <;> rfl
theorem ev_text {n:Nat} {σ:Sto} (hn:0 < n) (k:Kd):∃ m,m≤300∧CM n 15 [encK k] σ=some (.val (.txt m),σ):=by
  rw [CM_eq hn rfl rfl]
  rcases k with ⟨kb,kv,kd⟩
  cases kv <;> cases kd <;> cases kb <;> refine ⟨_,?_,rfl⟩ <;> decide
theorem txt_ok {l:LV} {m:Nat} (h:txtL l=some m) (hm:m≤1000):fmtL l=some m:=by
  cases l <;> simp [txtL] at h
  · subst h; rfl
  · subst h; exact if_pos (Nat.le_trans hm (by decide))
theorem ev_want {n:Nat} {σ:Sto} (hn:1 < n) (k w:Kd) (spot:Int) {what:LV} {m:Nat} (hw:txtL what=some m) (hm:m≤1000) :
    CM n 17 [encK k,encK w,.int spot,what] σ=if fitsK k w then some (.val .none,σ) else some (.exc spot,σ):=by
  rw [CM_eq (by omega) rfl rfl]
  obtain ⟨m1,h1,e1⟩:=ev_text (n:=n - 1) (σ:=σ) (by omega) w
  obtain ⟨m2,h2,e2⟩:=ev_text (n:=n - 1) (σ:=σ) (by omega) k
  open_k with ([F_want,ev_fits (show 0 < n - 1 from by omega)],1)
  cases fitsK k w
  · have a1:fmtL what=some m:=txt_ok hw hm
    have a2:fmtL (.txt m1)=some m1:=txt_ok rfl (by omega)
    have a3:fmtL (.txt m2)=some m2:=txt_ok rfl (by omega)
    have a4:fmtL (.txt 2)=some 2:=rfl
    have a5:fmtL (.txt 16)=some 16:=rfl
    open_k with ([e1,e2,a1,a2,a3,a4,a5],1)
    rw [if_pos (by show _≤100000; omega),if_pos (by show _≤100000; omega),if_pos (by show _≤100000; omega),if_pos (by show _≤100000; omega),if_pos (by show _≤100000; omega)]
    rfl
  · open_k with ([if_true],1)
theorem common_cond {n:Nat} {w s:LV} {σ:Sto} (ab bb:Bs) (ad bd av bv:Bool) :
    boolM (TT n) false (.cons (.cmp .ne (.sub (.loc 180) (.const (.int 2))) (.sub (.loc 183) (.const (.int 2)))) (.cons (.boolop true (.cons (.cmp .ne (.sub (.loc 180) (.const (.int 0))) (.sub (.loc 183) (.const (.int 0)))) (.cons (.notin (.const (.str 174)) (.loc 73)) (.cons (.cmp .ne (.sorted2 (.loc 73)) (.lst (.cons (.const (.str 75)) (.cons (.const (.str 130)) .nil)))) .nil)))) .nil)) [(180,encK ⟨ab,av,ad⟩),(183,encK ⟨bb,bv,bd⟩),(217,s),(241,w),(73,.tup [.str ab.code,.str bb.code])] σ
      = some (.val (.bool (!okC ⟨ab,av,ad⟩ ⟨bb,bv,bd⟩)),σ):=by
  cases ad <;> cases bd <;> cases ab <;> cases bb <;> rfl
theorem ev_common {n:Nat} {σ:Sto} (hn:1 < n) (a b:Kd) (spot:Int) {what:LV} {m:Nat} (hw:txtL what=some m) (hm:m≤1000) :
    CM n 18 [encK a,encK b,.int spot,what] σ=if okC a b then some (.val (encK (comK a b)),σ) else some (.exc spot,σ):=by
  rw [CM_eq (by omega) rfl rfl]
  obtain ⟨m1,h1,e1⟩:=ev_text (n:=n - 1) (σ:=σ) (by omega) a
  obtain ⟨m2,h2,e2⟩:=ev_text (n:=n - 1) (σ:=σ) (by omega) b
  have a1:fmtL what=some m:=txt_ok hw hm
  have a2:fmtL (.txt m1)=some m1:=txt_ok rfl (by omega)
  have a3:fmtL (.txt m2)=some m2:=txt_ok rfl (by omega)
  have a4:fmtL (.txt 2)=some 2:=rfl
  have a5:fmtL (.txt 8)=some 8:=rfl
  rcases a with ⟨ab,av,ad⟩
  rcases b with ⟨bb,bv,bd⟩
  have hc:=@common_cond (n - 1) what (.int spot) σ ab bb ad bd av bv
  have b1:0 + m≤txtMost:=by show _≤100000; omega
  have b2:0 + m + 2≤txtMost:=by show _≤100000; omega
  have b3:0 + m + 2 + m1≤txtMost:=by show _≤100000; omega
  have b4:0 + m + 2 + m1 + 8≤txtMost:=by show _≤100000; omega
  have b5:0 + m + 2 + m1 + 8 + m2≤txtMost:=by show _≤100000; omega
  simp only [F_common]
  rw [exs_cons,ex_asg,ev_tup]
  open_k with ([es_nil,es_cons,ev_sub,ev_loc,ev_const,x_sub0,encK],2)
  rw [ex_ite,ev_boolop]
  simp only [encK] at hc
  rw [hc]
  cases hk:okC ⟨ab,av,ad⟩ ⟨bb,bv,bd⟩
  · simp only [encK] at e1 e2
    open_k with ([e1,e2,a1,a2,a3,a4,a5,b1,b2,b3,b4,b5],1)
    rfl
  · open_k with ([if_true],2)
    cases ad <;> cases bd <;> cases av <;> cases ab <;> cases bb <;> first | rfl | (exfalso; revert hk; decide)
inductive Lb where
  | int | boo | str
def Lb.b:Lb→Bs
  | .int => .int | .boo => .boo | .str => .str
def Lb.lv:Lb→Nat→LV
  | .int,i => .int i | .boo,_ => .bool true | .str,_ => .str 198
inductive Sg where
  | add | lt | and
def Sg.code:Sg→Nat
  | .add=>3 | .lt=>9 | .and=>8
mutual
inductive Nd where
  | lit (b:Lb) (s:Int) (i:Nat)
  | name (s:Int) (x:Nat)
  | rng (s:Int) (a b:Nd)
  | arr (s:Int) (xs:Nds)
  | idx (s:Int) (a i:Nd)
  | call (s:Int) (a:Nd)
  | bin (s:Int) (g:Sg) (a b:Nd)
  | lt (s:Int) (its:Its) (body:Nd)
inductive Nds where
  | nil
  | cons (x:Nd) (r:Nds)
inductive It where
  | cst (s:Int) (a:Nd)
  | odd (s:Int) (w:Bool)
  | decl (s:Int) (b:Bs) (v any:Bool) (ds dom:Nds) (x:Nat) (val:Nds)
inductive Its where
  | nil
  | cons (x:It) (r:Its)
end
def Nd.spot:Nd→Int
  | .lit _ s _ | .name s _ | .rng s _ _ | .arr s _ | .idx s _ _ | .call s _ | .bin s _ _ _ | .lt s _ _=>s
def It.spot:It→Int
  | .cst s _ | .odd s _ | .decl s .. => s
mutual
def enc:Nd→LV
  | .lit b s i => .tup [.str b.b.code,.int s,b.lv i]
  | .name s x => .tup [.str 170,.int s,.str x]
  | .rng s a b => .tup [.str 199,.int s,enc a,enc b]
  | .arr s xs => .tup [.str 57,.int s,.tup (encs xs)]
  | .idx s a i => .tup [.str 123,.int s,enc a,.tup [enc i]]
  | .call s a => .tup [.str 77,.int s,.str 185,.tup [enc a]]
  | .bin s g a b => .tup [.str 74,.int s,.str g.code,enc a,enc b]
  | .lt s its body => .tup [.str 156,.int s,.tup (encI its),enc body]
def encs:Nds→List LV
  | .nil=>[]
  | .cons x r=>enc x::encs r
def enc1:Nds→LV
  | .nil => .none
  | .cons x _=>enc x
def encD:Nds→List LV
  | .nil=>[]
  | .cons x _=>[enc x]
def encT:It→LV
  | .cst s a => .tup [.str 88,.int s,enc a]
  | .odd s true => .tup [.str 184,.int s,.tup [.str 130,.int s,.int 1]]
  | .odd s false => .tup [.str 66,.int s,.str 111,.tup [.str 130,.int s,.int 1]]
  | .decl s b v any ds dom x val => .tup [.str 91,.int s,.tup [.str b.code,.bool v,.tup (if any then [.tup [.str 131]] else encD ds),enc1 dom],.str x,enc1 val]
def encI:Its→List LV
  | .nil=>[]
  | .cons x r=>encT x::encI r
end
def Nds.some:Nds→Bool
  | .nil=>false
  | .cons _ _=>true
mutual
def Nd.dp:Nd→Nat
  | .lit .. | .name .. => 0
  | .rng _ a b=>max a.dp b.dp + 1
  | .arr _ xs=>xs.dp + 1
  | .idx _ a i=>max a.dp i.dp + 1
  | .call _ a=>a.dp + 1
  | .bin _ _ a b=>max a.dp b.dp + 1
  | .lt _ its body=>max its.dp body.dp + 1
def Nds.dp:Nds→Nat
  | .nil=>0
  | .cons x r=>max x.dp r.dp
def It.dp:It→Nat
  | .cst _ a=>a.dp
  | .odd .. => 0
  | .decl _ _ _ _ ds dom _ val=>max ds.dp (max dom.dp val.dp)
def Its.dp:Its→Nat
  | .nil=>0
  | .cons x r=>max x.dp r.dp
end
mutual
def Nd.sz:Nd→Nat
  | .lit .. | .name .. => 1
  | .rng _ a b=>a.sz + b.sz + 1
  | .arr _ xs=>xs.sz + 1
  | .idx _ a i=>a.sz + i.sz + 1
  | .call _ a=>a.sz + 1
  | .bin _ _ a b=>a.sz + b.sz + 1
  | .lt _ its body=>its.sz + body.sz + 1
def Nds.sz:Nds→Nat
  | .nil=>0
  | .cons x r=>max x.sz (r.sz + 1)
def It.sz:It→Nat
  | .cst _ a=>a.sz + 1
  | .odd .. => 1
  | .decl _ _ _ _ ds dom _ val=>ds.sz + dom.sz + val.sz + 1
def Its.sz:Its→Nat
  | .nil=>0
  | .cons x r=>max x.sz (r.sz + 1)
end
def Nds.length:Nds→Nat
  | .nil=>0
  | .cons _ r=>r.length + 1
def Its.length:Its→Nat
  | .nil=>0
  | .cons _ r=>r.length + 1
abbrev W (α:Type):=Except Int α × List Nat × Bool
def okW {α:Type} (a:α):W α:=(.ok a,[],false)
def errW {α:Type} (i:Int):W α:=(.error i,[],false)
def bindW {α β:Type} (m:W α) (f:α→W β):W β:=match m with
  | (.ok a,as,c)=>((f a).1,as++(f a).2.1,c || (f a).2.2)
  | (.error i,as,c)=>(.error i,as,c)
abbrev En:=List (Nat × Kd)
def lastA (x:Nat):En→Option Kd
  | []=>none
  | (y,k)::r=>(lastA x r).or (if y=x then some k else none)
def worldL:En:=[(52,⟨.int,false,true⟩),(70,⟨.boo,false,false⟩),(118,⟨.int,false,false⟩),(203,⟨.set,false,false⟩),(223,⟨.str,false,false⟩),(232,⟨.int,true,true⟩),(243,⟨.int,true,false⟩),(246,⟨.boo,true,false⟩)]
def KNOWN:Kd:=⟨.int,false,false⟩
def INT:Kd:=⟨.int,true,false⟩
def BOOL:Kd:=⟨.boo,true,false⟩
def SET:Kd:=⟨.set,false,false⟩
def joinOk (g:Sg) (a b:Kd):Bool:=match g with
  | .add=>fitsK a INT && fitsK b INT
  | .and=>fitsK a BOOL && fitsK b BOOL
  | .lt=>okC a b && !a.d
def joinB:Sg→Bs
  | .add => .int
  | _ => .boo
def chk {α:Type} (b:Bool) (s:Int) (w:W α):W α:=if b then w else errW s
mutual
def kd:Nd→En→W Kd
  | .lit b s i,E=>okW ⟨b.b,false,false⟩
  | .name s x,E=>match lastA x E with
    | some k=>okW k
    | none=>match lastA x worldL with
      | some k=>(.ok k,[x],false)
      | none=>errW s
  | .rng s a b,E=>bindW (kd a E) fun ka=>chk (fitsK ka KNOWN) s (bindW (kd b E) fun kb=>chk (fitsK kb KNOWN) s (okW SET))
  | .arr s xs,E=>bindW (kds xs ⟨.non,false,false⟩ E) fun k=>okW ⟨k.b,k.v,true⟩
  | .idx s a i,E=>bindW (kd a E) fun k=>chk k.d s (bindW (kd i E) fun p=>chk (fitsK p INT) i.spot (chk (!((k.v || p.v) && (k.b == .str || k.b == .set))) s (okW ⟨k.b,k.v || p.v,false⟩)))
  | .call s a,E=>bindW (kd a E) fun k=>bindW (.ok (),[],true) fun _=>chk (fitsK k INT) s (okW BOOL)
  | .bin s g a b,E=>bindW (kd a E) fun ka=>bindW (kd b E) fun kb=>chk (joinOk g ka kb) s (okW ⟨joinB g,ka.v || kb.v,false⟩)
  | .lt s its body,E=>bindW (kits its [] E) fun E' => kd body E'
def kds:Nds→Kd→En→W Kd
  | .nil,k,E=>okW k
  | .cons x r,k,E=>bindW (kd x E) fun l=>chk (!l.d && okC k l) x.spot (kds r (comK k l) E)
def kset:Nds→En→W Unit
  | .nil,E=>okW ()
  | .cons a _,E=>bindW (kd a E) fun k=>chk (fitsK k SET) a.spot (okW ())
def kval:Nds→Bool→Int→Kd→En→W Unit
  | .nil,b,s,K,E=>chk (!(b && K.v)) s (okW ())
  | .cons a _,b,s,K,E=>bindW (kd a E) fun k=>chk (fitsK k K) s (okW ())
def kit:It→En→W (Option (Nat × Kd))
  | .cst s a,E=>bindW (kd a E) fun k=>chk (fitsK k BOOL) s (okW none)
  | .odd s _,E=>errW s
  | .decl s b v any ds dom x val,E=>chk (!(v && (b == .str || b == .set))) s (bindW (kset dom E) fun _=>bindW (if any then okW () else kset ds E) fun _ =>
      bindW (kval val any s ⟨b,v,any || ds.some⟩ E) fun _=>okW (some (x,⟨b,v,any || ds.some⟩)))
def kits:Its→List Nat→En→W En
  | .nil,seen,E=>okW E
  | .cons it r,seen,E=>bindW (kit it E) fun d=>match d with
    | none=>kits r seen E
    | some (x,k)=>chk (!seen.contains x) it.spot (kits r (seen++[x]) (E++[(x,k)]))
end
def Nds.All (P:Nd→Prop):Nds→Prop
  | .nil=>True
  | .cons x r=>P x∧r.All P
def It.All (P:Nd→Prop):It→Prop
  | .cst _ a=>P a
  | .odd .. => True
  | .decl _ _ _ _ ds dom _ val=>ds.All P∧dom.All P∧val.All P
def Its.All (P:Nd→Prop):Its→Prop
  | .nil=>True
  | .cons x r=>x.All P∧r.All P
section
variable {P:Nd→Prop} (lit:∀ b s i,P (.lit b s i)) (name:∀ s x,P (.name s x)) (rng:∀ s a b,P a→P b→P (.rng s a b)) (arr:∀ s xs,xs.All P→P (.arr s xs)) (idx:∀ s a i,P a→P i→P (.idx s a i))
  (call:∀ s a,P a→P (.call s a)) (bin:∀ s g a b,P a→P b→P (.bin s g a b)) (lt:∀ s its b,its.All P→P b→P (.lt s its b))
include lit name rng arr idx call bin lt
mutual
theorem Nd.ind:∀ nd,P nd
  | .lit b s i=>lit b s i
  | .name s x=>name s x
  | .rng s a b=>rng s a b (Nd.ind a) (Nd.ind b)
  | .arr s xs=>arr s xs (Nds.ind xs)
  | .idx s a i=>idx s a i (Nd.ind a) (Nd.ind i)
  | .call s a=>call s a (Nd.ind a)
  | .bin s g a b=>bin s g a b (Nd.ind a) (Nd.ind b)
  | .lt s its b=>lt s its b (Its.ind its) (Nd.ind b)
theorem Nds.ind:∀ xs:Nds,xs.All P
  | .nil=>trivial
  | .cons x r=>⟨Nd.ind x,Nds.ind r⟩
theorem It.ind:∀ it:It,it.All P
  | .cst _ a=>Nd.ind a
  | .odd .. => trivial
  | .decl _ _ _ _ ds dom _ val=>⟨Nds.ind ds,Nds.ind dom,Nds.ind val⟩
theorem Its.ind:∀ its:Its,its.All P
  | .nil=>trivial
  | .cons x r=>⟨It.ind x,Its.ind r⟩
end
end
def dA (A:List Nat):List (Nat × LV):=A.map fun x=>(x,.bool true)
def dC (c:Bool):List (Nat × LV):=if c then [(185,.bool true)] else []
def addA (A:List Nat) (x:Nat):List Nat:=if A.contains x then A else A++[x]
def adds (A as:List Nat):List Nat:=as.foldl addA A
def worldN:List Nat:=[52,70,118,203,223,232,243,246]
structure AOk (A:List Nat):Prop where
  nd:A.Nodup
  sub:∀ x∈A,x∈worldN
theorem nodup_len {A B:List Nat} (h:A.Nodup) (hs:∀ x∈A,x∈B):A.length≤B.length:=by
  induction A generalizing B with
  | nil=>simp
  | cons a r ih =>
    rw [List.nodup_cons] at h
    have hm:=hs a (by simp)
    have:=ih (B:=B.erase a) h.2 fun x hx=>(List.mem_erase_of_ne (fun e=>h.1 (by rw [← e]; exact hx))).mpr (hs x (by simp [hx]))
    rw [List.length_erase_of_mem hm] at this
    have:0 < B.length:=List.length_pos_of_mem hm
    simp only [List.length_cons]
    omega
theorem AOk.len {A:List Nat} (h:AOk A):A.length≤8:=nodup_len h.nd h.sub
theorem AOk.add {A:List Nat} (h:AOk A) {x:Nat} (hx:x∈worldN):AOk (addA A x):=by
  unfold addA
  split
  · exact h
  · rename_i hc
    refine ⟨?_,fun y hy=>?_⟩
    · rw [List.nodup_append]
      refine ⟨h.nd,by simp,fun a ha b hb=>?_⟩
      simp at hb; subst hb
      exact fun e=>hc (by rw [e] at ha; simpa using ha)
    · rcases List.mem_append.mp hy with h1 | h1
      · exact h.sub y h1
      · simp at h1; subst h1; exact hx
theorem putA_dA (x:Nat):∀ A:List Nat,putA x (.bool true) (dA A)=dA (addA A x)
  | []=>rfl
  | a::r=>by
    show (if a=x then (a,LV.bool true)::dA r else (a,.bool true)::putA x (.bool true) (dA r))=_
    rw [putA_dA x r]
    unfold addA
    by_cases h:a=x
    · subst h; simp [dA]
    · rw [if_neg h]
      have:((a::r).contains x)=r.contains x:=by
        rw [List.contains_cons]
        have:(x == a)=false:=by rw [beq_eq_false_iff_ne]; exact Ne.symm h
        rw [this,Bool.false_or]
      rw [this]
      split <;> simp [dA]
theorem putA_dC (c:Bool):putA 185 (.bool true) (dC c)=dC true:=by cases c <;> rfl
theorem dA_len (A:List Nat):(dA A).length=A.length:=by unfold dA; simp
theorem dC_len (c:Bool):(dC c).length≤1:=by cases c <;> decide
theorem adds_app (A as bs:List Nat):adds A (as++bs)=adds (adds A as) bs:=List.foldl_append ..
structure Keep (i j:Nat) (σ σ':Sto):Prop where
  len:σ.length≤σ'.length
  get:∀ k,k < σ.length→k≠i→k≠j→σ'[k]? = σ[k]?
theorem Keep.refl {i j:Nat} {σ:Sto}:Keep i j σ σ:=⟨Nat.le_refl _,fun _ _ _ _=>rfl⟩
theorem Keep.trans {i j:Nat} {σ σ' σ'':Sto} (a:Keep i j σ σ') (b:Keep i j σ' σ''):Keep i j σ σ'' :=
  ⟨Nat.le_trans a.len b.len,fun k h h1 h2=>(b.get k (Nat.lt_of_lt_of_le h a.len) h1 h2).trans (a.get k h h1 h2)⟩
theorem Keep.set1 {i j:Nat} {σ:Sto} {c:Cell}:Keep i j σ (σ.set i c) :=
  ⟨by simp,fun k h h1 h2=>List.getElem?_set_ne (Ne.symm h1)⟩
theorem Keep.set2 {i j:Nat} {σ:Sto} {c:Cell}:Keep i j σ (σ.set j c) :=
  ⟨by simp,fun k h h1 h2=>List.getElem?_set_ne (Ne.symm h2)⟩
theorem Keep.app {i j:Nat} {σ l:Sto}:Keep i j σ (σ++l) :=
  ⟨by simp,fun k h h1 h2=>List.getElem?_append_left h⟩
theorem Keep.at {i j k:Nat} {σ σ':Sto} {c:Cell} (a:Keep i j σ σ') (h:σ[k]? = some c) (h1:k≠i) (h2:k≠j):σ'[k]? = some c :=
  (a.get k (List.getElem?_eq_some_iff.mp h).1 h1 h2).trans h
structure LS (A:List Nat) (C:Bool) (σ:Sto):Prop where
  a:σ[10]? = some (.dict (dA A))
  c:σ[11]? = some (.dict (dC C))
  ok:AOk A
structure LP {α:Type} (σ:Sto) (A:List Nat) (C:Bool) (w:W α) (σ':Sto):Prop where
  k:Keep 10 11 σ σ'
  s:LS (adds A w.2.1) (C || w.2.2) σ'
abbrev NOTES:LV:=.lst [.cell 10,.cell 11]
def encR (r:Except Int Kd):LV:=match r with
  | .ok k => .tup [encK k,.none]
  | .error i => .tup [.none,.int i]
def encB (r:Except Int Unit):LV:=match r with
  | .ok _ => .none
  | .error i => .int i
def ent (f:Bool) (e:Nat × Kd):LV:=.tup [.str e.1,encK e.2,.bool f]
def encE (E:En):List LV:=worldL.map (ent true)++E.map (ent false)
structure EnvAt (σ:Sto) (env:LV) (E:En):Prop where
  it:itemsL σ env=some (encE E)
  no:∀ i,env = .cell i→i < σ.length∧i≠10∧i≠11
section
variable {α β:Type} {σ σ' σ'':Sto} {A:List Nat} {C:Bool} {E:En} {env:LV}
theorem EnvAt.keep (h:EnvAt σ env E) (k:Keep 10 11 σ σ'):EnvAt σ' env E:=by
  refine ⟨?_,fun i e=>⟨Nat.lt_of_lt_of_le (h.no i e).1 k.len,(h.no i e).2⟩⟩
  have hi:=h.it
  cases env with
  | cell i =>
    obtain ⟨h1,h2,h3⟩:=h.no i rfl
    simp only [itemsL] at hi ⊢
    rw [k.get i h1 h2 h3]
    exact hi
  | tup xs=>exact hi
  | lst xs=>exact hi
  | _=>cases hi
theorem LP.ok {a:α} (h:LS A C σ):LP σ A C (okW a) σ:=⟨.refl,by simpa [okW,adds] using h⟩
theorem LP.err {i:Int} (h:LS A C σ):LP σ A C (errW i:W α) σ:=⟨.refl,by simpa [errW,adds] using h⟩
theorem LP.bindE {m:W α} {f:α→W β} {i:Int} (e:m.1 = .error i) (p:LP σ A C m σ'):LP σ A C (bindW m f) σ':=by
  obtain ⟨r,as,c⟩:=m
  cases e
  exact ⟨p.k,p.s⟩
theorem LP.bind {m:W α} {f:α→W β} {a:α} (e:m.1 = .ok a) (p:LP σ A C m σ') (q:LP σ' (adds A m.2.1) (C || m.2.2) (f a) σ''):LP σ A C (bindW m f) σ'':=by
  obtain ⟨r,as,c⟩:=m
  cases e
  refine ⟨p.k.trans q.k,?_⟩
  have:=q.s
  simp only [bindW] at this ⊢
  rw [adds_app,← Bool.or_assoc]
  exact this
end
theorem bindW_ok {α β:Type} {m:W α} {f:α→W β} {a:α} (e:m.1 = .ok a):(bindW m f).1=(f a).1:=by
  obtain ⟨r,as,c⟩:=m
  cases e; rfl
theorem bindW_err {α β:Type} {m:W α} {f:α→W β} {i:Int} (e:m.1 = .error i):(bindW m f).1 = .error i:=by
  obtain ⟨r,as,c⟩:=m
  cases e; rfl
def standsL:List (Nat × LV):=[(174,.tup [.str 174,.str 75,.str 130,.str 218,.str 208]),(75,.tup [.str 75,.str 130]),(130,.tup [.str 130]),(218,.tup [.str 218]),(208,.tup [.str 208])]
theorem ev_stands {n:Nat} {σ:Sto} (hn:0 < n):CM n 7 [] σ=some (.val (.dct standsL),σ):=by
  rw [CM_eq hn rfl rfl]; rfl
theorem ev_lfits {n:Nat} {σ:Sto} (hn:1 < n) (k:Kd) (b:Bs) (v d:Bool):CM n 8 [encK k,.str b.code,.bool v,.int (if d then 1 else 0)] σ=some (.val (.bool (fitsK k ⟨b,v,d⟩)),σ):=by
  rw [CM_eq (by omega) rfl rfl]
  rcases k with ⟨kb,kv,kd⟩
  have e:=@ev_stands (n - 1) σ (by omega)
  cases kv <;> cases kd <;> cases v <;> cases d <;> open_k with ([F__law_fits,encK,Kd.n,e],3) <;> cases kb <;> cases b <;> rfl
def LK (nd:Nd):Prop := ∀ (E:En) (n:Nat) (env:LV) (σ:Sto) (A:List Nat) (C:Bool),5 * nd.dp + 6≤n→E.length + nd.sz≤300→EnvAt σ env E→LS A C σ →
  ∃ σ',CM n 14 [enc nd,env,NOTES] σ=some (.val (encR (kd nd E).1),σ')∧LP σ A C (kd nd E) σ'
theorem law_lit (b:Lb) (s:Int) (i:Nat):LK (.lit b s i):=fun E n env σ A C hn hz he hs=>by
  refine ⟨σ,?_,?_⟩
  · rw [CM_eq (by omega) rfl rfl]
    cases b <;> open_k with ([F__law_kind,enc,Lb.b,Bs.code],3) <;> rfl
  · exact .ok hs
theorem kd_rng {s a b E}:kd (.rng s a b) E=bindW (kd a E) fun ka=>chk (fitsK ka KNOWN) s (bindW (kd b E) fun kb=>chk (fitsK kb KNOWN) s (okW SET)):=rfl
theorem ev_lf {n:Nat} {σ:Sto} (hn:1 < n) (k:Kd):CM n 8 [encK k,.str 130,.bool false,.int 0] σ=some (.val (.bool (fitsK k KNOWN)),σ):=ev_lfits hn k .int false false
theorem chk_t {α:Type} {s:Int} {w:W α}:chk true s w=w:=rfl
theorem chk_f {α:Type} {s:Int} {w:W α}:chk false s w=errW s:=rfl
theorem x_ntK {k:Kd}:noneL (encK k)=some false:=rfl
theorem law_rng (s:Int) (a b:Nd) (ha:LK a) (hb:LK b):LK (.rng s a b):=fun E n env σ A C hn hz he hs=>by
  simp only [Nd.dp,Nd.sz] at hn hz
  obtain ⟨σ1,e1,p1⟩:=ha E (n - 1) env σ A C (by omega) (by omega) he hs
  obtain ⟨σ2,e2,p2⟩:=hb E (n - 1) env σ1 _ _ (by omega) (by omega) (he.keep p1.k) p1.s
  rw [kd_rng,CM_eq (by omega) rfl rfl]
  generalize kd a E=wa at *
  generalize kd b E=wb at *
  have f1:=fun k=>@ev_lf (n - 1) σ1 (by omega) k
  have f2:=fun k=>@ev_lf (n - 1) σ2 (by omega) k
  cases h1:wa.1 with
  | error i =>
    rw [h1] at e1
    refine ⟨σ1,?_,.bindE h1 p1⟩
    rw [bindW_err h1]
    open_k with ([F__law_kind,enc,e1,encR],3)
  | ok k =>
    rw [h1] at e1
    rw [bindW_ok h1]
    cases q:fitsK k KNOWN with
    | false =>
      refine ⟨σ1,?_,.bind h1 p1 (by rw [q]; exact .err p1.s)⟩
      open_k with ([F__law_kind,enc,e1,encR,f1,q,x_ntK],3)
      rfl
    | true =>
      rw [chk_t]
      cases h2:wb.1 with
      | error i =>
        rw [h2] at e2
        refine ⟨σ2,?_,.bind h1 p1 (by rw [q]; exact .bindE h2 p2)⟩
        rw [bindW_err h2]
        open_k with ([F__law_kind,enc,e1,e2,encR,f1,q,x_ntK],3)
      | ok k2 =>
        rw [h2] at e2
        rw [bindW_ok h2]
        refine ⟨σ2,?_,.bind h1 p1 (by rw [q]; exact .bind h2 p2 (by cases fitsK k2 KNOWN; exact .err p2.s; exact .ok p2.s))⟩
        open_k with ([F__law_kind,enc,e1,e2,encR,f1,f2,q,x_ntK],3)
        cases q2:fitsK k2 KNOWN <;> open_k with ([if_true],3) <;> rfl
theorem kd_call {s a E}:kd (.call s a) E=bindW (kd a E) fun k=>bindW (.ok (),[],true) fun _=>chk (fitsK k INT) s (okW BOOL):=rfl
theorem ev_li {n:Nat} {σ:Sto} (hn:1 < n) (k:Kd):CM n 8 [encK k,.str 130,.bool true,.int 0] σ=some (.val (.bool (fitsK k INT)),σ):=ev_lfits hn k .int true false
theorem ev_lb {n:Nat} {σ:Sto} (hn:1 < n) (k:Kd):CM n 8 [encK k,.str 75,.bool true,.int 0] σ=some (.val (.bool (fitsK k BOOL)),σ):=ev_lfits hn k .boo true false
theorem ev_ls {n:Nat} {σ:Sto} (hn:1 < n) (k:Kd):CM n 8 [encK k,.str 208,.bool false,.int 0] σ=some (.val (.bool (fitsK k SET)),σ):=ev_lfits hn k .set false false
theorem LS.setC {A:List Nat} {C:Bool} {σ:Sto} (h:LS A C σ):LS A true (σ.set 11 (.dict (dC true))):=by
  have hl:=(List.getElem?_eq_some_iff.mp h.c).1
  exact ⟨by rw [List.getElem?_set_ne (by decide)]; exact h.a,by rw [List.getElem?_set_self hl],h.ok⟩
theorem LS.setAd {A:List Nat} {C:Bool} {σ:Sto} (h:LS A C σ) {x:Nat} (hx:x∈worldN):LS (addA A x) C (σ.set 10 (.dict (dA (addA A x)))):=by
  have hl:=(List.getElem?_eq_some_iff.mp h.a).1
  exact ⟨by rw [List.getElem?_set_self hl],by rw [List.getElem?_set_ne (by decide)]; exact h.c,h.ok.add hx⟩
theorem law_call (s:Int) (a:Nd) (ha:LK a):LK (.call s a):=fun E n env σ A C hn hz he hs=>by
  simp only [Nd.dp,Nd.sz] at hn hz
  obtain ⟨σ1,e1,p1⟩:=ha E (n - 1) env σ A C (by omega) (by omega) he hs
  rw [kd_call,CM_eq (by omega) rfl rfl]
  generalize kd a E=wa at *
  have f1:=fun k=>@ev_li (n - 1) (σ1.set 11 (.dict (dC true))) (by omega) k
  have hc:=p1.s.c
  have hl:(dC (C || wa.2.2)).length < most:=Nat.lt_of_le_of_lt (dC_len _) (by decide)
  cases h1:wa.1 with
  | error i =>
    rw [h1] at e1
    refine ⟨σ1,?_,.bindE h1 p1⟩
    rw [bindW_err h1]
    open_k with ([F__law_kind,enc,e1,encR,x_sub0,x_ni,x_nn],3)
  | ok k =>
    rw [h1] at e1
    rw [bindW_ok h1]
    have k2:Keep 10 11 σ1 (σ1.set 11 (.dict (dC true))):=.set2
    refine ⟨σ1.set 11 (.dict (dC true)),?_,.bind h1 p1 ?_⟩
    · open_k with ([F__law_kind,enc,e1,encR,f1,hc,hl,putA_dC,x_sub1l,x_ntK],3)
      cases q:fitsK k INT <;> open_k with ([x_ni,x_nn],3) <;> rfl
    · have s2:=p1.s.setC
      cases q:fitsK k INT
      · exact ⟨k2,by simpa [bindW,chk,errW,adds] using s2⟩
      · exact ⟨k2,by simpa [bindW,chk,okW,adds] using s2⟩
theorem kd_idx {s a i E}:kd (.idx s a i) E=bindW (kd a E) fun k=>chk k.d s (bindW (kd i E) fun p=>chk (fitsK p INT) i.spot (chk (!((k.v || p.v) && (k.b == .str || k.b == .set))) s (okW ⟨k.b,k.v || p.v,false⟩))):=rfl
theorem n_d (k:Kd):(k.n == 1)=k.d:=by rcases k with ⟨_,_,d⟩; cases d <;> rfl
theorem n_d0 (k:Kd):(k.n == 0) = !k.d:=by rcases k with ⟨_,_,d⟩; cases d <;> rfl
theorem c_str (b:Bs):(218 == b.code)=(b == .str):=by cases b <;> rfl
theorem c_set (b:Bs):(208 == b.code)=(b == .set):=by cases b <;> rfl
theorem enc_at1 (a:Nd):∃ o r,enc a = .tup (o :: .int a.spot::r):=by cases a <;> exact ⟨_,_,rfl⟩
theorem s_spot {σ:Sto} (a:Nd):subL σ (enc a) (.int 1)=some (.int a.spot):=by
  obtain ⟨o,r,e⟩:=enc_at1 a
  rw [e,x_sub1]
theorem law_elem (s:Int) (a i:Nd) (ha:LK a) (hi:LK i):∀ (E:En) (n:Nat) (env:LV) (σ:Sto) (A:List Nat) (C:Bool),5 * (Nd.idx s a i).dp + 5≤n→E.length + (Nd.idx s a i).sz≤300→EnvAt σ env E→LS A C σ →
    ∃ σ',CM n 13 [enc (.idx s a i),env,NOTES] σ=some (.val (encR (kd (.idx s a i) E).1),σ')∧LP σ A C (kd (.idx s a i) E) σ':=fun E n env σ A C hn hz he hs=>by
  simp only [Nd.dp,Nd.sz] at hn hz
  obtain ⟨σ1,e1,p1⟩:=ha E (n - 1) env σ A C (by omega) (by omega) he hs
  obtain ⟨σ2,e2,p2⟩:=hi E (n - 1) env σ1 _ _ (by omega) (by omega) (he.keep p1.k) p1.s
  rw [kd_idx,CM_eq (by omega) rfl rfl]
  generalize kd a E=wa at *
  generalize kd i E=wb at *
  have f2:=fun k=>@ev_li (n - 1) σ2 (by omega) k
  cases h1:wa.1 with
  | error i =>
    rw [h1] at e1
    refine ⟨σ1,?_,.bindE h1 p1⟩
    rw [bindW_err h1]
    open_k with ([F__law_element,enc,e1,encR,x_ni],3)
  | ok k =>
    rw [h1] at e1
    rw [bindW_ok h1]
    cases q:k.d with
    | false =>
      refine ⟨σ1,?_,.bind h1 p1 (by rw [q]; exact .err p1.s)⟩
      open_k with ([F__law_element,enc,e1,encR,encK,n_d,q,x_nn],3)
      rfl
    | true =>
      rw [chk_t]
      cases h2:wb.1 with
      | error j =>
        rw [h2] at e2
        refine ⟨σ2,?_,.bind h1 p1 (by rw [q]; exact .bindE h2 p2)⟩
        rw [bindW_err h2]
        open_k with ([F__law_element,enc,s_spot,e1,e2,encR,encK,n_d,q,x_nn,x_ni],3)
      | ok p =>
        rw [h2] at e2
        rw [bindW_ok h2]
        cases q2:fitsK p INT with
        | false =>
          refine ⟨σ2,?_,.bind h1 p1 (by rw [q]; exact .bind h2 p2 (by rw [q2]; exact .err p2.s))⟩
          have f3:=f2 p
          simp only [encR,encK] at e1 e2 f3
          open_k with ([F__law_element,enc,s_spot,e1,e2,f3,encR,n_d,q,q2,x_nn,x_ni],3)
          rfl
        | true =>
          have f3:=f2 p
          refine ⟨σ2,?_,.bind h1 p1 (by rw [q]; exact .bind h2 p2 (by rw [q2,chk_t]; cases (!((k.v || p.v) && (k.b == .str || k.b == .set))); exact .err p2.s; exact .ok p2.s))⟩
          simp only [encR,encK] at e1 e2 f3
          obtain ⟨kb,kv,kdm⟩:=k
          obtain ⟨pb,pv,pdm⟩:=p
          have q:kdm=true:=q
          subst q
          cases kv <;> cases pv <;> open_k with ([F__law_element,enc,s_spot,e1,e2,f3,encR,n_d,q,q2,x_nn,x_ni,chk_t,c_str,c_set],3) <;> cases kb <;> rfl
theorem law_idx (s:Int) (a i:Nd) (ha:LK a) (hi:LK i):LK (.idx s a i):=fun E n env σ A C hn hz he hs=>by
  obtain ⟨σ',e,p⟩:=law_elem s a i ha hi E (n - 1) env σ A C (by omega) hz he hs
  refine ⟨σ',?_,p⟩
  rw [CM_eq (by omega) rfl rfl]
  simp only [enc] at e
  generalize kd (.idx s a i) E=w at *
  open_k with ([F__law_kind,enc,e],3)
def inC (cs:List Nat) (c:Nat):Bool:=cs.any fun d=>d == c
theorem filter_strs (p:Nat→Bool) (q:LV→Bool) (h:∀ c,q (.str c)=p c):∀ l:List Nat,((strz l).filter q).map id=strz (l.filter p)
  | []=>rfl
  | c::r=>by
    show ((LV.str c::strz r).filter q).map id=_
    rw [List.filter_cons,List.filter_cons,h c]
    cases p c
    · exact filter_strs p q h r
    · simp only [if_true,List.map_cons]
      rw [filter_strs p q h r]; rfl
def stB:Bs→List Nat
  | .non=>[174,75,130,218,208] | .boo=>[75,130] | .int=>[130] | .str=>[218] | .set=>[208]
theorem stB_look (b:Bs):lookA b.code standsL=some (.tup (strz (stB b))):=by cases b <;> rfl
theorem kComp_st {n x y:Nat} {l1:List Nat} {ρ:Loc} {σ:Sto} {p:Kd} (h3:CM n 7 [] σ=some (.val (.dct standsL),σ)) (hy:lookA y ρ=some (encK p)) (hne:x≠y) (hl:l1.length < most) :
    kComp (TT n) (.loc x) (.one x) (.cons (.cmp .isin (.loc x) (.sub (.call 7 .nil) (.sub (.loc y) (.const (.int 0))))) .nil) ρ (.seq (.tup (strz l1))) σ=some (.val (.lst (strz (l1.filter (inC (stB p.b))))),σ):=by
  rw [kComp_pure (xs:=strz l1) (c:=fun v=>match v with | .str c=>inC (stB p.b) c | _=>false) (e:=id) rfl (by unfold strz; rw [List.length_map]; exact hl) ?_]
  · rw [filter_strs (inC (stB p.b)) _ (fun _=>rfl)]
  · intro v hv
    unfold strz at hv
    obtain ⟨c,hc,rfl⟩:=List.mem_map.mp hv
    refine ⟨_,rfl,?_,fun _=>?_⟩
    · open_k with ([if_neg hne,hy,h3,encK,stB_look,x_ins],3)
      show (if inC (stB p.b) c=true then _ else _)=_
      cases inC (stB p.b) c <;> rfl
    · simp only [ev_loc,y_look,if_true,lift_some,id]
theorem stB_len (b:Bs):(stB b).length < most:=by cases b <;> decide
def compat (a b:Bs):Bool:=a == b || a == .non || b == .non || (a == .boo && b == .int) || (a == .int && b == .boo)
def comB (a b:Bs):Bs:=if a == b || b == .non then a else if a == .non then b else .int
def someL (a b:Bs):List Nat:=(stB a).filter (inC (stB b))
theorem someL_empty (a b:Bs):(someL a b).isEmpty = !compat a b:=by cases a <;> cases b <;> rfl
theorem someL_head {a b:Bs} (h:compat a b=true):∃ r,someL a b=(comB a b).code::r:=by
  cases a <;> cases b <;> first | exact ⟨_,rfl⟩ | (exfalso; revert h; decide)
theorem x_eqE (l:List Nat):eqL (.lst (strz l)) (.lst [])=some l.isEmpty:=by
  show (if dataLs (strz l) && true && _ then some (eqBs (strz l) []) else none)=_
  rw [dataLs_strs]
  show (if (true && (flat 8 (.lst (strz l)) || true))=true then some (eqBs (strz l) []) else none)=_
  rw [Bool.or_true]
  cases l <;> rfl
theorem okC_eq (a b:Kd):okC a b=(a.d == b.d && compat a.b b.b):=rfl
theorem kd_bin {s g a b E}:kd (.bin s g a b) E=bindW (kd a E) fun ka=>bindW (kd b E) fun kb=>chk (joinOk g ka kb) s (okW ⟨joinB g,ka.v || kb.v,false⟩):=rfl
theorem s_k0 {σ:Sto} (k:Kd):subL σ (encK k) (.int 0)=some (.str k.b.code):=x_sub0
theorem s_k1 {σ:Sto} (k:Kd):subL σ (encK k) (.int 1)=some (.bool k.v):=x_sub1
theorem s_k2 {σ:Sto} (k:Kd):subL σ (encK k) (.int 2)=some (.int k.n):=x_sub2
theorem kC2 {T:Tab} {e:ME} {tg:MT} {cs:MEs} {ρ:Loc} {x y:LV} {σ:Sto}:kComp T e tg cs ρ (.seq (.tup [x,y])) σ=bindR (compL (allM T cs) (evalM T e) tg ρ [x,y] σ) kComp2:=kComp_tup (by show 2 < 400; decide)
theorem x_eK (l:List Kd):eqL (.lst (l.map encK)) (.lst [])=some l.isEmpty:=by
  have h:∀ l:List Kd,dataLs (l.map encK)=true:=fun l=>by
    induction l with
    | nil=>rfl
    | cons k r ih=>show (true && dataLs (r.map encK))=true; rw [ih]; rfl
  show (if (dataLs (l.map encK) && true && (flat 8 (.lst (l.map encK)) || true))=true then some (eqBs (l.map encK) []) else none)=_
  rw [h,Bool.or_true]
  cases l <;> rfl
theorem kComp_bad {n:Nat} {k p w:Kd} {c:Nat} {ρ:Loc} {σ:Sto} (hc:lookA 72 ρ=some (.str c)) (f:∀ k,CM n 8 [encK k,.str c,.bool true,.int 0] σ=some (.val (.bool (fitsK k w)),σ)) :
    kComp (TT n) (.loc 144) (.one 144) (.cons (.not (.call 8 (.cons (.loc 144) (.cons (.loc 72) (.cons (.const (.bool true)) (.cons (.const (.int 0)) .nil)))))) .nil) ρ (.seq (.tup [encK k,encK p])) σ=some (.val (.lst (([k,p].filter fun x => !fitsK x w).map encK)),σ):=by
  cases q1:fitsK k w <;> cases q2:fitsK p w <;> open_k with ([kC2,hc,f,q1,q2,kComp2,List.filter_cons,List.filter_nil,List.map_cons,List.map_nil],3)
theorem law_bin (s:Int) (g:Sg) (a b:Nd) (ha:LK a) (hb:LK b):LK (.bin s g a b):=fun E n env σ A C hn hz he hs=>by
  simp only [Nd.dp,Nd.sz] at hn hz
  obtain ⟨σ1,e1,p1⟩:=ha E (n - 1) env σ A C (by omega) (by omega) he hs
  obtain ⟨σ2,e2,p2⟩:=hb E (n - 1) env σ1 _ _ (by omega) (by omega) (he.keep p1.k) p1.s
  rw [kd_bin,CM_eq (by omega) rfl rfl]
  generalize kd a E=wa at *
  generalize kd b E=wb at *
  have f1:=fun k=>@ev_li (n - 1) σ2 (by omega) k
  have f2:=fun k=>@ev_lb (n - 1) σ2 (by omega) k
  have f3:=@ev_stands (n - 1) σ2 (by omega)
  cases h1:wa.1 with
  | error i =>
    rw [h1] at e1
    refine ⟨σ1,?_,.bindE h1 p1⟩
    rw [bindW_err h1]
    open_k with ([F__law_kind,enc,e1,encR,x_ni],3)
  | ok k =>
    rw [h1] at e1
    rw [bindW_ok h1]
    cases h2:wb.1 with
    | error i =>
      rw [h2] at e2
      refine ⟨σ2,?_,.bind h1 p1 (.bindE h2 p2)⟩
      rw [bindW_err h2]
      open_k with ([F__law_kind,enc,e1,e2,encR,x_ni],3)
    | ok p =>
      rw [h2] at e2
      rw [bindW_ok h2]
      refine ⟨σ2,?_,.bind h1 p1 (.bind h2 p2 (by cases joinOk g k p; exact .err p2.s; exact .ok p2.s))⟩
      simp only [encR] at e1 e2
      cases g with
      | add =>
        have c1:=fun ρ h=>@kComp_bad (n - 1) k p INT 130 ρ σ2 h f1
        cases q1:fitsK k INT <;> cases q2:fitsK p INT <;> cases q3:k.v <;> open_k with ([F__law_kind,enc,e1,e2,c1,x_eK,q1,q2,q3,Sg.code,s_k1,joinOk,joinB,okW,errW,chk_t,chk_f,encR,List.filter_cons,List.filter_nil,List.isEmpty_nil,List.isEmpty_cons],3) <;> rfl
      | and =>
        have c1:=fun ρ h=>@kComp_bad (n - 1) k p BOOL 75 ρ σ2 h f2
        cases q1:fitsK k BOOL <;> cases q2:fitsK p BOOL <;> cases q3:k.v <;> open_k with ([F__law_kind,enc,e1,e2,c1,x_eK,q1,q2,q3,Sg.code,s_k1,joinOk,joinB,okW,errW,chk_t,chk_f,encR,List.filter_cons,List.filter_nil,List.isEmpty_nil,List.isEmpty_cons],3) <;> rfl
      | lt =>
        have hj:joinOk .lt k p=(!k.d && !p.d && compat k.b p.b):=by
          unfold joinOk; dsimp only; rw [okC_eq]
          cases k.d <;> cases p.d <;> cases compat k.b p.b <;> rfl
        rw [hj]
        simp only [encR,joinB,c_str]
        have hS:(List.filter (inC (stB p.b)) (stB k.b)).isEmpty = !compat k.b p.b:=someL_empty k.b p.b
        have fin2:∀ ρ:Loc,lookA 183 ρ=some (encK p)→kComp (TT (n - 1)) (.loc 143) (.one 143) (.cons (.cmp .isin (.loc 143) (.sub (.call 7 .nil) (.sub (.loc 183) (.const (.int 0))))) .nil) ρ (.seq (.tup (strz (stB k.b)))) σ2=some (.val (.lst (strz ((stB k.b).filter (inC (stB p.b))))),σ2) :=
          fun ρ h=>kComp_st f3 h (by decide) (stB_len _)
        have c1:=fun ρ h=>@kComp_bad (n - 1) k p INT 130 ρ σ2 h f1
        cases q3:k.d with
        | true=>open_k with ([F__law_kind,enc,e1,e2,c1,x_eK,f3,q3,Sg.code,s_k1,s_k0,s_k2,n_d0,stB_look,okW,errW,chk_t,chk_f,encR,fin2,x_eqE,hS],3)
        | false =>
          cases q4:p.d with
          | true=>open_k with ([F__law_kind,enc,e1,e2,c1,x_eK,f3,q3,q4,Sg.code,s_k1,s_k0,s_k2,n_d0,stB_look,okW,errW,chk_t,chk_f,encR,fin2,x_eqE,hS],3)
          | false =>
            cases q5:compat k.b p.b <;> cases q6:k.v <;> open_k with ([F__law_kind,enc,e1,e2,c1,x_eK,f3,q3,q4,q5,q6,Sg.code,s_k1,s_k0,s_k2,n_d0,stB_look,okW,errW,chk_t,chk_f,encR,fin2,x_eqE,hS],3) <;> rfl
theorem lastA_mem {x:Nat} {k:Kd}:∀ {E:En},lastA x E=some k→x∈E.map (·.1)
  | (y,u)::r,h=>by
    unfold lastA at h
    cases q:lastA x r with
    | some k' => exact List.mem_cons_of_mem _ (lastA_mem q)
    | none =>
      rw [q] at h
      by_cases e:y=x
      · subst e; exact List.mem_cons_self
      · simp [e] at h
def known (x:Nat) (f:Bool) (E:En):List LV:=(E.filter fun e=>e.1 == x).map fun e => .tup [encK e.2,.bool f]
def cN (x:Nat) (v:LV):Bool:=match v with
  | .tup (.str y::_)=>y == x
  | _=>false
def eN (v:LV):LV:=match v with
  | .tup [_,k,f] => .tup [k,f]
  | v=>v
theorem known_ent (x:Nat) (f:Bool):∀ E:En,((E.map (ent f)).filter (cN x)).map eN=known x f E
  | []=>rfl
  | (y,u)::r=>by
    unfold known
    rw [List.map_cons,List.filter_cons,List.filter_cons]
    show (if (y == x)=true then _ else _:List LV).map eN=(if (y == x)=true then _ else _:En).map _
    have:=known_ent x f r
    unfold known at this
    by_cases h:(y == x)=true
    · rw [if_pos h,if_pos h,List.map_cons,List.map_cons,this]; rfl
    · rw [if_neg h,if_neg h,this]
theorem known_none {x:Nat} {f:Bool}:∀ {E:En},lastA x E=none→known x f E=[]
  | [],_=>rfl
  | (y,u)::r,h=>by
    unfold lastA at h
    cases q:lastA x r with
    | some k=>rw [q] at h; cases h
    | none =>
      rw [q] at h
      by_cases e:y=x
      · simp [e] at h
      · have:=known_none (f:=f) q
        unfold known at this ⊢
        rw [List.filter_cons,if_neg (by simpa using e)]
        exact this
theorem known_some {x:Nat} {f:Bool} {k:Kd}:∀ {E:En},lastA x E=some k→∃ L,known x f E=L++[.tup [encK k,.bool f]]
  | (y,u)::r,h=>by
    unfold lastA at h
    cases q:lastA x r with
    | some k' =>
      rw [q] at h
      cases h
      obtain ⟨L,e⟩:=known_some (f:=f) q
      unfold known at e ⊢
      rw [List.filter_cons]
      split
      · exact ⟨_::L,by rw [List.map_cons,e]; rfl⟩
      · exact ⟨L,e⟩
    | none =>
      rw [q] at h
      by_cases e:y=x
      · simp [e] at h
        subst h
        have:=known_none (f:=f) q
        unfold known at this ⊢
        rw [List.filter_cons,if_pos (by simpa using e),List.map_cons,this]
        exact ⟨[],rfl⟩
      · simp [e] at h
theorem dataLs_app:∀ l m:List LV,dataLs (l++m)=(dataLs l && dataLs m)
  | [],m=>rfl
  | x::r,m=>by show (dataL x && dataLs (r++m))=_; rw [dataLs_app r m]; show _=((dataL x && dataLs r) && _); rw [Bool.and_assoc]
theorem known_data (x:Nat) (f:Bool):∀ E:En,dataLs (known x f E)=true
  | []=>rfl
  | (y,u)::r=>by
    have:=known_data x f r
    unfold known at this ⊢
    rw [List.filter_cons]
    split
    · show (dataL _ && dataLs _)=true
      rw [this]; rfl
    · exact this
theorem x_eqD {l:List LV} (h:dataLs l=true):eqL (.lst l) (.lst [])=some l.isEmpty:=by
  show (if (dataLs l && true && (flat 8 (.lst l) || true))=true then some (eqBs l []) else none)=_
  rw [h,Bool.or_true]
  cases l <;> rfl
theorem kVal_env {σ:Sto} {env:LV} {E:En} (he:EnvAt σ env E):kVal env σ=some (.val (.seq env),σ):=by
  unfold kVal; rw [he.it]; rfl
def knownL (x:Nat) (E:En):List LV:=known x true worldL++known x false E
theorem encE_len (E:En):(encE E).length=8 + E.length:=by unfold encE worldL; simp; omega
theorem kComp_known {n x:Nat} {ρ:Loc} {σ:Sto} {env o s:LV} {E:En} (he:EnvAt σ env E) (hl:E.length≤300) (hy:lookA 172 ρ=some (.tup [o,s,.str x])) :
    kComp (TT n) (.tup (.cons (.loc 144) (.cons (.loc 135) .nil))) (.many [170,144,135]) (.cons (.cmp .eq (.loc 170) (.sub (.loc 172) (.const (.int 2)))) .nil) ρ (.seq env) σ=some (.val (.lst (knownL x E)),σ):=by
  rw [kComp_pure (xs:=encE E) (c:=cN x) (e:=eN) he.it (by rw [encE_len]; show _ < 400; omega) ?_]
  · unfold encE knownL
    rw [List.filter_append,List.map_append,known_ent,known_ent]
  · intro v hv
    have:∃ f e,v=ent f e:=by
      unfold encE at hv
      rcases List.mem_append.mp hv with h | h <;> obtain ⟨e,_,rfl⟩:=List.mem_map.mp h <;> exact ⟨_,_,rfl⟩
    obtain ⟨f,⟨y,u⟩,rfl⟩:=this
    refine ⟨_,rfl,?_,fun _=>?_⟩
    · open_k with ([hy],3)
      show (if (y == x)=true then _ else _)=some (Out.val (y == x),σ)
      cases y == x <;> rfl
    · open_k with ([if_true],3)
      rfl
theorem emp_app (l:List LV) (a:LV):(l++[a]).isEmpty=false:=by cases l <;> rfl
theorem kd_name {s x E}:kd (.name s x) E=match lastA x E with
    | some k=>okW k
    | none=>match lastA x worldL with
      | some k=>(.ok k,[x],false)
      | none=>errW s:=rfl
theorem law_name (s:Int) (x:Nat):LK (.name s x):=fun E n env σ A C hn hz he hs=>by
  simp only [Nd.dp,Nd.sz] at hn hz
  rw [kd_name,CM_eq (by omega) rfl rfl]
  have hd:dataLs (knownL x E)=true:=by unfold knownL; rw [dataLs_app,known_data,known_data]; rfl
  have hq:=x_eqD hd
  have hv:=kVal_env he
  have hc:=fun ρ h=>@kComp_known (n - 1) x ρ σ env (.str 170) (.int s) E he (by omega) h
  cases h1:lastA x E with
  | some k =>
    dsimp only
    obtain ⟨L,e⟩:=known_some (f:=false) h1
    have e2:knownL x E=(known x true worldL++L)++[.tup [encK k,.bool false]]:=by unfold knownL; rw [e,List.append_assoc]
    refine ⟨σ,?_,.ok hs⟩
    rw [e2] at hq hc
    rw [emp_app] at hq
    open_k with ([F__law_kind,enc,hv,hc,hq,okW,encR],3)
  | none =>
    dsimp only
    have e1:knownL x E=known x true worldL:=by unfold knownL; rw [known_none h1,List.append_nil]
    rw [e1] at hq hc
    cases h2:lastA x worldL with
    | some k =>
      dsimp only
      obtain ⟨L,e⟩:=known_some (f:=true) h2
      rw [e] at hq hc
      rw [emp_app] at hq
      have hx:x∈worldN:=lastA_mem h2
      have hA:=hs.a
      have hl:(dA A).length < most:=by rw [dA_len]; have:=hs.ok.len; show _ < 400; omega
      refine ⟨σ.set 10 (.dict (dA (addA A x))),?_,⟨.set1,?_⟩⟩
      · open_k with ([F__law_kind,enc,hv,hc,hq,hA,hl,putA_dA,okW,encR],3)
      · simpa [adds] using hs.setAd hx
    | none =>
      dsimp only
      rw [known_none h2] at hq hc
      refine ⟨σ,?_,.err hs⟩
      simp only [List.isEmpty_nil] at hq
      open_k with ([F__law_kind,enc,hv,hc,hq,errW,encR],3)
def arrB:MSs:=match F__law_array.body with
  | .cons _ (.cons (.forS _ _ b) _)=>b
  | _ => .nil
theorem kds_cons {x r k E}:kds (.cons x r) k E=bindW (kd x E) fun l=>chk (!l.d && okC k l) x.spot (kds r (comK k l) E):=rfl
theorem law_arrL:∀ (xs:Nds),xs.All LK→∀ (k:Kd) (E:En) (n:Nat) (env:LV) (σ:Sto) (A:List Nat) (C:Bool) (ρ:Loc),k.d=false→5 * xs.dp + 6≤n→E.length + xs.sz≤300→EnvAt σ env E→LS A C σ →
    lookA 72 ρ=some (.str k.b.code)→lookA 235 ρ=some (.bool k.v)→lookA 101 ρ=some env→lookA 176 ρ=some NOTES →
    ∃ σ',(match (kds xs k E).1 with
      | .ok k' => ∃ ρ',forL (execMs (TT n) arrB) (.one 187) (encs xs) ρ σ=some (.next,ρ',σ')∧lookA 72 ρ' = some (.str k'.b.code)∧lookA 235 ρ' = some (.bool k'.v)
      | .error i=>∃ ρ',forL (execMs (TT n) arrB) (.one 187) (encs xs) ρ σ=some (.ret (.tup [.none,.int i]),ρ',σ'))∧LP σ A C (kds xs k E) σ'
  | .nil,_,k,E,n,env,σ,A,C,ρ,hk,hn,hz,he,hs,h1,h2,h3,h4=>⟨σ,⟨ρ,rfl,h1,h2⟩,.ok hs⟩
  | .cons x r,hx,k,E,n,env,σ,A,C,ρ,hk,hn,hz,he,hs,h1,h2,h3,h4=>by
    simp only [Nds.dp,Nds.sz] at hn hz
    obtain ⟨σ1,e1,p1⟩:=hx.1 E n env σ A C (by omega) (by omega) he hs
    have f3:=@ev_stands n σ1 (by omega)
    have reck:=law_arrL r hx.2
    rw [kds_cons]
    generalize kd x E=wa at *
    have e0:encs (.cons x r)=enc x::encs r:=rfl
    rw [e0]
    cases q1:wa.1 with
    | error i =>
      rw [q1] at e1
      refine ⟨σ1,?_,.bindE q1 p1⟩
      rw [bindW_err q1]
      apply Exists.intro
      open_k with ([arrB,F__law_array,h1,h2,h3,h4,e1,encR,x_ni],3)
      rfl
    | ok l =>
      rw [q1] at e1
      rw [bindW_ok q1]
      simp only [encR] at e1
      have fin2:∀ ρ:Loc,lookA 144 ρ=some (encK l)→kComp (TT n) (.loc 180) (.one 180) (.cons (.cmp .isin (.loc 180) (.sub (.call 7 .nil) (.sub (.loc 144) (.const (.int 0))))) .nil) ρ (.seq (.tup (strz (stB k.b)))) σ1=some (.val (.lst (strz (someL k.b l.b))),σ1) :=
        fun ρ h=>kComp_st f3 h (by decide) (stB_len _)
      have hS:=someL_empty k.b l.b
      have hj:(!l.d && okC k l)=(!l.d && compat k.b l.b):=by rw [okC_eq,hk]; cases l.d <;> rfl
      rw [hj]
      cases q2:l.d with
      | true =>
        refine ⟨σ1,?_,.bind q1 p1 (by rw [hj,q2]; exact .err p1.s)⟩
        apply Exists.intro
        open_k with ([arrB,F__law_array,h1,h2,h3,h4,e1,f3,fin2,stB_look,s_k2,n_d0,s_spot,q2,chk_f,errW,x_nn],3)
        rfl
      | false =>
        cases q3:compat k.b l.b with
        | false =>
          refine ⟨σ1,?_,.bind q1 p1 (by rw [hj,q2,q3]; exact .err p1.s)⟩
          apply Exists.intro
          open_k with ([arrB,F__law_array,h1,h2,h3,h4,e1,f3,fin2,stB_look,s_k2,n_d0,s_spot,q2,q3,hS,x_eqE,chk_f,errW,x_nn],3)
          rfl
        | true =>
          obtain ⟨r',hr⟩:=someL_head q3
          have hr2:strz (someL k.b l.b) = .str (comB k.b l.b).code::strz r':=by rw [hr]; rfl
          obtain ⟨σ2,c2,p2⟩:=reck (comK k l) E n env σ1 _ _ (putA 235 (.bool (k.v || l.v)) (putA 72 (.str (comB k.b l.b).code) (putA 214 (.lst (strz (someL k.b l.b))) (putA 71 .none (putA 144 (encK l) (putA 187 (enc x) ρ)))))) hk (by omega) (by omega) (he.keep p1.k) p1.s
            (by simp only [y_look,Nat.reduceEqDiff,↓reduceIte]; rfl) (by simp only [y_look,↓reduceIte]; rfl) (by simp only [y_look,Nat.reduceEqDiff,↓reduceIte,h3]) (by simp only [y_look,Nat.reduceEqDiff,↓reduceIte,h4])
          refine ⟨σ2,?_,.bind q1 p1 (by rw [hj,q2,q3]; exact p2)⟩
          have step:forL (execMs (TT n) arrB) (.one 187) (enc x::encs r) ρ σ=forL (execMs (TT n) arrB) (.one 187) (encs r) (putA 235 (.bool (k.v || l.v)) (putA 72 (.str (comB k.b l.b).code) (putA 214 (.lst (strz (someL k.b l.b))) (putA 71 .none (putA 144 (encK l) (putA 187 (enc x) ρ)))))) σ1:=by
            rw [forL_one]
            generalize hg:forL (execMs (TT n) arrB) (.one 187) (encs r)=g
            have hS':eqL (.lst (strz (someL k.b l.b))) (.lst [])=some false:=by rw [x_eqE,hS,q3]; rfl
            have hs0:∀ σ,subL σ (.lst (strz (someL k.b l.b))) (.int 0)=some (.str (comB k.b l.b).code):=fun σ=>by rw [hr2,x_sub0l]
            cases q4:k.v <;> open_k with ([arrB,F__law_array,h1,h2,h3,h4,e1,f3,fin2,stB_look,s_k1,s_k2,n_d0,s_spot,q2,q3,q4,hS',hs0,x_nn],3)
          rw [step]
          exact c2
theorem kd_arr {s xs E}:kd (.arr s xs) E=bindW (kds xs ⟨.non,false,false⟩ E) fun k=>okW ⟨k.b,k.v,true⟩:=rfl
theorem encs_len:∀ xs:Nds,(encs xs).length≤xs.sz
  | .nil=>Nat.le_refl _
  | .cons x r=>by
    have:=encs_len r
    show (encs r).length + 1≤max x.sz (r.sz + 1)
    omega
theorem law_arr (s:Int) (xs:Nds) (hx:xs.All LK):LK (.arr s xs):=fun E n env σ A C hn hz he hs=>by
  simp only [Nd.dp,Nd.sz] at hn hz
  rw [kd_arr,CM_eq (by omega) rfl rfl]
  have hl:(encs xs).length < most:=Nat.lt_of_le_of_lt (encs_len xs) (show _ < 400 by omega)
  obtain ⟨σ',c,p⟩:=law_arrL xs hx ⟨.non,false,false⟩ E (n - 1 - 1) env σ A C (putA 235 (.bool false) (putA 72 (.str 174) [(172,.tup [.str 57,.int s,.tup (encs xs)]),(101,env),(176,NOTES)])) rfl (by omega) (by omega) he hs rfl rfl rfl rfl
  generalize kds xs ⟨.non,false,false⟩ E=wa at *
  have key:CM (n - 1) 9 [.tup [.str 57,.int s,.tup (encs xs)],env,NOTES] σ=some (.val (encR (bindW wa fun k=>okW ⟨k.b,k.v,true⟩).1),σ'):=by
    rw [CM_eq (by omega) rfl rfl]
    simp only [arrB,F__law_array] at c
    cases q1:wa.1 with
    | error i =>
      rw [q1] at c
      obtain ⟨ρ',e⟩:=c
      rw [bindW_err q1]
      open_k with ([F__law_array,sFor_tup hl,e,encR],3)
    | ok k =>
      rw [q1] at c
      obtain ⟨ρ',e,l1,l2⟩:=c
      rw [bindW_ok q1]
      open_k with ([F__law_array,sFor_tup hl,e,l1,l2,encR,okW,encK,Kd.n],3)
  refine ⟨σ',?_,?_⟩
  · open_k with ([F__law_kind,enc,key],3)
  · cases q1:wa.1 with
    | error i=>exact .bindE q1 p
    | ok k=>exact .bind q1 p (.ok p.s)
mutual
theorem enc_data:∀ nd:Nd,dataL (enc nd)=true
  | .lit b s i=>by cases b <;> rfl
  | .name s x=>rfl
  | .rng s a b=>by show (true && (true && (dataL (enc a) && (dataL (enc b) && true))))=true; rw [enc_data a,enc_data b]; rfl
  | .arr s xs=>by show (true && (true && (dataLs (encs xs) && true)))=true; rw [encs_data xs]; rfl
  | .idx s a i=>by show (true && (true && (dataL (enc a) && ((dataL (enc i) && true) && true))))=true; rw [enc_data a,enc_data i]; rfl
  | .call s a=>by show (true && (true && (true && ((dataL (enc a) && true) && true))))=true; rw [enc_data a]; rfl
  | .bin s g a b=>by show (true && (true && (true && (dataL (enc a) && (dataL (enc b) && true)))))=true; rw [enc_data a,enc_data b]; rfl
  | .lt s its b=>by show (true && (true && (dataLs (encI its) && (dataL (enc b) && true))))=true; rw [encI_data its,enc_data b]; rfl
theorem encs_data:∀ xs:Nds,dataLs (encs xs)=true
  | .nil=>rfl
  | .cons x r=>by show (dataL (enc x) && dataLs (encs r))=true; rw [enc_data x,encs_data r]; rfl
theorem enc1_data:∀ xs:Nds,dataL (enc1 xs)=true
  | .nil=>rfl
  | .cons x r=>enc_data x
theorem encD_data:∀ xs:Nds,dataLs (encD xs)=true
  | .nil=>rfl
  | .cons x r=>by show (dataL (enc x) && true)=true; rw [enc_data x]; rfl
theorem encT_data:∀ it:It,dataL (encT it)=true
  | .cst s a=>by show (true && (true && (dataL (enc a) && true)))=true; rw [enc_data a]; rfl
  | .odd s w=>by cases w <;> rfl
  | .decl s b v any d dom x val=>by
    show (true && (true && ((true && (true && (dataLs (if any then [.tup [.str 131]] else encD d) && (dataL (enc1 dom) && true)))) && (true && (dataL (enc1 val) && true)))))=true
    rw [enc1_data dom,enc1_data val]
    cases any
    · show (true && (true && ((true && (true && (dataLs (encD d) && _))) && _)))=true
      rw [encD_data d]; rfl
    · rfl
theorem encI_data:∀ its:Its,dataLs (encI its)=true
  | .nil=>rfl
  | .cons x r=>by show (dataL (encT x) && dataLs (encI r))=true; rw [encT_data x,encI_data r]; rfl
end
theorem any_ne (a:Nd):eqL (enc a) (.tup [.str 131])=some false:=by
  show (if (dataL (enc a) && true && (flat 8 (enc a) || true))=true then some (eqB (enc a) (.tup [.str 131])) else none)=_
  rw [enc_data,Bool.or_true]
  have:eqB (enc a) (.tup [.str 131])=false:=by
    cases a <;> first | rfl | exact Bool.and_false _
  rw [this]; rfl
theorem enc_none (a:Nd):noneL (enc a)=some false:=by cases a <;> rfl
def dimsL (any:Bool) (ds:Nds):List LV:=if any then [.tup [.str 131]] else encD ds
theorem dims_any (any:Bool) (ds:Nds):eqL (.tup (dimsL any ds)) (.tup [.tup [.str 131]])=some any:=by
  cases any with
  | true=>rfl
  | false =>
    cases ds with
    | nil=>rfl
    | cons a r =>
      show (if ((dataL (enc a) && true) && true && (_ || true))=true then some (eqB (enc a) (.tup [.str 131]) && true) else none)=_
      rw [enc_data,Bool.or_true]
      have:eqB (enc a) (.tup [.str 131])=false:=by cases a <;> first | rfl | exact Bool.and_false _
      rw [this]; rfl
def told (a:Nd) (E:En):W Unit:=bindW (kd a E) fun k=>chk (fitsK k SET) a.spot (okW ())
theorem law_told (a:Nd) (ha:LK a):∀ (E:En) (n:Nat) (env:LV) (σ:Sto) (A:List Nat) (C:Bool),5 * a.dp + 7≤n→E.length + a.sz≤300→EnvAt σ env E→LS A C σ →
    ∃ σ',CM n 10 [enc a,env,NOTES] σ=some (.val (encB (told a E).1),σ')∧LP σ A C (told a E) σ':=fun E n env σ A C hn hz he hs=>by
  obtain ⟨σ1,e1,p1⟩:=ha E (n - 1) env σ A C (by omega) (by omega) he hs
  have f1:=fun k=>@ev_ls (n - 1) σ1 (by omega) k
  unfold told
  rw [CM_eq (by omega) rfl rfl]
  generalize kd a E=wa at *
  cases q1:wa.1 with
  | error i =>
    rw [q1] at e1
    refine ⟨σ1,?_,.bindE q1 p1⟩
    rw [bindW_err q1]
    open_k with ([F__law_set_told,e1,encR,encB,x_ni],3)
  | ok k =>
    rw [q1] at e1
    rw [bindW_ok q1]
    refine ⟨σ1,?_,.bind q1 p1 (by cases fitsK k SET; exact .err p1.s; exact .ok p1.s)⟩
    cases q2:fitsK k SET <;> open_k with ([F__law_set_told,e1,encR,encB,f1,q2,s_spot,chk_t,chk_f,errW,okW,x_nn],3)
theorem bindW_okW {α β:Type} (a:α) (f:α→W β):bindW (okW a) f=f a:=by
  show ((f a).1,[]++(f a).2.1,false || (f a).2.2)=f a
  rw [List.nil_append,Bool.false_or]
def tolds:List Nd→En→W Unit
  | [],E=>okW ()
  | a::r,E=>bindW (told a E) fun _=>tolds r E
def one:Nds→List Nd
  | .nil=>[]
  | .cons x _=>[x]
theorem encD_one (ds:Nds):encD ds=(one ds).map enc:=by cases ds <;> rfl
theorem told_one (x:Nd) (E:En):bindW (told x E) (fun _=>okW ())=told x E:=by
  generalize told x E=w
  obtain ⟨r,as,c⟩:=w
  cases r with
  | error i=>rfl
  | ok u=>show ((.ok u:Except Int Unit),as++[],c || false)=_; rw [List.append_nil,Bool.or_false]
theorem kset_tolds (ds:Nds) (E:En):kset ds E=tolds (one ds) E:=by
  cases ds with
  | nil=>rfl
  | cons x r=>exact (told_one x E).symm
theorem tolds_app (l m:List Nd) (E:En):tolds (l++m) E=bindW (tolds l E) fun _=>tolds m E:=by
  induction l with
  | nil=>exact (bindW_okW () fun _=>tolds m E).symm
  | cons x r ih =>
    show bindW (told x E) (fun _=>tolds (r++m) E)=bindW (bindW (told x E) fun _=>tolds r E) _
    rw [ih]
    generalize told x E=w
    obtain ⟨q,as,c⟩:=w
    cases q with
    | error i=>rfl
    | ok u =>
      generalize tolds r E=w2
      obtain ⟨q2,as2,c2⟩:=w2
      cases q2 with
      | error i=>rfl
      | ok u2 =>
        simp only [bindW,List.append_assoc,Bool.or_assoc]
def setsL (any:Bool) (ds dom:Nds):List Nd:=one dom++if any then [] else one ds
theorem sets_eq (any:Bool) (ds dom:Nds) (E:En) {α:Type} (f:W α):(bindW (kset dom E) fun _=>bindW (if any then okW () else kset ds E) fun _=>f)=bindW (tolds (setsL any ds dom) E) fun _=>f:=by
  unfold setsL
  rw [tolds_app,kset_tolds dom]
  have h:(if any then okW () else kset ds E)=tolds (if any then [] else one ds) E:=by cases any; exact kset_tolds ds E; rfl
  rw [h]
  generalize tolds (one dom) E=w
  generalize tolds (if any then [] else one ds) E=w2
  obtain ⟨q,as,c⟩:=w
  obtain ⟨q2,as2,c2⟩:=w2
  cases q with
  | error i=>rfl
  | ok u=>cases q2 with
    | error i=>rfl
    | ok u2=>simp only [bindW,List.append_assoc,Bool.or_assoc]
def decB:MSs:=match F__law_declared.body with
  | .cons _ (.cons _ (.cons _ (.cons _ (.cons (.forS _ _ b) _))))=>b
  | _ => .nil
theorem law_decL {m LL:Nat}:∀ (xs:List Nd),(∀ x∈xs,LK x∧5 * x.dp + 7≤m∧LL + x.sz≤300)→∀ (E:En) (env:LV) (σ:Sto) (A:List Nat) (C:Bool) (ρ:Loc),E.length=LL→EnvAt σ env E→LS A C σ →
    lookA 101 ρ=some env→lookA 176 ρ=some NOTES →
    ∃ σ',(match (tolds xs E).1 with
      | .ok _=>∃ ρ',forL (execMs (TT m) decB) (.one 187) (xs.map enc) ρ σ=some (.next,ρ',σ')∧∀ k,k≠187→k≠71→lookA k ρ' = lookA k ρ
      | .error i=>∃ ρ',forL (execMs (TT m) decB) (.one 187) (xs.map enc) ρ σ=some (.ret (.int i),ρ',σ'))∧LP σ A C (tolds xs E) σ'
  | [],_,E,env,σ,A,C,ρ,hL,he,hs,h3,h4=>⟨σ,⟨ρ,rfl,fun _ _ _=>rfl⟩,.ok hs⟩
  | x::r,hx,E,env,σ,A,C,ρ,hL,he,hs,h3,h4=>by
    obtain ⟨hx1,hx2,hx3⟩:=hx x (by simp)
    obtain ⟨σ1,e1,p1⟩:=law_told x hx1 E m env σ A C hx2 (by omega) he hs
    have reck:=law_decL r (fun y hy=>hx y (by simp [hy]))
    have e0:tolds (x::r) E=bindW (told x E) fun _=>tolds r E:=rfl
    rw [e0,List.map_cons]
    generalize told x E=wa at *
    cases q1:wa.1 with
    | error i =>
      rw [q1] at e1
      refine ⟨σ1,?_,.bindE q1 p1⟩
      rw [bindW_err q1]
      apply Exists.intro
      open_k with ([decB,F__law_declared,h3,h4,e1,encB,x_ni],3)
      rfl
    | ok l =>
      rw [q1] at e1
      rw [bindW_ok q1]
      obtain ⟨σ2,c2,p2⟩:=reck E env σ1 _ _ (putA 71 .none (putA 187 (enc x) ρ)) hL (he.keep p1.k) p1.s (by simp only [y_look,Nat.reduceEqDiff,↓reduceIte,h3]) (by simp only [y_look,Nat.reduceEqDiff,↓reduceIte,h4])
      refine ⟨σ2,?_,.bind q1 p1 p2⟩
      have step:forL (execMs (TT m) decB) (.one 187) (enc x::r.map enc) ρ σ=forL (execMs (TT m) decB) (.one 187) (r.map enc) (putA 71 .none (putA 187 (enc x) ρ)) σ1:=by
        rw [forL_one]
        generalize hg:forL (execMs (TT m) decB) (.one 187) (r.map enc)=g
        open_k with ([decB,F__law_declared,h3,h4,e1,encB,x_nn],3)
      rw [step]
      generalize tolds r E=wb at *
      cases q2:wb.1 with
      | error i=>rw [q2] at c2; exact c2
      | ok u =>
        rw [q2] at c2
        obtain ⟨ρ',e,hk⟩:=c2
        refine ⟨ρ',e,fun k n1 n2=>?_⟩
        rw [hk k n1 n2,y_look,y_look,if_neg (Ne.symm n2),if_neg (Ne.symm n1)]
def declW (s:Int) (b:Bs) (v any:Bool) (ds dom val:Nds) (E:En):W Unit :=
  chk (!(v && (b == .str || b == .set))) s (bindW (tolds (setsL any ds dom) E) fun _=>kval val any s ⟨b,v,any || ds.some⟩ E)
theorem kit_decl {s b v any ds dom x val E}:kit (.decl s b v any ds dom x val) E=bindW (declW s b v any ds dom val E) fun _=>okW (some (x,⟨b,v,any || ds.some⟩)):=by
  show chk _ s (bindW (kset dom E) fun _=>bindW (if any then okW () else kset ds E) fun _=>bindW (kval val any s ⟨b,v,any || ds.some⟩ E) fun _=>okW (some (x,(⟨b,v,any || ds.some⟩:Kd))))=_
  rw [sets_eq]
  unfold declW
  cases !(v && (b == .str || b == .set)) with
  | false=>rfl
  | true =>
    rw [chk_t,chk_t]
    generalize tolds (setsL any ds dom) E=w
    generalize kval val any s ⟨b,v,any || ds.some⟩ E=w2
    obtain ⟨q,as,c⟩:=w
    cases q with
    | error i=>rfl
    | ok u =>
      obtain ⟨q2,as2,c2⟩:=w2
      cases q2 with
      | error i=>rfl
      | ok u2=>simp only [bindW,List.append_assoc,Bool.or_assoc]
theorem x_anyT:eqL (.tup [.str 131]) (.tup [.str 131])=some true:=rfl
theorem kC0 {T:Tab} {e:ME} {tg:MT} {cs:MEs} {ρ:Loc} {σ:Sto}:kComp T e tg cs ρ (.seq (.tup [])) σ=bindR (compL (allM T cs) (evalM T e) tg ρ [] σ) kComp2:=kComp_tup (by show 0 < 400; decide)
theorem kC1 {T:Tab} {e:ME} {tg:MT} {cs:MEs} {ρ:Loc} {x:LV} {σ:Sto}:kComp T e tg cs ρ (.seq (.tup [x])) σ=bindR (compL (allM T cs) (evalM T e) tg ρ [x] σ) kComp2:=kComp_tup (by show 1 < 400; decide)
def partsL (any:Bool) (ds:Nds):List LV:=if any then [] else encD ds
theorem kComp_dims {m:Nat} {any:Bool} {ds:Nds} {ρ:Loc} {σ:Sto}:kComp (TT m) (.loc 187) (.one 187) (.cons (.cmp .ne (.loc 187) (.tup (.cons (.const (.str 131)) .nil))) .nil) ρ (.seq (.tup (dimsL any ds))) σ=some (.val (.lst (partsL any ds)),σ):=by
  cases any with
  | true=>open_k with ([dimsL,partsL,kC1,x_anyT,kComp2],3)
  | false =>
    cases ds with
    | nil=>open_k with ([dimsL,partsL,encD,kC0,kComp2],3)
    | cons a r=>open_k with ([dimsL,partsL,encD,kC1,any_ne,kComp2],3)
theorem partsL_len (any:Bool) (ds dom:Nds):(encD dom).length + (partsL any ds).length < most:=by
  cases any <;> cases ds <;> cases dom <;> exact Nat.le_of_ble_eq_true rfl
theorem setsL_enc (any:Bool) (ds dom:Nds):encD dom++partsL any ds=(setsL any ds dom).map enc:=by
  unfold setsL partsL
  rw [List.map_append,encD_one dom]
  cases any
  · simp only [Bool.false_eq_true,if_false]; rw [encD_one ds]
  · rfl
theorem setsL_len (any:Bool) (ds dom:Nds):((setsL any ds dom).map enc).length < most:=by
  cases any <;> cases ds <;> cases dom <;> exact Nat.le_of_ble_eq_true rfl
theorem lenD {σ:Sto} (any:Bool) (ds:Nds):lenL σ (.tup (dimsL any ds))=some (if any || ds.some then 1 else 0):=by
  cases any <;> cases ds <;> rfl
theorem x_addL {a b:List LV} (h:a.length + b.length < most):binL .add (.lst a) (.lst b)=some (.lst (a++b)):=by
  show (if a.length + b.length < most then some (LV.lst (a++b)) else none)=_
  rw [if_pos h]
theorem one_all {P:Nd→Prop} {ds:Nds} (h:ds.All P):∀ x∈one ds,P x:=by
  cases ds with
  | nil=>intro x hx; cases hx
  | cons a r=>intro x hx; simp [one] at hx; subst hx; exact h.1
theorem one_dp {ds:Nds}:∀ x∈one ds,x.dp≤ds.dp∧x.sz≤ds.sz:=by
  cases ds with
  | nil=>intro x hx; cases hx
  | cons a r=>intro x hx; simp [one] at hx; subst hx; exact ⟨Nat.le_max_left _ _,Nat.le_max_left _ _⟩
def restD:MSs:=match F__law_declared.body with
  | .cons _ (.cons _ (.cons _ (.cons _ (.cons _ r))))=>r
  | _ => .nil
def recD (s:Int) (b:Bs) (v any:Bool) (ds dom:Nds) (x:Nat) (val:Nds) (env:LV):Loc :=
  putA 98 (enc1 dom) (putA 95 (.tup (dimsL any ds)) (putA 235 (.bool v) (putA 72 (.str b.code) [(139,encT (.decl s b v any ds dom x val)),(101,env),(176,NOTES)])))
def recL (s:Int) (b:Bs) (v any:Bool) (ds dom:Nds) (x:Nat) (val:Nds) (env:LV):Loc :=
  putA 214 (.lst ((setsL any ds dom).map enc)) (putA 214 (.lst (encD dom)) (recD s b v any ds dom x val env))
theorem encT_decl {s b v any ds dom x val}:encT (.decl s b v any ds dom x val) = .tup [.str 91,.int s,.tup [.str b.code,.bool v,.tup (dimsL any ds),enc1 dom],.str x,enc1 val]:=rfl
theorem dec_pre {m:Nat} {σ:Sto} (s:Int) (b:Bs) (v any:Bool) (ds dom:Nds) (x:Nat) (val:Nds) (env:LV) (q:(v && (b == .str || b == .set))=false) :
    execMs (TT m) F__law_declared.body [(139,encT (.decl s b v any ds dom x val)),(101,env),(176,NOTES)] σ=seqS (forL (execMs (TT m) decB) (.one 187) ((setsL any ds dom).map enc) (recL s b v any ds dom x val env) σ) (execMs (TT m) restD):=by
  have hb':v=true→(b == .set || b == .str)=false:=fun hv=>by rw [hv,Bool.true_and] at q; rw [Bool.or_comm]; exact q
  have hl:=setsL_len any ds dom
  have hp:=partsL_len any ds dom
  have he:=setsL_enc any ds dom
  unfold recL recD
  cases dom with
  | nil =>
    simp only [encD] at hp he
    have ha:=x_addL hp
    rw [he] at ha
    cases v with
    | true=>have hb:=hb' rfl; open_k with ([F__law_declared,decB,restD,encT_decl,enc1,encD,c_set,c_str,hb,x_nn,kComp_dims,ha,sFor_lst hl],3)
    | false=>open_k with ([F__law_declared,decB,restD,encT_decl,enc1,encD,x_nn,kComp_dims,ha,sFor_lst hl],3)
  | cons a r =>
    simp only [encD] at hp he
    have ha:=x_addL hp
    rw [he] at ha
    cases v with
    | true=>have hb:=hb' rfl; open_k with ([F__law_declared,decB,restD,encT_decl,enc1,encD,c_set,c_str,hb,enc_none,kComp_dims,ha,sFor_lst hl],3)
    | false=>open_k with ([F__law_declared,decB,restD,encT_decl,enc1,encD,enc_none,kComp_dims,ha,sFor_lst hl],3)
theorem law_declared (s:Int) (b:Bs) (v any:Bool) (ds dom:Nds) (x:Nat) (val:Nds) (h1:ds.All LK) (h2:dom.All LK) (h3:val.All LK) :
    ∀ (E:En) (n:Nat) (env:LV) (σ:Sto) (A:List Nat) (C:Bool),5 * (It.decl s b v any ds dom x val).dp + 8≤n→E.length + (It.decl s b v any ds dom x val).sz≤300→EnvAt σ env E→LS A C σ →
    ∃ σ',CM n 11 [encT (.decl s b v any ds dom x val),env,NOTES] σ=some (.val (encB (declW s b v any ds dom val E).1),σ')∧LP σ A C (declW s b v any ds dom val E) σ':=fun E n env σ A C hn hz he hs=>by
  simp only [It.dp,It.sz] at hn hz
  rw [CM_eq (by omega) rfl rfl]
  unfold declW
  have hE:LP σ A C (errW s:W Unit) σ:=.err hs
  cases q0:(v && (b == .str || b == .set)) with
  | true =>
    refine ⟨σ,?_,hE⟩
    obtain ⟨rfl,hb⟩:=Bool.and_eq_true_iff.mp q0
    have hb':(b == .set || b == .str)=true:=by rw [Bool.or_comm]; exact hb
    open_k with ([F__law_declared,encT_decl,c_set,c_str,hb',errW,encB,Bool.not_true,chk_f],3)
  | false =>
    rw [Bool.not_false,chk_t]
    show ∃ σ',fin (execMs (TT (n - 1)) F__law_declared.body [(139,encT (.decl s b v any ds dom x val)),(101,env),(176,NOTES)] σ)=_∧_
    rw [dec_pre s b v any ds dom x val env q0]
    obtain ⟨σ1,c1,p1⟩:=law_decL (m:=n - 1) (LL:=E.length) (setsL any ds dom) (fun y hy=>by
      unfold setsL at hy
      rcases List.mem_append.mp hy with hy | hy
      · have:=one_dp y hy
        exact ⟨one_all h2 y hy,by omega,by omega⟩
      · cases any
        · have:=one_dp y hy
          exact ⟨one_all h1 y hy,by omega,by omega⟩
        · cases hy) E env σ A C (recL s b v any ds dom x val env) rfl he hs rfl rfl
    generalize tolds (setsL any ds dom) E=wa at *
    cases q1:wa.1 with
    | error i =>
      rw [q1] at c1
      obtain ⟨ρ',e⟩:=c1
      refine ⟨σ1,?_,.bindE q1 p1⟩
      rw [bindW_err q1,e]
      rfl
    | ok u =>
      rw [q1] at c1
      obtain ⟨ρ',e,hk⟩:=c1
      rw [bindW_ok q1,e,seqS_next]
      have l139:lookA 139 ρ' = some (encT (.decl s b v any ds dom x val)):=hk 139 (by decide) (by decide)
      have l101:lookA 101 ρ' = some env:=hk 101 (by decide) (by decide)
      have l176:lookA 176 ρ' = some NOTES:=hk 176 (by decide) (by decide)
      have l72:lookA 72 ρ' = some (.str b.code):=hk 72 (by decide) (by decide)
      have l235:lookA 235 ρ' = some (.bool v):=hk 235 (by decide) (by decide)
      have l95:lookA 95 ρ' = some (.tup (dimsL any ds)):=hk 95 (by decide) (by decide)
      cases val with
      | nil =>
        refine ⟨σ1,?_,.bind q1 p1 (by unfold kval; cases (!(any && v)); exact .err p1.s; exact .ok p1.s)⟩
        unfold kval
        cases any <;> cases v <;> open_k with ([restD,F__law_declared,encT_decl,enc1,l139,l101,l176,l72,l235,l95,x_nn,dims_any,errW,okW,encB,chk_t,chk_f],3)
      | cons a r =>
        simp only [Nds.dp,Nds.sz] at hn hz
        obtain ⟨σ2,e2,p2⟩:=h3.1 E (n - 1) env σ1 _ _ (by omega) (by omega) (he.keep p1.k) p1.s
        have f:∀ k,CM (n - 1) 8 [encK k,.str b.code,.bool v,.int ((if (any || ds.some)=true then 1 else 0:Nat):Int)] σ2=some (.val (.bool (fitsK k ⟨b,v,any || ds.some⟩)),σ2):=fun k=>by
          have:=@ev_lfits (n - 1) σ2 (by omega) k b v (any || ds.some)
          generalize (any || ds.some)=d at this ⊢
          cases d <;> exact this
        have fl:=k_len (lenD (σ:=σ2) any ds)
        have hk0:kval (.cons a r) any s ⟨b,v,any || ds.some⟩ E=bindW (kd a E) fun k=>chk (fitsK k ⟨b,v,any || ds.some⟩) s (okW ()):=rfl
        rw [hk0]
        generalize kd a E=wb at *
        cases q2:wb.1 with
        | error i =>
          rw [q2] at e2
          refine ⟨σ2,?_,.bind q1 p1 (.bindE q2 p2)⟩
          rw [bindW_err q2]
          open_k with ([restD,F__law_declared,encT_decl,enc1,l139,l101,l176,l72,l235,l95,enc_none,x_ni,e2,encR,encB],3)
        | ok k =>
          rw [q2] at e2
          rw [bindW_ok q2]
          refine ⟨σ2,?_,.bind q1 p1 (.bind q2 p2 (by cases fitsK k ⟨b,v,any || ds.some⟩; exact .err p2.s; exact .ok p2.s))⟩
          cases q3:fitsK k ⟨b,v,any || ds.some⟩ <;> open_k with ([restD,F__law_declared,encT_decl,enc1,l139,l101,l176,l72,l235,l95,enc_none,x_nn,e2,fl,f,q3,encR,encB,errW,okW,chk_t,chk_f],3)
def witB:MSs:=match F__law_within.body with
  | .cons _ (.cons (.forS _ _ b) _)=>b
  | _ => .nil
theorem contains_inC (c:Nat):∀ cs:List Nat,cs.contains c=inC cs c
  | []=>rfl
  | d::r=>by
    rw [List.contains_cons,contains_inC c r]
    show (c == d || inC r c)=(d == c || inC r c)
    rw [show (c == d)=(d == c) from Bool.beq_comm]
theorem x_inCell {σ:Sto} {i c:Nat} {cs:List Nat} (h:σ[i]? = some (.list (strz cs))):isinL σ (.str c) (.cell i)=some (inC cs c):=by
  unfold isinL
  simp only [h]
  exact x_ins (σ:=σ) cs
theorem encE_snoc (E:En) (x:Nat) (K:Kd):encE E++[ent false (x,K)]=encE (E++[(x,K)]):=by
  unfold encE; rw [List.map_append,List.append_assoc]; rfl
theorem strs_snoc (cs:List Nat) (c:Nat):strz cs++[.str c]=strz (cs++[c]):=by
  unfold strz; rw [List.map_append]; rfl
theorem strs_len (cs:List Nat):(strz cs).length=cs.length:=by unfold strz; rw [List.length_map]
theorem LP.bind0 {α β:Type} {σ0 σ':Sto} {A:List Nat} {C:Bool} {m:W α} {f:α→W β} {a:α} (e:m.1 = .ok a) (q:LP σ0 (adds A m.2.1) (C || m.2.2) (f a) σ'):LP σ0 A C (bindW m f) σ':=by
  obtain ⟨r,as,c⟩:=m
  cases e
  refine ⟨q.k,?_⟩
  have:=q.s
  simp only [bindW] at this ⊢
  rw [adds_app,← Bool.or_assoc]
  exact this
theorem LP.base {α:Type} {σ0 σ σ':Sto} {A:List Nat} {C:Bool} {w:W α} (k:Keep 10 11 σ0 σ) (p:LP σ A C w σ'):LP σ0 A C w σ':=⟨k.trans p.k,p.s⟩
theorem Keep.over {i j k:Nat} {σ0 σ:Sto} {c:Cell} (h:Keep i j σ0 σ) (hk:σ0.length≤k):Keep i j σ0 (σ.set k c) :=
  ⟨by rw [List.length_set]; exact h.len,fun l hl h1 h2=>by rw [List.getElem?_set_ne (by omega)]; exact h.get l hl h1 h2⟩
theorem LS.over {A:List Nat} {C:Bool} {σ:Sto} {k:Nat} {c:Cell} (h:LS A C σ) (h1:k≠10) (h2:k≠11):LS A C (σ.set k c) :=
  ⟨by rw [List.getElem?_set_ne h1]; exact h.a,by rw [List.getElem?_set_ne h2]; exact h.c,h.ok⟩
theorem kits_cons {it r seen E}:kits (.cons it r) seen E=bindW (kit it E) fun d=>match d with
    | none=>kits r seen E
    | some (x,k)=>chk (!seen.contains x) it.spot (kits r (seen++[x]) (E++[(x,k)])):=rfl
theorem It_sz (it:It):0 < it.sz:=by cases it <;> simp [It.sz]
theorem law_itsL (n:Nat) (σ0:Sto) (i1 i2:Nat) (hi:11 < σ0.length∧σ0.length≤i1∧σ0.length≤i2∧i1≠i2):∀ (its:Its),its.All LK→∀ (seen:List Nat) (E:En) (σ:Sto) (A:List Nat) (C:Bool) (ρ:Loc),5 * its.dp + 8≤n→E.length + its.sz≤300→seen.length + its.sz≤300→Keep 10 11 σ0 σ→LS A C σ →
    σ[i1]? = some (.list (encE E))→σ[i2]? = some (.list (strz seen))→lookA 152 ρ=some (.cell i1)→lookA 206 ρ=some (.cell i2)→lookA 176 ρ=some NOTES →
    ∃ σ',(match (kits its seen E).1 with
      | .ok E' => ∃ ρ',forL (execMs (TT n) witB) (.one 139) (encI its) ρ σ=some (.next,ρ',σ')∧(∀ k,k≠139→k≠71→k≠144→lookA k ρ' = lookA k ρ)∧σ'[i1]? = some (.list (encE E'))∧E'.length≤E.length + its.sz
      | .error i=>∃ ρ',forL (execMs (TT n) witB) (.one 139) (encI its) ρ σ=some (.ret (.tup [.none,.int i]),ρ',σ'))∧LP σ0 A C (kits its seen E) σ'
  | .nil,_,seen,E,σ,A,C,ρ,hn,hz,hz2,hk,hs,g1,g2,h1,h2,h3=>⟨σ,⟨ρ,rfl,fun _ _ _ _=>rfl,g1,Nat.le_refl _⟩,.base hk (.ok hs)⟩
  | .cons it r,hx,seen,E,σ,A,C,ρ,hn,hz,hz2,hk,hs,g1,g2,h1,h2,h3=>by
    obtain ⟨j0,j1,j2,j3⟩:=hi
    simp only [Its.dp,Its.sz] at hn hz hz2
    have reck:=law_itsL n σ0 i1 i2 ⟨j0,j1,j2,j3⟩ r hx.2
    have e0:encI (.cons it r)=encT it::encI r:=rfl
    have he:EnvAt σ (.cell i1) E:=⟨by simp only [itemsL,g1],fun i e=>by cases e; exact ⟨(List.getElem?_eq_some_iff.mp g1).1,by omega,by omega⟩⟩
    have hsz:=It_sz it
    rw [kits_cons,e0,forL_one]
    generalize hg:forL (execMs (TT n) witB) (.one 139) (encI r)=g at *
    cases it with
    | odd s w =>
      refine ⟨σ,?_,.base hk (.err hs)⟩
      cases w <;> (apply Exists.intro; open_k with ([witB,F__law_within,encT,h1,h2,h3,x_ni],3); rfl)
    | cst s a =>
      simp only [It.dp,It.sz] at hn hz hz2
      have hkit:kit (.cst s a) E=bindW (kd a E) fun k=>chk (fitsK k BOOL) s (okW none):=rfl
      obtain ⟨σ1,e1,p1⟩:=hx.1 E n (.cell i1) σ A C (by omega) (by omega) he hs
      have f:=fun k=>@ev_lb n σ1 (by omega) k
      rw [hkit]
      generalize kd a E=wa at *
      cases q1:wa.1 with
      | error i =>
        rw [q1] at e1
        refine ⟨σ1,?_,.base hk (.bindE (bindW_err q1) (.bindE q1 p1))⟩
        rw [bindW_err (bindW_err q1)]
        apply Exists.intro
        open_k with ([witB,F__law_within,encT,h1,h2,h3,e1,encR,x_ni],3)
        rfl
      | ok k =>
        rw [q1] at e1
        cases q2:fitsK k BOOL with
        | false =>
          have hw:(bindW wa fun k=>chk (fitsK k BOOL) s (okW (none:Option (Nat × Kd)))).1 = .error s:=by rw [bindW_ok q1,q2]; rfl
          have hp:LP σ A C (bindW wa fun k=>chk (fitsK k BOOL) s (okW (none:Option (Nat × Kd)))) σ1:=.bind q1 p1 (by rw [q2]; exact .err p1.s)
          refine ⟨σ1,?_,.base hk (.bindE hw hp)⟩
          rw [bindW_err hw]
          apply Exists.intro
          open_k with ([witB,F__law_within,encT,h1,h2,h3,e1,encR,f,q2,x_nn,x_ni],3)
          rfl
        | true =>
          have hw:(bindW wa fun k=>chk (fitsK k BOOL) s (okW (none:Option (Nat × Kd)))).1 = .ok none:=by rw [bindW_ok q1,q2]; rfl
          have hp:LP σ A C (bindW wa fun k=>chk (fitsK k BOOL) s (okW (none:Option (Nat × Kd)))) σ1:=.bind q1 p1 (by rw [q2]; exact .ok p1.s)
          obtain ⟨σ2,c2,p2⟩:=reck seen E σ1 _ _ (putA 71 .none (putA 144 (encK k) (putA 139 (encT (.cst s a)) ρ))) (by omega) (by omega) (by omega) (hk.trans hp.k) hp.s (p1.k.at g1 (by omega) (by omega)) (p1.k.at g2 (by omega) (by omega))
            (by simp only [y_look,Nat.reduceEqDiff,↓reduceIte,h1]) (by simp only [y_look,Nat.reduceEqDiff,↓reduceIte,h2]) (by simp only [y_look,Nat.reduceEqDiff,↓reduceIte,h3])
          refine ⟨σ2,?_,.bind0 hw p2⟩
          rw [bindW_ok hw]
          have step:seqS (execMs (TT n) witB (putA 139 (encT (.cst s a)) ρ) σ) g=g (putA 71 .none (putA 144 (encK k) (putA 139 (encT (.cst s a)) ρ))) σ1:=by
            open_k with ([witB,F__law_within,encT,h1,h2,h3,e1,encR,f,q2,x_nn,x_ni],3)
          rw [step]
          dsimp only
          generalize kits r seen E=wb at *
          cases q3:wb.1 with
          | error i=>rw [q3] at c2; exact c2
          | ok E' =>
            rw [q3] at c2
            obtain ⟨ρ',e,hk2,g3,hl⟩:=c2
            have hsum:(Its.cons (It.cst s a) r).sz=max (a.sz + 1) (r.sz + 1):=rfl
            refine ⟨ρ',e,fun k n1 n2 n3=>?_,g3,by omega⟩
            rw [hk2 k n1 n2 n3,y_look,y_look,y_look,if_neg (Ne.symm n2),if_neg (Ne.symm n3),if_neg (Ne.symm n1)]
    | decl s b v any ds dom x val =>
      have hsz2:(Its.cons (It.decl s b v any ds dom x val) r).sz=max (It.decl s b v any ds dom x val).sz (r.sz + 1):=rfl
      obtain ⟨σ1,e1,p1⟩:=law_declared s b v any ds dom x val hx.1.1 hx.1.2.1 hx.1.2.2 E n (.cell i1) σ A C (by omega) (by omega) he hs
      rw [kit_decl]
      have m1:=p1.k.at g1 (by omega) (by omega)
      have m2:=p1.k.at g2 (by omega) (by omega)
      have l1:(strz seen).length < most:=by rw [strs_len]; show _ < 400; omega
      have l2:(encE E).length < most:=by rw [encE_len]; show _ < 400; omega
      have m3:(σ1.set i2 (.list (strz seen++[.str x])))[i1]? = some (.list (encE E)):=by rw [List.getElem?_set_ne (Ne.symm j3)]; exact m1
      have fl:=fun σ=>k_len (lenD (σ:=σ) any ds)
      have hin:=x_inCell (c:=x) m2
      have hc:=contains_inC x seen
      generalize hw0:declW s b v any ds dom val E=wa at *
      generalize hσ3:(σ1.set i2 (.list (strz seen++[.str x]))).set i1 (.list (encE E++[.tup [.str x,.tup [.str b.code,.bool v,.int ((if (any || ds.some)=true then 1 else 0:Nat):Int)],.bool false]]))=σ3
      have k3:Keep 10 11 σ0 σ3:=by rw [← hσ3]; exact ((hk.trans p1.k).over j2).over j1
      have s3:LS (adds A wa.2.1) (C || wa.2.2) σ3:=by rw [← hσ3]; exact (p1.s.over (by omega) (by omega)).over (by omega) (by omega)
      cases q1:wa.1 with
      | error i =>
        rw [q1] at e1
        have hw:(bindW wa fun _=>okW (some (x,(⟨b,v,any || ds.some⟩:Kd)))).1 = .error i:=bindW_err q1
        refine ⟨σ3,?_,.bindE hw (.bindE q1 ⟨k3,s3⟩)⟩
        rw [bindW_err hw]
        apply Exists.intro
        simp only [encB,encT_decl] at e1
        open_k with ([witB,F__law_within,encT_decl,h1,h2,h3,e1,encB,m2,m3,l1,l2,fl,hσ3,x_nn,x_ni],3)
        rfl
      | ok u =>
        rw [q1] at e1
        have hw:(bindW wa fun _=>okW (some (x,(⟨b,v,any || ds.some⟩:Kd)))).1 = .ok (some (x,⟨b,v,any || ds.some⟩)):=bindW_ok q1
        have hp:(bindW wa fun _=>okW (some (x,(⟨b,v,any || ds.some⟩:Kd)))).2=wa.2:=by
          obtain ⟨q,as,c⟩:=wa
          cases q1
          show (as++[],c || false)=_
          rw [List.append_nil,Bool.or_false]
        simp only [encB,encT_decl] at e1
        cases q2:inC seen x with
        | true =>
          refine ⟨σ3,?_,.bind0 hw (by rw [hp]; dsimp only; rw [hc,q2]; exact .base k3 (.err s3))⟩
          rw [bindW_ok hw]; dsimp only; rw [hc,q2]
          apply Exists.intro
          open_k with ([witB,F__law_within,encT_decl,h1,h2,h3,e1,hin,q2,m2,m3,l1,l2,fl,hσ3,x_nn,x_ni],3)
          rfl
        | false =>
          have hK:σ3[i1]? = some (.list (encE (E++[(x,(⟨b,v,any || ds.some⟩:Kd))]))):=by
            rw [← hσ3,List.getElem?_set_self (by rw [List.length_set]; exact (List.getElem?_eq_some_iff.mp m1).1),← encE_snoc]
            cases any || ds.some <;> rfl
          have hS:σ3[i2]? = some (.list (strz (seen++[x]))):=by
            rw [← hσ3,List.getElem?_set_ne j3,List.getElem?_set_self (List.getElem?_eq_some_iff.mp m2).1,strs_snoc]
          obtain ⟨σ2,c2,p2⟩:=reck (seen++[x]) (E++[(x,⟨b,v,any || ds.some⟩)]) σ3 _ _ (putA 71 .none (putA 139 (encT (.decl s b v any ds dom x val)) ρ)) (by omega) (by rw [List.length_append]; simp only [List.length_cons,List.length_nil]; omega) (by rw [List.length_append]; simp only [List.length_cons,List.length_nil]; omega) k3 s3 hK hS
            (by simp only [y_look,Nat.reduceEqDiff,↓reduceIte,h1]) (by simp only [y_look,Nat.reduceEqDiff,↓reduceIte,h2]) (by simp only [y_look,Nat.reduceEqDiff,↓reduceIte,h3])
          refine ⟨σ2,?_,.bind0 hw (by rw [hp]; dsimp only; rw [hc,q2]; exact p2)⟩
          rw [bindW_ok hw]; dsimp only; rw [hc,q2,Bool.not_false,chk_t]
          have step:seqS (execMs (TT n) witB (putA 139 (encT (.decl s b v any ds dom x val)) ρ) σ) g=g (putA 71 .none (putA 139 (encT (.decl s b v any ds dom x val)) ρ)) σ3:=by
            open_k with ([witB,F__law_within,encT_decl,h1,h2,h3,e1,hin,q2,m2,m3,l1,l2,fl,hσ3,x_nn,x_ni],3)
          rw [step]
          generalize kits r (seen++[x]) (E++[(x,⟨b,v,any || ds.some⟩)])=wb at *
          cases q3:wb.1 with
          | error i=>rw [q3] at c2; exact c2
          | ok E' =>
            rw [q3] at c2
            obtain ⟨ρ',e,hk2,g3,hl⟩:=c2
            rw [List.length_append] at hl
            simp only [List.length_cons,List.length_nil] at hl
            refine ⟨ρ',e,fun k n1 n2 n3=>?_,g3,by omega⟩
            rw [hk2 k n1 n2 n3,y_look,y_look,if_neg (Ne.symm n2),if_neg (Ne.symm n1)]
theorem kd_lt {s its body E}:kd (.lt s its body) E=bindW (kits its [] E) fun E' => kd body E':=rfl
theorem encI_len:∀ its:Its,(encI its).length≤its.sz
  | .nil=>Nat.le_refl _
  | .cons x r=>by
    have:=encI_len r
    show (encI r).length + 1≤max x.sz (r.sz + 1)
    omega
theorem LS.app {A:List Nat} {C:Bool} {σ l:Sto} (h:LS A C σ):LS A C (σ++l) :=
  ⟨by rw [List.getElem?_append_left (List.getElem?_eq_some_iff.mp h.a).1]; exact h.a,by rw [List.getElem?_append_left (List.getElem?_eq_some_iff.mp h.c).1]; exact h.c,h.ok⟩
theorem law_lt (s:Int) (its:Its) (body:Nd) (hi:its.All LK) (hb:LK body):LK (.lt s its body):=fun E n env σ A C hn hz he hs=>by
  simp only [Nd.dp,Nd.sz] at hn hz
  have hlen:=(List.getElem?_eq_some_iff.mp hs.c).1
  have ha2:(σ++[Cell.list (encE E)]++[Cell.list []])[σ.length]? = some (.list (encE E)):=by
    rw [List.getElem?_append_left (by simp),List.getElem?_append_right (Nat.le_refl _)]; simp
  have hb2:(σ++[Cell.list (encE E)]++[Cell.list []])[(σ++[Cell.list (encE E)]).length]? = some (.list (strz [])):=by
    rw [List.getElem?_append_right (Nat.le_refl _)]; simp; rfl
  have hk:Keep 10 11 σ (σ++[Cell.list (encE E)]++[Cell.list []]):=Keep.app.trans Keep.app
  have hs2:LS A C (σ++[Cell.list (encE E)]++[Cell.list []]):=hs.app.app
  obtain ⟨σ1,c1,p1⟩:=law_itsL (n - 1 - 1) σ σ.length (σ++[Cell.list (encE E)]).length ⟨hlen,Nat.le_refl _,by simp,by simp⟩ its hi [] E _ A C
    (putA 206 (.cell (σ++[Cell.list (encE E)]).length) (putA 152 (.cell σ.length) [(172,.tup [.str 156,.int s,.tup (encI its),enc body]),(101,env),(176,NOTES)])) (by omega) (by omega) (by simp only [List.length_nil]; omega) hk hs2 ha2 hb2 rfl rfl rfl
  have hl:(encI its).length < most:=Nat.lt_of_le_of_lt (encI_len its) (show _ < 400 by omega)
  have hx:(encE E).length < most:=by rw [encE_len]; show _ < 400; omega
  have hit:=he.it
  rw [kd_lt,CM_eq (by omega) rfl rfl]
  generalize kits its [] E=wa at *
  cases q1:wa.1 with
  | error i =>
    rw [q1] at c1
    obtain ⟨ρ',e⟩:=c1
    refine ⟨σ1,?_,.bindE q1 p1⟩
    rw [bindW_err q1]
    have key:CM (n - 1) 12 [.tup [.str 156,.int s,.tup (encI its),enc body],env,NOTES] σ=some (.val (.tup [.none,.int i]),σ1):=by
      rw [CM_eq (by omega) rfl rfl]
      simp only [witB,F__law_within] at e
      open_k with ([F__law_within,hit,hx,sFor_tup hl,e],3)
    open_k with ([F__law_kind,enc,key,encR],3)
  | ok E' =>
    rw [q1] at c1
    obtain ⟨ρ',e,hk3,g1,hl3⟩:=c1
    have hE:EnvAt σ1 (.cell σ.length) E':=⟨by simp only [itemsL,g1],fun i ei=>by cases ei; exact ⟨(List.getElem?_eq_some_iff.mp g1).1,by omega,by omega⟩⟩
    obtain ⟨σ2,e2,p2⟩:=hb E' (n - 1 - 1) (.cell σ.length) σ1 _ _ (by omega) (by omega) hE p1.s
    refine ⟨σ2,?_,.bind q1 p1 p2⟩
    rw [bindW_ok q1]
    have l172:lookA 172 ρ' = some (.tup [.str 156,.int s,.tup (encI its),enc body]):=hk3 172 (by decide) (by decide) (by decide)
    have l152:lookA 152 ρ' = some (.cell σ.length):=hk3 152 (by decide) (by decide) (by decide)
    have l176:lookA 176 ρ' = some NOTES:=hk3 176 (by decide) (by decide) (by decide)
    generalize kd body E' = wb at *
    have key:CM (n - 1) 12 [.tup [.str 156,.int s,.tup (encI its),enc body],env,NOTES] σ=some (.val (encR wb.1),σ2):=by
      rw [CM_eq (by omega) rfl rfl]
      simp only [witB,F__law_within] at e
      open_k with ([F__law_within,hit,hx,sFor_tup hl,e,l172,l152,l176,e2],3)
    open_k with ([F__law_kind,enc,key],3)
theorem law_all:∀ nd,LK nd:=Nd.ind law_lit law_name law_rng law_arr law_idx law_call law_bin law_lt
def makerD:List (Nat × LV):=[(171,.obj 0 2),(193,.cell 6),(64,.cell 7),(67,.cell 8),(137,.bool false),(78,.cell 9)]
def namesD:List (Nat × LV):=[(204,.cell 4),(63,.cell 5)]
def predD:List (Nat × LV):=[(185,.tup [encK INT])]
def dE (E:En):List (Nat × LV):=E.map fun e=>(e.1,encK e.2)
abbrev Scs:=List (Nat × En)
def flatS (sc:Scs):En:=sc.flatMap (·.2)
def refs (sc:Scs):List LV:=.cell 3::sc.map fun p => .cell p.1
structure MSt (A:List Nat) (C:Bool) (sc:Scs) (σ:Sto):Prop where
  m1:σ[1]? = some (.dict makerD)
  m2:σ[2]? = some (.dict namesD)
  m3:σ[3]? = some (.dict (dE worldL))
  m4:σ[4]? = some (.list (refs sc))
  m5:σ[5]? = some (.dict (dA A))
  m6:σ[6]? = some (.dict predD)
  m9:σ[9]? = some (.dict (dC C))
  ok:AOk A
  scp:∀ p∈sc,σ[p.1]? = some (.dict (dE p.2))∧11 < p.1∧(p.2.map (·.1)).Nodup
  ap:(sc.map (·.1)).Nodup
  big:11 < σ.length
theorem lastA_app (x:Nat):∀ a b:En,lastA x (a++b)=(lastA x b).or (lastA x a)
  | [],b=>by show lastA x b=(lastA x b).or none; cases lastA x b <;> rfl
  | (y,k)::r,b=>by
    show (lastA x (r++b)).or _=(lastA x b).or ((lastA x r).or _)
    rw [lastA_app x r b]
    cases lastA x b <;> rfl
theorem look_dE {x:Nat}:∀ {E:En},(E.map (·.1)).Nodup→lookA x (dE E)=(lastA x E).map encK
  | [],_=>rfl
  | (y,k)::r,h=>by
    rw [List.map_cons,List.nodup_cons] at h
    have ih:=look_dE (x:=x) h.2
    show (if y=x then some (encK k) else lookA x (dE r))=((lastA x r).or (if y=x then some k else none)).map encK
    by_cases e:y=x
    · subst e
      rw [if_pos rfl,if_pos rfl]
      cases q:lastA y r with
      | none=>rfl
      | some k' => exact absurd (lastA_mem q) h.1
    · rw [if_neg e,if_neg e,ih]
      cases lastA x r <;> rfl
theorem world_nodup:(worldL.map (·.1)).Nodup:=by decide
theorem put_dE {x:Nat} {k:Kd}:∀ {E:En},lastA x E=none→putA x (encK k) (dE E)=dE (E++[(x,k)])
  | [],_=>rfl
  | (y,u)::r,h=>by
    have h1:lastA x r=none:=by
      unfold lastA at h
      cases q:lastA x r with
      | none=>rfl
      | some k=>rw [q] at h; cases h
    have h2:y≠x:=fun e=>by
      unfold lastA at h
      rw [h1,if_pos e] at h; cases h
    show (if y=x then _ else (y,encK u)::putA x (encK k) (dE r))=_
    rw [if_neg h2,put_dE h1]
    rfl
theorem dE_len (E:En):(dE E).length=E.length:=by unfold dE; rw [List.length_map]
theorem refs_len (sc:Scs):(refs sc).length=sc.length + 1:=by unfold refs; simp
theorem in_cell {σ:Sto} {c x:Nat} {E:En} (h:σ[c]? = some (.dict (dE E))) (hn:(E.map (·.1)).Nodup):isinL σ (.str x) (.cell c)=some (lastA x E).isSome:=by
  unfold isinL
  simp only [h]
  rw [look_dE hn]
  cases lastA x E <;> rfl
theorem sub_cell {σ:Sto} {c x:Nat} {E:En} {k:Kd} (h:σ[c]? = some (.dict (dE E))) (hn:(E.map (·.1)).Nodup) (hk:lastA x E=some k):subL σ (.cell c) (.str x)=some (encK k):=by
  unfold subL
  simp only [h]
  rw [look_dE hn,hk]; rfl
def downL:Nat→List LV
  | 0=>[.int 0]
  | p + 1 => .int ((p + 1:Nat):Int)::downL p
theorem rangeL_succ (a c:Int) (n:Nat):rangeL a c (n + 1) = .int a::rangeL (a + c) c n:=by
  unfold rangeL
  rw [List.range_succ_eq_map,List.map_cons,List.map_map]
  congr 1
  · congr 1
    rw [Int.natCast_zero,Int.zero_mul,Int.add_zero]
  · apply List.map_congr_left
    intro k _
    show LV.int (a + ((k + 1:Nat):Int) * c)=LV.int (a + c + (k:Int) * c)
    congr 1
    rw [Int.natCast_add,Int.add_mul]
    omega
theorem range_downL:∀ p:Nat,rangeL (p:Int) (-1) (p + 1)=downL p
  | 0=>rfl
  | p + 1=>by
    rw [rangeL_succ]
    show _::rangeL (((p + 1:Nat):Int) + -1) (-1) (p + 1)=LV.int ((p + 1:Nat):Int)::downL p
    rw [show ((p + 1:Nat):Int) + -1=(p:Int) from by omega,range_downL p]
section
variable {A:List Nat} {C:Bool} {sc:Scs} {σ:Sto}
theorem MSt.len (h:MSt A C sc σ):9 < σ.length:=by have:=h.big; omega
theorem MSt.setAsk (h:MSt A C sc σ) {x:Nat} (hx:x∈worldN):MSt (addA A x) C sc (σ.set 5 (.dict (dA (addA A x)))):=by
  have hl:=h.len
  refine ⟨?_,?_,?_,?_,?_,?_,?_,h.ok.add hx,fun p hp=>?_,h.ap,by rw [List.length_set]; exact h.big⟩
  · rw [List.getElem?_set_ne (by decide)]; exact h.m1
  · rw [List.getElem?_set_ne (by decide)]; exact h.m2
  · rw [List.getElem?_set_ne (by decide)]; exact h.m3
  · rw [List.getElem?_set_ne (by decide)]; exact h.m4
  · rw [List.getElem?_set_self (by omega)]
  · rw [List.getElem?_set_ne (by decide)]; exact h.m6
  · rw [List.getElem?_set_ne (by decide)]; exact h.m9
  · obtain ⟨a,b,c⟩:=h.scp p hp
    exact ⟨by rw [List.getElem?_set_ne (by omega)]; exact a,b,c⟩
theorem MSt.setCalled (h:MSt A C sc σ):MSt A true sc (σ.set 9 (.dict (dC true))):=by
  have hl:=h.len
  refine ⟨?_,?_,?_,?_,?_,?_,?_,h.ok,fun p hp=>?_,h.ap,by rw [List.length_set]; exact h.big⟩
  · rw [List.getElem?_set_ne (by decide)]; exact h.m1
  · rw [List.getElem?_set_ne (by decide)]; exact h.m2
  · rw [List.getElem?_set_ne (by decide)]; exact h.m3
  · rw [List.getElem?_set_ne (by decide)]; exact h.m4
  · rw [List.getElem?_set_ne (by decide)]; exact h.m5
  · rw [List.getElem?_set_ne (by decide)]; exact h.m6
  · rw [List.getElem?_set_self (by omega)]
  · obtain ⟨a,b,c⟩:=h.scp p hp
    exact ⟨by rw [List.getElem?_set_ne (by omega)]; exact a,b,c⟩
structure Kp (σ σ':Sto):Prop where
  len:σ.length≤σ'.length
  get:∀ k,k < σ.length→k≠4→k≠5→k≠9→σ'[k]? = σ[k]?
theorem Keep.kp {σ σ':Sto} (h:Keep 5 9 σ σ'):Kp σ σ':=⟨h.len,fun k a _ b c=>h.get k a b c⟩
theorem Kp.trans {σ σ' σ'':Sto} (a:Kp σ σ') (b:Kp σ' σ''):Kp σ σ'' :=
  ⟨Nat.le_trans a.len b.len,fun k h h1 h2 h3=>(b.get k (Nat.lt_of_lt_of_le h a.len) h1 h2 h3).trans (a.get k h h1 h2 h3)⟩
theorem asked_attr {n:Nat} (h:MSt A C sc σ):kAttr (TT n) 63 (.obj 0 2) σ=some (.val (.cell 5),σ):=by
  unfold kAttr
  simp only [TT_fld,h.m2,fldIx,namesD,lookA,Nat.reduceEqDiff,↓reduceIte,Option.bind_some,noAny,lift_some]
theorem scopes_attr {n:Nat} (h:MSt A C sc σ):kAttr (TT n) 204 (.obj 0 2) σ=some (.val (.cell 4),σ):=by
  unfold kAttr
  simp only [TT_fld,h.m2,fldIx,namesD,lookA,↓reduceIte,Option.bind_some,noAny,lift_some]
theorem scopes_attrQ {n:Nat} (h:MSt A C sc σ):kAttr (TQ n) 204 (.obj 0 2) σ=some (.val (.cell 4),σ):=by
  unfold kAttr
  simp only [TQ_fld,h.m2,fldIx,namesD,lookA,↓reduceIte,Option.bind_some,noAny,lift_some]
theorem ev_push {n:Nat} (hn:0 < n) (h:MSt A C sc σ) (hl:sc.length≤200) :
    ∃ σ',CM n 20 [.obj 0 2] σ=some (.val .none,σ')∧MSt A C (sc++[(σ.length,[])]) σ' ∧ Kp σ σ' ∧ σ.length < σ'.length:=by
  have hlen:=h.len
  have m4':(σ++[Cell.dict []])[4]? = some (.list (refs sc)):=by rw [List.getElem?_append_left (by omega)]; exact h.m4
  have hr:(refs sc).length < most:=by rw [refs_len]; show _ < 400; omega
  have hbig:=h.big
  refine ⟨(σ++[Cell.dict []]).set 4 (Cell.list (refs sc++[LV.cell σ.length])),?_,?_,⟨by simp,fun k hk h4 _ _=>?_⟩,by simp⟩
  · rw [CM_eq hn rfl rfl]
    open_k with ([F_Names_push,scopes_attr h,h.m4,m4',hr,List.zip_nil_left],3)
  · have g:∀ k c,k≠4→σ[k]? = some c→((σ++[Cell.dict []]).set 4 (.list (refs sc++[.cell σ.length])))[k]? = some c:=fun k c hk hc=>by
      rw [List.getElem?_set_ne (Ne.symm hk),List.getElem?_append_left (List.getElem?_eq_some_iff.mp hc).1]; exact hc
    refine ⟨g _ _ (by decide) h.m1,g _ _ (by decide) h.m2,g _ _ (by decide) h.m3,?_,g _ _ (by decide) h.m5,g _ _ (by decide) h.m6,g _ _ (by decide) h.m9,h.ok,fun p hp=>?_,?_,by simp; omega⟩
    · rw [List.getElem?_set_self (by simp; omega)]
      unfold refs
      rw [List.map_append]; rfl
    · rcases List.mem_append.mp hp with hp | hp
      · obtain ⟨a,b,c⟩:=h.scp p hp
        exact ⟨g _ _ (by omega) a,b,c⟩
      · simp at hp; subst hp
        refine ⟨?_,?_,List.nodup_nil⟩
        · rw [List.getElem?_set_ne (by omega),List.getElem?_append_right (Nat.le_refl _)]; simp; rfl
        · exact h.big
    · rw [List.map_append,List.nodup_append]
      refine ⟨h.ap,by simp,fun a ha b hb e=>?_⟩
      simp at hb; subst hb
      obtain ⟨p,hp,rfl⟩:=List.mem_map.mp ha
      have:=(List.getElem?_eq_some_iff.mp (h.scp p hp).1).1
      omega
  · rw [List.getElem?_set_ne (Ne.symm h4),List.getElem?_append_left hk]
theorem refs_snoc (sc:Scs) (p:Nat × En):refs (sc++[p])=refs sc++[.cell p.1]:=by
  unfold refs; rw [List.map_append]; rfl
theorem MSt.pop {p:Nat × En} (h:MSt A C (sc++[p]) σ):MSt A C sc (σ.set 4 (.list (refs sc))):=by
  have hlen:=h.len
  have g:∀ k c,k≠4→σ[k]? = some c→(σ.set 4 (.list (refs sc)))[k]? = some c:=fun k c hk hc=>by
    rw [List.getElem?_set_ne (Ne.symm hk)]; exact hc
  refine ⟨g _ _ (by decide) h.m1,g _ _ (by decide) h.m2,g _ _ (by decide) h.m3,by rw [List.getElem?_set_self (by omega)],g _ _ (by decide) h.m5,g _ _ (by decide) h.m6,g _ _ (by decide) h.m9,h.ok,fun q hq=>?_,?_,by rw [List.length_set]; exact h.big⟩
  · obtain ⟨a,b,c⟩:=h.scp q (List.mem_append_left _ hq)
    exact ⟨g _ _ (by omega) a,b,c⟩
  · have:=h.ap
    rw [List.map_append] at this
    exact (List.nodup_append.mp this).1
theorem ev_popQ {n:Nat} (hn:0 < n) {p:Nat × En} (h:MSt A C (sc++[p]) σ) (hl:sc.length≤200):CQ n 21 [.obj 0 2] σ=some (.val .none,σ.set 4 (.list (refs sc))):=by
  have m4:=h.m4
  rw [refs_snoc] at m4
  have hr:(refs sc++[LV.cell p.1]).length < most:=by rw [List.length_append,refs_len]; show _ + 1 < 400; omega
  rw [CQ_eq hn rfl rfl]
  open_k with ([F_Names_pop,scopes_attrQ h,m4,hr,List.getLast?_append,List.getLast?_singleton,Option.some_or,List.dropLast_concat],3)
theorem last_none {x:Nat}:∀ {E:En},lastA x E=none→x∉E.map (·.1)
  | [],_,hx=>by cases hx
  | (y,u)::r,h,hx=>by
    unfold lastA at h
    cases q:lastA x r with
    | some k=>rw [q] at h; cases h
    | none =>
      rw [q] at h
      rcases List.mem_cons.mp hx with e | hx
      · dsimp only at e; rw [if_pos e.symm] at h; cases h
      · exact last_none q hx
theorem MSt.put {c:Nat} {S:En} {x:Nat} {k:Kd} (h:MSt A C (sc++[(c,S)]) σ) (hx:lastA x S=none):MSt A C (sc++[(c,S++[(x,k)])]) (σ.set c (.dict (dE (S++[(x,k)])))):=by
  obtain ⟨s1,s2,s3⟩:=h.scp (c,S) (by simp)
  dsimp only at s1 s2 s3
  have g:∀ j c',j≠c→σ[j]? = some c' → (σ.set c (.dict (dE (S++[(x,k)]))))[j]? = some c':=fun j c' hk hc=>by
    rw [List.getElem?_set_ne (Ne.symm hk)]; exact hc
  have hap:=h.ap
  rw [List.map_append,List.nodup_append] at hap
  refine ⟨g _ _ (by omega) h.m1,g _ _ (by omega) h.m2,g _ _ (by omega) h.m3,?_,g _ _ (by omega) h.m5,g _ _ (by omega) h.m6,g _ _ (by omega) h.m9,h.ok,fun q hq=>?_,?_,by rw [List.length_set]; exact h.big⟩
  · have:=g _ _ (by omega) h.m4
    rw [this,refs_snoc,refs_snoc]
  · rcases List.mem_append.mp hq with hq | hq
    · obtain ⟨a1,a2,a3⟩:=h.scp q (List.mem_append_left _ hq)
      refine ⟨g _ _ (fun e=>?_) a1,a2,a3⟩
      exact hap.2.2 q.1 (List.mem_map_of_mem hq) c (by simp) e
    · simp at hq; subst hq
      refine ⟨by rw [List.getElem?_set_self (List.getElem?_eq_some_iff.mp s1).1],s2,?_⟩
      show (S++[(x,k)]).map (·.1) |>.Nodup
      rw [List.map_append,List.nodup_append]
      refine ⟨s3,by simp,fun a ha b hb e=>?_⟩
      simp at hb; subst hb; subst e
      exact last_none hx ha
  · have:=h.ap
    rw [List.map_append] at this ⊢
    exact this
theorem ev_put {n:Nat} (hn:0 < n) {c:Nat} {S:En} {x:Nat} {k:Kd} {s:Int} (h:MSt A C (sc++[(c,S)]) σ) (hl:S.length≤300) :
    CM n 22 [.obj 0 2,.str x,encK k,.int s] σ=if (lastA x S).isSome then some (.exc s,σ) else some (.val .none,σ.set c (.dict (dE (S++[(x,k)])))):=by
  obtain ⟨s1,s2,s3⟩:=h.scp (c,S) (by simp)
  dsimp only at s1 s2 s3
  have m4:=h.m4
  rw [refs_snoc] at m4
  have hsub:=x_subC m4
  have hin:=in_cell (x:=x) s1 s3
  have hl2:(dE S).length < most:=by rw [dE_len]; show _ < 400; omega
  rw [CM_eq hn rfl rfl]
  cases q:lastA x S with
  | some k' =>
    rw [q] at hin
    simp only [Option.isSome_some] at hin
    open_k with ([F_Names_put,scopes_attr h,hsub,hin,Option.isSome_some],3)
    rfl
  | none =>
    rw [q] at hin
    simp only [Option.isSome_none] at hin
    open_k with ([F_Names_put,scopes_attr h,hsub,hin,s1,hl2,put_dE q,Option.isSome_none],3)
def outR {α:Type} (f:α→LV) (r:Except Int α) (σ:Sto):R LV:=match r with
  | .ok a=>some (.val (f a),σ)
  | .error i=>some (.exc i,σ)
structure MP {α:Type} (σ:Sto) (A:List Nat) (C:Bool) (sc:Scs) (w:W α) (σ':Sto):Prop where
  k:Keep 5 9 σ σ'
  s:MSt (adds A w.2.1) (C || w.2.2) sc σ'
def kofB:MSs:=match F_Names_kind_of.body with
  | .cons (.forS _ _ b) _=>b
  | _ => .nil
def kofW (x:Nat) (s:Int) (E:En):W Kd:=match lastA x E with
  | some k=>okW k
  | none=>match lastA x worldL with
    | some k=>(.ok k,[x],false)
    | none=>errW s
theorem refs_get (sc:Scs) {p:Nat} {q:Nat × En} (h:sc[p]? = some q):(refs sc)[p + 1]? = some (.cell q.1):=by
  unfold refs
  rw [List.getElem?_cons_succ,List.getElem?_map,h]; rfl
theorem flat_take {p:Nat} {q:Nat × En} (h:sc[p]? = some q):flatS (sc.take (p + 1))=flatS (sc.take p)++q.2:=by
  unfold flatS
  rw [List.take_add_one,h,List.flatMap_append]
  show _++[q].flatMap (fun x=>x.2)=_
  simp
theorem small_nat {n:Nat} (h:n≤1000):small (n:Int)=true:=by
  unfold small
  simp only [Bool.and_eq_true,decide_eq_true_eq]
  omega
theorem ev_kofL {n:Nat} (h:MSt A C sc σ) (hl:sc.length≤200) (x:Nat) (s:Int):∀ p,p≤sc.length→∀ ρ:Loc,lookA 207 ρ=some (.obj 0 2)→lookA 170 ρ=some (.str x) →
    (match lastA x (flatS (sc.take p)) with
      | some k=>∃ ρ',forL (execMs (TT n) kofB) (.one 188) (downL p) ρ σ=some (.ret (encK k),ρ',σ)
      | none=>match lastA x worldL with
        | some k=>∃ ρ',forL (execMs (TT n) kofB) (.one 188) (downL p) ρ σ=some (.ret (encK k),ρ',σ.set 5 (.dict (dA (addA A x))))
        | none=>∃ ρ',forL (execMs (TT n) kofB) (.one 188) (downL p) ρ σ=some (.next,ρ',σ)∧∀ k,k≠188→lookA k ρ' = lookA k ρ)
  | 0,hp,ρ,h1,h2=>by
    rw [List.take_zero]
    show (match lastA x worldL with
        | some k=>∃ ρ',forL (execMs (TT n) kofB) (.one 188) (downL 0) ρ σ=some (.ret (encK k),ρ',σ.set 5 (.dict (dA (addA A x))))
        | none=>∃ ρ',forL (execMs (TT n) kofB) (.one 188) (downL 0) ρ σ=some (.next,ρ',σ)∧∀ k,k≠188→lookA k ρ' = lookA k ρ)
    have hin:=in_cell (x:=x) h.m3 world_nodup
    have hsub:subL σ (.cell 4) (.int 0)=some (.cell 3):=x_subN (k:=0) h.m4 (by rw [refs_len]; omega) (by decide)
    have hlA:(dA A).length < most:=by rw [dA_len]; have:=h.ok.len; show _ < 400; omega
    have hlen:=h.big
    cases q:lastA x worldL with
    | some k =>
      rw [q] at hin
      simp only [Option.isSome_some] at hin
      have hx:x∈worldN:=lastA_mem q
      have h':=h.setAsk hx
      have hsub':subL (σ.set 5 (.dict (dA (addA A x)))) (.cell 4) (.int 0)=some (.cell 3):=x_subN (k:=0) h'.m4 (by rw [refs_len]; omega) (by decide)
      have hget:=sub_cell (x:=x) h'.m3 world_nodup q
      apply Exists.intro
      unfold downL
      open_k with ([kofB,F_Names_kind_of,h1,h2,scopes_attr h,asked_attr h,scopes_attr h',hsub,hsub',hin,h.m5,hlA,putA_dA,hget],3)
      rfl
    | none =>
      rw [q] at hin
      simp only [Option.isSome_none] at hin
      refine ⟨putA 188 (.int 0) ρ,?_,fun k hk=>by rw [y_look,if_neg (Ne.symm hk)]⟩
      unfold downL
      open_k with ([kofB,F_Names_kind_of,h1,h2,scopes_attr h,asked_attr h,hsub,hin],3)
  | p + 1,hp,ρ,h1,h2=>by
    have hpl:p < sc.length:=hp
    have hq:sc[p]? = some sc[p]:=List.getElem?_eq_getElem hpl
    obtain ⟨s1,s2,s3⟩:=h.scp sc[p] (List.getElem_mem hpl)
    have hin:=in_cell (x:=x) s1 s3
    have hsub:subL σ (.cell 4) (.int ((p + 1:Nat):Int))=some (.cell sc[p].1):=by rw [x_subN (k:=p + 1) h.m4 (by rw [refs_len]; omega) (by omega),refs_get sc hq]
    have hz:(((p + 1:Nat):Int) == 0)=false:=by rw [beq_eq_false_iff_ne]; omega
    rw [flat_take hq,lastA_app]
    cases q:lastA x sc[p].2 with
    | some k =>
      rw [q] at hin
      simp only [Option.isSome_some] at hin
      have hget:=sub_cell (x:=x) s1 s3 q
      show ∃ ρ',_
      apply Exists.intro
      unfold downL
      open_k with ([kofB,F_Names_kind_of,h1,h2,scopes_attr h,hsub,hin,hz,hget],3)
      rfl
    | none =>
      rw [q] at hin
      simp only [Option.isSome_none] at hin
      have ih:=ev_kofL (n:=n) h hl x s p (by omega) (putA 188 (.int ((p + 1:Nat):Int)) ρ) (by rw [y_look,if_neg (by decide)]; exact h1) (by rw [y_look,if_neg (by decide)]; exact h2)
      have step:forL (execMs (TT n) kofB) (.one 188) (downL (p + 1)) ρ σ=forL (execMs (TT n) kofB) (.one 188) (downL p) (putA 188 (.int ((p + 1:Nat):Int)) ρ) σ:=by
        show forL (execMs (TT n) kofB) (.one 188) (.int ((p + 1:Nat):Int)::downL p) ρ σ=_
        rw [forL_one]
        generalize forL (execMs (TT n) kofB) (.one 188) (downL p)=g
        open_k with ([kofB,F_Names_kind_of,h1,h2,scopes_attr h,hsub,hin],3)
      rw [step,Option.none_or]
      cases q1:lastA x (flatS (sc.take p)) with
      | some k=>rw [q1] at ih; exact ih
      | none =>
        rw [q1] at ih
        cases q2:lastA x worldL with
        | some k=>rw [q2] at ih; exact ih
        | none =>
          rw [q2] at ih
          obtain ⟨ρ',e,hk⟩:=ih
          exact ⟨ρ',e,fun k hk2=>by rw [hk k hk2,y_look,if_neg (Ne.symm hk2)]⟩
theorem ev_kof {n:Nat} (hn:0 < n) (h:MSt A C sc σ) (hl:sc.length≤200) (x:Nat) (s:Int) :
    ∃ σ',CM n 23 [.obj 0 2,.str x,.int s] σ=outR encK (kofW x s (flatS sc)).1 σ' ∧ MP σ A C sc (kofW x s (flatS sc)) σ':=by
  have key:=ev_kofL (n:=n - 1) h hl x s sc.length (Nat.le_refl _) [(207,.obj 0 2),(170,.str x),(217,.int s)] rfl rfl
  rw [List.take_length] at key
  have hlen:lenL σ (.cell 4)=some (sc.length + 1):=by
    unfold lenL
    simp only [h.m4,refs_len]
    rw [if_pos (by show _ < 400; omega)]
  have fl:=k_len hlen
  have hr:kRange3c (.int (((sc.length + 1:Nat):Int) - 1)) (.int (-1)) (.int (-1)) σ=some (.val (.range (sc.length:Int) (-1) (sc.length + 1)),σ):=by
    have e:((sc.length + 1:Nat):Int) - 1=(sc.length:Int):=by omega
    rw [e]
    have e2:((sc.length:Int) + 1).toNat=sc.length + 1:=by omega
    simp only [kRange3c,small_nat (show sc.length≤1000 by omega),e2,if_true]
  have hb:binL .sub (.int ((sc.length + 1:Nat):Int)) (.int 1)=some (.int (((sc.length + 1:Nat):Int) - 1)):=by
    have h1:small 1=true:=by decide
    simp only [binL,small_nat (show sc.length + 1≤1000 by omega),h1,Bool.and_self,if_true]
  have hfor:∀ ρ σ,sFor (TT (n - 1)) (.one 188) kofB ρ (.range (sc.length:Int) (-1) (sc.length + 1)) σ=forL (execMs (TT (n - 1)) kofB) (.one 188) (downL sc.length) ρ σ:=fun ρ σ=>by
    rw [sFor_range (by show _ < 400; omega),range_downL]
  simp only [kofB,F_Names_kind_of] at key hfor
  rw [CM_eq hn rfl rfl]
  unfold kofW
  cases q1:lastA x (flatS sc) with
  | some k =>
    rw [q1] at key
    obtain ⟨ρ',e⟩:=key
    refine ⟨σ,?_,.refl,by simpa [okW,adds] using h⟩
    have hr2:∀ T c ρ,kRange3b T c ρ=kRange3b T c ρ:=fun _ _ _=>rfl
    open_k with ([F_Names_kind_of,scopes_attr h,fl,hb,hr,hfor,e,okW,outR],4)
  | none =>
    rw [q1] at key
    dsimp only
    cases q2:lastA x worldL with
    | some k =>
      rw [q2] at key
      obtain ⟨ρ',e⟩:=key
      refine ⟨σ.set 5 (.dict (dA (addA A x))),?_,.set1,by simpa [adds] using h.setAsk (lastA_mem q2)⟩
      open_k with ([F_Names_kind_of,scopes_attr h,fl,hb,hr,hfor,e,outR],4)
    | none =>
      rw [q2] at key
      obtain ⟨ρ',e,hk⟩:=key
      refine ⟨σ,?_,.refl,by simpa [errW,adds] using h⟩
      have l1:lookA 170 ρ' = some (.str x):=hk 170 (by decide)
      have l2:lookA 217 ρ' = some (.int s):=hk 217 (by decide)
      open_k with ([F_Names_kind_of,scopes_attr h,fl,hb,hr,hfor,e,l1,l2,errW,outR],5)
end
section
variable {n:Nat} {es:MEs} {ρ:Loc} {σ:Sto}
theorem mk_144 (h:σ[1]? = some (.dict makerD)):kMeth (TT n) 144 es ρ (.obj 1 1) σ=bindR (evalMs (TT n) es ρ σ) (kCallO (TT n) 25 (.obj 1 1)):=by
  unfold kMeth; simp only [h]; rfl
theorem mk_150 (h:σ[1]? = some (.dict makerD)):kMeth (TT n) 150 es ρ (.obj 1 1) σ=bindR (evalMs (TT n) es ρ σ) (kCallO (TT n) 26 (.obj 1 1)):=by
  unfold kMeth; simp only [h]; rfl
theorem mk_81 (h:σ[1]? = some (.dict makerD)):kMeth (TT n) 81 es ρ (.obj 1 1) σ=bindR (evalMs (TT n) es ρ σ) (kCallO (TT n) 27 (.obj 1 1)):=by
  unfold kMeth; simp only [h]; rfl
theorem mk_142 (h:σ[1]? = some (.dict makerD)):kMeth (TT n) 142 es ρ (.obj 1 1) σ=bindR (evalMs (TT n) es ρ σ) (kCallO (TT n) 28 (.obj 1 1)):=by
  unfold kMeth; simp only [h]; rfl
theorem mk_86 (h:σ[1]? = some (.dict makerD)):kMeth (TT n) 86 es ρ (.obj 1 1) σ=bindR (evalMs (TT n) es ρ σ) (kCallO (TT n) 29 (.obj 1 1)):=by
  unfold kMeth; simp only [h]; rfl
theorem mk_127 (h:σ[1]? = some (.dict makerD)):kMeth (TT n) 127 es ρ (.obj 1 1) σ=bindR (evalMs (TT n) es ρ σ) (kCallO (TT n) 30 (.obj 1 1)):=by
  unfold kMeth; simp only [h]; rfl
theorem mk_179 (h:σ[1]? = some (.dict makerD)):kMeth (TT n) 179 es ρ (.obj 1 1) σ=bindR (evalMs (TT n) es ρ σ) (kCallO (TT n) 31 (.obj 1 1)):=by
  unfold kMeth; simp only [h]; rfl
theorem mk_112 (h:σ[1]? = some (.dict makerD)):kMeth (TT n) 112 es ρ (.obj 1 1) σ=bindR (evalMs (TT n) es ρ σ) (kCallO (TT n) 32 (.obj 1 1)):=by
  unfold kMeth; simp only [h]; rfl
theorem mk_242 (h:σ[1]? = some (.dict makerD)):kMeth (TT n) 242 es ρ (.obj 1 1) σ=bindR (evalMs (TT n) es ρ σ) (kCallO (TT n) 33 (.obj 1 1)):=by
  unfold kMeth; simp only [h]; rfl
theorem mk_77 (h:σ[1]? = some (.dict makerD)):kMeth (TT n) 77 es ρ (.obj 1 1) σ=bindR (evalMs (TT n) es ρ σ) (kCallO (TT n) 34 (.obj 1 1)):=by
  unfold kMeth; simp only [h]; rfl
theorem mk_238 (h:σ[1]? = some (.dict makerD)):kMeth (TT n) 238 es ρ (.obj 1 1) σ=bindR (evalMs (TT n) es ρ σ) (kCallO (TT n) 35 (.obj 1 1)):=by
  unfold kMeth; simp only [h]; rfl
theorem mk_229 (h:σ[1]? = some (.dict makerD)):kMeth (TT n) 229 es ρ (.obj 1 1) σ=bindR (evalMs (TT n) es ρ σ) (kCallO (TT n) 36 (.obj 1 1)):=by
  unfold kMeth; simp only [h]; rfl
theorem mk_92 (h:σ[1]? = some (.dict makerD)):kMeth (TT n) 92 es ρ (.obj 1 1) σ=bindR (evalMs (TT n) es ρ σ) (kCallO (TT n) 37 (.obj 1 1)):=by
  unfold kMeth; simp only [h]; rfl
theorem mk_189 (h:σ[1]? = some (.dict makerD)):kMeth (TT n) 189 es ρ (.obj 1 1) σ=bindR (evalMs (TT n) es ρ σ) (kCallO (TT n) 38 (.obj 1 1)):=by
  unfold kMeth; simp only [h]; rfl
theorem mk_175 (h:σ[1]? = some (.dict makerD)):kMeth (TT n) 175 es ρ (.obj 1 1) σ=bindR (evalMs (TT n) es ρ σ) (kCallO (TT n) 39 (.obj 1 1)):=by
  unfold kMeth; simp only [h]; rfl
theorem mk_n195 (h:σ[2]? = some (.dict namesD)):kMeth (TT n) 195 es ρ (.obj 0 2) σ=bindR (evalMs (TT n) es ρ σ) (kCallO (TT n) 20 (.obj 0 2)):=by
  unfold kMeth; simp only [h]; rfl
theorem mk_n196 (h:σ[2]? = some (.dict namesD)):kMeth (TT n) 196 es ρ (.obj 0 2) σ=bindR (evalMs (TT n) es ρ σ) (kCallO (TT n) 22 (.obj 0 2)):=by
  unfold kMeth; simp only [h]; rfl
theorem mk_n145 (h:σ[2]? = some (.dict namesD)):kMeth (TT n) 145 es ρ (.obj 0 2) σ=bindR (evalMs (TT n) es ρ σ) (kCallO (TT n) 23 (.obj 0 2)):=by
  unfold kMeth; simp only [h]; rfl
theorem mk_q190 (h:σ[2]? = some (.dict namesD)):kMeth (TQ n) 190 es ρ (.obj 0 2) σ=bindR (evalMs (TQ n) es ρ σ) (kCallO (TQ n) 21 (.obj 0 2)):=by
  unfold kMeth; simp only [h]; rfl
theorem at_171 (h:σ[1]? = some (.dict makerD)):kAttr (TT n) 171 (.obj 1 1) σ=some (.val (.obj 0 2),σ):=by
  unfold kAttr; simp only [h]; rfl
theorem at_193 (h:σ[1]? = some (.dict makerD)):kAttr (TT n) 193 (.obj 1 1) σ=some (.val (.cell 6),σ):=by
  unfold kAttr; simp only [h]; rfl
theorem at_78 (h:σ[1]? = some (.dict makerD)):kAttr (TT n) 78 (.obj 1 1) σ=some (.val (.cell 9),σ):=by
  unfold kAttr; simp only [h]; rfl
theorem at_q171 (h:σ[1]? = some (.dict makerD)):kAttr (TQ n) 171 (.obj 1 1) σ=some (.val (.obj 0 2),σ):=by
  unfold kAttr; simp only [h]; rfl
theorem at_204 (h:σ[2]? = some (.dict namesD)):kAttr (TT n) 204 (.obj 0 2) σ=some (.val (.cell 4),σ):=by
  unfold kAttr; simp only [h]; rfl
theorem at_63 (h:σ[2]? = some (.dict namesD)):kAttr (TT n) 63 (.obj 0 2) σ=some (.val (.cell 5),σ):=by
  unfold kAttr; simp only [h]; rfl
theorem want_int (hn:1 < n) (k:Kd) {s:Int} {w:LV} {m:Nat} (hw:txtL w=some m) (hm:m≤1000):CM n 17 [encK k,.tup [.str 130,.bool true,.int 0],.int s,w] σ=if fitsK k INT then some (.val .none,σ) else some (.exc s,σ):=ev_want hn k INT s hw hm
theorem want_boo (hn:1 < n) (k:Kd) {s:Int} {w:LV} {m:Nat} (hw:txtL w=some m) (hm:m≤1000):CM n 17 [encK k,.tup [.str 75,.bool true,.int 0],.int s,w] σ=if fitsK k BOOL then some (.val .none,σ) else some (.exc s,σ):=ev_want hn k BOOL s hw hm
theorem want_kno (hn:1 < n) (k:Kd) {s:Int} {w:LV} {m:Nat} (hw:txtL w=some m) (hm:m≤1000):CM n 17 [encK k,.tup [.str 130,.bool false,.int 0],.int s,w] σ=if fitsK k KNOWN then some (.val .none,σ) else some (.exc s,σ):=ev_want hn k KNOWN s hw hm
theorem want_set (hn:1 < n) (k:Kd) {s:Int} {w:LV} {m:Nat} (hw:txtL w=some m) (hm:m≤1000):CM n 17 [encK k,.tup [.str 208,.bool false,.int 0],.int s,w] σ=if fitsK k SET then some (.val .none,σ) else some (.exc s,σ):=ev_want hn k SET s hw hm
end
local macro_rules
  | `(tactic| open_k with ([$ts,*],6)) => `(tactic| open_k with ([$ts,*,mk_144,mk_150,mk_81,mk_142,mk_86,mk_127,mk_179,mk_112,mk_242,mk_77,mk_238,mk_229,mk_92,mk_189,mk_175,mk_n195,mk_n196,mk_n145,at_171,at_193,at_78,at_204,at_63,ev_const,ev_loc,ev_glob,ev_tup,ev_lst,ev_mlst,ev_dct,ev_mdct,ev_boolop,ev_not,ev_ite,ev_bin,ev_cmp,ev_notin,ev_cmpD,ev_cmpLD,ev_sub,ev_slice,ev_attr,ev_call,ev_meth,ev_len,ev_tupOf,ev_lstOf,ev_mlstOf,ev_sortedW,ev_sorted2,ev_append,ev_pop,ev_comp,ev_fstr,ev_new,es_nil,es_cons,bm_one,bm_cons,al_nil,al_cons,fs_nil,fs_cons,it_val,it_range,it_range3,it_zip,ex_expr,ex_asg,ex_asgT,ex_setI,ex_setA,ex_ite,ex_ret,ex_raise,ex_tryF,ex_tryE,kCmpD2,kCmpLD2,kSlice,kTupOf,kLstOf,kRange,kRange3c,sSetI3,x_subD,ex_for,y_look,TT_call],0))
  | `(tactic| open_k with ([$ts,*],7)) => `(tactic| open_k with ([$ts,*,mk_144,mk_150,mk_81,mk_142,mk_86,mk_127,mk_179,mk_112,mk_242,mk_77,mk_238,mk_229,mk_92,mk_189,mk_175,mk_n195,mk_n196,mk_n145,at_171,at_193,at_78,at_204,at_63,w_fs,w_ft,w_fi,w_ts,w_tt,txtMost,Nat.reduceLeDiff,ev_const,ev_loc,ev_glob,ev_tup,ev_lst,ev_mlst,ev_dct,ev_mdct,ev_boolop,ev_not,ev_ite,ev_bin,ev_cmp,ev_notin,ev_cmpD,ev_cmpLD,ev_sub,ev_slice,ev_attr,ev_call,ev_meth,ev_len,ev_tupOf,ev_lstOf,ev_mlstOf,ev_sortedW,ev_sorted2,ev_append,ev_pop,ev_comp,ev_fstr,ev_new,es_nil,es_cons,bm_one,bm_cons,al_nil,al_cons,fs_nil,fs_cons,it_val,it_range,it_range3,it_zip,ex_expr,ex_asg,ex_asgT,ex_setI,ex_setA,ex_ite,ex_ret,ex_raise,ex_tryF,ex_tryE,kCmpD2,kCmpLD2,kSlice,kTupOf,kLstOf,kRange,kRange3c,sSetI3,x_subD,ex_for,y_look,TT_call],0))
  | `(tactic| open_k with ([$ts,*],11)) => `(tactic| open_k with ([$ts,*,mk_144,mk_150,mk_81,mk_142,mk_86,mk_127,mk_179,mk_112,mk_242,mk_77,mk_238,mk_229,mk_92,mk_189,mk_175,mk_n195,mk_n196,mk_n145,at_171,at_193,at_78,at_204,at_63,ev_const,ev_loc,ev_glob,ev_tup,ev_lst,ev_mlst,ev_dct,ev_mdct,ev_boolop,ev_not,ev_ite,ev_bin,ev_cmp,ev_notin,ev_cmpD,ev_cmpLD,ev_sub,ev_slice,ev_attr,ev_call,ev_meth,ev_len,ev_tupOf,ev_lstOf,ev_mlstOf,ev_sortedW,ev_sorted2,ev_append,ev_pop,ev_comp,ev_fstr,ev_new,es_nil,es_cons,bm_one,bm_cons,al_nil,al_cons,fs_nil,fs_cons,it_val,it_range,it_range3,it_zip,ex_expr,ex_asg,ex_asgT,ex_setI,ex_setA,ex_ite,ex_ret,ex_raise,ex_tryF,ex_tryE,kCmpD2,kCmpLD2,kSlice,kTupOf,kLstOf,kRange,kRange3c,sSetI3,ex_for,y_look,TT_call],0))
  | `(tactic| open_k with ([$ts,*],12)) => `(tactic| open_k with ([$ts,*,mk_144,mk_150,mk_81,mk_142,mk_86,mk_127,mk_179,mk_112,mk_242,mk_77,mk_238,mk_229,mk_92,mk_189,mk_175,mk_n195,mk_n196,mk_n145,at_171,at_193,at_78,at_204,at_63,ev_const,ev_loc,ev_glob,ev_tup,ev_lst,ev_mlst,ev_dct,ev_mdct,ev_boolop,ev_not,ev_ite,ev_bin,ev_cmp,ev_notin,ev_cmpD,ev_cmpLD,ev_sub,ev_slice,ev_attr,ev_call,ev_meth,ev_len,ev_tupOf,ev_lstOf,ev_mlstOf,ev_sortedW,ev_sorted2,ev_append,ev_pop,ev_comp,ev_fstr,ev_new,es_nil,es_cons,bm_one,bm_cons,al_nil,al_cons,fs_nil,fs_cons,it_val,it_range,it_range3,it_zip,ex_expr,ex_asg,ex_asgT,ex_setI,ex_setA,ex_ite,ex_ret,ex_raise,ex_tryF,ex_tryE,kCmpD2,kCmpLD2,kSlice,kLstOf,kRange3c,x_subD,ex_for,y_look,TT_call],0))
  | `(tactic| open_k with ([$ts,*],13)) => `(tactic| open_k with ([$ts,*,mk_144,mk_150,mk_81,mk_142,mk_86,mk_127,mk_179,mk_112,mk_242,mk_77,mk_238,mk_229,mk_92,mk_189,mk_175,mk_n195,mk_n196,mk_n145,at_171,at_193,at_78,at_204,at_63,ev_const,ev_loc,ev_glob,ev_tup,ev_lst,ev_mlst,ev_dct,ev_mdct,ev_boolop,ev_not,ev_ite,ev_bin,ev_cmp,ev_notin,ev_cmpD,ev_cmpLD,ev_sub,ev_slice,ev_attr,ev_call,ev_meth,ev_len,ev_tupOf,ev_lstOf,ev_mlstOf,ev_sortedW,ev_sorted2,ev_append,ev_pop,ev_comp,ev_fstr,ev_new,es_nil,es_cons,bm_one,bm_cons,al_nil,al_cons,fs_nil,fs_cons,it_val,it_range,it_range3,it_zip,ex_expr,ex_asg,ex_asgT,ex_setI,ex_setA,ex_ite,ex_ret,ex_raise,ex_tryF,ex_tryE,kSlice,kTupOf,kLstOf,kRange,kRange3c,sSetI3,x_subD,ex_for,y_look,TT_call],0))
def MK (nd:Nd):Prop := ∀ (sc:Scs) (n:Nat) (σ:Sto) (A:List Nat) (C:Bool),5 * nd.dp + 8≤n→(flatS sc).length + nd.sz≤300→sc.length + nd.dp≤35→MSt A C sc σ →
  ∃ σ',CM n 25 [.obj 1 1,enc nd] σ=outR encK (kd nd (flatS sc)).1 σ' ∧ MP σ A C sc (kd nd (flatS sc)) σ'
section
variable {α β:Type} {σ σ' σ'':Sto} {A:List Nat} {C:Bool} {sc:Scs}
theorem MP.ok {a:α} (h:MSt A C sc σ):MP σ A C sc (okW a) σ:=⟨.refl,by simpa [okW,adds] using h⟩
theorem MP.err {i:Int} (h:MSt A C sc σ):MP σ A C sc (errW i:W α) σ:=⟨.refl,by simpa [errW,adds] using h⟩
theorem MP.bindE {m:W α} {f:α→W β} {i:Int} (e:m.1 = .error i) (p:MP σ A C sc m σ'):MP σ A C sc (bindW m f) σ':=by
  obtain ⟨r,as,c⟩:=m
  cases e
  exact ⟨p.k,p.s⟩
theorem MP.bind {m:W α} {f:α→W β} {a:α} (e:m.1 = .ok a) (p:MP σ A C sc m σ') (q:MP σ' (adds A m.2.1) (C || m.2.2) sc (f a) σ''):MP σ A C sc (bindW m f) σ'':=by
  obtain ⟨r,as,c⟩:=m
  cases e
  refine ⟨p.k.trans q.k,?_⟩
  have:=q.s
  simp only [bindW] at this ⊢
  rw [adds_app,← Bool.or_assoc]
  exact this
end
theorem mk_lit (b:Lb) (s:Int) (i:Nat):MK (.lit b s i):=fun sc n σ A C hn hz hd h=>by
  refine ⟨σ,?_,.ok h⟩
  rw [CM_eq (by omega) rfl rfl]
  cases b <;> open_k with ([F_Kinds_kind,enc,Lb.b,Bs.code],3) <;> rfl
theorem mk_name (s:Int) (x:Nat):MK (.name s x):=fun sc n σ A C hn hz hd h=>by
  obtain ⟨σ',e,p⟩:=ev_kof (n:=n - 1) (by omega) h (by omega) x s
  have hw:kd (.name s x) (flatS sc)=kofW x s (flatS sc):=rfl
  rw [hw]
  refine ⟨σ',?_,p⟩
  generalize kofW x s (flatS sc)=w at *
  rw [CM_eq (by omega) rfl rfl]
  have m1:=h.m1
  have m2:=h.m2
  cases q:w.1 with
  | error i =>
    rw [q] at e
    simp only [outR] at e
    open_k with ([F_Kinds_kind,enc,m1,m2,e,outR],6)
  | ok k =>
    rw [q] at e
    simp only [outR] at e
    open_k with ([F_Kinds_kind,enc,m1,m2,e,outR],6)
theorem mk_rng (s:Int) (a b:Nd) (ha:MK a) (hb:MK b):MK (.rng s a b):=fun sc n σ A C hn hz hd h=>by
  simp only [Nd.dp,Nd.sz] at hn hz hd
  obtain ⟨σ1,e1,p1⟩:=ha sc (n - 1 - 1) σ A C (by omega) (by omega) (by omega) h
  obtain ⟨σ2,e2,p2⟩:=hb sc (n - 1 - 1) σ1 _ _ (by omega) (by omega) (by omega) p1.s
  rw [kd_rng]
  generalize kd a (flatS sc)=wa at *
  generalize kd b (flatS sc)=wb at *
  have m1:=h.m1
  have n1:=p1.s.m1
  have f1:=fun k=>@want_kno (n - 1 - 1) σ1 (by omega) k s (.str 7) 64 rfl (by decide)
  have f2:=fun k=>@want_kno (n - 1 - 1) σ2 (by omega) k s (.str 7) 64 rfl (by decide)
  have key:∃ σ',CM (n - 1) 32 [.obj 1 1,.str 199,enc (.rng s a b)] σ=outR encK (bindW wa fun ka=>chk (fitsK ka KNOWN) s (bindW wb fun kb=>chk (fitsK kb KNOWN) s (okW SET))).1 σ' ∧ MP σ A C sc (bindW wa fun ka=>chk (fitsK ka KNOWN) s (bindW wb fun kb=>chk (fitsK kb KNOWN) s (okW SET))) σ':=by
    rw [CM_eq (by omega) rfl rfl]
    cases h1:wa.1 with
    | error i =>
      rw [h1] at e1
      refine ⟨σ1,?_,.bindE h1 p1⟩
      rw [bindW_err h1]
      simp only [outR] at e1
      open_k with ([F_Kinds_gathered,enc,m1,e1,outR],6)
    | ok k =>
      rw [h1] at e1
      rw [bindW_ok h1]
      simp only [outR] at e1
      cases q:fitsK k KNOWN with
      | false =>
        refine ⟨σ1,?_,.bind h1 p1 (by rw [q]; exact .err p1.s)⟩
        open_k with ([F_Kinds_gathered,enc,m1,e1,f1,q,outR,chk_f,errW],6)
      | true =>
        rw [chk_t]
        cases h2:wb.1 with
        | error i =>
          rw [h2] at e2
          refine ⟨σ2,?_,.bind h1 p1 (by rw [q]; exact .bindE h2 p2)⟩
          rw [bindW_err h2]
          simp only [outR] at e2
          open_k with ([F_Kinds_gathered,enc,m1,n1,e1,e2,f1,q,outR],6)
        | ok k2 =>
          rw [h2] at e2
          rw [bindW_ok h2]
          simp only [outR] at e2
          refine ⟨σ2,?_,.bind h1 p1 (by rw [q]; exact .bind h2 p2 (by cases fitsK k2 KNOWN; exact .err p2.s; exact .ok p2.s))⟩
          cases q2:fitsK k2 KNOWN <;> open_k with ([F_Kinds_gathered,enc,m1,n1,e1,e2,f1,f2,q,q2,outR,chk_t,chk_f,errW,okW],6) <;> rfl
  obtain ⟨σ',e,p⟩:=key
  refine ⟨σ',?_,p⟩
  simp only [enc] at e
  generalize (bindW wa fun ka=>chk (fitsK ka KNOWN) s (bindW wb fun kb=>chk (fitsK kb KNOWN) s (okW SET)))=w at *
  rw [CM_eq (by omega) rfl rfl]
  cases q:w.1 with
  | error i =>
    rw [q] at e
    simp only [outR] at e
    open_k with ([F_Kinds_kind,enc,m1,e,outR],6)
  | ok k =>
    rw [q] at e
    simp only [outR] at e
    open_k with ([F_Kinds_kind,enc,m1,e,outR],6)
def oalB:MSs:=match F_Kinds_of_all.body with
  | .cons _ (.cons (.forS _ _ b) _)=>b
  | _ => .nil
theorem mk_arrL (n:Nat):∀ (xs:Nds),xs.All MK→∀ (k:Kd) (sc:Scs) (σ:Sto) (A:List Nat) (C:Bool) (ρ:Loc),k.d=false→5 * xs.dp + 8≤n→(flatS sc).length + xs.sz≤300→sc.length + xs.dp≤35→MSt A C sc σ →
    lookA 110 ρ=some (encK k)→lookA 207 ρ=some (.obj 1 1)→lookA 241 ρ=some (.str 57) →
    ∃ σ',(match (kds xs k (flatS sc)).1 with
      | .ok k' => ∃ ρ',forL (execMs (TT n) oalB) (.one 172) (encs xs) ρ σ=some (.next,ρ',σ')∧lookA 110 ρ' = some (encK k')
      | .error i=>∃ ρ',forL (execMs (TT n) oalB) (.one 172) (encs xs) ρ σ=some (.exc i,ρ',σ'))∧MP σ A C sc (kds xs k (flatS sc)) σ'
  | .nil,_,k,sc,σ,A,C,ρ,hk,hn,hz,hd,hs,h1,h2,h3=>⟨σ,⟨ρ,rfl,h1⟩,.ok hs⟩
  | .cons x r,hx,k,sc,σ,A,C,ρ,hk,hn,hz,hd,hs,h1,h2,h3=>by
    simp only [Nds.dp,Nds.sz] at hn hz hd
    obtain ⟨σ1,e1,p1⟩:=hx.1 sc n σ A C (by omega) (by omega) (by omega) hs
    have reck:=mk_arrL n r hx.2
    have m1:=hs.m1
    rw [kds_cons]
    generalize kd x (flatS sc)=wa at *
    have e0:encs (.cons x r)=enc x::encs r:=rfl
    rw [e0,forL_one]
    generalize hg:forL (execMs (TT n) oalB) (.one 172) (encs r)=g at *
    cases q1:wa.1 with
    | error i =>
      rw [q1] at e1
      refine ⟨σ1,?_,.bindE q1 p1⟩
      rw [bindW_err q1]
      simp only [outR] at e1
      apply Exists.intro
      open_k with ([oalB,F_Kinds_of_all,h1,h2,h3,m1,e1],6)
      rfl
    | ok l =>
      rw [q1] at e1
      rw [bindW_ok q1]
      simp only [outR] at e1
      have fc:=@ev_common n σ1 (by omega) k l x.spot (.str 57) 64 rfl (by decide)
      cases q2:l.d with
      | true =>
        refine ⟨σ1,?_,.bind q1 p1 (by rw [q2]; exact .err p1.s)⟩
        apply Exists.intro
        open_k with ([oalB,F_Kinds_of_all,h1,h2,h3,m1,e1,s_k2,n_d0,s_spot,q2,chk_f,errW],7)
        rfl
      | false =>
        cases q3:okC k l with
        | false =>
          refine ⟨σ1,?_,.bind q1 p1 (by rw [q2,q3]; exact .err p1.s)⟩
          apply Exists.intro
          open_k with ([oalB,F_Kinds_of_all,h1,h2,h3,m1,e1,s_k2,n_d0,s_spot,q2,q3,fc,chk_f,errW],6)
          rfl
        | true =>
          obtain ⟨σ2,c2,p2⟩:=reck (comK k l) sc σ1 _ _ (putA 110 (encK (comK k l)) (putA 152 (encK l) (putA 172 (enc x) ρ))) hk (by omega) (by omega) (by omega) p1.s
            (by simp only [y_look,↓reduceIte]) (by simp only [y_look,Nat.reduceEqDiff,↓reduceIte,h2]) (by simp only [y_look,Nat.reduceEqDiff,↓reduceIte,h3])
          refine ⟨σ2,?_,.bind q1 p1 (by rw [q2,q3]; exact p2)⟩
          have step:seqS (execMs (TT n) oalB (putA 172 (enc x) ρ) σ) g=g (putA 110 (encK (comK k l)) (putA 152 (encK l) (putA 172 (enc x) ρ))) σ1:=by
            open_k with ([oalB,F_Kinds_of_all,h1,h2,h3,m1,e1,s_k2,n_d0,s_spot,q2,q3,fc],6)
          rw [step]
          exact c2
theorem mk_arr (s:Int) (xs:Nds) (hx:xs.All MK):MK (.arr s xs):=fun sc n σ A C hn hz hd h=>by
  simp only [Nd.dp,Nd.sz] at hn hz hd
  rw [kd_arr]
  have hl:(encs xs).length < most:=Nat.lt_of_le_of_lt (encs_len xs) (show _ < 400 by omega)
  obtain ⟨σ',c,p⟩:=mk_arrL (n - 1 - 1 - 1) xs hx ⟨.non,false,false⟩ sc σ A C (putA 110 (.tup [.str 174,.bool false,.int 0]) [(207,.obj 1 1),(173,.tup (encs xs)),(241,.str 57)]) rfl (by omega) (by omega) (by omega) h rfl rfl rfl
  have m1:=h.m1
  generalize kds xs ⟨.non,false,false⟩ (flatS sc)=wa at *
  have key:CM (n - 1 - 1) 31 [.obj 1 1,.tup (encs xs),.str 57] σ=outR encK wa.1 σ':=by
    rw [CM_eq (by omega) rfl rfl]
    simp only [oalB,F_Kinds_of_all] at c
    cases q1:wa.1 with
    | error i =>
      rw [q1] at c
      obtain ⟨ρ',e⟩:=c
      open_k with ([F_Kinds_of_all,sFor_tup hl,e,outR],3)
    | ok k =>
      rw [q1] at c
      obtain ⟨ρ',e,l1⟩:=c
      open_k with ([F_Kinds_of_all,sFor_tup hl,e,l1,outR],3)
  have hres:MP σ A C sc (bindW wa fun k=>okW (⟨k.b,k.v,true⟩:Kd)) σ':=by
    cases q1:wa.1 with
    | error i=>exact .bindE q1 p
    | ok k=>exact .bind q1 p (.ok p.s)
  refine ⟨σ',?_,hres⟩
  rw [CM_eq (by omega) rfl rfl]
  have key2:CM (n - 1) 32 [.obj 1 1,.str 57,.tup [.str 57,.int s,.tup (encs xs)]] σ=outR encK (bindW wa fun k=>okW (⟨k.b,k.v,true⟩:Kd)).1 σ':=by
    rw [CM_eq (by omega) rfl rfl]
    cases q1:wa.1 with
    | error i =>
      rw [q1] at key
      simp only [outR] at key
      rw [bindW_err q1]
      open_k with ([F_Kinds_gathered,m1,key,outR],6)
    | ok k =>
      rw [q1] at key
      simp only [outR] at key
      rw [bindW_ok q1]
      open_k with ([F_Kinds_gathered,m1,key,outR,okW,s_k0,s_k1],6)
      rfl
  generalize (bindW wa fun k=>okW (⟨k.b,k.v,true⟩:Kd))=w at *
  cases q:w.1 with
  | error i =>
    rw [q] at key2
    simp only [outR] at key2
    open_k with ([F_Kinds_kind,enc,m1,key2,outR],6)
  | ok k =>
    rw [q] at key2
    simp only [outR] at key2
    open_k with ([F_Kinds_kind,enc,m1,key2,outR],6)
theorem forL_two {body:Loc→Sto→RS} {a b:Nat} {x y:LV} {xs:List LV} {ρ:Loc} {σ:Sto}:forL body (.many [a,b]) (.tup [x,y]::xs) ρ σ=seqS (body (putA b y (putA a x ρ)) σ) (forL body (.many [a,b]) xs):=rfl
theorem kC1l {T:Tab} {e:ME} {tg:MT} {cs:MEs} {ρ:Loc} {x:LV} {σ:Sto}:kComp T e tg cs ρ (.seq (.lst [x])) σ=bindR (compL (allM T cs) (evalM T e) tg ρ [x] σ) kComp2:=kComp_lst (by show 1 < 400; decide)
theorem kl0 {σ:Sto}:kLen (.lst []) σ=some (.val (.int 0),σ):=k_len rfl
theorem kl1 {σ:Sto} {x:LV}:kLen (.lst [x]) σ=some (.val (.int 1),σ):=k_len rfl
theorem kt1 {σ:Sto} {x:LV}:kLen (.tup [x]) σ=some (.val (.int 1),σ):=k_len rfl
theorem gt10:decide ((1:Int) > 0)=true:=rfl
theorem gt00:decide ((0:Int) > 0)=false:=rfl
theorem mk_callV {n:Nat} (hn:3 < n) {σ1:Sto} {A:List Nat} {C:Bool} {sc:Scs} (h:MSt A C sc σ1) (k:Kd) (s:Int) :
    CM n 34 [.obj 1 1,.str 185,.lst [encK k],.int s] σ1=if fitsK k INT then some (.val (encK BOOL),σ1.set 9 (.dict (dC true))) else some (.exc s,σ1.set 9 (.dict (dC true))):=by
  have n1:=h.m1
  have n6:=h.m6
  have n9:=h.m9
  have hl:(dC C).length < most:=Nat.lt_of_le_of_lt (dC_len _) (by decide)
  have s2:=h.setCalled
  have r1:=s2.m1
  have r6:=s2.m6
  have f:=@ev_want (n - 1 - 1) (σ1.set 9 (.dict (dC true))) (by omega) k INT s (.str 185) 64 rfl (by decide)
  have kw:CM (n - 1) 35 [.obj 1 1,.str 185,.lst [encK k],.tup [encK INT],.int s] (σ1.set 9 (.dict (dC true)))=if fitsK k INT then some (.val .none,σ1.set 9 (.dict (dC true))) else some (.exc s,σ1.set 9 (.dict (dC true))):=by
    rw [CM_eq (by omega) rfl rfl]
    cases q:fitsK k INT <;> open_k with ([F_Kinds_want_each,kl1,kt1,sFor_zip,forL_two,f,q],3)
  have hin:isinL σ1 (.str 185) (.cell 6)=some true:=by unfold isinL; simp only [n6]; rfl
  have hsub:subL (σ1.set 9 (.dict (dC true))) (.cell 6) (.str 185)=some (.tup [encK INT]):=by unfold subL; simp only [r6]; rfl
  rw [CM_eq (by omega) rfl rfl]
  cases q1:k.v <;> cases q:fitsK k INT <;> open_k with ([F_Kinds_call,n1,n9,hl,putA_dC,kC1l,s_k1,q1,kComp2,kl0,kl1,gt10,gt00,hin,r1,hsub,kw,q],6) <;> rfl
theorem mk_call (s:Int) (a:Nd) (ha:MK a):MK (.call s a):=fun sc n σ A C hn hz hd h=>by
  simp only [Nd.dp,Nd.sz] at hn hz hd
  obtain ⟨σ1,e1,p1⟩:=ha sc (n - 1) σ A C (by omega) (by omega) (by omega) h
  rw [kd_call]
  generalize kd a (flatS sc)=wa at *
  have m1:=h.m1
  have s2:=p1.s.setCalled
  have k2:Keep 5 9 σ1 (σ1.set 9 (.dict (dC true))):=.set2
  rw [CM_eq (by omega) rfl rfl]
  cases h1:wa.1 with
  | error i =>
    rw [h1] at e1
    refine ⟨σ1,?_,.bindE h1 p1⟩
    rw [bindW_err h1]
    simp only [outR] at e1
    open_k with ([F_Kinds_kind,enc,m1,e1,outR,kC1],6)
  | ok k =>
    rw [h1] at e1
    rw [bindW_ok h1]
    simp only [outR] at e1
    have kv:=mk_callV (n:=n - 1) (by omega) p1.s k s
    refine ⟨σ1.set 9 (.dict (dC true)),?_,.bind h1 p1 ?_⟩
    · cases q:fitsK k INT <;> open_k with ([F_Kinds_kind,enc,m1,e1,kv,q,outR,kC1,kComp2,bindW,chk_t,chk_f,errW,okW],6)
    · cases q:fitsK k INT
      · exact ⟨k2,by simpa [bindW,chk,errW,adds] using s2⟩
      · exact ⟨k2,by simpa [bindW,chk,okW,adds] using s2⟩
theorem sF1 {T:Tab} {tg:MT} {body:MSs} {ρ:Loc} {x:LV} {σ:Sto}:sFor T tg body ρ (.seq (.tup [x])) σ=forL (execMs T body) tg [x] ρ σ:=sFor_tup (by show 1 < 400; decide)
theorem w_tm {m:Nat} (h:m≤300):fmtL (.txt m)=some m:=w_ft (by omega)
theorem idx_head {n:Nat} {σ:Sto} (hn:0 < n) (k:Kd) (v:LV) (s:Int) (q:k.d=false):CM (n + 1) 30 [.obj 1 1,encK k,.tup [v],.int s] σ=some (.exc s,σ):=by
  obtain ⟨m,hm,et⟩:=ev_text (n:=n) (σ:=σ) hn k
  have b0:=w_tm hm
  have b1:0 + m≤100000:=by omega
  have b2:0 + m + 9≤100000:=by omega
  have b3:0 + m + 9 + 12≤100000:=by omega
  have b4:0 + m + 9 + 12 + 8≤100000:=by omega
  rw [CM_eq (by omega) rfl rfl]
  open_k with ([F_Kinds_indexed,s_k2,n_d0,q,kt1,et,b0,b1,b2,b3,b4,Nat.add_sub_cancel],8)
theorem c2_str (b:Bs):(218 == b.code || 208 == b.code)=(b == .str || b == .set):=by cases b <;> rfl
theorem mk_idx (s:Int) (a i:Nd) (ha:MK a) (hi:MK i):MK (.idx s a i):=fun sc n σ A C hn hz hd h=>by
  simp only [Nd.dp,Nd.sz] at hn hz hd
  obtain ⟨σ1,e1,p1⟩:=ha sc (n - 1) σ A C (by omega) (by omega) (by omega) h
  obtain ⟨σ2,e2,p2⟩:=hi sc (n - 1 - 1) σ1 _ _ (by omega) (by omega) (by omega) p1.s
  rw [kd_idx]
  generalize kd a (flatS sc)=wa at *
  generalize kd i (flatS sc)=wb at *
  have m1:=h.m1
  have n1:=p1.s.m1
  rw [CM_eq (by omega) rfl rfl]
  cases h1:wa.1 with
  | error j =>
    rw [h1] at e1
    refine ⟨σ1,?_,.bindE h1 p1⟩
    rw [bindW_err h1]
    simp only [outR] at e1
    open_k with ([F_Kinds_kind,enc,m1,e1,outR],6)
  | ok k =>
    rw [h1] at e1
    rw [bindW_ok h1]
    simp only [outR] at e1
    cases q:k.d with
    | false =>
      have kv:=idx_head (n:=n - 1 - 1) (σ:=σ1) (by omega) k (enc i) s q
      rw [show n - 1 - 1 + 1=n - 1 from by omega] at kv
      refine ⟨σ1,?_,.bind h1 p1 (by rw [q]; exact .err p1.s)⟩
      open_k with ([F_Kinds_kind,enc,m1,e1,kv,outR,chk_f,errW],6)
    | true =>
      rw [chk_t]
      have hn1:k.n=1:=by unfold Kd.n; rw [q]; rfl
      have z1:((1:Int) == 0)=false:=rfl
      cases h2:wb.1 with
      | error j =>
        rw [h2] at e2
        simp only [outR] at e2
        have kv:CM (n - 1) 30 [.obj 1 1,encK k,.tup [enc i],.int s] σ1=some (.exc j,σ2):=by
          rw [CM_eq (by omega) rfl rfl]
          open_k with ([F_Kinds_indexed,s_k2,s_k1,hn1,z1,kt1,n1,sF1,e2],6)
        refine ⟨σ2,?_,.bind h1 p1 (by rw [q]; exact .bindE h2 p2)⟩
        rw [bindW_err h2]
        open_k with ([F_Kinds_kind,enc,m1,e1,kv,outR],6)
      | ok p =>
        rw [h2] at e2
        rw [bindW_ok h2]
        simp only [outR] at e2
        have f:=@want_int (n - 1 - 1) σ2 (by omega) p i.spot (.str 123) 64 rfl (by decide)
        cases q2:fitsK p INT with
        | false =>
          have kv:CM (n - 1) 30 [.obj 1 1,encK k,.tup [enc i],.int s] σ1=some (.exc i.spot,σ2):=by
            rw [CM_eq (by omega) rfl rfl]
            open_k with ([F_Kinds_indexed,s_k2,s_k1,hn1,z1,kt1,n1,sF1,e2,s_spot,f,q2],6)
          refine ⟨σ2,?_,.bind h1 p1 (by rw [q]; exact .bind h2 p2 (by rw [q2]; exact .err p2.s))⟩
          open_k with ([F_Kinds_kind,enc,m1,e1,kv,outR,chk_f,errW],6)
        | true =>
          rw [chk_t]
          obtain ⟨m,hm,et⟩:=ev_text (n:=n - 1 - 1) (σ:=σ2) (by omega) k
          have b0:=w_tm hm
          have b1:0 + m≤100000:=by omega
          have b2:0 + m + 34≤100000:=by omega
          have kv:CM (n - 1) 30 [.obj 1 1,encK k,.tup [enc i],.int s] σ1=outR encK (chk (!((k.v || p.v) && (k.b == .str || k.b == .set))) s (okW (⟨k.b,k.v || p.v,false⟩:Kd))).1 σ2:=by
            rw [CM_eq (by omega) rfl rfl]
            have hc:=c2_str k.b
            cases q3:(k.b == .str || k.b == .set) <;> cases q4:k.v <;> cases q5:p.v <;> rw [q3] at hc <;>
              open_k with ([F_Kinds_indexed,s_k2,s_k1,s_k0,hn1,z1,kt1,n1,sF1,e2,s_spot,f,q2,q4,q5,hc,et,b0,b1,b2,outR,chk_t,chk_f,errW,okW],7) <;> rfl
          refine ⟨σ2,?_,.bind h1 p1 (by rw [q]; exact .bind h2 p2 (by rw [q2,chk_t]; cases (!((k.v || p.v) && (k.b == .str || k.b == .set))); exact .err p2.s; exact .ok p2.s))⟩
          generalize (chk (!((k.v || p.v) && (k.b == .str || k.b == .set))) s (okW (⟨k.b,k.v || p.v,false⟩:Kd)))=w at *
          cases q6:w.1 with
          | error j =>
            rw [q6] at kv
            simp only [outR] at kv
            open_k with ([F_Kinds_kind,enc,m1,e1,kv,outR],6)
          | ok kk =>
            rw [q6] at kv
            simp only [outR] at kv
            open_k with ([F_Kinds_kind,enc,m1,e1,kv,outR],6)
theorem v_in6 {σ:Sto} {c a b d e f g:Nat}:isinL σ (.str c) (.tup [.str a,.str b,.str d,.str e,.str f,.str g])=some (a == c || (b == c || (d == c || (e == c || (f == c || g == c))))):=(x_ins [a,b,d,e,f,g]).trans (by simp)
theorem n_com (a b:Kd):((comK a b).n == 0) = !a.d:=n_d0 _
theorem mk_compared {n:Nat} {σ:Sto} (hn:3 < n) (ka kb:Kd) (s:Int) :
    CM n 29 [.obj 1 1,.str 9,encK ka,encK kb,.int s] σ=if okC ka kb && !ka.d then some (.val (encK ⟨.boo,ka.v || kb.v,false⟩),σ) else some (.exc s,σ):=by
  have fc:=@ev_common (n - 1) σ (by omega) ka kb s (.str 9) 64 rfl (by decide)
  have hni:inLs (.str 9) [.str 9,.str 12,.str 15,.str 16,.str 13,.str 14,.str 1]=some true:=rfl
  rw [CM_eq (by omega) rfl rfl]
  cases q:okC ka kb with
  | false=>open_k with ([F_Kinds_compared,hni,fc,q],3)
  | true =>
    have hv:(comK ka kb).v=(ka.v || kb.v):=rfl
    cases q2:ka.d <;> open_k with ([F_Kinds_compared,hni,fc,q,s_k2,s_k1,n_com,q2,hv],8) <;> rfl
theorem mk_joined {n:Nat} {σ:Sto} (hn:5 < n) (h:σ[1]? = some (.dict makerD)) (g:Sg) (ka kb:Kd) (s:Int) :
    CM n 28 [.obj 1 1,.str g.code,encK ka,encK kb,.int s] σ=if joinOk g ka kb then some (.val (encK ⟨joinB g,ka.v || kb.v,false⟩),σ) else some (.exc s,σ):=by
  rw [CM_eq (by omega) rfl rfl]
  cases g with
  | add =>
    have f:=fun k=>@want_int (n - 1) σ (by omega) k s (.str 3) 64 rfl (by decide)
    cases q1:fitsK ka INT <;> cases q2:fitsK kb INT <;> cases q3:ka.v <;> open_k with ([F_Kinds_joined,Sg.code,s_k1,f,q1,q2,q3,joinOk,joinB],3) <;> rfl
  | and =>
    have f:=fun k=>@want_boo (n - 1) σ (by omega) k s (.str 8) 64 rfl (by decide)
    cases q1:fitsK ka BOOL <;> cases q2:fitsK kb BOOL <;> cases q3:ka.v <;> open_k with ([F_Kinds_joined,Sg.code,s_k1,f,q1,q2,q3,joinOk,joinB,v_in6],3) <;> rfl
  | lt =>
    have f:=@mk_compared (n - 1) σ (by omega) ka kb s
    cases q1:(okC ka kb && !ka.d) <;> cases q3:ka.v <;> open_k with ([F_Kinds_joined,Sg.code,s_k1,f,q1,q3,joinOk,joinB,v_in6,h],6)
def SpOk:Nd→Prop
  | .bin _ _ a b=>SpOk a∧MK b
  | nd=>MK nd
def bas:Nd→Nd
  | .bin _ _ a _=>bas a
  | nd=>nd
def spn:Nd→List LV
  | .bin s g a b=>enc (.bin s g a b)::spn a
  | _=>[]
def joinsW:Nd→Kd→En→W Kd
  | .bin s g a b,k,E=>bindW (joinsW a k E) fun ka=>bindW (kd b E) fun kb=>chk (joinOk g ka kb) s (okW ⟨joinB g,ka.v || kb.v,false⟩)
  | _,k,_=>okW k
theorem bindW_ok' {α:Type} (w:W α):bindW w okW=w:=by
  obtain ⟨r,as,c⟩:=w
  cases r with
  | error i=>rfl
  | ok a=>show ((.ok a:Except Int α),as++[],c || false)=_; rw [List.append_nil,Bool.or_false]
theorem bindW_assoc {α β γ:Type} (w:W α) (f:α→W β) (g:β→W γ):bindW (bindW w f) g=bindW w fun a=>bindW (f a) g:=by
  obtain ⟨r,as,c⟩:=w
  cases r with
  | error i=>rfl
  | ok a =>
    show bindW ((f a).1,as++(f a).2.1,c || (f a).2.2) g=((bindW (f a) g).1,as++(bindW (f a) g).2.1,c || (bindW (f a) g).2.2)
    generalize f a=w2
    obtain ⟨r2,as2,c2⟩:=w2
    cases r2 with
    | error i=>rfl
    | ok b=>simp only [bindW,List.append_assoc,Bool.or_assoc]
theorem kd_spine:∀ (nd:Nd) (E:En),kd nd E=bindW (kd (bas nd) E) fun k=>joinsW nd k E
  | .bin s g a b,E=>by
    rw [kd_bin,kd_spine a E,bindW_assoc]
    rfl
  | .lit ..,E=>(bindW_ok' _).symm
  | .name ..,E=>(bindW_ok' _).symm
  | .rng ..,E=>(bindW_ok' _).symm
  | .arr ..,E=>(bindW_ok' _).symm
  | .idx ..,E=>(bindW_ok' _).symm
  | .call ..,E=>(bindW_ok' _).symm
  | .lt ..,E=>(bindW_ok' _).symm
def isBin:Nd→Bool
  | .bin .. => true
  | _=>false
theorem s_op {σ:Sto} (nd:Nd):∃ c,subL σ (enc nd) (.int 0)=some (.str c)∧(c == 74)=isBin nd:=by
  cases nd with
  | lit b s i=>exact ⟨_,x_sub0,by cases b <;> rfl⟩
  | name s x=>exact ⟨_,x_sub0,rfl⟩
  | rng s a b=>exact ⟨_,x_sub0,rfl⟩
  | arr s xs=>exact ⟨_,x_sub0,rfl⟩
  | idx s a i=>exact ⟨_,x_sub0,rfl⟩
  | call s a=>exact ⟨_,x_sub0,rfl⟩
  | bin s g a b=>exact ⟨_,x_sub0,rfl⟩
  | lt s its b=>exact ⟨_,x_sub0,rfl⟩
theorem spn_len:∀ nd:Nd,(spn nd).length≤nd.dp
  | .bin s g a b=>by
    have:=spn_len a
    show (spn a).length + 1≤max a.dp b.dp + 1
    omega
  | .lit .. | .name .. | .rng .. | .arr .. | .idx .. | .call .. | .lt .. => Nat.zero_le _
theorem SpOk_base:∀ (nd:Nd),SpOk nd→MK (bas nd)
  | .bin s g a b,h=>SpOk_base a h.1
  | .lit ..,h=>h
  | .name ..,h=>h
  | .rng ..,h=>h
  | .arr ..,h=>h
  | .idx ..,h=>h
  | .call ..,h=>h
  | .lt ..,h=>h
theorem bas_le:∀ nd:Nd,(bas nd).dp≤nd.dp∧(bas nd).sz≤nd.sz
  | .bin s g a b=>by
    have:=bas_le a
    show (bas a).dp≤max a.dp b.dp + 1∧(bas a).sz≤a.sz + b.sz + 1
    omega
  | .lit .. | .name .. | .rng .. | .arr .. | .idx .. | .call .. | .lt .. => ⟨Nat.le_refl _,Nat.le_refl _⟩
theorem wh_step {cond:Loc→Sto→R LV} {body:Loc→Sto→RS} {n:Nat} {ρ:Loc} {σ:Sto} {b:Bool} (h:cond ρ σ=some (.val (.bool b),σ)) :
    whileM cond body (n + 1) ρ σ=if b then seqS (body ρ σ) (whileM cond body n) else some (.next,ρ,σ):=by
  unfold whileM
  rw [h,bindS_val,onB_bool]
def ch1B:MSs:=match F_Kinds_chain.body with
  | .cons _ (.cons (.whileS _ b) _)=>b
  | _ => .nil
def ch1C:ME:=match F_Kinds_chain.body with
  | .cons _ (.cons (.whileS c _) _)=>c
  | _ => .dead
def ch2B:MSs:=match F_Kinds_chain.body with
  | .cons _ (.cons _ (.cons _ (.cons (.whileS _ b) _)))=>b
  | _ => .nil
def ch2C:ME:=match F_Kinds_chain.body with
  | .cons _ (.cons _ (.cons _ (.cons (.whileS c _) _)))=>c
  | _ => .dead
theorem ch1_cond {n:Nat} {ρ:Loc} {σ:Sto} {nd:Nd} (h1:lookA 172 ρ=some (enc nd)):evalM (TT n) ch1C ρ σ=some (.val (.bool (isBin nd)),σ):=by
  obtain ⟨c,e1,e2⟩:=s_op (σ:=σ) nd
  open_k with ([ch1C,F_Kinds_chain,h1,e1,e2],3)
theorem chain1 (n w:Nat):∀ (nd:Nd) (pre:List LV) (σ:Sto) (ρ:Loc) (f:Nat),pre.length + nd.dp≤40→σ[w]? = some (.list pre)→lookA 172 ρ=some (enc nd)→lookA 236 ρ=some (.cell w)→(spn nd).length < f →
    ∃ ρ' σ',whileM (evalM (TT n) ch1C) (execMs (TT n) ch1B) f ρ σ=some (.next,ρ',σ')∧lookA 172 ρ' = some (enc (bas nd))∧(∀ k,k≠172→lookA k ρ' = lookA k ρ)∧σ'[w]? = some (.list (pre++spn nd))∧(∀ k,k≠w→σ'[k]? = σ[k]?)∧σ'.length=σ.length
  | .bin s g a b,pre,σ,ρ,f + 1,hl,hw,h1,h2,hf=>by
    have hlt:pre.length < most:=by show _ < 400; omega
    have hws:=(List.getElem?_eq_some_iff.mp hw).1
    have hd:(Nd.bin s g a b).dp=max a.dp b.dp + 1:=rfl
    obtain ⟨ρ',σ',e,l1,l2,l3,l4,l5⟩:=chain1 n w a (pre++[enc (.bin s g a b)]) (σ.set w (.list (pre++[enc (.bin s g a b)]))) (putA 172 (enc a) ρ) f (by rw [List.length_append]; simp only [List.length_cons,List.length_nil]; omega) (by rw [List.getElem?_set_self hws])
      (by simp only [y_look,↓reduceIte]) (by simp only [y_look,Nat.reduceEqDiff,↓reduceIte,h2]) (by have:(spn (.bin s g a b)).length=(spn a).length + 1:=rfl; omega)
    refine ⟨ρ',σ',?_,l1,fun k hk=>by rw [l2 k hk,y_look,if_neg (Ne.symm hk)],by rw [l3,List.append_assoc]; rfl,fun k hk=>by rw [l4 k hk,List.getElem?_set_ne (Ne.symm hk)],by rw [l5,List.length_set]⟩
    rw [wh_step (ch1_cond h1),show isBin (.bin s g a b)=true from rfl,if_pos rfl,← e]
    generalize whileM (evalM (TT n) ch1C) (execMs (TT n) ch1B) f=gg
    simp only [enc] at h1
    open_k with ([ch1B,F_Kinds_chain,enc,h1,h2,hw,hlt],3)
  | .lit b s i,pre,σ,ρ,f + 1,hl,hw,h1,h2,hf=>⟨ρ,σ,by rw [wh_step (ch1_cond h1)]; rfl,h1,fun _ _=>rfl,by rw [show spn (.lit b s i)=[] from rfl,List.append_nil]; exact hw,fun _ _=>rfl,rfl⟩
  | .name s x,pre,σ,ρ,f + 1,hl,hw,h1,h2,hf=>⟨ρ,σ,by rw [wh_step (ch1_cond h1)]; rfl,h1,fun _ _=>rfl,by rw [show spn (.name s x)=[] from rfl,List.append_nil]; exact hw,fun _ _=>rfl,rfl⟩
  | .rng s a b,pre,σ,ρ,f + 1,hl,hw,h1,h2,hf=>⟨ρ,σ,by rw [wh_step (ch1_cond h1)]; rfl,h1,fun _ _=>rfl,by rw [show spn (.rng s a b)=[] from rfl,List.append_nil]; exact hw,fun _ _=>rfl,rfl⟩
  | .arr s xs,pre,σ,ρ,f + 1,hl,hw,h1,h2,hf=>⟨ρ,σ,by rw [wh_step (ch1_cond h1)]; rfl,h1,fun _ _=>rfl,by rw [show spn (.arr s xs)=[] from rfl,List.append_nil]; exact hw,fun _ _=>rfl,rfl⟩
  | .idx s a i,pre,σ,ρ,f + 1,hl,hw,h1,h2,hf=>⟨ρ,σ,by rw [wh_step (ch1_cond h1)]; rfl,h1,fun _ _=>rfl,by rw [show spn (.idx s a i)=[] from rfl,List.append_nil]; exact hw,fun _ _=>rfl,rfl⟩
  | .call s a,pre,σ,ρ,f + 1,hl,hw,h1,h2,hf=>⟨ρ,σ,by rw [wh_step (ch1_cond h1)]; rfl,h1,fun _ _=>rfl,by rw [show spn (.call s a)=[] from rfl,List.append_nil]; exact hw,fun _ _=>rfl,rfl⟩
  | .lt s i b,pre,σ,ρ,f + 1,hl,hw,h1,h2,hf=>⟨ρ,σ,by rw [wh_step (ch1_cond h1)]; rfl,h1,fun _ _=>rfl,by rw [show spn (.lt s i b)=[] from rfl,List.append_nil]; exact hw,fun _ _=>rfl,rfl⟩
theorem MSt.over {A:List Nat} {C:Bool} {sc:Scs} {σ:Sto} {k:Nat} {c:Cell} (h:MSt A C sc σ) (hk:11 < k) (hs:∀ p∈sc,p.1≠k):MSt A C sc (σ.set k c):=by
  have g:∀ j c',j≠k→σ[j]? = some c' → (σ.set k c)[j]? = some c':=fun j c' hj hc=>by
    rw [List.getElem?_set_ne (Ne.symm hj)]; exact hc
  exact ⟨g _ _ (by omega) h.m1,g _ _ (by omega) h.m2,g _ _ (by omega) h.m3,g _ _ (by omega) h.m4,g _ _ (by omega) h.m5,g _ _ (by omega) h.m6,g _ _ (by omega) h.m9,h.ok,
    fun p hp=>⟨g _ _ (hs p hp) (h.scp p hp).1,(h.scp p hp).2⟩,h.ap,by rw [List.length_set]; exact h.big⟩
theorem MSt.same {A:List Nat} {C:Bool} {sc:Scs} {σ σ':Sto} {w:Nat} (h:MSt A C sc σ) (hk:11 < w) (hs:∀ p∈sc,p.1≠w) (he:∀ k,k≠w→σ'[k]? = σ[k]?) (hl:σ'.length=σ.length):MSt A C sc σ':=by
  have g:∀ j c',j≠w→σ[j]? = some c' → σ'[j]? = some c':=fun j c' hj hc=>(he j hj).trans hc
  exact ⟨g _ _ (by omega) h.m1,g _ _ (by omega) h.m2,g _ _ (by omega) h.m3,g _ _ (by omega) h.m4,g _ _ (by omega) h.m5,g _ _ (by omega) h.m6,g _ _ (by omega) h.m9,h.ok,
    fun p hp=>⟨g _ _ (hs p hp) (h.scp p hp).1,(h.scp p hp).2⟩,h.ap,by rw [hl]; exact h.big⟩
theorem MSt.app {A:List Nat} {C:Bool} {sc:Scs} {σ l:Sto} (h:MSt A C sc σ):MSt A C sc (σ++l):=by
  have g:∀ j c',σ[j]? = some c' → (σ++l)[j]? = some c':=fun j c' hc=>by
    rw [List.getElem?_append_left (List.getElem?_eq_some_iff.mp hc).1]; exact hc
  exact ⟨g _ _ h.m1,g _ _ h.m2,g _ _ h.m3,g _ _ h.m4,g _ _ h.m5,g _ _ h.m6,g _ _ h.m9,h.ok,fun p hp=>⟨g _ _ (h.scp p hp).1,(h.scp p hp).2⟩,h.ap,by rw [List.length_append]; have:=h.big; omega⟩
theorem MP.bind0 {α β:Type} {σ0 σ':Sto} {A:List Nat} {C:Bool} {sc:Scs} {m:W α} {f:α→W β} {a:α} (e:m.1 = .ok a) (q:MP σ0 (adds A m.2.1) (C || m.2.2) sc (f a) σ'):MP σ0 A C sc (bindW m f) σ':=by
  obtain ⟨r,as,c⟩:=m
  cases e
  refine ⟨q.k,?_⟩
  have:=q.s
  simp only [bindW] at this ⊢
  rw [adds_app,← Bool.or_assoc]
  exact this
theorem MP.base {α:Type} {σ0 σ σ':Sto} {A:List Nat} {C:Bool} {sc:Scs} {w:W α} (k:Keep 5 9 σ0 σ) (p:MP σ A C sc w σ'):MP σ0 A C sc w σ':=⟨k.trans p.k,p.s⟩
theorem cell_len {σ:Sto} {w:Nat} {xs:List LV} (h:σ[w]? = some (.list xs)) (hl:xs.length < most):kLen (.cell w) σ=some (.val (.int xs.length),σ):=by
  apply k_len
  unfold lenL
  simp only [h,hl,if_true]
theorem s_e2 {σ:Sto} {s g a b}:subL σ (enc (.bin s g a b)) (.int 2)=some (.str g.code):=x_sub2
theorem s_e4 {σ:Sto} {s g a b}:subL σ (enc (.bin s g a b)) (.int 4)=some (enc b):=x_sub4
theorem chain2 (n w:Nat) (sc:Scs) (σ0:Sto) (hw:11 < w∧σ0.length≤w∧∀ p∈sc,p.1≠w):∀ (nd:Nd),SpOk nd→∀ (k0:Kd) (pre:List LV) (σ:Sto) (A:List Nat) (C:Bool) (ρ:Loc) (f:Nat),5 * nd.dp + 8≤n + 5→(flatS sc).length + nd.sz≤300→sc.length + nd.dp≤35→6≤n→pre.length + nd.dp≤40 →
    Keep 5 9 σ0 σ→MSt A C sc σ→σ[w]? = some (.list (pre++spn nd))→lookA 110 ρ=some (encK k0)→lookA 207 ρ=some (.obj 1 1)→lookA 236 ρ=some (.cell w)→(spn nd).length≤f →
    ∃ σ',(match (joinsW nd k0 (flatS sc)).1 with
      | .ok k=>∃ ρ',whileM (evalM (TT n) ch2C) (execMs (TT n) ch2B) f ρ σ=whileM (evalM (TT n) ch2C) (execMs (TT n) ch2B) (f - (spn nd).length) ρ' σ' ∧ lookA 110 ρ' = some (encK k)∧lookA 207 ρ' = some (.obj 1 1)∧lookA 236 ρ' = some (.cell w)∧σ'[w]? = some (.list pre)
      | .error i=>∃ ρ',whileM (evalM (TT n) ch2C) (execMs (TT n) ch2B) f ρ σ=some (.exc i,ρ',σ'))∧MP σ0 A C sc (joinsW nd k0 (flatS sc)) σ'
  | .bin s g a b,hsp,k0,pre,σ,A,C,ρ,f,hn,hz,hd,h6,hp,hk,hs,g1,h1,h2,h3,hf=>by
    have d1:(Nd.bin s g a b).dp=max a.dp b.dp + 1:=rfl
    have z1:(Nd.bin s g a b).sz=a.sz + b.sz + 1:=rfl
    have l1:(spn (.bin s g a b)).length=(spn a).length + 1:=rfl
    obtain ⟨σ1,c1,p1⟩:=chain2 n w sc σ0 hw a hsp.1 k0 (pre++[enc (.bin s g a b)]) σ A C ρ f (by omega) (by omega) (by omega) h6 (by rw [List.length_append]; simp only [List.length_cons,List.length_nil]; omega) hk hs (by rw [g1,List.append_assoc]; rfl) h1 h2 h3 (by omega)
    have hj:joinsW (.bin s g a b) k0 (flatS sc)=bindW (joinsW a k0 (flatS sc)) fun ka=>bindW (kd b (flatS sc)) fun kb=>chk (joinOk g ka kb) s (okW ⟨joinB g,ka.v || kb.v,false⟩):=rfl
    rw [hj]
    generalize joinsW a k0 (flatS sc)=wa at *
    cases q1:wa.1 with
    | error i =>
      rw [q1] at c1
      refine ⟨σ1,?_,.bindE q1 p1⟩
      rw [bindW_err q1]
      exact c1
    | ok ka =>
      rw [q1] at c1
      obtain ⟨ρ1,e1,l110,l207,l236,gw⟩:=c1
      rw [bindW_ok q1]
      have hw1:=(List.getElem?_eq_some_iff.mp gw).1
      have hlt:(pre++[enc (.bin s g a b)]).length < most:=by rw [List.length_append]; simp only [List.length_cons,List.length_nil]; show _ < 400; omega
      have hlen:=cell_len gw hlt
      have s2:MSt _ _ sc (σ1.set w (.list pre)):=p1.s.over hw.1 hw.2.2
      have gw2:(σ1.set w (.list pre))[w]? = some (.list pre):=by rw [List.getElem?_set_self hw1]
      obtain ⟨σ2,e2,p2⟩:=hsp.2 sc n (σ1.set w (.list pre)) _ _ (by omega) (by omega) (by omega) s2
      have m2:=s2.m1
      have m3:=p2.s.m1
      have fj:=fun kb=>@mk_joined n σ2 (by omega) m3 g ka kb s
      have hgt:decide (((pre++[enc (.bin s g a b)]).length:Int) > 0)=true:=by rw [List.length_append]; simp only [List.length_cons,List.length_nil]; exact decide_eq_true (by omega)
      have hc:evalM (TT n) ch2C ρ1 σ1=some (.val (.bool true),σ1):=by
        open_k with ([ch2C,F_Kinds_chain,l236,hlen,hgt],3)
      have hf2:f - (spn a).length=(f - (spn (.bin s g a b)).length) + 1:=by omega
      have kk:Keep 5 9 σ0 (σ1.set w (.list pre)):=p1.k.over hw.2.1
      rw [e1,hf2,wh_step hc,if_pos rfl]
      generalize whileM (evalM (TT n) ch2C) (execMs (TT n) ch2B) (f - (spn (.bin s g a b)).length)=gg
      generalize kd b (flatS sc)=wb at *
      have hgl:(pre++[enc (.bin s g a b)]).getLast? = some (enc (.bin s g a b)):=by simp
      have hdl:(pre++[enc (.bin s g a b)]).dropLast=pre:=by simp
      generalize hE:enc (.bin s g a b)=eb at *
      have se2:∀ σ,subL σ eb (.int 2)=some (.str g.code):=fun σ=>by rw [← hE]; exact s_e2
      have se4:∀ σ,subL σ eb (.int 4)=some (enc b):=fun σ=>by rw [← hE]; exact s_e4
      have se1:∀ σ,subL σ eb (.int 1)=some (.int s):=fun σ=>by rw [← hE]; exact s_spot _
      cases q2:wb.1 with
      | error i =>
        rw [q2] at e2
        simp only [outR] at e2
        refine ⟨σ2,?_,.bind0 q1 (.bindE q2 (.base kk p2))⟩
        rw [bindW_err q2]
        apply Exists.intro
        open_k with ([ch2B,F_Kinds_chain,l110,l207,l236,gw,hlt,hgl,hdl,m2,se1,se2,se4,e2],6)
        rfl
      | ok kb =>
        rw [q2] at e2
        simp only [outR] at e2
        rw [bindW_ok q2]
        cases q3:joinOk g ka kb with
        | false =>
          refine ⟨σ2,?_,.bind0 q1 (.bind0 q2 (by rw [q3]; exact .base (kk.trans p2.k) (.err p2.s)))⟩
          apply Exists.intro
          open_k with ([ch2B,F_Kinds_chain,l110,l207,l236,gw,hlt,hgl,hdl,m2,m3,se1,se2,se4,e2,fj,q3,chk_f,errW],6)
          rfl
        | true =>
          refine ⟨σ2,⟨putA 110 (encK ⟨joinB g,ka.v || kb.v,false⟩) (putA 172 eb ρ1),?_,?_,?_,?_,?_⟩,.bind0 q1 (.bind0 q2 (by rw [q3]; exact .base (kk.trans p2.k) (.ok p2.s)))⟩
          · open_k with ([ch2B,F_Kinds_chain,l110,l207,l236,gw,hlt,hgl,hdl,m2,m3,se1,se2,se4,e2,fj,q3],6)
          · simp only [y_look,↓reduceIte]
          · simp only [y_look,Nat.reduceEqDiff,↓reduceIte,l207]
          · simp only [y_look,Nat.reduceEqDiff,↓reduceIte,l236]
          · rw [p2.k.get w (by rw [List.length_set]; exact hw1) (by omega) (by omega)]; exact gw2
  | .lit ..,_,k0,pre,σ,A,C,ρ,f,_,_,_,_,_,hk,hs,g1,h1,h2,h3,hf=>⟨σ,⟨ρ,rfl,h1,h2,h3,by rw [g1]; exact congrArg (fun l=>some (Cell.list l)) (List.append_nil _)⟩,.base hk (.ok hs)⟩
  | .name ..,_,k0,pre,σ,A,C,ρ,f,_,_,_,_,_,hk,hs,g1,h1,h2,h3,hf=>⟨σ,⟨ρ,rfl,h1,h2,h3,by rw [g1]; exact congrArg (fun l=>some (Cell.list l)) (List.append_nil _)⟩,.base hk (.ok hs)⟩
  | .rng ..,_,k0,pre,σ,A,C,ρ,f,_,_,_,_,_,hk,hs,g1,h1,h2,h3,hf=>⟨σ,⟨ρ,rfl,h1,h2,h3,by rw [g1]; exact congrArg (fun l=>some (Cell.list l)) (List.append_nil _)⟩,.base hk (.ok hs)⟩
  | .arr ..,_,k0,pre,σ,A,C,ρ,f,_,_,_,_,_,hk,hs,g1,h1,h2,h3,hf=>⟨σ,⟨ρ,rfl,h1,h2,h3,by rw [g1]; exact congrArg (fun l=>some (Cell.list l)) (List.append_nil _)⟩,.base hk (.ok hs)⟩
  | .idx ..,_,k0,pre,σ,A,C,ρ,f,_,_,_,_,_,hk,hs,g1,h1,h2,h3,hf=>⟨σ,⟨ρ,rfl,h1,h2,h3,by rw [g1]; exact congrArg (fun l=>some (Cell.list l)) (List.append_nil _)⟩,.base hk (.ok hs)⟩
  | .call ..,_,k0,pre,σ,A,C,ρ,f,_,_,_,_,_,hk,hs,g1,h1,h2,h3,hf=>⟨σ,⟨ρ,rfl,h1,h2,h3,by rw [g1]; exact congrArg (fun l=>some (Cell.list l)) (List.append_nil _)⟩,.base hk (.ok hs)⟩
  | .lt ..,_,k0,pre,σ,A,C,ρ,f,_,_,_,_,_,hk,hs,g1,h1,h2,h3,hf=>⟨σ,⟨ρ,rfl,h1,h2,h3,by rw [g1]; exact congrArg (fun l=>some (Cell.list l)) (List.append_nil _)⟩,.base hk (.ok hs)⟩
theorem mk_chain (nd:Nd) (hsp:SpOk nd) (sc:Scs) (n:Nat) (σ:Sto) (A:List Nat) (C:Bool) (hn:5 * nd.dp + 8≤n + 4) (h6:8≤n) (hz:(flatS sc).length + nd.sz≤300) (hd:sc.length + nd.dp≤35) (hb:0 < (spn nd).length) (h:MSt A C sc σ) :
    ∃ σ',CM n 27 [.obj 1 1,enc nd] σ=outR encK (kd nd (flatS sc)).1 σ' ∧ MP σ A C sc (kd nd (flatS sc)) σ':=by
  have hbig:=h.big
  have hsc:∀ p∈sc,p.1≠σ.length:=fun p hp e=>by
    have:=(List.getElem?_eq_some_iff.mp (h.scp p hp).1).1; omega
  have ha:(σ++[Cell.list []])[σ.length]? = some (.list []):=by rw [List.getElem?_append_right (Nat.le_refl _)]; simp
  have hl:=spn_len nd
  have hdp:(bas nd).dp + 1≤nd.dp:=by
    cases nd with
    | bin s g a b =>
      have:=bas_le a
      show (bas a).dp + 1≤max a.dp b.dp + 1
      omega
    | _=>simp [spn] at hb
  obtain ⟨ρ1,σ1,e1,l172,lk,g1,gk,gl⟩:=chain1 (n - 1) σ.length nd [] (σ++[Cell.list []]) (putA 236 (.cell σ.length) [(207,.obj 1 1),(172,enc nd)]) 40 (by simp only [List.length_nil]; omega) ha rfl rfl (by omega)
  have s1:MSt A C sc σ1:=h.app.same hbig hsc gk gl
  have k1:Keep 5 9 σ σ1:=by
    refine ⟨by rw [gl,List.length_append]; omega,fun k hk _ _=>?_⟩
    rw [gk k (by omega),List.getElem?_append_left hk]
  obtain ⟨σ2,e2,p2⟩:=SpOk_base nd hsp sc (n - 1) σ1 A C (by omega) (by have:=bas_le nd; omega) (by omega) s1
  have m1:=s1.m1
  have l207:lookA 207 ρ1=some (.obj 1 1):=lk 207 (by decide)
  have l236:lookA 236 ρ1=some (.cell σ.length):=lk 236 (by decide)
  have hw1:σ.length < σ1.length:=by rw [gl,List.length_append]; simp
  rw [kd_spine,CM_eq (by omega) rfl rfl]
  generalize kd (bas nd) (flatS sc)=wa at *
  simp only [ch1C,ch1B,F_Kinds_chain] at e1
  cases q1:wa.1 with
  | error i =>
    rw [q1] at e2
    simp only [outR] at e2
    refine ⟨σ2,?_,.bindE q1 (.base k1 p2)⟩
    rw [bindW_err q1]
    open_k with ([F_Kinds_chain,whileMost,e1,l172,l207,m1,e2,outR,ex_while],6)
  | ok k0 =>
    rw [q1] at e2
    simp only [outR] at e2
    rw [bindW_ok q1]
    have g2:σ2[σ.length]? = some (.list ([]++spn nd)):=by rw [p2.k.get _ hw1 (by omega) (by omega)]; exact g1
    obtain ⟨σ3,c3,p3⟩:=chain2 (n - 1) σ.length sc σ ⟨hbig,Nat.le_refl _,hsc⟩ nd hsp k0 [] σ2 _ _ (putA 110 (encK k0) ρ1) 40 (by omega) (by omega) (by omega) (by omega) (by simp only [List.length_nil]; omega) (k1.trans p2.k) p2.s g2 (by simp only [y_look,↓reduceIte]) (by simp only [y_look,Nat.reduceEqDiff,↓reduceIte,l207]) (by simp only [y_look,Nat.reduceEqDiff,↓reduceIte,l236]) (by omega)
    refine ⟨σ3,?_,.bind0 q1 p3⟩
    simp only [ch2C,ch2B,F_Kinds_chain] at c3
    generalize joinsW nd k0 (flatS sc)=wb at *
    cases q2:wb.1 with
    | error i =>
      rw [q2] at c3
      obtain ⟨ρ',e3⟩:=c3
      open_k with ([F_Kinds_chain,whileMost,e1,l172,l207,m1,e2,e3,outR,ex_while],6)
    | ok k =>
      rw [q2] at c3
      obtain ⟨ρ',e3,l110,r207,r236,gw⟩:=c3
      have hlen:=cell_len gw (by show 0 < 400; decide)
      have hc:evalM (TT (n - 1)) ch2C ρ' σ3=some (.val (.bool false),σ3):=by
        open_k with ([ch2C,F_Kinds_chain,r236,hlen,List.length_nil],3)
        rfl
      have hf2:40 - (spn nd).length=(40 - (spn nd).length - 1) + 1:=by omega
      rw [hf2] at e3
      have hst:=wh_step (body:=execMs (TT (n - 1)) ch2B) (n:=40 - (spn nd).length - 1) hc
      simp only [ch2C,ch2B,F_Kinds_chain] at hst
      rw [hst] at e3
      open_k with ([F_Kinds_chain,whileMost,e1,l172,l207,m1,e2,e3,l110,outR,ex_while],6)
theorem mk_bin (s:Int) (g:Sg) (a b:Nd) (ha:SpOk a) (hb:MK b):MK (.bin s g a b):=fun sc n σ A C hn hz hd h=>by
  have hdp:(Nd.bin s g a b).dp=max a.dp b.dp + 1:=rfl
  obtain ⟨σ',e,p⟩:=mk_chain (.bin s g a b) ⟨ha,hb⟩ sc (n - 1) σ A C (by omega) (by omega) hz hd (Nat.succ_pos _) h
  refine ⟨σ',?_,p⟩
  have m1:=h.m1
  rw [CM_eq (by omega) rfl rfl]
  generalize kd (.bin s g a b) (flatS sc)=w at *
  simp only [enc] at e
  cases q:w.1 with
  | error i =>
    rw [q] at e
    simp only [outR] at e
    open_k with ([F_Kinds_kind,enc,m1,e,outR],6)
  | ok k =>
    rw [q] at e
    simp only [outR] at e
    open_k with ([F_Kinds_kind,enc,m1,e,outR],6)
def unitLV (u:Unit):LV:=.none
theorem mk_told (a:Nd) (ha:MK a) (what:LV) (m:Nat) (hw:txtL what=some m) (hm:m≤1000) (sc:Scs) (n:Nat) (σ:Sto) (A:List Nat) (C:Bool) (hn:5 * a.dp + 9≤n) (hz:(flatS sc).length + a.sz≤300) (hd:sc.length + a.dp≤35) (h:MSt A C sc σ) :
    ∃ σ',CM n 26 [.obj 1 1,enc a,what] σ=outR unitLV (told a (flatS sc)).1 σ' ∧ MP σ A C sc (told a (flatS sc)) σ':=by
  obtain ⟨σ1,e1,p1⟩:=ha sc (n - 1) σ A C (by omega) hz hd h
  have m1:=h.m1
  unfold told
  rw [CM_eq (by omega) rfl rfl]
  generalize kd a (flatS sc)=wa at *
  cases q1:wa.1 with
  | error i =>
    rw [q1] at e1
    simp only [outR] at e1
    refine ⟨σ1,?_,.bindE q1 p1⟩
    rw [bindW_err q1]
    open_k with ([F_Kinds_known_set,m1,e1,outR],6)
  | ok k =>
    rw [q1] at e1
    simp only [outR] at e1
    rw [bindW_ok q1]
    have f:=@want_set (n - 1) σ1 (by omega) k a.spot what m hw hm
    refine ⟨σ1,?_,.bind q1 p1 (by cases fitsK k SET; exact .err p1.s; exact .ok p1.s)⟩
    cases q2:fitsK k SET <;> open_k with ([F_Kinds_known_set,m1,e1,s_spot,f,q2,outR,unitLV,chk_t,chk_f,errW,okW],6)
theorem s_op2 {σ:Sto} (nd:Nd):∃ c,subL σ (enc nd) (.int 0)=some (.str c)∧(c == 131)=false:=by
  cases nd with
  | lit b s i=>exact ⟨_,x_sub0,by cases b <;> rfl⟩
  | name s x=>exact ⟨_,x_sub0,rfl⟩
  | rng s a b=>exact ⟨_,x_sub0,rfl⟩
  | arr s xs=>exact ⟨_,x_sub0,rfl⟩
  | idx s a i=>exact ⟨_,x_sub0,rfl⟩
  | call s a=>exact ⟨_,x_sub0,rfl⟩
  | bin s g a b=>exact ⟨_,x_sub0,rfl⟩
  | lt s its b=>exact ⟨_,x_sub0,rfl⟩
def typR:MSs:=match F_Kinds_type_kind.body with
  | .cons _ (.cons _ (.cons _ r))=>r
  | _ => .nil
theorem sF0 {T:Tab} {tg:MT} {body:MSs} {ρ:Loc} {σ:Sto}:sFor T tg body ρ (.seq (.tup [])) σ=some (.next,ρ,σ):=(sFor_tup (by show 0 < 400; decide)).trans rfl
def typeW (s:Int) (b:Bs) (v any:Bool) (ds dom:Nds) (E:En):W Kd :=
  chk (!(v && (b == .str || b == .set))) s (bindW (tolds (setsL any ds dom) E) fun _=>okW ⟨b,v,any || ds.some⟩)
theorem typ_rest (b:Bs) (v any:Bool) (ds:Nds) (h1:ds.All MK) (sc:Scs) (n:Nat) (σ:Sto) (A:List Nat) (C:Bool) (ρ:Loc) (hn:5 * ds.dp + 9≤n) (hz:(flatS sc).length + ds.sz≤300) (hd:sc.length + ds.dp≤35) (h:MSt A C sc σ)
    (l207:lookA 207 ρ=some (.obj 1 1)) (l72:lookA 72 ρ=some (.str b.code)) (l138:lookA 138 ρ=some (.bool v)) (l95:lookA 95 ρ=some (.tup (dimsL any ds))) :
    ∃ σ',fin (execMs (TT n) typR ρ σ)=outR encK (bindW (tolds (if any then [] else one ds) (flatS sc)) fun _=>okW (⟨b,v,any || ds.some⟩:Kd)).1 σ' ∧ MP σ A C sc (bindW (tolds (if any then [] else one ds) (flatS sc)) fun _=>okW (⟨b,v,any || ds.some⟩:Kd)) σ':=by
  have m1:=h.m1
  cases any with
  | true =>
    refine ⟨σ,?_,by show MP σ A C sc (bindW (okW ()) _) σ; rw [bindW_okW]; exact .ok h⟩
    open_k with ([typR,F_Kinds_type_kind,dimsL,sF1,l207,l72,l138,l95,kt1],3)
    cases ds <;> rfl
  | false =>
    cases ds with
    | nil =>
      refine ⟨σ,?_,by show MP σ A C sc (bindW (okW ()) _) σ; rw [bindW_okW]; exact .ok h⟩
      have kt0:kLen (.tup []) σ=some (.val (.int 0),σ):=k_len rfl
      open_k with ([typR,F_Kinds_type_kind,dimsL,encD,sF0,l207,l72,l138,l95,kt0],3)
      rfl
    | cons a r =>
      simp only [Nds.dp,Nds.sz] at hn hz hd
      have hA:MK a:=h1.1
      obtain ⟨σ1,e1,p1⟩:=mk_told a hA (.txt 11) 11 rfl (by decide) sc n σ A C (by omega) (by omega) (by omega) h
      obtain ⟨c,c1,c2⟩:=s_op2 (σ:=σ) a
      have hw:(bindW (tolds (if false=true then [] else one (.cons a r)) (flatS sc)) fun _=>okW (⟨b,v,false || (Nds.cons a r).some⟩:Kd))=bindW (told a (flatS sc)) fun _=>okW (⟨b,v,true⟩:Kd):=by
        show bindW (bindW (told a (flatS sc)) fun _=>okW ()) _=_
        rw [told_one]; rfl
      rw [hw]
      generalize told a (flatS sc)=wa at *
      cases q1:wa.1 with
      | error i =>
        rw [q1] at e1
        simp only [outR] at e1
        refine ⟨σ1,?_,.bindE q1 p1⟩
        rw [bindW_err q1]
        open_k with ([typR,F_Kinds_type_kind,dimsL,encD,sF1,l207,l72,l138,l95,kt1,c1,c2,m1,e1,outR],6)
      | ok u =>
        rw [q1] at e1
        simp only [outR,unitLV] at e1
        refine ⟨σ1,?_,.bind q1 p1 (.ok p1.s)⟩
        rw [bindW_ok q1]
        open_k with ([typR,F_Kinds_type_kind,dimsL,encD,sF1,l207,l72,l138,l95,kt1,c1,c2,m1,e1,outR,okW],6)
        rfl
theorem mk_type (s:Int) (b:Bs) (v any:Bool) (ds dom:Nds) (h1:ds.All MK) (h2:dom.All MK) (sc:Scs) (n:Nat) (σ:Sto) (A:List Nat) (C:Bool) (hn:5 * (max ds.dp dom.dp) + 10≤n) (hz:(flatS sc).length + ds.sz + dom.sz≤300) (hd:sc.length + max ds.dp dom.dp≤35) (h:MSt A C sc σ) :
    ∃ σ',CM n 36 [.obj 1 1,.tup [.str b.code,.bool v,.tup (dimsL any ds),enc1 dom],.int s] σ=outR encK (typeW s b v any ds dom (flatS sc)).1 σ' ∧ MP σ A C sc (typeW s b v any ds dom (flatS sc)) σ':=by
  have m1:=h.m1
  unfold typeW
  rw [CM_eq (by omega) rfl rfl]
  have hE:MP σ A C sc (errW s:W Kd) σ:=.err h
  cases q0:(v && (b == .str || b == .set)) with
  | true =>
    refine ⟨σ,?_,hE⟩
    obtain ⟨rfl,hb⟩:=Bool.and_eq_true_iff.mp q0
    open_k with ([F_Kinds_type_kind,c2_str,hb,errW,outR,Bool.not_true,chk_f],8)
  | false =>
    rw [Bool.not_false,chk_t]
    have hb':v=true→(b == .str || b == .set)=false:=fun hv=>by rw [hv,Bool.true_and] at q0; exact q0
    have hS:∀ E:En,(bindW (tolds (setsL any ds dom) E) fun _=>okW (⟨b,v,any || ds.some⟩:Kd))=bindW (tolds (one dom) E) fun _=>bindW (tolds (if any then [] else one ds) E) fun _=>okW (⟨b,v,any || ds.some⟩:Kd):=fun E=>by
      unfold setsL; rw [tolds_app,bindW_assoc]
    rw [hS]
    cases dom with
    | nil =>
      obtain ⟨σ1,e1,p1⟩:=typ_rest b v any ds h1 sc (n - 1) σ A C (putA 98 .none (putA 95 (.tup (dimsL any ds)) (putA 138 (.bool v) (putA 72 (.str b.code) [(207,.obj 1 1),(147,.tup [.str b.code,.bool v,.tup (dimsL any ds),.none]),(217,.int s)])))) (by omega) (by omega) (by omega) h rfl rfl rfl rfl
      refine ⟨σ1,?_,by show MP _ _ _ _ (bindW (okW ()) _) _; rw [bindW_okW]; exact p1⟩
      show _=outR encK (bindW (okW ()) _).1 σ1
      rw [bindW_okW]
      rw [← e1]
      cases v with
      | true=>have hb:=hb' rfl; open_k with ([F_Kinds_type_kind,typR,enc1,c2_str,hb,x_nn],3)
      | false=>open_k with ([F_Kinds_type_kind,typR,enc1,x_nn],3)
    | cons a r =>
      simp only [Nds.dp,Nds.sz] at hn hz hd
      have hA:MK a:=h2.1
      obtain ⟨σ1,e1,p1⟩:=mk_told a hA (.str 98) 64 rfl (by decide) sc (n - 1) σ A C (by omega) (by omega) (by omega) h
      obtain ⟨σ2,e2,p2⟩:=typ_rest b v any ds h1 sc (n - 1) σ1 _ _ (putA 98 (enc a) (putA 95 (.tup (dimsL any ds)) (putA 138 (.bool v) (putA 72 (.str b.code) [(207,.obj 1 1),(147,.tup [.str b.code,.bool v,.tup (dimsL any ds),enc a]),(217,.int s)])))) (by omega) (by omega) (by omega) p1.s rfl rfl rfl rfl
      have hw:tolds (one (.cons a r)) (flatS sc)=told a (flatS sc):=told_one a _
      rw [hw]
      generalize (bindW (tolds (if any then [] else one ds) (flatS sc)) fun _=>okW (⟨b,v,any || ds.some⟩:Kd))=wb at *
      generalize told a (flatS sc)=wa at *
      cases q1:wa.1 with
      | error i =>
        rw [q1] at e1
        simp only [outR] at e1
        refine ⟨σ1,?_,.bindE q1 p1⟩
        rw [bindW_err q1]
        cases v with
        | true=>have hb:=hb' rfl; open_k with ([F_Kinds_type_kind,typR,enc1,c2_str,hb,enc_none,m1,e1,outR],6)
        | false=>open_k with ([F_Kinds_type_kind,typR,enc1,enc_none,m1,e1,outR],6)
      | ok u =>
        rw [q1] at e1
        simp only [outR,unitLV] at e1
        refine ⟨σ2,?_,.bind q1 p1 p2⟩
        rw [bindW_ok q1,← e2]
        cases v with
        | true=>have hb:=hb' rfl; open_k with ([F_Kinds_type_kind,typR,enc1,c2_str,hb,enc_none,m1,e1],6)
        | false=>open_k with ([F_Kinds_type_kind,typR,enc1,enc_none,m1,e1],6)
theorem kComp_anys {n:Nat} {any:Bool} {ds:Nds} {ρ:Loc} {σ:Sto}:∃ l,kComp (TT n) (.loc 187) (.one 187) (.cons (.cmp .eq (.sub (.loc 187) (.const (.int 0))) (.const (.str 131))) .nil) ρ (.seq (.tup (dimsL any ds))) σ=some (.val (.lst l),σ)∧kLen (.lst l) σ=some (.val (.int (if any then 1 else 0)),σ):=by
  cases any with
  | true=>exact ⟨[.tup [.str 131]],by open_k with ([dimsL,kC1,kComp2],3),kl1⟩
  | false =>
    cases ds with
    | nil=>exact ⟨[],by open_k with ([dimsL,encD,kC0,kComp2],3),kl0⟩
    | cons a r =>
      obtain ⟨c,c1,c2⟩:=s_op2 (σ:=σ) a
      exact ⟨[],by open_k with ([dimsL,encD,kC1,kComp2,c1,c2],3),kl0⟩
theorem decl_type {s b v any ds dom val E}:(bindW (declW s b v any ds dom val E) fun _=>okW (⟨b,v,any || ds.some⟩:Kd))=bindW (typeW s b v any ds dom E) fun K=>bindW (kval val any s K E) fun _=>okW K:=by
  unfold declW typeW
  cases !(v && (b == .str || b == .set)) with
  | false=>rfl
  | true =>
    rw [chk_t,chk_t,bindW_assoc,bindW_assoc]
    rfl
theorem typeW_ok {s b v any ds dom E K} (h:(typeW s b v any ds dom E).1 = .ok K):K=⟨b,v,any || ds.some⟩:=by
  unfold typeW at h
  cases q : !(v && (b == .str || b == .set)) with
  | false=>rw [q] at h; cases h
  | true =>
    rw [q,chk_t] at h
    generalize tolds (setsL any ds dom) E=w at h
    obtain ⟨r,as,c⟩:=w
    cases r with
    | error i=>cases h
    | ok u=>cases h; rfl
theorem mk_declared (s:Int) (b:Bs) (v any:Bool) (ds dom:Nds) (x:Nat) (val:Nds) (h1:ds.All MK) (h2:dom.All MK) (h3:val.All MK) (sc:Scs) (n:Nat) (σ:Sto) (A:List Nat) (C:Bool)
    (hn:5 * (It.decl s b v any ds dom x val).dp + 11≤n) (hz:(flatS sc).length + (It.decl s b v any ds dom x val).sz≤300) (hd:sc.length + (It.decl s b v any ds dom x val).dp≤35) (h:MSt A C sc σ) :
    ∃ σ',CM n 37 [.obj 1 1,encT (.decl s b v any ds dom x val),.bool false] σ=outR encK (bindW (declW s b v any ds dom val (flatS sc)) fun _=>okW (⟨b,v,any || ds.some⟩:Kd)).1 σ' ∧ MP σ A C sc (bindW (declW s b v any ds dom val (flatS sc)) fun _=>okW (⟨b,v,any || ds.some⟩:Kd)) σ':=by
  simp only [It.dp,It.sz] at hn hz hd
  have m1:=h.m1
  obtain ⟨σ1,e1,p1⟩:=mk_type s b v any ds dom h1 h2 sc (n - 1) σ A C (by omega) (by omega) (by omega) h
  rw [decl_type,CM_eq (by omega) rfl rfl]
  have hK:=@typeW_ok s b v any ds dom (flatS sc)
  generalize typeW s b v any ds dom (flatS sc)=wa at *
  cases q1:wa.1 with
  | error i =>
    rw [q1] at e1
    simp only [outR] at e1
    refine ⟨σ1,?_,.bindE q1 p1⟩
    rw [bindW_err q1]
    open_k with ([F_Kinds_declared,encT_decl,m1,e1,outR],6)
  | ok K =>
    rw [q1] at e1
    simp only [outR] at e1
    have hK:=hK q1
    have n1:=p1.s.m1
    rw [bindW_ok q1]
    cases val with
    | nil =>
      obtain ⟨l,c1,c2⟩:=kComp_anys (n:=n - 1) (any:=any) (ds:=ds) (ρ:=putA 144 (encK K) [(207,.obj 1 1),(139,encT (.decl s b v any ds dom x .nil)),(134,.bool false)]) (σ:=σ1)
      simp only [encT_decl,enc1] at c1
      refine ⟨σ1,?_,.bind q1 p1 ?_⟩
      · have hv:K.v=v:=by rw [hK]
        cases any <;> cases v <;> open_k with ([F_Kinds_declared,encT_decl,enc1,m1,e1,x_nn,c1,c2,s_k1,hv,gt10,gt00,kval,bindW,outR,okW,errW,chk_t,chk_f],7)
      · unfold kval
        cases (!(any && K.v))
        · exact .bindE rfl (.err p1.s)
        · show MP _ _ _ _ (bindW (okW ()) _) _
          rw [bindW_okW]; exact .ok p1.s
    | cons a r =>
      simp only [Nds.dp,Nds.sz] at hn hz hd
      obtain ⟨σ2,e2,p2⟩:=h3.1 sc (n - 1) σ1 _ _ (by omega) (by omega) (by omega) p1.s
      have f:=fun k=>@ev_want (n - 1) σ2 (by omega) k K s (.str x) 64 rfl (by decide)
      have hk0:kval (.cons a r) any s K (flatS sc)=bindW (kd a (flatS sc)) fun k=>chk (fitsK k K) s (okW ()):=rfl
      rw [hk0]
      generalize kd a (flatS sc)=wb at *
      cases q2:wb.1 with
      | error i =>
        rw [q2] at e2
        simp only [outR] at e2
        refine ⟨σ2,?_,.bind q1 p1 (by rw [hk0]; exact .bindE (bindW_err q2) (.bindE q2 p2))⟩
        rw [bindW_err (bindW_err q2)]
        open_k with ([F_Kinds_declared,encT_decl,enc1,m1,n1,e1,e2,enc_none,outR],6)
      | ok k =>
        rw [q2] at e2
        simp only [outR] at e2
        cases q3:fitsK k K with
        | false =>
          have hw:(bindW wb fun k=>chk (fitsK k K) s (okW ())).1 = .error s:=by rw [bindW_ok q2,q3]; rfl
          have hp:MP σ1 (adds A wa.2.1) (C || wa.2.2) sc (bindW wb fun k=>chk (fitsK k K) s (okW ())) σ2:=.bind q2 p2 (by rw [q3]; exact .err p2.s)
          refine ⟨σ2,?_,.bind q1 p1 (by rw [hk0]; exact .bindE hw hp)⟩
          rw [bindW_err hw]
          open_k with ([F_Kinds_declared,encT_decl,enc1,m1,n1,e1,e2,enc_none,f,q3,outR],6)
        | true =>
          have hw:(bindW wb fun k=>chk (fitsK k K) s (okW ())).1 = .ok ():=by rw [bindW_ok q2,q3]; rfl
          have hp:MP σ1 (adds A wa.2.1) (C || wa.2.2) sc (bindW wb fun k=>chk (fitsK k K) s (okW ())) σ2:=.bind q2 p2 (by rw [q3]; exact .ok p2.s)
          refine ⟨σ2,?_,.bind q1 p1 (by rw [hk0]; exact .bind hw hp (.ok hp.s))⟩
          rw [bindW_ok hw]
          open_k with ([F_Kinds_declared,encT_decl,enc1,m1,n1,e1,e2,enc_none,f,q3,outR,okW],6)
def wmB:MSs:=match F_Kinds_within.body with
  | .cons _ (.cons (.tryF (.cons (.forS _ _ b) _) _) _)=>b
  | _ => .nil
theorem last_contains (x:Nat):∀ S:En,(lastA x S).isSome=(S.map (·.1)).contains x
  | []=>rfl
  | (y,k)::r=>by
    show ((lastA x r).or (if y=x then some k else none)).isSome=((y::r.map (·.1)).contains x)
    rw [List.contains_cons,← last_contains x r]
    by_cases e:y=x
    · subst e; cases lastA y r <;> simp
    · have:(x == y)=false:=by rw [beq_eq_false_iff_ne]; exact Ne.symm e
      rw [if_neg e,this]; cases lastA x r <;> rfl
theorem flat_snoc (sc:Scs) (c:Nat) (S:En):flatS (sc++[(c,S)])=flatS sc++S:=by
  unfold flatS; rw [List.flatMap_append]; simp
structure KP (σ0:Sto) (A:List Nat) (C:Bool) (sc:Scs) {α:Type} (w:W α) (σ':Sto):Prop where
  k:Kp σ0 σ'
  s:MSt (adds A w.2.1) (C || w.2.2) sc σ'
theorem KP.bindE {α β:Type} {σ0 σ':Sto} {A:List Nat} {C:Bool} {sc:Scs} {m:W α} {f:α→W β} {i:Int} (e:m.1 = .error i) (p:KP σ0 A C sc m σ'):KP σ0 A C sc (bindW m f) σ':=by
  obtain ⟨r,as,c⟩:=m
  cases e
  exact ⟨p.k,p.s⟩
theorem KP.bind0 {α β:Type} {σ0 σ':Sto} {A:List Nat} {C:Bool} {sc:Scs} {m:W α} {f:α→W β} {a:α} (e:m.1 = .ok a) (q:KP σ0 (adds A m.2.1) (C || m.2.2) sc (f a) σ'):KP σ0 A C sc (bindW m f) σ':=by
  obtain ⟨r,as,c⟩:=m
  cases e
  refine ⟨q.k,?_⟩
  have:=q.s
  simp only [bindW] at this ⊢
  rw [adds_app,← Bool.or_assoc]
  exact this
theorem KP.kp {α:Type} {σ0 σ σ':Sto} {A:List Nat} {C:Bool} {sc:Scs} {w:W α} (k:Kp σ0 σ) (p:MP σ A C sc w σ'):KP σ0 A C sc w σ':=⟨k.trans p.k.kp,p.s⟩
theorem Kp.over {k:Nat} {σ0 σ:Sto} {c:Cell} (h:Kp σ0 σ) (hk:σ0.length≤k):Kp σ0 (σ.set k c) :=
  ⟨by rw [List.length_set]; exact h.len,fun l hl h1 h2 h3=>by rw [List.getElem?_set_ne (by omega)]; exact h.get l hl h1 h2 h3⟩
theorem mk_itsL (n:Nat) (σ0:Sto) (sc:Scs) (c:Nat) (hc:σ0.length≤c):∀ (its:Its),its.All MK→∀ (S:En) (σ:Sto) (A:List Nat) (C:Bool) (ρ:Loc),5 * its.dp + 11≤n→(flatS sc).length + S.length + its.sz≤300→sc.length + its.dp + 1≤35→Kp σ0 σ→MSt A C (sc++[(c,S)]) σ →
    lookA 207 ρ=some (.obj 1 1) →
    ∃ σ',(match (kits its (S.map (·.1)) (flatS sc++S)).1 with
      | .ok E' => ∃ ρ' S',forL (execMs (TT n) wmB) (.one 139) (encI its) ρ σ=some (.next,ρ',σ')∧(∀ k,k≠139→k≠144→lookA k ρ' = lookA k ρ)∧E' = flatS sc++S' ∧ S'.length≤S.length + its.sz∧KP σ0 A C (sc++[(c,S')]) (kits its (S.map (·.1)) (flatS sc++S)) σ'
      | .error i=>∃ ρ' S',forL (execMs (TT n) wmB) (.one 139) (encI its) ρ σ=some (.exc i,ρ',σ')∧lookA 207 ρ' = some (.obj 1 1)∧KP σ0 A C (sc++[(c,S')]) (kits its (S.map (·.1)) (flatS sc++S)) σ')
  | .nil,_,S,σ,A,C,ρ,hn,hz,hd,hk,hs,h1=>⟨σ,ρ,S,rfl,fun _ _ _=>rfl,rfl,Nat.le_refl _,⟨hk,(MP.ok (σ:=σ) (a:=flatS sc++S) hs).s⟩⟩
  | .cons it r,hx,S,σ,A,C,ρ,hn,hz,hd,hk,hs,h1=>by
    simp only [Its.dp,Its.sz] at hn hz hd
    have reck:=mk_itsL n σ0 sc c hc r hx.2
    have e0:encI (.cons it r)=encT it::encI r:=rfl
    have hsz:=It_sz it
    have hsz2:(Its.cons it r).sz=max it.sz (r.sz + 1):=rfl
    have hfl:(flatS (sc++[(c,S)])).length=(flatS sc).length + S.length:=by rw [flat_snoc,List.length_append]
    have hsl:(sc++[(c,S)]).length=sc.length + 1:=by simp
    rw [kits_cons,e0,forL_one]
    generalize hg:forL (execMs (TT n) wmB) (.one 139) (encI r)=g at *
    have m1:=hs.m1
    have hst:∀ ρ:Loc,True:=fun _=>trivial
    cases it with
    | odd s w =>
      refine ⟨σ,?_⟩
      show ∃ ρ' S',_
      cases w
      · refine ⟨?_,S,?_,?_,hk,(MP.err (α:=En) (σ:=σ) (i:=s) hs).s⟩
        rotate_left
        · open_k with ([wmB,F_Kinds_within,encT,h1],8)
          rfl
        · simp only [y_look,Nat.reduceEqDiff,↓reduceIte,h1]
      · refine ⟨?_,S,?_,?_,hk,(MP.err (α:=En) (σ:=σ) (i:=s) hs).s⟩
        rotate_left
        · open_k with ([wmB,F_Kinds_within,encT,h1],8)
          rfl
        · simp only [y_look,Nat.reduceEqDiff,↓reduceIte,h1]
    | cst s a =>
      simp only [It.dp,It.sz] at hn hz hd
      have hkit:kit (.cst s a) (flatS sc++S)=bindW (kd a (flatS sc++S)) fun k=>chk (fitsK k BOOL) s (okW none):=rfl
      obtain ⟨σ1,e1,p1⟩:=hx.1 (sc++[(c,S)]) n σ A C (by omega) (by omega) (by omega) hs
      rw [flat_snoc] at e1 p1
      have f:=fun k=>@want_boo n σ1 (by omega) k s (.str 88) 64 rfl (by decide)
      rw [hkit]
      generalize kd a (flatS sc++S)=wa at *
      cases q1:wa.1 with
      | error i =>
        rw [q1] at e1
        simp only [outR] at e1
        refine ⟨σ1,?_⟩
        rw [bindW_err (bindW_err q1)]
        refine ⟨?_,S,?_,?_,.bindE (bindW_err q1) (.bindE q1 (.kp hk p1))⟩
        rotate_left
        · open_k with ([wmB,F_Kinds_within,encT,h1,m1,e1],6)
          rfl
        · simp only [y_look,Nat.reduceEqDiff,↓reduceIte,h1]
      | ok k =>
        rw [q1] at e1
        simp only [outR] at e1
        cases q2:fitsK k BOOL with
        | false =>
          have hw:(bindW wa fun k=>chk (fitsK k BOOL) s (okW (none:Option (Nat × Kd)))).1 = .error s:=by rw [bindW_ok q1,q2]; rfl
          have hp:MP σ A C (sc++[(c,S)]) (bindW wa fun k=>chk (fitsK k BOOL) s (okW (none:Option (Nat × Kd)))) σ1:=.bind q1 p1 (by rw [q2]; exact .err p1.s)
          refine ⟨σ1,?_⟩
          rw [bindW_err hw]
          refine ⟨?_,S,?_,?_,.bindE hw (.kp hk hp)⟩
          rotate_left
          · open_k with ([wmB,F_Kinds_within,encT,h1,m1,e1,f,q2],6)
            rfl
          · simp only [y_look,Nat.reduceEqDiff,↓reduceIte,h1]
        | true =>
          have hw:(bindW wa fun k=>chk (fitsK k BOOL) s (okW (none:Option (Nat × Kd)))).1 = .ok none:=by rw [bindW_ok q1,q2]; rfl
          have hp:MP σ A C (sc++[(c,S)]) (bindW wa fun k=>chk (fitsK k BOOL) s (okW (none:Option (Nat × Kd)))) σ1:=.bind q1 p1 (by rw [q2]; exact .ok p1.s)
          obtain ⟨σ2,c2⟩:=reck S σ1 _ _ (putA 139 (encT (.cst s a)) ρ) (by omega) (by omega) (by omega) (hk.trans hp.k.kp) hp.s (by simp only [y_look,Nat.reduceEqDiff,↓reduceIte,h1])
          refine ⟨σ2,?_⟩
          rw [bindW_ok hw]
          have step:seqS (execMs (TT n) wmB (putA 139 (encT (.cst s a)) ρ) σ) g=g (putA 139 (encT (.cst s a)) ρ) σ1:=by
            open_k with ([wmB,F_Kinds_within,encT,h1,m1,e1,f,q2],6)
          rw [step]
          dsimp only
          generalize hwb:kits r (S.map (·.1)) (flatS sc++S)=wb at *
          have hb:∀ S',KP σ0 (adds A (bindW wa fun k=>chk (fitsK k BOOL) s (okW (none:Option (Nat × Kd)))).2.1) (C || (bindW wa fun k=>chk (fitsK k BOOL) s (okW (none:Option (Nat × Kd)))).2.2) (sc++[(c,S')]) wb σ2 →
              KP σ0 A C (sc++[(c,S')]) (bindW (bindW wa fun k=>chk (fitsK k BOOL) s (okW (none:Option (Nat × Kd)))) fun d=>match d with
                | none=>kits r (S.map (·.1)) (flatS sc++S)
                | some (x,k)=>chk (!(S.map (·.1)).contains x) (It.cst s a).spot (kits r (S.map (·.1)++[x]) (flatS sc++S++[(x,k)]))) σ2:=fun S' p => .bind0 hw (by dsimp only; rw [hwb]; exact p)
          rw [hwb] at hb
          cases q3:wb.1 with
          | error i =>
            rw [q3] at c2
            obtain ⟨ρ',S',e,l,p⟩:=c2
            exact ⟨ρ',S',e,l,hb S' p⟩
          | ok E' =>
            rw [q3] at c2
            obtain ⟨ρ',S',e,hk2,g3,hl,p⟩:=c2
            refine ⟨ρ',S',e,fun k n1 n2=>?_,g3,by omega,hb S' p⟩
            rw [hk2 k n1 n2,y_look,if_neg (Ne.symm n1)]
    | decl s b v any ds dom x val =>
      have hds:(It.decl s b v any ds dom x val).sz=ds.sz + dom.sz + val.sz + 1:=rfl
      obtain ⟨σ1,e1,p1⟩:=mk_declared s b v any ds dom x val hx.1.1 hx.1.2.1 hx.1.2.2 (sc++[(c,S)]) n σ A C (by omega) (by omega) (by omega) hs
      rw [flat_snoc] at e1 p1
      rw [kit_decl]
      generalize hw0:declW s b v any ds dom val (flatS sc++S)=wa at *
      generalize hK0:(⟨b,v,any || ds.some⟩:Kd)=K at *
      have n1:=p1.s.m1
      have n2:=p1.s.m2
      cases q1:wa.1 with
      | error i =>
        have hw:(bindW wa fun _=>okW (some (x,K))).1 = .error i:=bindW_err q1
        have hw2:(bindW wa fun _=>okW K).1 = .error i:=bindW_err q1
        rw [hw2] at e1
        simp only [outR,encT_decl] at e1
        refine ⟨σ1,?_⟩
        rw [bindW_err hw]
        have hp:KP σ0 A C (sc++[(c,S)]) wa σ1:=by
          refine ⟨hk.trans p1.k.kp,?_⟩
          have:=p1.s
          obtain ⟨q,as,cc⟩:=wa
          cases q1
          exact this
        refine ⟨?_,S,?_,?_,.bindE hw (.bindE q1 hp)⟩
        rotate_left
        · open_k with ([wmB,F_Kinds_within,encT_decl,h1,m1,e1],6)
          rfl
        · simp only [y_look,Nat.reduceEqDiff,↓reduceIte,h1]
      | ok u =>
        have hw:(bindW wa fun _=>okW (some (x,K))).1 = .ok (some (x,K)):=bindW_ok q1
        have hw2:(bindW wa fun _=>okW K).1 = .ok K:=bindW_ok q1
        have h2:(bindW wa fun _=>okW (some (x,K))).2=wa.2:=by
          obtain ⟨q,as,cc⟩:=wa
          cases q1
          show (as++[],cc || false)=_
          rw [List.append_nil,Bool.or_false]
        have h22:(bindW wa fun _=>okW K).2=wa.2:=by
          obtain ⟨q,as,cc⟩:=wa
          cases q1
          show (as++[],cc || false)=_
          rw [List.append_nil,Bool.or_false]
        rw [hw2] at e1
        simp only [outR,encT_decl] at e1
        have ps:=p1.s
        rw [h22] at ps
        have hput:=ev_put (n:=n) (by omega) (x:=x) (k:=K) (s:=s) ps (by omega)
        have hcon:=last_contains x S
        cases q2:(lastA x S).isSome with
        | true =>
          rw [q2] at hput hcon
          simp only [if_true] at hput
          refine ⟨σ1,?_⟩
          rw [bindW_ok hw]
          dsimp only
          rw [← hcon,Bool.not_true,chk_f]
          show ∃ ρ' S',_
          refine ⟨?_,S,?_,?_,.bind0 hw (by rw [h2]; dsimp only; rw [← hcon,Bool.not_true,chk_f]; exact .kp (hk.trans p1.k.kp) (.err ps))⟩
          rotate_left
          · open_k with ([wmB,F_Kinds_within,encT_decl,h1,m1,n1,n2,e1,hput],6)
            rfl
          · simp only [y_look,Nat.reduceEqDiff,↓reduceIte,h1]
        | false =>
          rw [q2] at hput hcon
          simp only [Bool.false_eq_true,if_false] at hput
          have hnone:lastA x S=none:=by cases q:lastA x S with
            | none=>rfl
            | some k=>rw [q] at q2; cases q2
          have s3:=ps.put (k:=K) hnone
          have k3:Kp σ0 (σ1.set c (.dict (dE (S++[(x,K)])))):=(hk.trans p1.k.kp).over hc
          have hmap:(S++[(x,K)]).map (·.1)=S.map (·.1)++[x]:=by rw [List.map_append]; rfl
          have hSl:(S++[(x,K)]).length=S.length + 1:=by simp
          obtain ⟨σ2,c2⟩:=reck (S++[(x,K)]) (σ1.set c (.dict (dE (S++[(x,K)])))) _ _ (putA 144 (encK K) (putA 139 (encT (.decl s b v any ds dom x val)) ρ)) (by omega) (by omega) (by omega) k3 s3 (by simp only [y_look,Nat.reduceEqDiff,↓reduceIte,h1])
          refine ⟨σ2,?_⟩
          rw [bindW_ok hw]
          have step:seqS (execMs (TT n) wmB (putA 139 (encT (.decl s b v any ds dom x val)) ρ) σ) g=g (putA 144 (encK K) (putA 139 (encT (.decl s b v any ds dom x val)) ρ)) (σ1.set c (.dict (dE (S++[(x,K)])))):=by
            open_k with ([wmB,F_Kinds_within,encT_decl,h1,m1,n1,n2,e1,hput],6)
          rw [step]
          dsimp only
          rw [← hcon,Bool.not_false,chk_t]
          rw [hmap,← List.append_assoc] at c2
          generalize hwb:kits r (S.map (·.1)++[x]) (flatS sc++S++[(x,K)])=wb at *
          have hb:∀ S',KP σ0 (adds A wa.2.1) (C || wa.2.2) (sc++[(c,S')]) wb σ2 →
              KP σ0 A C (sc++[(c,S')]) (bindW (bindW wa fun _=>okW (some (x,K))) fun d=>match d with
                | none=>kits r (S.map (·.1)) (flatS sc++S)
                | some (x,k)=>chk (!(S.map (·.1)).contains x) (It.decl s b v any ds dom x val).spot (kits r (S.map (·.1)++[x]) (flatS sc++S++[(x,k)]))) σ2:=fun S' p => .bind0 hw (by rw [h2]; dsimp only; rw [← hcon,Bool.not_false,chk_t,hwb]; exact p)
          cases q3:wb.1 with
          | error i =>
            rw [q3] at c2
            obtain ⟨ρ',S',e,l,p⟩:=c2
            exact ⟨ρ',S',e,l,hb S' p⟩
          | ok E' =>
            rw [q3] at c2
            obtain ⟨ρ',S',e,hk2,g3,hl,p⟩:=c2
            refine ⟨ρ',S',e,fun k n1 n2=>?_,g3,by omega,hb S' p⟩
            rw [hk2 k n1 n2,y_look,y_look,if_neg (Ne.symm n2),if_neg (Ne.symm n1)]
theorem mk_within (s:Int) (its:Its) (body:Nd) (hi:its.All MK) (hb:MK body) (sc:Scs) (n:Nat) (σ:Sto) (A:List Nat) (C:Bool) (hn:5 * (Nd.lt s its body).dp + 7≤n - 1) (hz:(flatS sc).length + (Nd.lt s its body).sz≤300) (hd:sc.length + (Nd.lt s its body).dp≤35) (h:MSt A C sc σ) :
    ∃ σ',CM (n - 1) 33 [.obj 1 1,.tup [.str 156,.int s,.tup (encI its),enc body]] σ=outR encK (bindW (kits its [] (flatS sc)) fun E' => kd body E').1 σ' ∧ MP σ A C sc (bindW (kits its [] (flatS sc)) fun E' => kd body E') σ':=by
  simp only [Nd.dp,Nd.sz] at hn hz hd
  obtain ⟨σ1,e1,s1,k1,l1⟩:=ev_push (n:=n - 1 - 1) (by omega) h (by omega)
  have hl:(encI its).length < most:=Nat.lt_of_le_of_lt (encI_len its) (show _ < 400 by omega)
  have m1:=h.m1
  have m2:=h.m2
  obtain ⟨σ2,c2⟩:=mk_itsL (n - 1 - 1) σ sc σ.length (Nat.le_refl _) its hi [] σ1 A C [(207,.obj 1 1),(172,.tup [.str 156,.int s,.tup (encI its),enc body])] (by omega) (by simp only [List.length_nil]; omega) (by omega) k1 s1 rfl
  rw [List.map_nil,List.append_nil] at c2
  have back:∀ {α:Type} {σ3:Sto} {S':En} {w:W α},KP σ A C (sc++[(σ.length,S')]) w σ3→MP σ A C sc w (σ3.set 4 (.list (refs sc))):=fun {α σ3 S' w} p=>by
    refine ⟨⟨by rw [List.length_set]; exact p.k.len,fun k hk h5 h9=>?_⟩,p.s.pop⟩
    by_cases h4:k=4
    · subst h4
      rw [List.getElem?_set_self (by have:=p.s.big; omega)]
      exact h.m4.symm
    · rw [List.getElem?_set_ne (Ne.symm h4)]
      exact p.k.get k hk h4 h5 h9
  rw [CM_eq (by omega) rfl rfl]
  generalize kits its [] (flatS sc)=wa at *
  simp only [wmB,F_Kinds_within] at c2
  cases q1:wa.1 with
  | error i =>
    rw [q1] at c2
    obtain ⟨ρ',S',e,l207,p⟩:=c2
    have n1:=p.s.m1
    have n2:=p.s.m2
    have hp:=ev_popQ (n:=n - 1 - 1) (by omega) p.s (by omega)
    refine ⟨σ2.set 4 (.list (refs sc)),?_,back (.bindE q1 p)⟩
    rw [bindW_err q1]
    open_k with ([F_Kinds_within,m1,m2,e1,sFor_tup hl,e,l207,n1,n2,at_q171,mk_q190,hp,outR],6)
  | ok E' =>
    rw [q1] at c2
    obtain ⟨ρ',S',e,hk2,rfl,hl2,p⟩:=c2
    rw [bindW_ok q1]
    have l207:lookA 207 ρ' = some (.obj 1 1):=hk2 207 (by decide) (by decide)
    have l172:lookA 172 ρ' = some (.tup [.str 156,.int s,.tup (encI its),enc body]):=hk2 172 (by decide) (by decide)
    have n1:=p.s.m1
    rw [List.length_nil] at hl2
    have hfl:(flatS (sc++[(σ.length,S')])).length=(flatS sc).length + S'.length:=by rw [flat_snoc,List.length_append]
    have hsl:(sc++[(σ.length,S')]).length=sc.length + 1:=by simp
    obtain ⟨σ3,e3,p3⟩:=hb (sc++[(σ.length,S')]) (n - 1 - 1) σ2 _ _ (by omega) (by omega) (by omega) p.s
    rw [flat_snoc] at e3 p3
    generalize hwb:kd body (flatS sc++S')=wb at *
    have r1:=p3.s.m1
    have r2:=p3.s.m2
    have hp:=ev_popQ (n:=n - 1 - 1) (by omega) p3.s (by omega)
    refine ⟨σ3.set 4 (.list (refs sc)),?_,back (.bind0 q1 (by rw [hwb]; exact .kp p.k p3))⟩
    cases q2:wb.1 with
    | error i =>
      rw [q2] at e3
      simp only [outR] at e3
      open_k with ([F_Kinds_within,m1,m2,e1,sFor_tup hl,e,l207,l172,n1,e3,r1,r2,at_q171,mk_q190,hp,outR],6)
    | ok k =>
      rw [q2] at e3
      simp only [outR] at e3
      open_k with ([F_Kinds_within,m1,m2,e1,sFor_tup hl,e,l207,l172,n1,e3,r1,r2,at_q171,mk_q190,hp,outR],6)
theorem mk_lt (s:Int) (its:Its) (body:Nd) (hi:its.All MK) (hb:MK body):MK (.lt s its body):=fun sc n σ A C hn hz hd h=>by
  have m1:=h.m1
  obtain ⟨σ',e,p⟩:=mk_within s its body hi hb sc n σ A C (by omega) hz hd h
  rw [kd_lt,CM_eq (by omega) rfl rfl]
  refine ⟨σ',?_,p⟩
  generalize (bindW (kits its [] (flatS sc)) fun E' => kd body E')=w at *
  cases q:w.1 with
  | error i =>
    rw [q] at e
    simp only [outR] at e
    open_k with ([F_Kinds_kind,enc,m1,e,outR],6)
  | ok k =>
    rw [q] at e
    simp only [outR] at e
    open_k with ([F_Kinds_kind,enc,m1,e,outR],6)
theorem Nds_mono {P Q:Nd→Prop} (h:∀ nd,P nd→Q nd):∀ xs:Nds,xs.All P→xs.All Q
  | .nil,_=>trivial
  | .cons x r,p=>⟨h x p.1,Nds_mono h r p.2⟩
theorem It_mono {P Q:Nd→Prop} (h:∀ nd,P nd→Q nd):∀ it:It,it.All P→it.All Q
  | .cst _ a,p=>h a p
  | .odd ..,_=>trivial
  | .decl _ _ _ _ ds dom _ val,p=>⟨Nds_mono h ds p.1,Nds_mono h dom p.2.1,Nds_mono h val p.2.2⟩
theorem Its_mono {P Q:Nd→Prop} (h:∀ nd,P nd→Q nd):∀ its:Its,its.All P→its.All Q
  | .nil,_=>trivial
  | .cons x r,p=>⟨It_mono h x p.1,Its_mono h r p.2⟩
theorem mk_all2:∀ nd,MK nd∧SpOk nd:=Nd.ind (P:=fun nd=>MK nd∧SpOk nd)
  (fun b s i=>⟨mk_lit b s i,mk_lit b s i⟩) (fun s x=>⟨mk_name s x,mk_name s x⟩) (fun s a b ha hb=>⟨mk_rng s a b ha.1 hb.1,mk_rng s a b ha.1 hb.1⟩)
  (fun s xs h=>have h:=Nds_mono (fun _ p=>p.1) xs h; ⟨mk_arr s xs h,mk_arr s xs h⟩) (fun s a i ha hi=>⟨mk_idx s a i ha.1 hi.1,mk_idx s a i ha.1 hi.1⟩)
  (fun s a ha=>⟨mk_call s a ha.1,mk_call s a ha.1⟩) (fun s g a b ha hb=>⟨mk_bin s g a b ha.2 hb.1,ha.2,hb.1⟩)
  (fun s its b hi hb=>have h:=Its_mono (fun _ p=>p.1) its hi; ⟨mk_lt s its b h hb.1,mk_lt s its b h hb.1⟩)
theorem mk_all (nd:Nd):MK nd:=(mk_all2 nd).1
def feedD (cells:List Int) (p s:Int):List (Nat × LV):=[(80,.lst (cells.map .int)),(188,.int p),(217,.int s)]
def G (σ:Sto) (cells:List Int) (p s:Int):Sto:=σ.set 0 (.dict (feedD cells p s))
section
variable {σ:Sto} {cells:List Int} {p s:Int} {n:Nat}
theorem G_get (h:0 < σ.length):(G σ cells p s)[0]? = some (.dict (feedD cells p s)):=by unfold G; rw [List.getElem?_set_self h]
theorem G_set {q t:Int}:(G σ cells p s).set 0 (.dict (feedD cells q t))=G σ cells q t:=by unfold G; rw [List.set_set]
theorem f_80 (h:0 < σ.length):subL (G σ cells p s) (.cell 0) (.str 80)=some (.lst (cells.map .int)):=by unfold subL; simp only [G_get h]; rfl
theorem f_188 (h:0 < σ.length):subL (G σ cells p s) (.cell 0) (.str 188)=some (.int p):=by unfold subL; simp only [G_get h]; rfl
theorem f_217 (h:0 < σ.length):subL (G σ cells p s) (.cell 0) (.str 217)=some (.int s):=by unfold subL; simp only [G_get h]; rfl
theorem set_188 {ρ:Loc} {x:Int} (h:0 < σ.length):sSetI3 ρ (.int x) (.cell 0) (.str 188) (G σ cells p s)=some (.next,ρ,G σ cells x s):=by
  unfold sSetI3
  simp only [G_get h]
  rw [if_pos (by show 3 < 400; decide)]
  show some (Fl.next,ρ,(G σ cells p s).set 0 (.dict (feedD cells x s)))=_
  rw [G_set]
theorem set_217 {ρ:Loc} {x:Int} (h:0 < σ.length):sSetI3 ρ (.int x) (.cell 0) (.str 217) (G σ cells p s)=some (.next,ρ,G σ cells p x):=by
  unfold sSetI3
  simp only [G_get h]
  rw [if_pos (by show 3 < 400; decide)]
  show some (Fl.next,ρ,(G σ cells p s).set 0 (.dict (feedD cells p x)))=_
  rw [G_set]
theorem sm_of {a:Int} (h1 : -1000000000 < a) (h2:a < 1000000000):small a=true:=by
  unfold small; simp only [Bool.and_eq_true,decide_eq_true_eq]; omega
theorem b_add {a b:Int} (h1 : -1000000000 < a) (h2:a < 1000000000) (h3 : -1000000000 < b) (h4:b < 1000000000):binL .add (.int a) (.int b)=some (.int (a + b)):=by
  simp only [binL,sm_of h1 h2,sm_of h3 h4,Bool.and_self,if_true]
theorem b_sub {a b:Int} (h1 : -1000000000 < a) (h2:a < 1000000000) (h3 : -1000000000 < b) (h4:b < 1000000000):binL .sub (.int a) (.int b)=some (.int (a - b)):=by
  simp only [binL,sm_of h1 h2,sm_of h3 h4,Bool.and_self,if_true]
theorem b_mul {a b:Int} (h1 : -1000000000 < a) (h2:a < 1000000000) (h3 : -1000000000 < b) (h4:b < 1000000000):binL .mul (.int a) (.int b)=some (.int (a * b)):=by
  simp only [binL,sm_of h1 h2,sm_of h3 h4,Bool.and_self,if_true]
theorem b_mod {a b:Int} (h1:0 < b) (h2:b < 1000000000):binL .mod (.int a) (.int b)=some (.int (a % b)):=by
  simp only [binL,sm_of (show -1000000000 < b by omega) h2,decide_eq_true h1,Bool.and_self,if_true]
theorem ev_dip (hn:0 < n) (h:0 < σ.length) (hc:cells.length≤63) (hp:0≤p∧p≤9000) (many:Int) (hm:0 < many∧many≤100) :
    ∃ r:Int,0≤r∧r < many∧CM n 1 [.cell 0,.int many] (G σ cells p s)=some (.val (.int r),G σ cells (p + 1) s):=by
  obtain ⟨k,rfl⟩:=Int.eq_ofNat_of_zero_le hp.1
  have hk:k≤9000:=by omega
  have hl:∀ σ',kLen (.lst (cells.map .int)) σ' = some (.val (.int (cells.length:Nat)),σ'):=fun σ' => k_len (by
    show (if (cells.map LV.int).length < most then some _ else none)=_
    rw [List.length_map,if_pos (by show _ < 400; omega)])
  have a1:binL .add (.int (k:Int)) (.int 1)=some (.int ((k:Int) + 1)):=b_add (by omega) (by omega) (by omega) (by omega)
  by_cases hlt:k < cells.length
  · have hd:decide ((k:Int) < (cells.length:Int))=true:=decide_eq_true (by omega)
    have hsub:∀ σ',subL σ' (.lst (cells.map .int)) (.int (k:Int))=some (.int cells[k]):=fun σ' => by
      rw [x_subLk (by rw [List.length_map]; exact hlt) (by omega),List.getElem?_map,List.getElem?_eq_getElem hlt]; rfl
    have hmod:binL .mod (.int cells[k]) (.int many)=some (.int (cells[k] % many)):=b_mod hm.1 (by omega)
    refine ⟨cells[k] % many,Int.emod_nonneg _ (by omega),Int.emod_lt_of_pos _ hm.1,?_⟩
    rw [CM_eq hn rfl rfl]
    open_k with ([F__law_dip,f_80 h,f_188 h,a1,set_188 h,hl,hd,hsub,hmod],9)
  · have hd:decide ((k:Int) < (cells.length:Int))=false:=decide_eq_false (by omega)
    have q1:binL .mul (.int 5) (.int (k:Int))=some (.int (5 * (k:Int))):=b_mul (by omega) (by omega) (by omega) (by omega)
    have sq:(5 * (k:Int)) * (k:Int)≤405000000:=by
      have h1:(5 * (k:Int)) * (k:Int)≤(5 * 9000) * 9000:=Int.mul_le_mul (by omega) (by omega) (by omega) (by omega)
      omega
    have sq0:0≤(5 * (k:Int)) * (k:Int):=Int.mul_nonneg (by omega) (by omega)
    have q2:binL .mul (.int (5 * (k:Int))) (.int (k:Int))=some (.int (5 * (k:Int) * (k:Int))):=b_mul (by omega) (by omega) (by omega) (by omega)
    have q3:binL .mul (.int 11) (.int (k:Int))=some (.int (11 * (k:Int))):=b_mul (by omega) (by omega) (by omega) (by omega)
    have q4:binL .mul (.int 3) (.int (cells.length:Int))=some (.int (3 * (cells.length:Int))):=b_mul (by omega) (by omega) (by omega) (by omega)
    have q5:binL .add (.int (5 * (k:Int) * (k:Int))) (.int (11 * (k:Int)))=some (.int (5 * (k:Int) * (k:Int) + 11 * (k:Int))):=b_add (by omega) (by omega) (by omega) (by omega)
    have q6:binL .add (.int (5 * (k:Int) * (k:Int) + 11 * (k:Int))) (.int (3 * (cells.length:Int)))=some (.int (5 * (k:Int) * (k:Int) + 11 * (k:Int) + 3 * (cells.length:Int))):=b_add (by omega) (by omega) (by omega) (by omega)
    have q7:binL .add (.int (5 * (k:Int) * (k:Int) + 11 * (k:Int) + 3 * (cells.length:Int))) (.int 4)=some (.int (5 * (k:Int) * (k:Int) + 11 * (k:Int) + 3 * (cells.length:Int) + 4)):=b_add (by omega) (by omega) (by omega) (by omega)
    have q8:binL .mod (.int (5 * (k:Int) * (k:Int) + 11 * (k:Int) + 3 * (cells.length:Int) + 4)) (.int 89)=some (.int ((5 * (k:Int) * (k:Int) + 11 * (k:Int) + 3 * (cells.length:Int) + 4) % 89)):=b_mod (by omega) (by omega)
    generalize (5 * (k:Int) * (k:Int) + 11 * (k:Int) + 3 * (cells.length:Int) + 4) % 89=z at q8
    have q9:binL .mod (.int z) (.int many)=some (.int (z % many)):=b_mod hm.1 (by omega)
    refine ⟨z % many,Int.emod_nonneg _ (by omega),Int.emod_lt_of_pos _ hm.1,?_⟩
    rw [CM_eq hn rfl rfl]
    open_k with ([F__law_dip,f_80 h,f_188 h,a1,set_188 h,hl,hd,q1,q2,q3,q4,q5,q6,q7,q8,q9],9)
theorem ev_spot (hn:0 < n) (h:0 < σ.length) (hs:0≤s∧s≤100000000):CM n 2 [.cell 0] (G σ cells p s)=some (.val (.int (s + 3)),G σ cells p (s + 3)):=by
  have a1:binL .add (.int s) (.int 3)=some (.int (s + 3)):=b_add (by omega) (by omega) (by omega) (by omega)
  rw [CM_eq hn rfl rfl]
  open_k with ([F__law_spot,f_217 h,a1,set_217 h],9)
theorem sub_strs (cs:List Nat) {r:Int} (h0:0≤r) (h1:r < cs.length) (hl:cs.length≤100):∃ x,∀ σ,subL σ (.tup (cs.map .str)) (.int r)=some (.str x):=by
  obtain ⟨k,rfl⟩:=Int.eq_ofNat_of_zero_le h0
  have hk:k < cs.length:=by omega
  exact ⟨cs[k],fun σ=>by rw [x_subT (by rw [List.length_map]; exact hk) (by omega),List.getElem?_map,List.getElem?_eq_getElem hk]; rfl⟩
def Bd (σ:Sto) (cells:List Int) (p s:Int) (r:R LV) (dp sz:Nat) (a b:Int):Prop :=
  ∃ nd p' s',r=some (.val (enc nd),G σ cells p' s')∧nd.dp≤dp∧nd.sz≤sz∧p≤p' ∧ p' ≤ p + a∧s≤s' ∧ s' ≤ s + b
theorem ev_leaf1 (hn:1 < n) (h:0 < σ.length) (hc:cells.length≤63) (hp:0≤p∧p≤8000) (hs:0≤s∧s≤90000000) (b:Lb):Bd σ cells p s (CM n 3 [.cell 0,.str b.b.code] (G σ cells p s)) 0 1 2 3:=by
  unfold Bd
  have es:=@ev_spot σ cells p s (n - 1) (by omega) h (by omega)
  obtain ⟨r,r0,r1,ed⟩:=@ev_dip σ cells p (s + 3) (n - 1) (by omega) h hc (by omega) 12 (by omega)
  obtain ⟨r2,q0,q1,ed2⟩:=@ev_dip σ cells (p + 1) (s + 3) (n - 1) (by omega) h hc (by omega) 6 (by omega)
  rw [CM_eq (by omega) rfl rfl]
  cases h11:(r == 11) with
  | true =>
    obtain ⟨x,ex⟩:=sub_strs [203,223,232,247,111,52] q0 q1 (by decide)
    simp only [List.map_cons,List.map_nil] at ex
    refine ⟨.name (s + 3) x,p + 1 + 1,s + 3,?_,Nat.le_refl _,Nat.le_refl _,by omega,by omega,by omega,by omega⟩
    open_k with ([F__law_leaf,es,ed,ed2,h11,ex,enc],9)
  | false =>
    cases b with
    | int =>
      cases h7:decide (r < 7) with
      | true =>
        obtain ⟨x,ex⟩:=sub_strs [118,111,243,118,243,117,118] r0 (of_decide_eq_true h7) (by decide)
        simp only [List.map_cons,List.map_nil] at ex
        refine ⟨.name (s + 3) x,p + 1,s + 3,?_,Nat.le_refl _,Nat.le_refl _,by omega,by omega,by omega,by omega⟩
        open_k with ([F__law_leaf,Lb.b,Bs.code,es,ed,h11,h7,ex,enc],9)
      | false =>
        refine ⟨.lit .int (s + 3) 2,p + 1,s + 3,?_,Nat.le_refl _,Nat.le_refl _,by omega,by omega,by omega,by omega⟩
        open_k with ([F__law_leaf,Lb.b,Bs.code,Lb.lv,es,ed,h11,h7,enc],9)
        rfl
    | boo =>
      have m4:binL .mod (.int r) (.int 4)=some (.int (r % 4)):=b_mod (by omega) (by omega)
      have m3:binL .mod (.int r) (.int 3)=some (.int (r % 3)):=b_mod (by omega) (by omega)
      obtain ⟨x,ex⟩:=sub_strs [70,246,117] (r:=r % 3) (by omega) (by simp only [List.length_cons,List.length_nil]; omega) (by decide)
      simp only [List.map_cons,List.map_nil] at ex
      have pick:∃ nd:Nd,(∀ σ,subL σ (.tup [.tup [.str 75,.int (s + 3),.bool true],.tup [.str 170,.int (s + 3),.str 70],.tup [.str 170,.int (s + 3),.str 246],.tup [.str 170,.int (s + 3),.str x]]) (.int (r % 4))=some (enc nd))∧nd.dp≤0∧nd.sz≤1:=by
        have:r % 4=0∨r % 4=1∨r % 4=2∨r % 4=3:=by omega
        rcases this with e | e | e | e <;> rw [e]
        · exact ⟨.lit .boo (s + 3) 0,fun σ=>x_sub0,Nat.le_refl _,Nat.le_refl _⟩
        · exact ⟨.name (s + 3) 70,fun σ=>x_sub1,Nat.le_refl _,Nat.le_refl _⟩
        · exact ⟨.name (s + 3) 246,fun σ=>x_sub2,Nat.le_refl _,Nat.le_refl _⟩
        · exact ⟨.name (s + 3) x,fun σ=>x_sub3,Nat.le_refl _,Nat.le_refl _⟩
      obtain ⟨nd,en,d,z⟩:=pick
      refine ⟨nd,p + 1,s + 3,?_,d,z,by omega,by omega,by omega,by omega⟩
      open_k with ([F__law_leaf,Lb.b,Bs.code,es,ed,h11,m4,m3,ex,en],9)
    | str =>
      have m2:binL .mod (.int r) (.int 2)=some (.int (r % 2)):=b_mod (by omega) (by omega)
      cases h2:(r % 2 == 0) with
      | true =>
        refine ⟨.lit .str (s + 3) 0,p + 1,s + 3,?_,Nat.le_refl _,Nat.le_refl _,by omega,by omega,by omega,by omega⟩
        open_k with ([F__law_leaf,Lb.b,Bs.code,Lb.lv,es,ed,h11,m2,h2,enc],9)
      | false =>
        refine ⟨.name (s + 3) 223,p + 1,s + 3,?_,Nat.le_refl _,Nat.le_refl _,by omega,by omega,by omega,by omega⟩
        open_k with ([F__law_leaf,Lb.b,Bs.code,es,ed,h11,m2,h2,enc],9)
theorem ev_leaf (hn:2 < n) (h:0 < σ.length) (hc:cells.length≤63) (hp:0≤p∧p≤7000) (hs:0≤s∧s≤80000000) (b:Bs) (hb:b ≠ .non):Bd σ cells p s (CM n 3 [.cell 0,.str b.code] (G σ cells p s)) 1 3 4 9:=by
  have lift1:∀ lb:Lb,lb.b=b→Bd σ cells p s (CM n 3 [.cell 0,.str b.code] (G σ cells p s)) 1 3 4 9:=fun lb e=>by
    obtain ⟨nd,p',s',a1,a2,a3,a4,a5,a6,a7⟩:=ev_leaf1 (n:=n) (p:=p) (s:=s) (by omega) h hc (by omega) (by omega) lb
    rw [e] at a1
    exact ⟨nd,p',s',a1,by omega,by omega,a4,by omega,a6,by omega⟩
  cases b with
  | non=>exact absurd rfl hb
  | int=>exact lift1 .int rfl
  | boo=>exact lift1 .boo rfl
  | str=>exact lift1 .str rfl
  | set =>
    unfold Bd
    have es:=@ev_spot σ cells p s (n - 1) (by omega) h (by omega)
    obtain ⟨r,r0,r1,ed⟩:=@ev_dip σ cells p (s + 3) (n - 1) (by omega) h hc (by omega) 12 (by omega)
    obtain ⟨r2,q0,q1,ed2⟩:=@ev_dip σ cells (p + 1) (s + 3) (n - 1) (by omega) h hc (by omega) 6 (by omega)
    have es2:=@ev_spot σ cells (p + 1) (s + 3) (n - 1) (by omega) h (by omega)
    obtain ⟨nd,p',s',a1,a2,a3,a4,a5,a6,a7⟩:=ev_leaf1 (n:=n - 1) (p:=p + 1) (s:=s + 3 + 3) (by omega) h hc (by omega) (by omega) .int
    simp only [Lb.b,Bs.code] at a1
    rw [CM_eq (by omega) rfl rfl]
    cases h11:(r == 11) with
    | true =>
      obtain ⟨x,ex⟩:=sub_strs [203,223,232,247,111,52] q0 q1 (by decide)
      simp only [List.map_cons,List.map_nil] at ex
      refine ⟨.name (s + 3) x,p + 1 + 1,s + 3,?_,Nat.zero_le _,by show 1≤3; decide,by omega,by omega,by omega,by omega⟩
      open_k with ([F__law_leaf,es,ed,ed2,h11,ex,enc],9)
    | false =>
      cases h5:decide (r < 5) with
      | true =>
        refine ⟨.rng (s + 3) (.lit .int (s + 3 + 3) 1) nd,p',s',?_,?_,?_,by omega,by omega,by omega,by omega⟩
        · open_k with ([F__law_leaf,Bs.code,es,ed,es2,a1,h11,h5,enc,Lb.b,Lb.lv],9)
          rfl
        · show max 0 nd.dp + 1≤1; omega
        · show 1 + nd.sz + 1≤3; omega
      | false =>
        refine ⟨.name (s + 3) 203,p + 1,s + 3,?_,Nat.zero_le _,by show 1≤3; decide,by omega,by omega,by omega,by omega⟩
        open_k with ([F__law_leaf,Bs.code,es,ed,h11,h5,enc],9)
end
def nthS:MSs→Nat→MS
  | .cons s _,0=>s
  | .cons _ r,n + 1=>nthS r n
  | .nil,_ => .dead
def eD:Nat→Nat
  | 0=>1
  | f + 1=>max 2 (eD f) + 1
def eZ:Nat→Nat
  | 0=>3
  | f + 1=>2 * eZ f + 20
def eA:Nat→Int
  | 0=>4
  | f + 1=>4 * eA f + 130
def eB:Nat→Int
  | 0=>9
  | f + 1=>4 * eB f + 230
theorem eA_pos:∀ f,4≤eA f
  | 0=>Int.le_refl _
  | f + 1=>by have:=eA_pos f; show 4≤4 * eA f + 130; omega
theorem eB_pos:∀ f,9≤eB f
  | 0=>Int.le_refl _
  | f + 1=>by have:=eB_pos f; show 9≤4 * eB f + 230; omega
theorem eZ_pos:∀ f,3≤eZ f
  | 0=>Nat.le_refl _
  | f + 1=>by have:=eZ_pos f; show 3≤2 * eZ f + 20; omega
theorem eD_pos:∀ f,1≤eD f
  | 0=>Nat.le_refl _
  | f + 1=>by show 1≤max 2 (eD f) + 1; omega
def ExprOk (σ:Sto) (cells:List Int) (f:Nat):Prop := ∀ (p s:Int) (n:Nat) (b:Bs),b ≠ .non→5 + 3 * f≤n→0≤p→p + eA f≤7000→0≤s→s + eB f≤80000000 →
  Bd σ cells p s (CM n 4 [.cell 0,.int (f:Nat),.str b.code] (G σ cells p s)) (eD f) (eZ f) (eA f) (eB f)
section
variable {σ:Sto} {cells:List Int}
theorem expr0 (h:0 < σ.length) (hc:cells.length≤63):ExprOk σ cells 0:=fun p s n b hb hn hp hp2 hs hs2=>by
  have e0:eA 0=4:=rfl
  have e1:eB 0=9:=rfl
  obtain ⟨nd,p',s',a1,a2,a3,a4,a5,a6,a7⟩:=ev_leaf (n:=n - 1) (p:=p) (s:=s) (by omega) h hc (by omega) (by omega) b hb
  refine ⟨nd,p',s',?_,a2,a3,a4,a5,a6,a7⟩
  have g0:decide (((0:Nat):Int) > 0)=false:=rfl
  have z5:((0:Int) == 5)=false:=rfl
  have z2:decide ((0:Int) < 2)=true:=rfl
  rw [CM_eq (by omega) rfl rfl]
  open_k with ([F__law_expr,g0,z5,z2,a1],9)
def BdT (σ:Sto) (cells:List Int) (p s:Int) (r:R LV) (dp sz:Nat) (a b:Int):Prop :=
  ∃ it p' s',r=some (.val (encT it),G σ cells p' s')∧it.dp≤dp∧it.sz≤sz∧p≤p' ∧ p' ≤ p + a∧s≤s' ∧ s' ≤ s + b
theorem leaves (h:0 < σ.length) (hc:cells.length≤63) (b:Bs) (hb:b ≠ .non) (n:Nat) (hn:2 < n):∀ (l:List LV) (ρ:Loc) (p s:Int),l.length≤3→lookA 105 ρ=some (.cell 0)→lookA 72 ρ=some (.str b.code)→0≤p→p + 4 * l.length≤7000→0≤s→s + 9 * l.length≤80000000 →
    ∃ xs p' s',compL (allM (TT n) .nil) (evalM (TT n) (.call 3 (.cons (.loc 105) (.cons (.loc 72) .nil)))) (.one 151) ρ l (G σ cells p s)=some (.val (encs xs),G σ cells p' s')∧xs.dp≤1∧xs.sz≤3 + l.length∧(encs xs).length=l.length∧p≤p' ∧ p' ≤ p + 4 * l.length∧s≤s' ∧ s' ≤ s + 9 * l.length
  | [],ρ,p,s,hl,h1,h2,_,_,_,_=>⟨.nil,p,s,rfl,Nat.zero_le _,Nat.zero_le _,rfl,by omega,by simp,by omega,by simp⟩
  | v::r,ρ,p,s,hl,h1,h2,hp,hp2,hs,hs2=>by
    simp only [List.length_cons] at hl hp2 hs2
    obtain ⟨nd,p',s',a1,a2,a3,a4,a5,a6,a7⟩:=ev_leaf (n:=n) (p:=p) (s:=s) hn h hc (by omega) (by omega) b hb
    obtain ⟨xs,p2,s2,b1,b2,b3,b4,b5,b6,b7,b8⟩:=leaves h hc b hb n hn r ρ p' s' (by omega) h1 h2 (by omega) (by omega) (by omega) (by omega)
    refine ⟨.cons nd xs,p2,s2,?_,?_,?_,?_,by omega,by simp only [List.length_cons]; omega,by omega,by simp only [List.length_cons]; omega⟩
    · rw [compL_one]
      generalize compL (allM (TT n) .nil) (evalM (TT n) (.call 3 (.cons (.loc 105) (.cons (.loc 72) .nil)))) (.one 151) ρ r=g at *
      open_k with ([h1,h2,a1,b1,encs],9)
    · show max nd.dp xs.dp≤1; omega
    · show max nd.sz (xs.sz + 1)≤3 + (r.length + 1); omega
    · show (encs xs).length + 1=r.length + 1; omega
theorem sub_strsM (cs:List Nat) {r:Int} (h0:0≤r) (h1:r < cs.length) (hl:cs.length≤100):∃ x∈cs,∀ σ,subL σ (.tup (cs.map .str)) (.int r)=some (.str x):=by
  obtain ⟨k,rfl⟩:=Int.eq_ofNat_of_zero_le h0
  have hk:k < cs.length:=by omega
  exact ⟨cs[k],List.getElem_mem hk,fun σ=>by rw [x_subT (by rw [List.length_map]; exact hk) (by omega),List.getElem?_map,List.getElem?_eq_getElem hk]; rfl⟩
theorem bases_of {x:Nat} (h:x∈[130,75,130,208,218]):∃ b:Bs,b ≠ .non∧x=b.code:=by
  simp only [List.mem_cons,List.not_mem_nil,or_false] at h
  rcases h with rfl | rfl | rfl | rfl | rfl
  · exact ⟨.int,by decide,rfl⟩
  · exact ⟨.boo,by decide,rfl⟩
  · exact ⟨.int,by decide,rfl⟩
  · exact ⟨.set,by decide,rfl⟩
  · exact ⟨.str,by decide,rfl⟩
theorem c2_ib (b:Bs):(130 == b.code || 75 == b.code)=(b == .int || b == .boo):=by cases b <;> rfl
theorem c2_is (b:Bs):(130 == b.code || 208 == b.code)=(b == .int || b == .set):=by cases b <;> rfl
theorem dims_nil (any:Bool) (ds:Nds):eqL (.tup (dimsL any ds)) (.tup [])=some (!(any || ds.some)):=by
  cases any with
  | true=>rfl
  | false =>
    cases ds with
    | nil=>rfl
    | cons a r =>
      show (if ((dataL (enc a) && true) && true && (_ || true))=true then some false else none)=_
      rw [enc_data,Bool.or_true]; rfl
section
variable {n:Nat} {ρ:Loc} {p s:Int}
theorem it3 (hn:0 < n) (h:0 < σ.length) (hc:cells.length≤63) (hp:0≤p∧p≤8000) (l105:lookA 105 ρ=some (.cell 0)) :
    ∃ (b:Bs) (r:Int),b ≠ .non∧execM (TT n) (nthS F__law_item.body 3) ρ (G σ cells p s)=some (.next,putA 210 (.int r) (putA 72 (.str b.code) ρ),G σ cells (p + 1 + 1) s):=by
  obtain ⟨r,q0,q1,ed⟩:=@ev_dip σ cells p s n (by omega) h hc (by omega) 5 (by omega)
  obtain ⟨r2,t0,t1,ed2⟩:=@ev_dip σ cells (p + 1) s n (by omega) h hc (by omega) 6 (by omega)
  obtain ⟨x,hx,ex⟩:=sub_strsM [130,75,130,208,218] q0 q1 (by decide)
  simp only [List.map_cons,List.map_nil] at ex
  obtain ⟨b,hb,rfl⟩:=bases_of hx
  refine ⟨b,r2,hb,?_⟩
  open_k with ([nthS,F__law_item,l105,ed,ed2,ex],9)
theorem it4 (hn:0 < n) (h:0 < σ.length) (hc:cells.length≤63) (hp:0≤p∧p≤8000) (b:Bs) (l105:lookA 105 ρ=some (.cell 0)) (l72:lookA 72 ρ=some (.str b.code)) :
    ∃ v:Bool,execM (TT n) (nthS F__law_item.body 4) ρ (G σ cells p s)=some (.next,putA 235 (.bool v) ρ,G σ cells (p + 1) s):=by
  obtain ⟨r,q0,q1,ed⟩:=@ev_dip σ cells p s n (by omega) h hc (by omega) 3 (by omega)
  obtain ⟨r2,t0,t1,ed2⟩:=@ev_dip σ cells p s n (by omega) h hc (by omega) 9 (by omega)
  have hb:=c2_ib b
  cases q:(b == .int || b == .boo) with
  | true=>rw [q] at hb; exact ⟨decide (r < 2),by open_k with ([nthS,F__law_item,l105,l72,hb,ed],9)⟩
  | false=>rw [q] at hb; exact ⟨r2 == 8,by open_k with ([nthS,F__law_item,l105,l72,hb,ed2],9)⟩
theorem it5 (hn:2 < n) (h:0 < σ.length) (hc:cells.length≤63) (hp:0≤p∧p≤6990) (hs:0≤s∧s≤79999990) (r:Int) (l105:lookA 105 ρ=some (.cell 0)) (l210:lookA 210 ρ=some (.int r)) :
    ∃ (any:Bool) (ds:Nds) (p' s':Int),execM (TT n) (nthS F__law_item.body 5) ρ (G σ cells p s)=some (.next,putA 95 (.tup (dimsL any ds)) ρ,G σ cells p' s')∧ds.dp≤1∧ds.sz≤3∧p≤p' ∧ p' ≤ p + 4∧s≤s' ∧ s' ≤ s + 9:=by
  obtain ⟨nd,p',s',a1,a2,a3,a4,a5,a6,a7⟩:=ev_leaf (n:=n) (p:=p) (s:=s) (by omega) h hc (by omega) (by omega) .set (by decide)
  simp only [Bs.code] at a1
  cases h4:(r == 4) with
  | true=>exact ⟨true,.nil,p,s,by open_k with ([nthS,F__law_item,l105,l210,h4,dimsL],9),Nat.zero_le _,Nat.zero_le _,by omega,by omega,by omega,by omega⟩
  | false =>
    cases h5:(r == 5) with
    | true=>exact ⟨false,.cons nd .nil,p',s',by open_k with ([nthS,F__law_item,l105,l210,h4,h5,a1,dimsL,encD],9),by show max nd.dp 0≤1; omega,by show max nd.sz 1≤3; omega,by omega,by omega,by omega,by omega⟩
    | false=>exact ⟨false,.nil,p,s,by open_k with ([nthS,F__law_item,l105,l210,h4,h5,dimsL,encD],9),Nat.zero_le _,Nat.zero_le _,by omega,by omega,by omega,by omega⟩
theorem it6 (hn:2 < n) (h:0 < σ.length) (hc:cells.length≤63) (hp:0≤p∧p≤6990) (hs:0≤s∧s≤79999990) (b:Bs) (l105:lookA 105 ρ=some (.cell 0)) (l72:lookA 72 ρ=some (.str b.code)) :
    ∃ (dom:Nds) (p' s':Int),execM (TT n) (nthS F__law_item.body 6) ρ (G σ cells p s)=some (.next,putA 98 (enc1 dom) ρ,G σ cells p' s')∧dom.dp≤1∧dom.sz≤3∧p≤p' ∧ p' ≤ p + 5∧s≤s' ∧ s' ≤ s + 9:=by
  obtain ⟨r,q0,q1,ed⟩:=@ev_dip σ cells p s n (by omega) h hc (by omega) 4 (by omega)
  obtain ⟨nd,p',s',a1,a2,a3,a4,a5,a6,a7⟩:=ev_leaf (n:=n) (p:=p + 1) (s:=s) (by omega) h hc (by omega) (by omega) .set (by decide)
  simp only [Bs.code] at a1
  have hb:=c2_is b
  cases q:(b == .int || b == .set) with
  | true =>
    rw [q] at hb
    cases h3:(r == 3) with
    | true=>exact ⟨.cons nd .nil,p',s',by open_k with ([nthS,F__law_item,l105,l72,hb,ed,h3,a1,enc1],9),by show max nd.dp 0≤1; omega,by show max nd.sz 1≤3; omega,by omega,by omega,by omega,by omega⟩
    | false=>exact ⟨.nil,p + 1,s,by open_k with ([nthS,F__law_item,l105,l72,hb,ed,h3,enc1],9),Nat.zero_le _,Nat.zero_le _,by omega,by omega,by omega,by omega⟩
  | false=>rw [q] at hb; exact ⟨.nil,p,s,by open_k with ([nthS,F__law_item,l105,l72,hb,enc1],9),Nat.zero_le _,Nat.zero_le _,by omega,by omega,by omega,by omega⟩
theorem it7 (hn:0 < n) (h:0 < σ.length) (hc:cells.length≤63) (hp:0≤p∧p≤8000) (l105:lookA 105 ρ=some (.cell 0)) :
    ∃ x:Nat,execM (TT n) (nthS F__law_item.body 7) ρ (G σ cells p s)=some (.next,putA 233 .none (putA 170 (.str x) ρ),G σ cells (p + 1) s):=by
  obtain ⟨r,q0,q1,ed⟩:=@ev_dip σ cells p s n (by omega) h hc (by omega) 4 (by omega)
  obtain ⟨x,ex⟩:=sub_strs [111,117,118,243] q0 q1 (by decide)
  simp only [List.map_cons,List.map_nil] at ex
  exact ⟨x,by open_k with ([nthS,F__law_item,l105,ed,ex],9)⟩
theorem it8 {f:Nat} (hE:ExprOk σ cells f) (hn:5 + 3 * f≤n) (h:0 < σ.length) (hc:cells.length≤63) (hp:0≤p∧p + eA f + 20≤7000) (hs:0≤s∧s + eB f + 40≤80000000) (b:Bs) (hb:b ≠ .non) (any:Bool) (ds:Nds)
    (l105:lookA 105 ρ=some (.cell 0)) (l108:lookA 108 ρ=some (.int (f:Nat))) (l72:lookA 72 ρ=some (.str b.code)) (l95:lookA 95 ρ=some (.tup (dimsL any ds))) (l233:lookA 233 ρ=some .none) :
    ∃ (val:Nds) (ρ':Loc) (p' s':Int),execM (TT n) (nthS F__law_item.body 8) ρ (G σ cells p s)=some (.next,ρ',G σ cells p' s')∧lookA 233 ρ' = some (enc1 val)∧(∀ k,k≠233→lookA k ρ' = lookA k ρ)∧val.dp≤max 2 (eD f)∧val.sz≤eZ f + 6∧p≤p' ∧ p' ≤ p + eA f + 11∧s≤s' ∧ s' ≤ s + eB f + 21:=by
  have hA:=eA_pos f
  have hB:=eB_pos f
  have hZ:=eZ_pos f
  obtain ⟨r,q0,q1,ed⟩:=@ev_dip σ cells p s n (by omega) h hc (by omega) 4 (by omega)
  obtain ⟨r2,t0,t1,ed2⟩:=@ev_dip σ cells (p + 1) s n (by omega) h hc (by omega) 3 (by omega)
  have hd:=dims_nil any ds
  cases e:(any || ds.some) with
  | false =>
    rw [e] at hd
    cases h3:decide (r < 3) with
    | true =>
      obtain ⟨nd,p',s',a1,a2,a3,a4,a5,a6,a7⟩:=hE (p + 1) s n b hb hn (by omega) (by omega) (by omega) (by omega)
      refine ⟨.cons nd .nil,putA 233 (enc nd) ρ,p',s',?_,by simp only [y_look,↓reduceIte]; rfl,fun k hk=>by rw [y_look,if_neg (Ne.symm hk)],by show max nd.dp 0≤_; omega,by show max nd.sz 1≤_; omega,by omega,by omega,by omega,by omega⟩
      open_k with ([nthS,F__law_item,l105,l108,l72,l95,ed,h3,hd,a1],9)
    | false =>
      refine ⟨.nil,ρ,p + 1,s,?_,l233,fun _ _=>rfl,Nat.zero_le _,Nat.zero_le _,by omega,by omega,by omega,by omega⟩
      open_k with ([nthS,F__law_item,l105,l108,l72,l95,ed,h3,hd],9)
  | true =>
    rw [e] at hd
    have main:∀ c1:Bool,decide (r < 3)=c1→∃ (val:Nds) (ρ':Loc) (p' s':Int),execM (TT n) (nthS F__law_item.body 8) ρ (G σ cells p s)=some (.next,ρ',G σ cells p' s')∧lookA 233 ρ' = some (enc1 val)∧(∀ k,k≠233→lookA k ρ' = lookA k ρ)∧val.dp≤max 2 (eD f)∧val.sz≤eZ f + 6∧p≤p' ∧ p' ≤ p + eA f + 11∧s≤s' ∧ s' ≤ s + eB f + 21:=fun c1 h3=>by
      cases h2:decide (r2 < 2) with
      | false =>
        refine ⟨.nil,ρ,p + 1 + 1,s,?_,l233,fun _ _=>rfl,Nat.zero_le _,Nat.zero_le _,by omega,by omega,by omega,by omega⟩
        cases c1 <;> open_k with ([nthS,F__law_item,l105,l108,l72,l95,ed,ed2,h3,h2,hd],9)
      | true =>
        have es:=@ev_spot σ cells (p + 1 + 1) s n (by omega) h (by omega)
        obtain ⟨r3,u0,u1,ed3⟩:=@ev_dip σ cells (p + 1 + 1) (s + 3) n (by omega) h hc (by omega) 3 (by omega)
        have hlen:(rangeL 0 1 r3.toNat).length≤2:=by unfold rangeL; simp; omega
        obtain ⟨xs,p',s',b1,b2,b3,b4,b5,b6,b7,b8⟩:=leaves h hc b hb n (by omega) (rangeL 0 1 r3.toNat) ρ (p + 1 + 1 + 1) (s + 3) (by omega) l105 l72 (by omega) (by omega) (by omega) (by omega)
        have hr:kRange (.int r3) (G σ cells (p + 1 + 1 + 1) (s + 3))=some (.val (.range 0 1 r3.toNat),G σ cells (p + 1 + 1 + 1) (s + 3)):=by
          show (if small r3=true then some _ else none)=_
          rw [if_pos (sm_of (by omega) (by omega))]
        have hlt:r3.toNat < most:=by show _ < 400; omega
        have hlx:(encs xs).length < most:=by show _ < 400; omega
        have hto:∀ σ,kTupOf (.lst (encs xs)) σ=some (.val (.tup (encs xs)),σ):=fun σ=>if_pos hlx
        refine ⟨.cons (.arr (s + 3) xs) .nil,putA 233 (enc (.arr (s + 3) xs)) ρ,p',s',?_,by simp only [y_look,↓reduceIte]; rfl,fun k hk=>by rw [y_look,if_neg (Ne.symm hk)],by show max (xs.dp + 1) 0≤_; omega,by show max (xs.sz + 1) 1≤_; omega,by omega,by omega,by omega,by omega⟩
        cases c1 <;> open_k with ([nthS,F__law_item,l105,l108,l72,l95,ed,ed2,h3,h2,hd,es,ed3,hr,kComp_range hlt,b1,kComp2,hto,enc],10)
    exact main _ rfl
end
def dropS:MSs→Nat→MSs
  | r,0=>r
  | .cons _ r,n + 1=>dropS r n
  | .nil,_ => .nil
theorem item_ok {f:Nat} (hE:ExprOk σ cells f) (h:0 < σ.length) (hc:cells.length≤63) (p s:Int) (n:Nat) (hn:6 + 3 * f≤n) (hp:0≤p) (hp2:p + eA f + 60≤7000) (hs:0≤s) (hs2:s + eB f + 100≤80000000) :
    BdT σ cells p s (CM n 5 [.cell 0,.int (f:Nat)] (G σ cells p s)) (max 2 (eD f)) (eZ f + 13) (eA f + 30) (eB f + 60):=by
  have hA:=eA_pos f
  have hB:=eB_pos f
  have hZ:=eZ_pos f
  have es:=@ev_spot σ cells p s (n - 1) (by omega) h (by omega)
  obtain ⟨r,q0,q1,ed⟩:=@ev_dip σ cells p (s + 3) (n - 1) (by omega) h hc (by omega) 8 (by omega)
  obtain ⟨r2,t0,t1,ed2⟩:=@ev_dip σ cells (p + 1) (s + 3) (n - 1) (by omega) h hc (by omega) 4 (by omega)
  obtain ⟨r3,u0,u1,ed3⟩:=@ev_dip σ cells (p + 1 + 1) (s + 3) (n - 1) (by omega) h hc (by omega) 2 (by omega)
  rw [CM_eq (by omega) rfl rfl]
  cases h0:(r == 0) with
  | true =>
    obtain ⟨nd,p',s',a1,a2,a3,a4,a5,a6,a7⟩:=hE (p + 1) (s + 3) (n - 1) .boo (by decide) (by omega) (by omega) (by omega) (by omega) (by omega)
    simp only [Bs.code] at a1
    refine ⟨.cst (s + 3) nd,p',s',?_,by show nd.dp≤_; omega,by show nd.sz + 1≤_; omega,by omega,by omega,by omega,by omega⟩
    open_k with ([F__law_item,es,ed,h0,a1,encT],9)
  | false =>
    have odds:∀ q:Int,0≤q→q < 2→∃ w,∀ σ,subL σ (.tup [.tup [.str 184,.int (s + 3),.tup [.str 130,.int (s + 3),.int 1]],.tup [.str 66,.int (s + 3),.str 111,.tup [.str 130,.int (s + 3),.int 1]]]) (.int q)=some (encT (.odd (s + 3) w)):=fun q h0 h1=>by
      have:q=0∨q=1:=by omega
      rcases this with rfl | rfl
      · exact ⟨true,fun σ=>x_sub0⟩
      · exact ⟨false,fun σ=>x_sub1⟩
    obtain ⟨w,ew⟩:=odds r3 u0 u1
    have pre:BdT σ cells p s (fin (execMs (TT (n - 1)) F__law_item.body [(105,.cell 0),(108,.int (f:Nat))] (G σ cells p s))) (max 2 (eD f)) (eZ f + 13) (eA f + 30) (eB f + 60) ∨
        ∃ p2,p + 1≤p2∧p2≤p + 2∧execMs (TT (n - 1)) F__law_item.body [(105,.cell 0),(108,.int (f:Nat))] (G σ cells p s)=execMs (TT (n - 1)) (dropS F__law_item.body 3) (putA 240 (.int r) (putA 217 (.int (s + 3)) [(105,.cell 0),(108,.int (f:Nat))])) (G σ cells p2 (s + 3)):=by
      cases h1:(r == 1) with
      | false=>exact .inr ⟨p + 1,by omega,by omega,by open_k with ([F__law_item,dropS,es,ed,h0,h1],9)⟩
      | true =>
        cases h3:(r2 == 3) with
        | false=>exact .inr ⟨p + 1 + 1,by omega,by omega,by open_k with ([F__law_item,dropS,es,ed,ed2,h0,h1,h3],9)⟩
        | true=>exact .inl ⟨.odd (s + 3) w,p + 1 + 1 + 1,s + 3,by open_k with ([F__law_item,es,ed,ed2,ed3,h0,h1,h3,ew],9),Nat.zero_le _,by show 1≤_; omega,by omega,by omega,by omega,by omega⟩
    rcases pre with pre | ⟨p2,g1,g2,pre⟩
    · exact pre
    · rw [show ((fun x=>(105,LV.cell 0)::x) ((fun x=>(108,LV.int (f:Nat))::x) []):Loc)=[(105,.cell 0),(108,.int (f:Nat))] from rfl,pre]
      generalize hρ0:putA 240 (.int r) (putA 217 (.int (s + 3)) [(105,LV.cell 0),(108,.int (f:Nat))])=ρ0
      have l105:lookA 105 ρ0=some (.cell 0):=by rw [← hρ0]; rfl
      have l108:lookA 108 ρ0=some (.int (f:Nat)):=by rw [← hρ0]; rfl
      have l217:lookA 217 ρ0=some (.int (s + 3)):=by rw [← hρ0]; rfl
      obtain ⟨b,r4,hb,e3⟩:=@it3 σ cells (n - 1) ρ0 p2 (s + 3) (by omega) h hc (by omega) l105
      generalize hρ1:putA 210 (.int r4) (putA 72 (.str b.code) ρ0)=ρ1 at e3
      have k105:lookA 105 ρ1=some (.cell 0):=by rw [← hρ1]; simp only [y_look,Nat.reduceEqDiff,↓reduceIte,l105]
      have k108:lookA 108 ρ1=some (.int (f:Nat)):=by rw [← hρ1]; simp only [y_look,Nat.reduceEqDiff,↓reduceIte,l108]
      have k217:lookA 217 ρ1=some (.int (s + 3)):=by rw [← hρ1]; simp only [y_look,Nat.reduceEqDiff,↓reduceIte,l217]
      have k72:lookA 72 ρ1=some (.str b.code):=by rw [← hρ1]; simp only [y_look,Nat.reduceEqDiff,↓reduceIte]
      have k210:lookA 210 ρ1=some (.int r4):=by rw [← hρ1]; simp only [y_look,↓reduceIte]
      obtain ⟨v,e4⟩:=@it4 σ cells (n - 1) ρ1 (p2 + 1 + 1) (s + 3) (by omega) h hc (by omega) b k105 k72
      obtain ⟨any,ds,p5,s5,e5,b1,b2,b3,b4,b5,b6⟩:=@it5 σ cells (n - 1) (putA 235 (.bool v) ρ1) (p2 + 1 + 1 + 1) (s + 3) (by omega) h hc (by omega) (by omega) r4 (by simp only [y_look,Nat.reduceEqDiff,↓reduceIte,k105]) (by simp only [y_look,Nat.reduceEqDiff,↓reduceIte,k210])
      obtain ⟨dom,p6,s6,e6,c1,c2,c3,c4,c5,c6⟩:=@it6 σ cells (n - 1) (putA 95 (.tup (dimsL any ds)) (putA 235 (.bool v) ρ1)) p5 s5 (by omega) h hc (by omega) (by omega) b (by simp only [y_look,Nat.reduceEqDiff,↓reduceIte,k105]) (by simp only [y_look,Nat.reduceEqDiff,↓reduceIte,k72])
      obtain ⟨x,e7⟩:=@it7 σ cells (n - 1) (putA 98 (enc1 dom) (putA 95 (.tup (dimsL any ds)) (putA 235 (.bool v) ρ1))) p6 s6 (by omega) h hc (by omega) (by simp only [y_look,Nat.reduceEqDiff,↓reduceIte,k105])
      generalize hρ2:putA 233 .none (putA 170 (.str x) (putA 98 (enc1 dom) (putA 95 (.tup (dimsL any ds)) (putA 235 (.bool v) ρ1))))=ρ2 at e7
      have j105:lookA 105 ρ2=some (.cell 0):=by rw [← hρ2]; simp only [y_look,Nat.reduceEqDiff,↓reduceIte,k105]
      have j108:lookA 108 ρ2=some (.int (f:Nat)):=by rw [← hρ2]; simp only [y_look,Nat.reduceEqDiff,↓reduceIte,k108]
      have j217:lookA 217 ρ2=some (.int (s + 3)):=by rw [← hρ2]; simp only [y_look,Nat.reduceEqDiff,↓reduceIte,k217]
      have j72:lookA 72 ρ2=some (.str b.code):=by rw [← hρ2]; simp only [y_look,Nat.reduceEqDiff,↓reduceIte,k72]
      have j95:lookA 95 ρ2=some (.tup (dimsL any ds)):=by rw [← hρ2]; simp only [y_look,Nat.reduceEqDiff,↓reduceIte]
      have j98:lookA 98 ρ2=some (enc1 dom):=by rw [← hρ2]; simp only [y_look,Nat.reduceEqDiff,↓reduceIte]
      have j170:lookA 170 ρ2=some (.str x):=by rw [← hρ2]; simp only [y_look,Nat.reduceEqDiff,↓reduceIte]
      have j235:lookA 235 ρ2=some (.bool v):=by rw [← hρ2]; simp only [y_look,Nat.reduceEqDiff,↓reduceIte]
      have j233:lookA 233 ρ2=some .none:=by rw [← hρ2]; simp only [y_look,↓reduceIte]
      obtain ⟨val,ρ3,p8,s8,e8,m233,mk,d1,d2,d3,d4,d5,d6⟩:=@it8 σ cells (n - 1) ρ2 (p6 + 1) s6 f hE (by omega) h hc (by omega) (by omega) b hb any ds j105 j108 j72 j95 j233
      have e9:execMs (TT (n - 1)) (dropS F__law_item.body 9) ρ3 (G σ cells p8 s8)=some (.ret (encT (.decl (s + 3) b v any ds dom x val)),ρ3,G σ cells p8 s8):=by
        open_k with ([dropS,F__law_item,mk 217 (by decide),mk 72 (by decide),mk 235 (by decide),mk 95 (by decide),mk 98 (by decide),mk 170 (by decide),m233,j217,j72,j235,j95,j98,j170,encT_decl],9)
      refine ⟨.decl (s + 3) b v any ds dom x val,p8,s8,?_,by show max ds.dp (max dom.dp val.dp)≤_; omega,by show ds.sz + dom.sz + val.sz + 1≤_; omega,by omega,by omega,by omega,by omega⟩
      rw [show dropS F__law_item.body 3 = .cons (nthS F__law_item.body 3) (.cons (nthS F__law_item.body 4) (.cons (nthS F__law_item.body 5) (.cons (nthS F__law_item.body 6) (.cons (nthS F__law_item.body 7) (.cons (nthS F__law_item.body 8) (dropS F__law_item.body 9)))))) from rfl,
        exs_cons,e3,seqS_next,exs_cons,e4,seqS_next,exs_cons,e5,seqS_next,exs_cons,e6,seqS_next,exs_cons,e7,seqS_next,exs_cons,e8,seqS_next,e9]
      rfl
theorem mul_step (k:Nat) (X:Int):((k + 1:Nat):Int) * X=(k:Int) * X + X:=by
  rw [Int.natCast_add,Int.add_mul]; simp
theorem mul_nn (k:Nat) {X:Int} (h:0≤X):0≤(k:Int) * X:=Int.mul_nonneg (by omega) h
theorem rows {f:Nat} (hE:ExprOk σ cells f) (h:0 < σ.length) (hc:cells.length≤63) (n:Nat) (hn:6 + 3 * f≤n):∀ (l:List LV) (ρ:Loc) (p s:Int),lookA 105 ρ=some (.cell 0)→lookA 108 ρ=some (.int (f:Nat))→0≤p→p + (l.length:Int) * (eA f + 30) + 30≤7000→0≤s→s + (l.length:Int) * (eB f + 60) + 40≤80000000 →
    ∃ its p' s',compL (allM (TT n) .nil) (evalM (TT n) (.call 5 (.cons (.loc 105) (.cons (.loc 108) .nil)))) (.one 151) ρ l (G σ cells p s)=some (.val (encI its),G σ cells p' s')∧its.dp≤max 2 (eD f)∧its.sz≤eZ f + 13 + l.length∧(encI its).length=l.length∧p≤p' ∧ p' ≤ p + (l.length:Int) * (eA f + 30)∧s≤s' ∧ s' ≤ s + (l.length:Int) * (eB f + 60)
  | [],ρ,p,s,h1,h2,_,_,_,_=>⟨.nil,p,s,rfl,Nat.zero_le _,Nat.zero_le _,rfl,by omega,by simp,by omega,by simp⟩
  | v::r,ρ,p,s,h1,h2,hp,hp2,hs,hs2=>by
    have hA:=eA_pos f
    have hB:=eB_pos f
    simp only [List.length_cons] at hp2 hs2 ⊢
    have mA:=mul_step r.length (eA f + 30)
    have mB:=mul_step r.length (eB f + 60)
    have nA:=mul_nn r.length (X:=eA f + 30) (by omega)
    have nB:=mul_nn r.length (X:=eB f + 60) (by omega)
    rw [mA] at hp2 ⊢
    rw [mB] at hs2 ⊢
    obtain ⟨it,p',s',a1,a2,a3,a4,a5,a6,a7⟩:=item_ok hE h hc p s n hn (by omega) (by omega) (by omega) (by omega)
    obtain ⟨its,p2,s2,b1,b2,b3,b4,b5,b6,b7,b8⟩:=rows hE h hc n hn r ρ p' s' h1 h2 (by omega) (by omega) (by omega) (by omega)
    refine ⟨.cons it its,p2,s2,?_,?_,?_,?_,by omega,by omega,by omega,by omega⟩
    · rw [compL_one]
      generalize compL (allM (TT n) .nil) (evalM (TT n) (.call 5 (.cons (.loc 105) (.cons (.loc 108) .nil)))) (.one 151) ρ r=g at *
      open_k with ([h1,h2,a1,b1,encI],9)
    · show max it.dp its.dp≤_; omega
    · show max it.sz (its.sz + 1)≤_; omega
    · show (encI its).length + 1=r.length + 1; omega
theorem let_ok {f:Nat} (hE:ExprOk σ cells f) (h:0 < σ.length) (hc:cells.length≤63) (p s:Int) (n:Nat) (b:Bs) (hb:b ≠ .non) (hn:7 + 3 * f≤n) (hp:0≤p) (hp2:p + 4 * eA f + 128≤7000) (hs:0≤s) (hs2:s + 4 * eB f + 228≤80000000) :
    ∃ its body s0 p' s',CM n 6 [.cell 0,.int (f:Nat),.str b.code] (G σ cells p s)=some (.val (enc (.lt s0 its body)),G σ cells p' s')∧(Nd.lt s0 its body).dp≤max 2 (eD f) + 1∧(Nd.lt s0 its body).sz≤2 * eZ f + 17∧p≤p' ∧ p' ≤ p + 4 * eA f + 91∧s≤s' ∧ s' ≤ s + 4 * eB f + 183:=by
  have hA:=eA_pos f
  have hB:=eB_pos f
  have es:=@ev_spot σ cells p s (n - 1) (by omega) h (by omega)
  obtain ⟨r,q0,q1,ed⟩:=@ev_dip σ cells p (s + 3) (n - 1) (by omega) h hc (by omega) 3 (by omega)
  have hadd:binL .add (.int 1) (.int r)=some (.int (1 + r)):=b_add (by omega) (by omega) (by omega) (by omega)
  have hr:kRange (.int (1 + r)) (G σ cells (p + 1) (s + 3))=some (.val (.range 0 1 (1 + r).toNat),G σ cells (p + 1) (s + 3)):=by
    show (if small (1 + r)=true then some _ else none)=_
    rw [if_pos (sm_of (by omega) (by omega))]
  have hlt:(1 + r).toNat < most:=by show _ < 400; omega
  have hlen:(rangeL 0 1 (1 + r).toNat).length≤3:=by unfold rangeL; simp; omega
  have bA:((rangeL 0 1 (1 + r).toNat).length:Int) * (eA f + 30)≤3 * (eA f + 30):=Int.mul_le_mul_of_nonneg_right (by omega) (by omega)
  have bB:((rangeL 0 1 (1 + r).toNat).length:Int) * (eB f + 60)≤3 * (eB f + 60):=Int.mul_le_mul_of_nonneg_right (by omega) (by omega)
  obtain ⟨its,p1,s1,a1,a2,a3,a4,a5,a6,a7,a8⟩:=rows hE h hc (n - 1) (by omega) (rangeL 0 1 (1 + r).toNat) (putA 217 (.int (s + 3)) [(105,.cell 0),(108,.int (f:Nat)),(72,.str b.code)]) (p + 1) (s + 3) rfl rfl (by omega) (by omega) (by omega) (by omega)
  generalize ((rangeL 0 1 (1 + r).toNat).length:Int) * (eA f + 30)=XA at *
  generalize ((rangeL 0 1 (1 + r).toNat).length:Int) * (eB f + 60)=XB at *
  obtain ⟨nd,p2,s2,b1,b2,b3,b4,b5,b6,b7⟩:=hE p1 s1 (n - 1) b hb (by omega) (by omega) (by omega) (by omega) (by omega)
  have hlx:(encI its).length < most:=by show _ < 400; omega
  have hto:∀ σ,kTupOf (.lst (encI its)) σ=some (.val (.tup (encI its)),σ):=fun σ=>if_pos hlx
  refine ⟨its,nd,s + 3,p2,s2,?_,by show max its.dp nd.dp + 1≤_; omega,by show its.sz + nd.sz + 1≤_; omega,by omega,by omega,by omega,by omega⟩
  rw [CM_eq (by omega) rfl rfl]
  open_k with ([F__law_let,es,ed,hadd,hr,kComp_range hlt,a1,kComp2,hto,b1,enc],10)
theorem c2_ss (b:Bs):(208 == b.code || 218 == b.code)=(b == .set || b == .str):=by cases b <;> rfl
theorem expr_succ {f:Nat} (hE:ExprOk σ cells f) (h:0 < σ.length) (hc:cells.length≤63) (h0:ExprOk σ cells 0) (hf:f≤10):ExprOk σ cells (f + 1):=fun p s n b hb hn hp hp2 hs hs2=>by
  have hA:=eA_pos f
  have hB:=eB_pos f
  have hZ:=eZ_pos f
  have hD:=eD_pos f
  have e1:eA (f + 1)=4 * eA f + 130:=rfl
  have e2:eB (f + 1)=4 * eB f + 230:=rfl
  have e3:eZ (f + 1)=2 * eZ f + 20:=rfl
  have e4:eD (f + 1)=max 2 (eD f) + 1:=rfl
  have z0:eA 0=4:=rfl
  have z1:eB 0=9:=rfl
  have z2:eZ 0=3:=rfl
  have z3:eD 0=1:=rfl
  have g0:decide (((f + 1:Nat):Int) > 0)=true:=decide_eq_true (by omega)
  have hsub:binL .sub (.int ((f + 1:Nat):Int)) (.int 1)=some (.int ((f:Nat):Int)):=by
    have:((f + 1:Nat):Int) - 1=(f:Int):=by omega
    rw [← this]
    exact b_sub (by omega) (by omega) (by omega) (by omega)
  obtain ⟨r,q0,q1,ed⟩:=@ev_dip σ cells p s (n - 1) (by omega) h hc (by omega) 6 (by omega)
  have hss:=c2_ss b
  cases c60:decide (p < 60) with
  | false =>
    obtain ⟨nd,p',s',a1,a2,a3,a4,a5,a6,a7⟩:=ev_leaf (n:=n - 1) (p:=p) (s:=s) (by omega) h hc (by omega) (by omega) b hb
    refine ⟨nd,p',s',?_,by omega,by omega,by omega,by omega,by omega,by omega⟩
    have y5:((0:Int) == 5)=false:=rfl
    have y2:decide ((0:Int) < 2)=true:=rfl
    rw [CM_eq (by omega) rfl rfl]
    open_k with ([F__law_expr,f_188 h,g0,c60,y5,y2,a1],9)
  | true =>
    cases r5:(r == 5) with
    | true =>
      obtain ⟨its,body,s0,p',s',a1,a2,a3,a4,a5,a6,a7⟩:=let_ok hE h hc (p + 1) s (n - 1) b hb (by omega) (by omega) (by omega) (by omega) (by omega)
      refine ⟨.lt s0 its body,p',s',?_,by omega,by omega,by omega,by omega,by omega,by omega⟩
      rw [CM_eq (by omega) rfl rfl]
      open_k with ([F__law_expr,f_188 h,g0,c60,ed,r5,hsub,a1],9)
    | false =>
      obtain ⟨nd,p',s',a1,a2,a3,a4,a5,a6,a7⟩:=ev_leaf (n:=n - 1) (p:=p + 1) (s:=s) (by omega) h hc (by omega) (by omega) b hb
      cases r2:decide (r < 2) with
      | true =>
        refine ⟨nd,p',s',?_,by omega,by omega,by omega,by omega,by omega,by omega⟩
        rw [CM_eq (by omega) rfl rfl]
        open_k with ([F__law_expr,f_188 h,g0,c60,ed,r5,r2,a1],9)
      | false =>
        cases qs:(b == .set || b == .str) with
        | true =>
          rw [qs] at hss
          refine ⟨nd,p',s',?_,by omega,by omega,by omega,by omega,by omega,by omega⟩
          rw [CM_eq (by omega) rfl rfl]
          open_k with ([F__law_expr,f_188 h,g0,c60,ed,r5,r2,hss,a1],9)
        | false =>
          rw [qs] at hss
          have es:=@ev_spot σ cells (p + 1) s (n - 1) (by omega) h (by omega)
          obtain ⟨r4,t0,t1,ed4⟩:=@ev_dip σ cells (p + 1) (s + 3) (n - 1) (by omega) h hc (by omega) 4 (by omega)
          obtain ⟨x,ex⟩:=sub_strs [232,52,232,111] t0 t1 (by decide)
          simp only [List.map_cons,List.map_nil] at ex
          have hadd:binL .add (.int (s + 3)) (.int 1)=some (.int (s + 3 + 1)):=b_add (by omega) (by omega) (by omega) (by omega)
          have hbin:∀ (g:Sg) (ib:Bs),ib ≠ .non→∃ nd p' s',(∃ na nb p1 s1,nd=Nd.bin (s + 3) g na nb∧CM (n - 1) 4 [.cell 0,.int (f:Nat),.str ib.code] (G σ cells (p + 1) (s + 3))=some (.val (enc na),G σ cells p1 s1)∧CM (n - 1) 4 [.cell 0,.int 0,.str ib.code] (G σ cells p1 s1)=some (.val (enc nb),G σ cells p' s')) ∧
              nd.dp≤eD (f + 1)∧nd.sz≤eZ (f + 1)∧p≤p' ∧ p' ≤ p + eA (f + 1)∧s≤s' ∧ s' ≤ s + eB (f + 1):=fun g ib hib=>by
            obtain ⟨na,p1,s1,b1,b2,b3,b4,b5,b6,b7⟩:=hE (p + 1) (s + 3) (n - 1) ib hib (by omega) (by omega) (by omega) (by omega) (by omega)
            obtain ⟨nb,p2,s2,d1,d2,d3,d4,d5,d6,d7⟩:=h0 p1 s1 (n - 1) ib hib (by omega) (by omega) (by omega) (by omega) (by omega)
            exact ⟨_,p2,s2,⟨na,nb,p1,s1,rfl,b1,d1⟩,by show max na.dp nb.dp + 1≤_; omega,by show na.sz + nb.sz + 1≤_; omega,by omega,by omega,by omega,by omega⟩
          cases b with
          | non=>exact absurd rfl hb
          | set=>cases qs
          | str=>cases qs
          | int =>
            simp only [Bs.code] at hss
            cases rr:(r == 2) with
            | true =>
              obtain ⟨ni,p2,s2,b1,b2,b3,b4,b5,b6,b7⟩:=hE (p + 1 + 1) (s + 3) (n - 1) .int (by decide) (by omega) (by omega) (by omega) (by omega) (by omega)
              simp only [Bs.code] at b1
              refine ⟨.idx (s + 3) (.name (s + 3 + 1) x) ni,p2,s2,?_,by show max 0 ni.dp + 1≤_; omega,by show 1 + ni.sz + 1≤_; omega,by omega,by omega,by omega,by omega⟩
              rw [CM_eq (by omega) rfl rfl]
              open_k with ([F__law_expr,Bs.code,f_188 h,g0,c60,ed,r5,r2,hss,es,rr,hadd,ed4,ex,hsub,b1,enc],9)
            | false =>
              obtain ⟨nd,p',s',⟨na,nb,p1,s1,rfl,b1,b2⟩,d1,d2,d3,d4,d5,d6⟩:=hbin .add .int (by decide)
              simp only [Bs.code] at b1 b2
              refine ⟨_,p',s',?_,d1,d2,d3,d4,d5,d6⟩
              rw [CM_eq (by omega) rfl rfl]
              open_k with ([F__law_expr,Bs.code,f_188 h,g0,c60,ed,r5,r2,hss,es,rr,hsub,b1,b2,enc,Sg.code],9)
          | boo =>
            simp only [Bs.code] at hss
            cases rr:(r == 2) with
            | true =>
              obtain ⟨ni,p2,s2,b1,b2,b3,b4,b5,b6,b7⟩:=hE (p + 1) (s + 3) (n - 1) .int (by decide) (by omega) (by omega) (by omega) (by omega) (by omega)
              simp only [Bs.code] at b1
              refine ⟨.call (s + 3) ni,p2,s2,?_,by show ni.dp + 1≤_; omega,by show ni.sz + 1≤_; omega,by omega,by omega,by omega,by omega⟩
              rw [CM_eq (by omega) rfl rfl]
              open_k with ([F__law_expr,Bs.code,f_188 h,g0,c60,ed,r5,r2,hss,es,rr,hsub,b1,enc],9)
            | false =>
              have m2:binL .mod (.int r) (.int 2)=some (.int (r % 2)):=b_mod (by omega) (by omega)
              have hr2:r % 2=0∨r % 2=1:=by omega
              rcases hr2 with hr2 | hr2
              · rw [hr2] at m2
                obtain ⟨nd,p',s',⟨na,nb,p1,s1,rfl,b1,b2⟩,d1,d2,d3,d4,d5,d6⟩:=hbin .lt .int (by decide)
                simp only [Bs.code] at b1 b2
                refine ⟨_,p',s',?_,d1,d2,d3,d4,d5,d6⟩
                rw [CM_eq (by omega) rfl rfl]
                open_k with ([F__law_expr,Bs.code,f_188 h,g0,c60,ed,r5,r2,hss,es,rr,m2,hsub,b1,b2,enc,Sg.code],9)
              · rw [hr2] at m2
                obtain ⟨nd,p',s',⟨na,nb,p1,s1,rfl,b1,b2⟩,d1,d2,d3,d4,d5,d6⟩:=hbin .and .boo (by decide)
                simp only [Bs.code] at b1 b2
                refine ⟨_,p',s',?_,d1,d2,d3,d4,d5,d6⟩
                rw [CM_eq (by omega) rfl rfl]
                open_k with ([F__law_expr,Bs.code,f_188 h,g0,c60,ed,r5,r2,hss,es,rr,m2,hsub,b1,b2,enc,Sg.code],9)
theorem expr2 (h:0 < σ.length) (hc:cells.length≤63):ExprOk σ cells 2:=expr_succ (expr_succ (expr0 h hc) h hc (expr0 h hc) (by decide)) h hc (expr0 h hc) (by decide)
end
theorem look_dA {x:Nat}:∀ {A:List Nat},x∈A→lookA x (dA A)=some (.bool true)
  | a::r,h=>by
    show (if a=x then some (LV.bool true) else lookA x (dA r))=_
    by_cases e:a=x
    · rw [if_pos e]
    · rw [if_neg e]
      rcases List.mem_cons.mp h with h | h
      · exact absurd h.symm e
      · exact look_dA h
theorem subD_dA (B:List Nat):∀ A:List Nat,(∀ x∈A,x∈B)→subD (dA B) (dA A)=some true
  | [],_=>rfl
  | a::r,h=>by
    show (match lookA a (dA B) with
      | none=>some false
      | some u=>(eqL (.bool true) u).bind fun e=>(subD (dA B) (dA r)).map fun t=>e && t)=_
    rw [look_dA (h a (by simp)),subD_dA B r fun x hx=>h x (by simp [hx])]
    rfl
theorem dA_keys (A:List Nat):(dA A).map (·.1)=A:=by unfold dA; rw [List.map_map]; exact List.map_id _
theorem eqD_dA {A:List Nat} (h:A.Nodup):eqD (dA A) (dA A)=some true:=by
  unfold eqD
  rw [dA_keys,decide_eq_true h]
  simp only [Bool.and_self,if_true]
  exact subD_dA A A fun _ h=>h
theorem eqD_dC (c:Bool):eqD (dC c) (dC c)=some true:=by cases c <;> rfl
theorem mem_addA {A:List Nat} {x:Nat}:x∈addA A x:=by
  unfold addA
  split
  · rename_i h; simpa using h
  · simp
theorem sub_addA {A:List Nat} {x y:Nat} (h:y∈A):y∈addA A x:=by
  unfold addA
  split
  · exact h
  · exact List.mem_append_left _ h
theorem sub_adds:∀ (as A:List Nat) {y:Nat},y∈A→y∈adds A as
  | [],_,_,h=>h
  | a::r,A,y,h=>sub_adds r (addA A a) (sub_addA h)
theorem mem_adds:∀ (as A:List Nat),∀ x∈as,x∈adds A as
  | a::r,A,x,h=>by
    rcases List.mem_cons.mp h with rfl | h
    · exact sub_adds r (addA A x) mem_addA
    · exact mem_adds r (addA A a) x h
theorem adds_same:∀ (as A:List Nat),(∀ x∈as,x∈A)→adds A as=A
  | [],_,_=>rfl
  | a::r,A,h=>by
    have:addA A a=A:=by unfold addA; rw [if_pos (by simpa using h a (by simp))]
    show adds (addA A a) r=A
    rw [this]
    exact adds_same r A fun x hx=>h x (by simp [hx])
theorem adds_idem (as A:List Nat):adds (adds A as) as=adds A as:=adds_same as _ (mem_adds as A)
theorem eqB_K (k:Kd):eqB (encK k) (encK k)=true:=by
  show (k.b.code == k.b.code && (k.v == k.v && (k.n == k.n && true)))=true
  simp
theorem eq_encR (r:Except Int Kd):eqL (encR r) (encR r)=some true:=by
  cases r with
  | ok k =>
    show some (eqB (encK k) (encK k) && true)=_
    rw [eqB_K]; rfl
  | error i =>
    show some (true && (i == i && true))=_
    simp
theorem look_filt {k x:Nat} (h:k≠x):∀ ρ:Loc,lookA k (ρ.filter fun e=>e.1 != x)=lookA k ρ
  | []=>rfl
  | (a,v)::r=>by
    rw [List.filter_cons]
    by_cases e:a=x
    · subst e
      rw [if_neg (by simp),look_filt h r]
      show _=(if a=k then some v else lookA k r)
      rw [if_neg (fun e=>h e.symm)]
    · rw [if_pos (by simpa using e)]
      show (if a=k then some v else _)=(if a=k then some v else _)
      rw [look_filt h r]
def worldD:List (Nat × LV):=[(118,.tup [.str 130,.bool false,.int 0]),(243,.tup [.str 130,.bool true,.int 0]),(70,.tup [.str 75,.bool false,.int 0]),(246,.tup [.str 75,.bool true,.int 0]),(203,.tup [.str 208,.bool false,.int 0]),(223,.tup [.str 218,.bool false,.int 0]),(52,.tup [.str 130,.bool false,.int 1]),(232,.tup [.str 130,.bool true,.int 1])]
theorem world_eq:eqD (dE worldL) worldD=some true:=by decide
def σ12 (cells:List Int):Sto:=[.dict (feedD cells 0 0),.dict makerD,.dict namesD,.dict [],.list [.cell 3],.dict [],.dict [],.dict [],.dict [],.dict [],.dict [],.dict []]
theorem init_names (c d:Cell):CM 58 19 [.obj 0 2] [c,d,.dict []]=some (.val .none,[c,d,.dict namesD,.dict [],.list [.cell 3],.dict []]):=by
  rw [CM_eq (by decide) rfl rfl]
  have h0:([]:List (Nat × LV)).length < most:=by show 0 < 400; decide
  have h1:[(204,LV.cell 4)].length < most:=by show 1 < 400; decide
  open_k with ([F_Names___init__,namesD,h0,h1,List.length_cons,List.length_nil,List.cons_append,List.nil_append,List.getElem?_cons_zero,List.getElem?_cons_succ,List.set_cons_zero,List.set_cons_succ],1)
  rfl
theorem init_ok (c:Cell):CM 59 24 [.obj 1 1] [c,.dict []]=some (.val .none,[c,.dict makerD,.dict namesD,.dict [],.list [.cell 3],.dict [],.dict [],.dict [],.dict [],.dict []]):=by
  rw [CM_eq (by decide) rfl rfl]
  have hi:=init_names c
  have hn:∀ k:Nat,k≤6→k < most:=fun k h=>by show k < 400; omega
  have h0:=hn 0 (by decide)
  have h1:=hn 1 (by decide)
  have h2:=hn 2 (by decide)
  have h3:=hn 3 (by decide)
  have h4:=hn 4 (by decide)
  have h5:=hn 5 (by decide)
  open_k with ([F_Kinds___init__,makerD,hi,List.length_cons,List.length_nil,List.cons_append,List.nil_append,List.getElem?_cons_zero,List.getElem?_cons_succ,List.set_cons_zero,List.set_cons_succ,Nat.reduceSub,h0,h1,h2,h3,h4,h5],1)
theorem look_world:∀ e∈worldL,lookA e.1 worldD=some (encK e.2):=by
  intro e he
  simp only [worldL,List.mem_cons,List.not_mem_nil,or_false] at he
  rcases he with rfl | rfl | rfl | rfl | rfl | rfl | rfl | rfl <;> rfl
def lawB:MSs:=match F_law.body with
  | .cons _ (.cons _ (.cons _ (.cons (.forS _ _ b) _)))=>b
  | _ => .nil
def lapB:MSs:=match F_law.body with
  | .cons _ (.cons _ (.cons _ (.cons _ (.cons _ (.cons (.forS _ _ b) _)))))=>b
  | _ => .nil
structure Raw (σ:Sto) (S:En):Prop where
  m1:σ[1]? = some (.dict makerD)
  m2:σ[2]? = some (.dict namesD)
  m3:σ[3]? = some (.dict (dE S))
  m4:σ[4]? = some (.list [.cell 3])
theorem raw_put {n:Nat} (hn:0 < n) {σ:Sto} {S:En} {x:Nat} {k:Kd} (h:Raw σ S) (hx:lastA x S=none) (hS:(S.map (·.1)).Nodup) (hl:S.length≤300) :
    CM n 22 [.obj 0 2,.str x,encK k,.int 0] σ=some (.val .none,σ.set 3 (.dict (dE (S++[(x,k)])))):=by
  have hsub:subL σ (.cell 4) (.int (-1))=some (.cell 3):=x_subC (xs:=[]) h.m4
  have hin:=in_cell (x:=x) h.m3 hS
  rw [hx] at hin
  simp only [Option.isSome_none] at hin
  have hl2:(dE S).length < most:=by rw [dE_len]; show _ < 400; omega
  have m2:=h.m2
  have m3:=h.m3
  rw [CM_eq hn rfl rfl]
  open_k with ([F_Names_put,m2,m3,hsub,hin,hl2,put_dE hx],6)
theorem Raw.set {σ:Sto} {S T:En} (h:Raw σ S):Raw (σ.set 3 (.dict (dE T))) T :=
  ⟨by rw [List.getElem?_set_ne (by decide)]; exact h.m1,by rw [List.getElem?_set_ne (by decide)]; exact h.m2,by rw [List.getElem?_set_self (List.getElem?_eq_some_iff.mp h.m3).1],by rw [List.getElem?_set_ne (by decide)]; exact h.m4⟩
theorem world_loop (n:Nat) (hn:0 < n):∀ (L S:En) (σ:Sto) (ρ:Loc),S++L=worldL→Raw σ S→lookA 163 ρ=some (.obj 1 1) →
    ∃ ρ' σ',forL (execMs (TT n) lawB) (.one 170) (strz (L.map (·.1))) ρ σ=some (.next,ρ',σ')∧(∀ k,k≠170→lookA k ρ' = lookA k ρ)∧Raw σ' worldL∧(∀ k,k≠3→σ'[k]? = σ[k]?)∧σ'.length=σ.length
  | [],S,σ,ρ,he,h,h1=>⟨ρ,σ,rfl,fun _ _=>rfl,by rw [List.append_nil] at he; rw [← he]; exact h,fun _ _=>rfl,rfl⟩
  | (x,k)::r,S,σ,ρ,he,h,h1=>by
    have hmem:(x,k)∈worldL:=by rw [← he]; simp
    have hnd:((S++(x,k)::r).map (·.1)).Nodup:=by rw [he]; exact world_nodup
    have hlen:(S++(x,k)::r).length=8:=by rw [he]; rfl
    rw [List.length_append] at hlen
    rw [List.map_append,List.nodup_append] at hnd
    have hx:lastA x S=none:=by
      cases q:lastA x S with
      | none=>rfl
      | some k' => exact absurd rfl (hnd.2.2 x (lastA_mem q) x (by simp))
    have hput:=raw_put (n:=n) hn (k:=k) h hx hnd.1 (by omega)
    have hw:=look_world (x,k) hmem
    obtain ⟨ρ',σ',e,hk,hr,hs,hl⟩:=world_loop n hn r (S++[(x,k)]) (σ.set 3 (.dict (dE (S++[(x,k)])))) (putA 170 (.str x) ρ) (by rw [List.append_assoc]; exact he) h.set (by simp only [y_look,Nat.reduceEqDiff,↓reduceIte,h1])
    refine ⟨ρ',σ',?_,fun j hj=>by rw [hk j hj,y_look,if_neg (Ne.symm hj)],hr,fun j hj=>by rw [hs j hj,List.getElem?_set_ne (Ne.symm hj)],by rw [hl,List.length_set]⟩
    have m1:=h.m1
    have m2:=h.m2
    rw [← e]
    show forL (execMs (TT n) lawB) (.one 170) (.str x::strz (r.map (·.1))) ρ σ=_
    rw [forL_one]
    generalize forL (execMs (TT n) lawB) (.one 170) (strz (r.map (·.1)))=g
    have hsw:∀ σ,subL σ (.dct worldD) (.str x)=some (encK k):=fun _=>hw
    simp only [worldD] at hsw
    open_k with ([lawB,F_law,h1,m1,m2,hsw,hput],11)
theorem plain_p {n:Nat} {σ:Sto} (hn:0 < n):CM n 38 [.obj 1 1,.tup [.str 130,.bool true,.tup [],.none]] σ=some (.val (encK INT),σ):=by
  have kt0:kLen (.tup []) σ=some (.val (.int 0),σ):=k_len rfl
  rw [CM_eq hn rfl rfl]
  open_k with ([F_Kinds_plain_kind,kt0],3)
  rfl
def predT:LV:=.tup [.str 192,.int 0,.str 185,.tup [.tup [.tup [.str 130,.bool true,.tup [],.none],.str 162]],.tup [.str 75,.int 0,.bool true]]
theorem note_ok {n:Nat} {σ:Sto} (hn:1 < n) (m1:σ[1]? = some (.dict makerD)) (m6:σ[6]? = some (.dict [])):CM n 39 [.obj 1 1,predT] σ=some (.val .none,σ.set 6 (.dict predD)):=by
  have hin:isinL σ (.str 185) (.cell 6)=some false:=by unfold isinL; simp only [m6]; rfl
  have hp:=@plain_p (n - 1) σ (by omega)
  have h0:([]:List (Nat × LV)).length < most:=by show 0 < 400; decide
  have hl1:[encK INT].length < most:=by show 1 < 400; decide
  have hto:∀ σ,kTupOf (.lst [encK INT]) σ=some (.val (.tup [encK INT]),σ):=fun σ=>by unfold kTupOf; exact if_pos hl1
  have hset:∀ ρ,sSetI3 ρ (.tup [encK INT]) (.cell 6) (.str 185) σ=some (.next,ρ,σ.set 6 (.dict predD)):=fun ρ=>by
    unfold sSetI3
    simp only [m6,h0,if_true]
    rfl
  have hc:isinL σ (.str 185) (.dct [(53,.any),(76,.any),(191,.any),(220,.any),(194,.any),(109,.any),(103,.any),(89,.any),(79,.any),(62,.any),(61,.any),(245,.any),(120,.any),(87,.any),(141,.any),(54,.any),(55,.any),(83,.any),(122,.any),(93,.any),(133,.any),(159,.any),(160,.any),(157,.any),(158,.any),(100,.any),(224,.any),(90,.any),(96,.any),(200,.any),(234,.any),(115,.any),(116,.any),(178,.any),(68,.any),(69,.any),(102,.any),(166,.any),(168,.any)])=some false:=rfl
  have ho:isinL σ (.str 185) (.tup [.str 167,.str 165,.str 211,.str 107,.str 155,.str 124,.str 125,.str 126,.str 58,.str 60,.str 209,.str 201,.str 215,.str 65])=some false:=rfl
  rw [CM_eq (by omega) rfl rfl]
  open_k with ([predT,F_Kinds_note_predicate,m1,m6,hin,hc,ho,hp,h0,hto,hset,kC1,compL,kComp2],12)
structure Lap (A:List Nat) (C:Bool) (N:List Nat) (D:Bool) (σ:Sto):Prop where
  s:MSt A C [] σ
  n0:σ[10]? = some (.dict (dA N))
  n1:σ[11]? = some (.dict (dC D))
theorem lap_ok (n:Nat) (s:Int) (its:Its) (body:Nd) (σ:Sto) (A:List Nat) (C:Bool) (N:List Nat) (D:Bool) (ρ:Loc) (hn:5 * (Nd.lt s its body).dp + 10≤n) (hz:(Nd.lt s its body).sz≤300) (hd:(Nd.lt s its body).dp≤35)
    (h:Lap A C N D σ) (hN:N.Nodup) (eA:adds A (kd (.lt s its body) []).2.1=N) (eC:(C || (kd (.lt s its body) []).2.2)=D)
    (l163:lookA 163 ρ=some (.obj 1 1)) (l172:lookA 172 ρ=some (enc (.lt s its body))) (l99:lookA 99 ρ=some (encR (kd (.lt s its body) []).1)) (l176:lookA 176 ρ=some NOTES) :
    ∃ ρ' σ',execMs (TT n) lapB ρ σ=some (.next,ρ',σ')∧Lap N D N D σ' ∧ lookA 163 ρ' = some (.obj 1 1)∧lookA 172 ρ' = some (enc (.lt s its body))∧lookA 99 ρ' = some (encR (kd (.lt s its body) []).1)∧lookA 176 ρ' = some NOTES:=by
  have imp:its.All MK:=Its_mono (P:=fun _=>True) (fun nd _=>mk_all nd) its (Its.ind (P:=fun _=>True) (fun _ _ _=>trivial) (fun _ _=>trivial) (fun _ _ _ _ _=>trivial) (fun _ _ _=>trivial) (fun _ _ _ _ _=>trivial) (fun _ _ _=>trivial) (fun _ _ _ _ _ _=>trivial) (fun _ _ _ _ _=>trivial) its)
  obtain ⟨σ1,e1,p1⟩:=mk_within s its body imp (mk_all body) [] (n + 1) σ A C (by omega) (by show 0 + _≤300; omega) (by simp only [List.length_nil]; omega) h.s
  have hkd:(bindW (kits its [] (flatS [])) fun E' => kd body E')=kd (.lt s its body) []:=rfl
  rw [hkd] at e1 p1
  rw [Nat.add_sub_cancel] at e1
  have m1:=h.s.m1
  have eq0:=eq_encR (kd (.lt s its body) []).1
  generalize kd (.lt s its body) []=w at *
  have s1:=p1.s
  rw [eA,eC] at s1
  have r1:=s1.m1
  have r2:=s1.m2
  have r3:=s1.m3
  have r4:=s1.m4
  have r5:=s1.m5
  have r9:=s1.m9
  have q0:σ1[10]? = some (.dict (dA N)):=p1.k.at h.n0 (by decide) (by decide)
  have q1:σ1[11]? = some (.dict (dC D)):=p1.k.at h.n1 (by decide) (by decide)
  have c1:kCmpLD2 (.cell 4) (.lst [.dct worldD]) σ1=some (.val (.bool false),σ1):=by
    unfold kCmpLD2
    have o1:oneItem σ1 (.cell 4)=some (.cell 3):=by unfold oneItem; simp only [r4]; rfl
    have o2:oneItem σ1 (.lst [.dct worldD])=some (.dct worldD):=rfl
    simp only [o1,o2,r3,world_eq]
    rfl
  have c2:kCmpD2 (.cell 5) (.cell 10) σ1=some (.val (.bool false),σ1):=by
    unfold kCmpD2
    have o1:dictOfL σ1 (.cell 5)=some (dA N):=by unfold dictOfL; simp only [r5]
    have o2:dictOfL σ1 (.cell 10)=some (dA N):=by unfold dictOfL; simp only [q0]
    simp only [o1,o2,eqD_dA hN]
    rfl
  have c3:kCmpD2 (.cell 9) (.cell 11) σ1=some (.val (.bool false),σ1):=by
    unfold kCmpD2
    have o1:dictOfL σ1 (.cell 9)=some (dC D):=by unfold dictOfL; simp only [r9]
    have o2:dictOfL σ1 (.cell 11)=some (dC D):=by unfold dictOfL; simp only [q1]
    simp only [o1,o2,eqD_dC]
    rfl
  simp only [worldD] at c1
  have tail:∀ ρ1,lookA 163 ρ1=some (.obj 1 1)→lookA 99 ρ1=some (encR w.1)→lookA 176 ρ1=some NOTES→lookA 226 ρ1=some (encR w.1) →
      execMs (TT n) (dropS lapB 1) ρ1 σ1=some (.next,ρ1,σ1):=fun ρ1 h1 h2 h3 h4=>by
    open_k with ([lapB,dropS,F_law,h1,h2,h3,h4,eq0,r1,r2,c1,c2,c3,x_sub0l,x_sub1l],13)
  have hb:lapB = .cons (nthS lapB 0) (dropS lapB 1):=rfl
  rw [hb,exs_cons]
  cases q:w.1 with
  | error i =>
    rw [q] at e1
    simp only [outR] at e1
    have hx:execM (TT n) (nthS lapB 0) ρ σ=some (.next,(putA 226 (.tup [.none,.int i]) ρ).filter (fun e=>e.1 != 104),σ1):=by
      simp only [enc] at l172
      open_k with ([nthS,lapB,F_law,l163,l172,m1,e1,sCatch],6)
    have f:=fun (k:Nat) (hk:k≠104)=>look_filt hk (putA 226 (.tup [.none,.int i]) ρ)
    rw [q] at l99
    have tail:=tail ((putA 226 (.tup [.none,.int i]) ρ).filter (fun e=>e.1 != 104)) (by rw [f 163 (by decide),y_look,if_neg (by decide)]; exact l163) (by rw [f 99 (by decide),y_look,if_neg (by decide),q]; exact l99) (by rw [f 176 (by decide),y_look,if_neg (by decide)]; exact l176) (by rw [f 226 (by decide),y_look,if_pos rfl,q]; rfl)
    refine ⟨_,σ1,by rw [hx,seqS_next]; exact tail,⟨s1,q0,q1⟩,?_,?_,?_,?_⟩
    · rw [f 163 (by decide),y_look,if_neg (by decide)]; exact l163
    · rw [f 172 (by decide),y_look,if_neg (by decide)]; exact l172
    · rw [f 99 (by decide),y_look,if_neg (by decide)]; exact l99
    · rw [f 176 (by decide),y_look,if_neg (by decide)]; exact l176
  | ok k =>
    rw [q] at e1
    simp only [outR] at e1
    have hx:execM (TT n) (nthS lapB 0) ρ σ=some (.next,putA 226 (.tup [encK k,.none]) ρ,σ1):=by
      simp only [enc] at l172
      open_k with ([nthS,lapB,F_law,l163,l172,m1,e1,sCatch],6)
    rw [q] at l99
    have tail:=tail (putA 226 (.tup [encK k,.none]) ρ) (by rw [y_look,if_neg (by decide)]; exact l163) (by rw [y_look,if_neg (by decide),q]; exact l99) (by rw [y_look,if_neg (by decide)]; exact l176) (by rw [y_look,if_pos rfl,q]; rfl)
    refine ⟨_,σ1,by rw [hx,seqS_next]; exact tail,⟨s1,q0,q1⟩,?_,?_,?_,?_⟩
    · rw [y_look,if_neg (by decide)]; exact l163
    · rw [y_look,if_neg (by decide)]; exact l172
    · rw [y_look,if_neg (by decide)]; exact l99
    · rw [y_look,if_neg (by decide)]; exact l176
theorem G12 (cells:List Int):σ12 cells=G (σ12 cells) cells 0 0:=rfl
theorem st0 (xs:List Int) (h:xs.length≤63):execM (TT 59) (nthS F_law.body 0) [(205,.lst (xs.map .int))] []=some (.next,putA 176 NOTES (putA 163 (.obj 1 1) (putA 105 (.cell 0) [(205,.lst (xs.map .int))])),σ12 (xs.take 60)):=by
  have h1:(xs.map LV.int).length < most:=by rw [List.length_map]; show _ < 400; omega
  have hsl:∀ σ,kSlice 60 (.lst (xs.map .int)) σ=some (.val (.lst ((xs.take 60).map .int)),σ):=fun σ=>by
    unfold kSlice
    rw [List.map_take]
    exact if_pos h1
  have h2:((xs.take 60).map LV.int).length < most:=by rw [List.length_map,List.length_take]; show _ < 400; omega
  have hto:∀ σ,kLstOf (.lst ((xs.take 60).map .int)) σ=some (.val (.lst ((xs.take 60).map .int)),σ):=fun σ=>by unfold kLstOf; exact if_pos h2
  have hi:=init_ok
  open_k with ([nthS,F_law,hsl,hto,hi,List.length_cons,List.length_nil,List.cons_append,List.nil_append],14)
  rfl
theorem st2 (ρ:Loc) (σ:Sto):evalM (TT 59) (.comp (.tup (.cons (.loc 170) (.cons (.sub (.glob 51 (.dct worldD)) (.loc 170)) (.cons (.const (.bool true)) .nil)))) (.one 170) (.val (.sortedW [52,70,118,203,223,232,243,246])) .nil) ρ σ=some (.val (.lst (worldL.map (ent true))),σ):=by
  have hl:([LV.str 52,.str 70,.str 118,.str 203,.str 223,.str 232,.str 243,.str 246]).length < most:=by show 8 < 400; decide
  open_k with ([worldD,List.map_cons,List.map_nil,kComp_lst hl,compL_one,compL_nil,kComp2,worldL,ent,encK,Kd.n,Bs.code],3)
theorem law_plain (xs:List Int) (h:xs.length≤63):∃ σ,callM fns methIx initIx fldIx true 60 0 [.lst (xs.map .int)] []=some (.val (.bool true),σ):=by
  show ∃ σ,CM 60 0 [.lst (xs.map .int)] []=some (.val (.bool true),σ)
  have hc:(xs.take 60).length≤63:=by rw [List.length_take]; omega
  have e0:=st0 xs h
  generalize xs.take 60=cells at *
  have hpos:0 < (σ12 cells).length:=Nat.succ_pos _
  obtain ⟨r,q0,q1,ed⟩:=@ev_dip (σ12 cells) cells 0 0 59 (by decide) hpos hc (by omega) 2 (by omega)
  rw [← G12] at ed
  have pick:∃ b:Bs,b ≠ .non∧∀ σ,subL σ (.tup [.str 130,.str 75]) (.int r)=some (.str b.code):=by
    have:r=0∨r=1:=by omega
    rcases this with rfl | rfl
    · exact ⟨.int,by decide,fun σ=>x_sub0⟩
    · exact ⟨.boo,by decide,fun σ=>x_sub1⟩
  obtain ⟨b,hb,eb⟩:=pick
  have E2:=expr2 (σ:=σ12 cells) (cells:=cells) hpos hc
  have a2:eA 2=714:=rfl
  have b2:eB 2=1294:=rfl
  have d2:eD 2=4:=rfl
  have z2:eZ 2=72:=rfl
  obtain ⟨its,body,s0,p',s',el,hdp,hsz,_,_,_,_⟩:=let_ok E2 hpos hc (0 + 1) 0 59 b hb (by omega) (by omega) (by omega) (by omega) (by omega)
  rw [d2] at hdp
  rw [z2] at hsz
  generalize hN:Nd.lt s0 its body=nd at *
  -- the law's own answer
  have hget:∀ k,k≠0→(G (σ12 cells) cells p' s')[k]? = (σ12 cells)[k]? := fun k hk=>by unfold G; rw [List.getElem?_set_ne (Ne.symm hk)]
  have he:EnvAt (G (σ12 cells) cells p' s') (.lst (worldL.map (ent true))) []:=⟨by show some _=_; unfold encE; rw [List.map_nil,List.append_nil],fun i e=>by cases e⟩
  have hs:LS [] false (G (σ12 cells) cells p' s'):=⟨by rw [hget 10 (by decide)]; rfl,by rw [hget 11 (by decide)]; rfl,⟨List.nodup_nil,fun x hx=>by cases hx⟩⟩
  obtain ⟨σc,ec,pc⟩:=law_all nd [] 59 (.lst (worldL.map (ent true))) (G (σ12 cells) cells p' s') [] false (by omega) (by rw [List.length_nil]; omega) he hs
  have hglen:(G (σ12 cells) cells p' s').length=12:=by unfold G; rw [List.length_set]; rfl
  have hkeep:∀ k c,k < 12→k≠0→k≠10→k≠11→(σ12 cells)[k]? = some c→σc[k]? = some c:=fun k c h1 h2 h3 h4 h5=>by
    rw [pc.k.get k (by rw [hglen]; exact h1) h3 h4,hget k h2]; exact h5
  have hclen:12≤σc.length:=by have:=pc.k.len; rw [hglen] at this; exact this
  -- the maker's world
  have raw:Raw σc []:=⟨hkeep 1 _ (by decide) (by decide) (by decide) (by decide) rfl,hkeep 2 _ (by decide) (by decide) (by decide) (by decide) rfl,hkeep 3 _ (by decide) (by decide) (by decide) (by decide) rfl,hkeep 4 _ (by decide) (by decide) (by decide) (by decide) rfl⟩
  generalize hρ1:putA 176 NOTES (putA 163 (.obj 1 1) (putA 105 (.cell 0) [(205,.lst (xs.map .int))]))=ρ1 at e0
  have l105:lookA 105 ρ1=some (.cell 0):=by rw [← hρ1]; rfl
  have l163:lookA 163 ρ1=some (.obj 1 1):=by rw [← hρ1]; rfl
  have l176:lookA 176 ρ1=some NOTES:=by rw [← hρ1]; rfl
  generalize hw:kd nd []=w at *
  have el':CM 59 6 [.cell 0,.int 2,.str b.code] (G (σ12 cells) cells 1 0)=some (.val (enc nd),G (σ12 cells) cells p' s'):=el
  have e1:execM (TT 59) (nthS F_law.body 1) ρ1 (σ12 cells)=some (.next,putA 172 (enc nd) ρ1,G (σ12 cells) cells p' s'):=by
    open_k with ([nthS,F_law,l105,ed,eb,el'],9)
  have e2:execM (TT 59) (nthS F_law.body 2) (putA 172 (enc nd) ρ1) (G (σ12 cells) cells p' s')=some (.next,putA 99 (encR w.1) (putA 172 (enc nd) ρ1),σc):=by
    have hm:=st2 (putA 172 (enc nd) ρ1) (G (σ12 cells) cells p' s')
    have l1:lookA 172 (putA 172 (enc nd) ρ1)=some (enc nd):=by rw [y_look,if_pos rfl]
    have l2:lookA 176 (putA 172 (enc nd) ρ1)=some NOTES:=by rw [y_look,if_neg (by decide)]; exact l176
    show execM (TT 59) (.asg 99 (.call 14 (.cons (.loc 172) (.cons (.comp (.tup (.cons (.loc 170) (.cons (.sub (.glob 51 (.dct worldD)) (.loc 170)) (.cons (.const (.bool true)) .nil)))) (.one 170) (.val (.sortedW [52,70,118,203,223,232,243,246])) .nil) (.cons (.loc 176) .nil))))) _ _=_
    rw [ex_asg,ev_call,es_cons,ev_loc,l1,lift_some,bindR_val]
    unfold kCons
    rw [es_cons,hm,bindR_val]
    unfold kCons
    rw [es_cons,ev_loc,l2,lift_some,bindR_val]
    unfold kCons
    rw [es_nil,bindR_val]
    unfold kCons2
    rw [bindR_val,bindR_val,bindR_val,TT_call,ec,bindS_val]
    rfl
  obtain ⟨ρ3,σd,e3,hk3,rawd,hsame,hdlen⟩:=world_loop 59 (by decide) worldL [] σc (putA 99 (encR w.1) (putA 172 (enc nd) ρ1)) rfl raw (by rw [y_look,if_neg (by decide),y_look,if_neg (by decide)]; exact l163)
  have e3':execM (TT 59) (nthS F_law.body 3) (putA 99 (encR w.1) (putA 172 (enc nd) ρ1)) σc=some (.next,ρ3,σd):=by
    rw [← e3]
    show (if (TT 59).rs then bindS (iterM (TT 59) (.val (.sortedW [52,70,118,203,223,232,243,246])) (putA 99 (encR w.1) (putA 172 (enc nd) ρ1)) σc) (putA 99 (encR w.1) (putA 172 (enc nd) ρ1)) (sFor (TT 59) (.one 170) lawB (putA 99 (encR w.1) (putA 172 (enc nd) ρ1))) else none)=_
    rw [TT_rs,if_pos rfl,it_val,ev_sortedW,TT_rs,if_pos rfl,bindR_val,x_vl,bindS_val,sFor_lst (by show 8 < 400; decide)]
    rfl
  have m3:lookA 163 ρ3=some (.obj 1 1):=by rw [hk3 163 (by decide),y_look,if_neg (by decide),y_look,if_neg (by decide)]; exact l163
  have hd6:σd[6]? = some (.dict []):=by rw [hsame 6 (by decide)]; exact hkeep 6 _ (by decide) (by decide) (by decide) (by decide) rfl
  have hnote:=note_ok (n:=59) (by decide) rawd.m1 hd6
  have dm1:=rawd.m1
  simp only [predT] at hnote
  have e4:execM (TT 59) (nthS F_law.body 4) ρ3 σd=some (.next,ρ3,σd.set 6 (.dict predD)):=by
    open_k with ([nthS,F_law,m3,dm1,hnote],6)
  have hE:∀ k c,k≠6→σd[k]? = some c→(σd.set 6 (.dict predD))[k]? = some c:=fun k c hk hc=>by rw [List.getElem?_set_ne (Ne.symm hk)]; exact hc
  have kd':∀ k c,k < 12→k≠0→k≠10→k≠11→k≠3→(σ12 cells)[k]? = some c→σd[k]? = some c:=fun k c h1 h2 h3 h4 h5 h6=>by rw [hsame k h5]; exact hkeep k c h1 h2 h3 h4 h6
  have ms:MSt [] false [] (σd.set 6 (.dict predD)) :=
    ⟨hE _ _ (by decide) rawd.m1,hE _ _ (by decide) rawd.m2,hE _ _ (by decide) rawd.m3,hE _ _ (by decide) rawd.m4,hE _ _ (by decide) (kd' 5 _ (by decide) (by decide) (by decide) (by decide) (by decide) rfl),
     by rw [List.getElem?_set_self (by omega)],hE _ _ (by decide) (kd' 9 _ (by decide) (by decide) (by decide) (by decide) (by decide) rfl),⟨List.nodup_nil,fun x hx=>by cases hx⟩,(fun p hp=>by cases hp),List.nodup_nil,by rw [List.length_set]; omega⟩
  have lap0:Lap [] false (adds [] w.2.1) (false || w.2.2) (σd.set 6 (.dict predD)):=⟨ms,hE _ _ (by decide) (by rw [hsame 10 (by decide)]; exact pc.s.a),hE _ _ (by decide) (by rw [hsame 11 (by decide)]; exact pc.s.c)⟩
  have n172:lookA 172 ρ3=some (enc nd):=by rw [hk3 172 (by decide),y_look,if_neg (by decide),y_look,if_pos rfl]
  have n99:lookA 99 ρ3=some (encR w.1):=by rw [hk3 99 (by decide),y_look,if_pos rfl]
  have n176:lookA 176 ρ3=some NOTES:=by rw [hk3 176 (by decide),y_look,if_neg (by decide),y_look,if_neg (by decide)]; exact l176
  subst hN
  have lap1:=lap_ok 59 s0 its body (σd.set 6 (.dict predD)) [] false (adds [] w.2.1) (false || w.2.2) (putA 151 (.int 0) ρ3) (by omega) (by omega) (by omega) lap0 pc.s.ok.nd (by rw [hw]) (by rw [hw])
    (by rw [y_look,if_neg (by decide)]; exact m3) (by rw [y_look,if_neg (by decide)]; exact n172) (by rw [y_look,if_neg (by decide),hw]; exact n99) (by rw [y_look,if_neg (by decide)]; exact n176)
  obtain ⟨ρ4,σ4,e5,lap2,o163,o172,o99,o176⟩:=lap1
  have lap3:=lap_ok 59 s0 its body σ4 (adds [] w.2.1) (false || w.2.2) (adds [] w.2.1) (false || w.2.2) (putA 151 (.int 1) ρ4) (by omega) (by omega) (by omega) lap2 pc.s.ok.nd (by rw [hw]; exact adds_idem _ _) (by rw [hw]; cases w.2.2 <;> rfl)
    (by rw [y_look,if_neg (by decide)]; exact o163) (by rw [y_look,if_neg (by decide)]; exact o172) (by rw [y_look,if_neg (by decide)]; exact o99) (by rw [y_look,if_neg (by decide)]; exact o176)
  obtain ⟨ρ5,σ5,e6,_⟩:=lap3
  have e7:execM (TT 59) (nthS F_law.body 5) ρ3 (σd.set 6 (.dict predD))=some (.next,ρ5,σ5):=by
    show (if (TT 59).rs then bindS (iterM (TT 59) (.range (.const (.int 2))) ρ3 (σd.set 6 (.dict predD))) ρ3 (sFor (TT 59) (.one 151) lapB ρ3) else none)=_
    have hr:∀ σ,kRange (.int 2) σ=some (.val (.range 0 1 2),σ):=fun σ=>rfl
    have hl:rangeL 0 1 2=[.int 0,.int 1]:=rfl
    rw [TT_rs,if_pos rfl,it_range,ev_const,bindR_val,hr,bindS_val,sFor_range (by show 2 < 400; decide),hl,forL_one,e5,seqS_next,forL_one,e6,seqS_next]
    rfl
  refine ⟨σ5,?_⟩
  rw [CM_eq (by decide) rfl rfl]
  show fin (execMs (TT 59) (.cons (nthS F_law.body 0) (.cons (nthS F_law.body 1) (.cons (nthS F_law.body 2) (.cons (nthS F_law.body 3) (.cons (nthS F_law.body 4) (.cons (nthS F_law.body 5) (.cons (.ret (.const (.bool true))) .nil))))))) [(205,.lst (xs.map .int))] [])=_
  rw [exs_cons,e0,seqS_next,exs_cons,e1,seqS_next,exs_cons,e2,seqS_next,exs_cons,e3',seqS_next,exs_cons,e4,seqS_next,exs_cons,e7,seqS_next]
  rfl
end Mine.L
namespace Mine
open PySem PySem.Calls PySem.W PyProof.Rows PySem.SeqAt
theorem clsOk0 (P:Params):ClsOk (KK P) 257:=⟨by kernel_rfl,by kernel_rfl,by kernel_rfl,by kernel_rfl⟩
theorem clsOk1 (P:Params):ClsOk (KK P) 494:=⟨by kernel_rfl,by kernel_rfl,by kernel_rfl,by kernel_rfl⟩
theorem cls_cases {c:Nat} {C:Addr} (h:clsA c=some C):(c=0∧C=257)∨(c=1∧C=494):=by
  unfold clsA at h
  split at h
  · cases h; exact .inl ⟨rfl,rfl⟩
  · cases h; exact .inr ⟨rfl,rfl⟩
  · cases h
theorem nm_val {k:Nat} {x y:Str} (h:nm k=some x) (h2:nm k=some y):x=y:=by rw [h] at h2; cases h2; rfl
theorem fo_204 (P:Params):FldOk (KK P) 257 "scopes" := ⟨⟨none,by kernel_rfl,by kernel_rfl⟩,by kernel_rfl⟩
theorem fo_63 (P:Params):FldOk (KK P) 257 "asked" := ⟨⟨none,by kernel_rfl,by kernel_rfl⟩,by kernel_rfl⟩
theorem fo_171 (P:Params):FldOk (KK P) 494 "names" := ⟨⟨none,by kernel_rfl,by kernel_rfl⟩,by kernel_rfl⟩
theorem fo_193 (P:Params):FldOk (KK P) 494 "predicates" := ⟨⟨none,by kernel_rfl,by kernel_rfl⟩,by kernel_rfl⟩
theorem fo_64 (P:Params):FldOk (KK P) 494 "asks" := ⟨⟨none,by kernel_rfl,by kernel_rfl⟩,by kernel_rfl⟩
theorem fo_67 (P:Params):FldOk (KK P) 494 "assigned" := ⟨⟨none,by kernel_rfl,by kernel_rfl⟩,by kernel_rfl⟩
theorem fo_137 (P:Params):FldOk (KK P) 494 "is_shown" := ⟨⟨none,by kernel_rfl,by kernel_rfl⟩,by kernel_rfl⟩
theorem fo_78 (P:Params):FldOk (KK P) 494 "called" := ⟨⟨none,by kernel_rfl,by kernel_rfl⟩,by kernel_rfl⟩
theorem fld_cases {c a:Nat} (h:fldIx c a=true):(c=0∧a=204)∨(c=0∧a=63)∨(c=1∧a=171)∨(c=1∧a=193)∨(c=1∧a=64)∨(c=1∧a=67)∨(c=1∧a=137)∨(c=1∧a=78):=by
  unfold fldIx at h
  split at h <;> simp_all
theorem clsTabK (P:Params) (T:Tab) (hf:T.fld=fldIx):ClsTab (KK P) T:=by
  refine ⟨fun c C h=>?_,fun c C a x hfl hc hx=>?_⟩
  · rcases cls_cases h with ⟨rfl,rfl⟩ | ⟨rfl,rfl⟩
    · exact clsOk0 P
    · exact clsOk1 P
  · rw [hf] at hfl
    rcases fld_cases hfl with ⟨rfl,rfl⟩ | ⟨rfl,rfl⟩ | ⟨rfl,rfl⟩ | ⟨rfl,rfl⟩ | ⟨rfl,rfl⟩ | ⟨rfl,rfl⟩ | ⟨rfl,rfl⟩ | ⟨rfl,rfl⟩
    · cases hc; rw [nm_val hx n204]; exact fo_204 P
    · cases hc; rw [nm_val hx n63]; exact fo_63 P
    · cases hc; rw [nm_val hx n171]; exact fo_171 P
    · cases hc; rw [nm_val hx n193]; exact fo_193 P
    · cases hc; rw [nm_val hx n64]; exact fo_64 P
    · cases hc; rw [nm_val hx n67]; exact fo_67 P
    · cases hc; rw [nm_val hx n137]; exact fo_137 P
    · cases hc; rw [nm_val hx n78]; exact fo_78 P
theorem fm_0_195 (P:Params):findIn (KK P) (.ref 257) "push" = some (some (.ref 233)):=by kernel_rfl
theorem fm_0_190 (P:Params):findIn (KK P) (.ref 257) "pop" = some (some (.ref 240)):=by kernel_rfl
theorem fm_0_196 (P:Params):findIn (KK P) (.ref 257) "put" = some (some (.ref 247)):=by kernel_rfl
theorem fm_0_145 (P:Params):findIn (KK P) (.ref 257) "kind_of" = some (some (.ref 254)):=by kernel_rfl
theorem fm_1_144 (P:Params):findIn (KK P) (.ref 494) "kind" = some (some (.ref 287)):=by kernel_rfl
theorem fm_1_150 (P:Params):findIn (KK P) (.ref 494) "known_set" = some (some (.ref 294)):=by kernel_rfl
theorem fm_1_81 (P:Params):findIn (KK P) (.ref 494) "chain" = some (some (.ref 301)):=by kernel_rfl
theorem fm_1_142 (P:Params):findIn (KK P) (.ref 494) "joined" = some (some (.ref 308)):=by kernel_rfl
theorem fm_1_86 (P:Params):findIn (KK P) (.ref 494) "compared" = some (some (.ref 322)):=by kernel_rfl
theorem fm_1_127 (P:Params):findIn (KK P) (.ref 494) "indexed" = some (some (.ref 336)):=by kernel_rfl
theorem fm_1_179 (P:Params):findIn (KK P) (.ref 494) "of_all" = some (some (.ref 343)):=by kernel_rfl
theorem fm_1_112 (P:Params):findIn (KK P) (.ref 494) "gathered" = some (some (.ref 350)):=by kernel_rfl
theorem fm_1_242 (P:Params):findIn (KK P) (.ref 494) "within" = some (some (.ref 392)):=by kernel_rfl
theorem fm_1_77 (P:Params):findIn (KK P) (.ref 494) "call" = some (some (.ref 397)):=by kernel_rfl
theorem fm_1_238 (P:Params):findIn (KK P) (.ref 494) "want_each" = some (some (.ref 404)):=by kernel_rfl
theorem fm_1_229 (P:Params):findIn (KK P) (.ref 494) "type_kind" = some (some (.ref 432)):=by kernel_rfl
theorem fm_1_92 (P:Params):findIn (KK P) (.ref 494) "declared" = some (some (.ref 437)):=by kernel_rfl
theorem fm_1_189 (P:Params):findIn (KK P) (.ref 494) "plain_kind" = some (some (.ref 451)):=by kernel_rfl
theorem fm_1_175 (P:Params):findIn (KK P) (.ref 494) "note_predicate" = some (some (.ref 456)):=by kernel_rfl
theorem kp_0 (P:Params):keepIn (KK P) (.ref 600)=true∧typeIn (KK P) (.ref 600)=some (.type "function"):=⟨by kernel_rfl,by kernel_rfl⟩
theorem kp_1 (P:Params):keepIn (KK P) (.ref 521)=true∧typeIn (KK P) (.ref 521)=some (.type "function"):=⟨by kernel_rfl,by kernel_rfl⟩
theorem kp_2 (P:Params):keepIn (KK P) (.ref 528)=true∧typeIn (KK P) (.ref 528)=some (.type "function"):=⟨by kernel_rfl,by kernel_rfl⟩
theorem kp_3 (P:Params):keepIn (KK P) (.ref 535)=true∧typeIn (KK P) (.ref 535)=some (.type "function"):=⟨by kernel_rfl,by kernel_rfl⟩
theorem kp_4 (P:Params):keepIn (KK P) (.ref 542)=true∧typeIn (KK P) (.ref 542)=some (.type "function"):=⟨by kernel_rfl,by kernel_rfl⟩
theorem kp_5 (P:Params):keepIn (KK P) (.ref 547)=true∧typeIn (KK P) (.ref 547)=some (.type "function"):=⟨by kernel_rfl,by kernel_rfl⟩
theorem kp_6 (P:Params):keepIn (KK P) (.ref 552)=true∧typeIn (KK P) (.ref 552)=some (.type "function"):=⟨by kernel_rfl,by kernel_rfl⟩
theorem kp_7 (P:Params):keepIn (KK P) (.ref 514)=true∧typeIn (KK P) (.ref 514)=some (.type "function"):=⟨by kernel_rfl,by kernel_rfl⟩
theorem kp_8 (P:Params):keepIn (KK P) (.ref 559)=true∧typeIn (KK P) (.ref 559)=some (.type "function"):=⟨by kernel_rfl,by kernel_rfl⟩
theorem kp_9 (P:Params):keepIn (KK P) (.ref 564)=true∧typeIn (KK P) (.ref 564)=some (.type "function"):=⟨by kernel_rfl,by kernel_rfl⟩
theorem kp_10 (P:Params):keepIn (KK P) (.ref 571)=true∧typeIn (KK P) (.ref 571)=some (.type "function"):=⟨by kernel_rfl,by kernel_rfl⟩
theorem kp_11 (P:Params):keepIn (KK P) (.ref 576)=true∧typeIn (KK P) (.ref 576)=some (.type "function"):=⟨by kernel_rfl,by kernel_rfl⟩
theorem kp_12 (P:Params):keepIn (KK P) (.ref 583)=true∧typeIn (KK P) (.ref 583)=some (.type "function"):=⟨by kernel_rfl,by kernel_rfl⟩
theorem kp_13 (P:Params):keepIn (KK P) (.ref 590)=true∧typeIn (KK P) (.ref 590)=some (.type "function"):=⟨by kernel_rfl,by kernel_rfl⟩
theorem kp_14 (P:Params):keepIn (KK P) (.ref 595)=true∧typeIn (KK P) (.ref 595)=some (.type "function"):=⟨by kernel_rfl,by kernel_rfl⟩
theorem kp_15 (P:Params):keepIn (KK P) (.ref 191)=true∧typeIn (KK P) (.ref 191)=some (.type "function"):=⟨by kernel_rfl,by kernel_rfl⟩
theorem kp_16 (P:Params):keepIn (KK P) (.ref 198)=true∧typeIn (KK P) (.ref 198)=some (.type "function"):=⟨by kernel_rfl,by kernel_rfl⟩
theorem kp_17 (P:Params):keepIn (KK P) (.ref 205)=true∧typeIn (KK P) (.ref 205)=some (.type "function"):=⟨by kernel_rfl,by kernel_rfl⟩
theorem kp_18 (P:Params):keepIn (KK P) (.ref 212)=true∧typeIn (KK P) (.ref 212)=some (.type "function"):=⟨by kernel_rfl,by kernel_rfl⟩
theorem kp_19 (P:Params):keepIn (KK P) (.ref 226)=true∧typeIn (KK P) (.ref 226)=some (.type "function"):=⟨by kernel_rfl,by kernel_rfl⟩
theorem kp_20 (P:Params):keepIn (KK P) (.ref 233)=true∧typeIn (KK P) (.ref 233)=some (.type "function"):=⟨by kernel_rfl,by kernel_rfl⟩
theorem kp_21 (P:Params):keepIn (KK P) (.ref 240)=true∧typeIn (KK P) (.ref 240)=some (.type "function"):=⟨by kernel_rfl,by kernel_rfl⟩
theorem kp_22 (P:Params):keepIn (KK P) (.ref 247)=true∧typeIn (KK P) (.ref 247)=some (.type "function"):=⟨by kernel_rfl,by kernel_rfl⟩
theorem kp_23 (P:Params):keepIn (KK P) (.ref 254)=true∧typeIn (KK P) (.ref 254)=some (.type "function"):=⟨by kernel_rfl,by kernel_rfl⟩
theorem kp_24 (P:Params):keepIn (KK P) (.ref 275)=true∧typeIn (KK P) (.ref 275)=some (.type "function"):=⟨by kernel_rfl,by kernel_rfl⟩
theorem kp_25 (P:Params):keepIn (KK P) (.ref 287)=true∧typeIn (KK P) (.ref 287)=some (.type "function"):=⟨by kernel_rfl,by kernel_rfl⟩
theorem kp_26 (P:Params):keepIn (KK P) (.ref 294)=true∧typeIn (KK P) (.ref 294)=some (.type "function"):=⟨by kernel_rfl,by kernel_rfl⟩
theorem kp_27 (P:Params):keepIn (KK P) (.ref 301)=true∧typeIn (KK P) (.ref 301)=some (.type "function"):=⟨by kernel_rfl,by kernel_rfl⟩
theorem kp_28 (P:Params):keepIn (KK P) (.ref 308)=true∧typeIn (KK P) (.ref 308)=some (.type "function"):=⟨by kernel_rfl,by kernel_rfl⟩
theorem kp_29 (P:Params):keepIn (KK P) (.ref 322)=true∧typeIn (KK P) (.ref 322)=some (.type "function"):=⟨by kernel_rfl,by kernel_rfl⟩
theorem kp_30 (P:Params):keepIn (KK P) (.ref 336)=true∧typeIn (KK P) (.ref 336)=some (.type "function"):=⟨by kernel_rfl,by kernel_rfl⟩
theorem kp_31 (P:Params):keepIn (KK P) (.ref 343)=true∧typeIn (KK P) (.ref 343)=some (.type "function"):=⟨by kernel_rfl,by kernel_rfl⟩
theorem kp_32 (P:Params):keepIn (KK P) (.ref 350)=true∧typeIn (KK P) (.ref 350)=some (.type "function"):=⟨by kernel_rfl,by kernel_rfl⟩
theorem kp_33 (P:Params):keepIn (KK P) (.ref 392)=true∧typeIn (KK P) (.ref 392)=some (.type "function"):=⟨by kernel_rfl,by kernel_rfl⟩
theorem kp_34 (P:Params):keepIn (KK P) (.ref 397)=true∧typeIn (KK P) (.ref 397)=some (.type "function"):=⟨by kernel_rfl,by kernel_rfl⟩
theorem kp_35 (P:Params):keepIn (KK P) (.ref 404)=true∧typeIn (KK P) (.ref 404)=some (.type "function"):=⟨by kernel_rfl,by kernel_rfl⟩
theorem kp_36 (P:Params):keepIn (KK P) (.ref 432)=true∧typeIn (KK P) (.ref 432)=some (.type "function"):=⟨by kernel_rfl,by kernel_rfl⟩
theorem kp_37 (P:Params):keepIn (KK P) (.ref 437)=true∧typeIn (KK P) (.ref 437)=some (.type "function"):=⟨by kernel_rfl,by kernel_rfl⟩
theorem kp_38 (P:Params):keepIn (KK P) (.ref 451)=true∧typeIn (KK P) (.ref 451)=some (.type "function"):=⟨by kernel_rfl,by kernel_rfl⟩
theorem kp_39 (P:Params):keepIn (KK P) (.ref 456)=true∧typeIn (KK P) (.ref 456)=some (.type "function"):=⟨by kernel_rfl,by kernel_rfl⟩
theorem meth_cases {c m f:Nat} (h:methIx c m=some f):(c=0∧m=195∧f=20)∨(c=0∧m=190∧f=21)∨(c=0∧m=196∧f=22)∨(c=0∧m=145∧f=23)∨(c=1∧m=144∧f=25)∨(c=1∧m=150∧f=26)∨(c=1∧m=81∧f=27)∨(c=1∧m=142∧f=28)∨(c=1∧m=86∧f=29)∨(c=1∧m=127∧f=30)∨(c=1∧m=179∧f=31)∨(c=1∧m=112∧f=32)∨(c=1∧m=242∧f=33)∨(c=1∧m=77∧f=34)∨(c=1∧m=238∧f=35)∨(c=1∧m=229∧f=36)∨(c=1∧m=92∧f=37)∨(c=1∧m=189∧f=38)∨(c=1∧m=175∧f=39):=by
  unfold methIx at h
  split at h <;> simp_all
theorem adr_cases {f:Nat} {a:Addr} (h:adrOf f=some a):(f=0∧a=600)∨(f=1∧a=521)∨(f=2∧a=528)∨(f=3∧a=535)∨(f=4∧a=542)∨(f=5∧a=547)∨(f=6∧a=552)∨(f=7∧a=514)∨(f=8∧a=559)∨(f=9∧a=564)∨(f=10∧a=571)∨(f=11∧a=576)∨(f=12∧a=583)∨(f=13∧a=590)∨(f=14∧a=595)∨(f=15∧a=191)∨(f=16∧a=198)∨(f=17∧a=205)∨(f=18∧a=212)∨(f=19∧a=226)∨(f=20∧a=233)∨(f=21∧a=240)∨(f=22∧a=247)∨(f=23∧a=254)∨(f=24∧a=275)∨(f=25∧a=287)∨(f=26∧a=294)∨(f=27∧a=301)∨(f=28∧a=308)∨(f=29∧a=322)∨(f=30∧a=336)∨(f=31∧a=343)∨(f=32∧a=350)∨(f=33∧a=392)∨(f=34∧a=397)∨(f=35∧a=404)∨(f=36∧a=432)∨(f=37∧a=437)∨(f=38∧a=451)∨(f=39∧a=456):=by
  unfold adrOf at h
  split at h <;> simp_all
theorem gaK (P:Params):∀ c C,clsA c=some C→findIn (KK P) (.ref C) "__getattr__" = some none:=fun c C h=>by
  rcases cls_cases h with ⟨rfl,rfl⟩ | ⟨rfl,rfl⟩ <;> kernel_rfl
theorem init_cases {c f:Nat} (h:initIx c=some f):(c=0∧f=19)∨(c=1∧f=24):=by
  unfold initIx at h
  split at h <;> simp_all
theorem fixK (P:Params):CallFix (KK P) methIx initIx adrOf:=by
  refine ⟨fun f a h=>?_,fun c C m x f hm hc hx=>?_,gaK P,fun c f h=>?_⟩
  · rcases adr_cases h with ⟨rfl,rfl⟩ | ⟨rfl,rfl⟩ | ⟨rfl,rfl⟩ | ⟨rfl,rfl⟩ | ⟨rfl,rfl⟩ | ⟨rfl,rfl⟩ | ⟨rfl,rfl⟩ | ⟨rfl,rfl⟩ | ⟨rfl,rfl⟩ | ⟨rfl,rfl⟩ | ⟨rfl,rfl⟩ | ⟨rfl,rfl⟩ | ⟨rfl,rfl⟩ | ⟨rfl,rfl⟩ | ⟨rfl,rfl⟩ | ⟨rfl,rfl⟩ | ⟨rfl,rfl⟩ | ⟨rfl,rfl⟩ | ⟨rfl,rfl⟩ | ⟨rfl,rfl⟩ | ⟨rfl,rfl⟩ | ⟨rfl,rfl⟩ | ⟨rfl,rfl⟩ | ⟨rfl,rfl⟩ | ⟨rfl,rfl⟩ | ⟨rfl,rfl⟩ | ⟨rfl,rfl⟩ | ⟨rfl,rfl⟩ | ⟨rfl,rfl⟩ | ⟨rfl,rfl⟩ | ⟨rfl,rfl⟩ | ⟨rfl,rfl⟩ | ⟨rfl,rfl⟩ | ⟨rfl,rfl⟩ | ⟨rfl,rfl⟩ | ⟨rfl,rfl⟩ | ⟨rfl,rfl⟩ | ⟨rfl,rfl⟩ | ⟨rfl,rfl⟩ | ⟨rfl,rfl⟩
    · exact kp_0 P
    · exact kp_1 P
    · exact kp_2 P
    · exact kp_3 P
    · exact kp_4 P
    · exact kp_5 P
    · exact kp_6 P
    · exact kp_7 P
    · exact kp_8 P
    · exact kp_9 P
    · exact kp_10 P
    · exact kp_11 P
    · exact kp_12 P
    · exact kp_13 P
    · exact kp_14 P
    · exact kp_15 P
    · exact kp_16 P
    · exact kp_17 P
    · exact kp_18 P
    · exact kp_19 P
    · exact kp_20 P
    · exact kp_21 P
    · exact kp_22 P
    · exact kp_23 P
    · exact kp_24 P
    · exact kp_25 P
    · exact kp_26 P
    · exact kp_27 P
    · exact kp_28 P
    · exact kp_29 P
    · exact kp_30 P
    · exact kp_31 P
    · exact kp_32 P
    · exact kp_33 P
    · exact kp_34 P
    · exact kp_35 P
    · exact kp_36 P
    · exact kp_37 P
    · exact kp_38 P
    · exact kp_39 P
  · rcases meth_cases hm with ⟨rfl,rfl,rfl⟩ | ⟨rfl,rfl,rfl⟩ | ⟨rfl,rfl,rfl⟩ | ⟨rfl,rfl,rfl⟩ | ⟨rfl,rfl,rfl⟩ | ⟨rfl,rfl,rfl⟩ | ⟨rfl,rfl,rfl⟩ | ⟨rfl,rfl,rfl⟩ | ⟨rfl,rfl,rfl⟩ | ⟨rfl,rfl,rfl⟩ | ⟨rfl,rfl,rfl⟩ | ⟨rfl,rfl,rfl⟩ | ⟨rfl,rfl,rfl⟩ | ⟨rfl,rfl,rfl⟩ | ⟨rfl,rfl,rfl⟩ | ⟨rfl,rfl,rfl⟩ | ⟨rfl,rfl,rfl⟩ | ⟨rfl,rfl,rfl⟩ | ⟨rfl,rfl,rfl⟩
    · cases hc; rw [nm_val hx n195]; exact ⟨233,rfl,fm_0_195 P⟩
    · cases hc; rw [nm_val hx n190]; exact ⟨240,rfl,fm_0_190 P⟩
    · cases hc; rw [nm_val hx n196]; exact ⟨247,rfl,fm_0_196 P⟩
    · cases hc; rw [nm_val hx n145]; exact ⟨254,rfl,fm_0_145 P⟩
    · cases hc; rw [nm_val hx n144]; exact ⟨287,rfl,fm_1_144 P⟩
    · cases hc; rw [nm_val hx n150]; exact ⟨294,rfl,fm_1_150 P⟩
    · cases hc; rw [nm_val hx n81]; exact ⟨301,rfl,fm_1_81 P⟩
    · cases hc; rw [nm_val hx n142]; exact ⟨308,rfl,fm_1_142 P⟩
    · cases hc; rw [nm_val hx n86]; exact ⟨322,rfl,fm_1_86 P⟩
    · cases hc; rw [nm_val hx n127]; exact ⟨336,rfl,fm_1_127 P⟩
    · cases hc; rw [nm_val hx n179]; exact ⟨343,rfl,fm_1_179 P⟩
    · cases hc; rw [nm_val hx n112]; exact ⟨350,rfl,fm_1_112 P⟩
    · cases hc; rw [nm_val hx n242]; exact ⟨392,rfl,fm_1_242 P⟩
    · cases hc; rw [nm_val hx n77]; exact ⟨397,rfl,fm_1_77 P⟩
    · cases hc; rw [nm_val hx n238]; exact ⟨404,rfl,fm_1_238 P⟩
    · cases hc; rw [nm_val hx n229]; exact ⟨432,rfl,fm_1_229 P⟩
    · cases hc; rw [nm_val hx n92]; exact ⟨437,rfl,fm_1_92 P⟩
    · cases hc; rw [nm_val hx n189]; exact ⟨451,rfl,fm_1_189 P⟩
    · cases hc; rw [nm_val hx n175]; exact ⟨456,rfl,fm_1_175 P⟩
  · rcases init_cases h with ⟨rfl,rfl⟩ | ⟨rfl,rfl⟩
    · exact ⟨257,226,rfl,rfl,by kernel_rfl,by kernel_rfl,by kernel_rfl⟩
    · exact ⟨494,275,rfl,rfl,by kernel_rfl,by kernel_rfl,by kernel_rfl⟩
theorem fns_ok {prog:Program} {w:World} {hb:Heap} {mg mb:Str→Option Value} (GG:Ground prog w hb mg mb):∀ f a,adrOf f=some a→∃ fn,fns f=some fn∧BodyOk prog w hb (KK w.params) methIx initIx fldIx adrOf a fn:=fun f a h=>by
  rcases adr_cases h with ⟨rfl,rfl⟩ | ⟨rfl,rfl⟩ | ⟨rfl,rfl⟩ | ⟨rfl,rfl⟩ | ⟨rfl,rfl⟩ | ⟨rfl,rfl⟩ | ⟨rfl,rfl⟩ | ⟨rfl,rfl⟩ | ⟨rfl,rfl⟩ | ⟨rfl,rfl⟩ | ⟨rfl,rfl⟩ | ⟨rfl,rfl⟩ | ⟨rfl,rfl⟩ | ⟨rfl,rfl⟩ | ⟨rfl,rfl⟩ | ⟨rfl,rfl⟩ | ⟨rfl,rfl⟩ | ⟨rfl,rfl⟩ | ⟨rfl,rfl⟩ | ⟨rfl,rfl⟩ | ⟨rfl,rfl⟩ | ⟨rfl,rfl⟩ | ⟨rfl,rfl⟩ | ⟨rfl,rfl⟩ | ⟨rfl,rfl⟩ | ⟨rfl,rfl⟩ | ⟨rfl,rfl⟩ | ⟨rfl,rfl⟩ | ⟨rfl,rfl⟩ | ⟨rfl,rfl⟩ | ⟨rfl,rfl⟩ | ⟨rfl,rfl⟩ | ⟨rfl,rfl⟩ | ⟨rfl,rfl⟩ | ⟨rfl,rfl⟩ | ⟨rfl,rfl⟩ | ⟨rfl,rfl⟩ | ⟨rfl,rfl⟩ | ⟨rfl,rfl⟩ | ⟨rfl,rfl⟩
  · exact ⟨_,rfl,ok0 GG⟩
  · exact ⟨_,rfl,ok1 GG⟩
  · exact ⟨_,rfl,ok2 GG⟩
  · exact ⟨_,rfl,ok3 GG⟩
  · exact ⟨_,rfl,ok4 GG⟩
  · exact ⟨_,rfl,ok5 GG⟩
  · exact ⟨_,rfl,ok6 GG⟩
  · exact ⟨_,rfl,ok7 GG⟩
  · exact ⟨_,rfl,ok8 GG⟩
  · exact ⟨_,rfl,ok9 GG⟩
  · exact ⟨_,rfl,ok10 GG⟩
  · exact ⟨_,rfl,ok11 GG⟩
  · exact ⟨_,rfl,ok12 GG⟩
  · exact ⟨_,rfl,ok13 GG⟩
  · exact ⟨_,rfl,ok14 GG⟩
  · exact ⟨_,rfl,ok15 GG⟩
  · exact ⟨_,rfl,ok16 GG⟩
  · exact ⟨_,rfl,ok17 GG⟩
  · exact ⟨_,rfl,ok18 GG⟩
  · exact ⟨_,rfl,ok19 GG⟩
  · exact ⟨_,rfl,ok20 GG⟩
  · exact ⟨_,rfl,ok21 GG⟩
  · exact ⟨_,rfl,ok22 GG⟩
  · exact ⟨_,rfl,ok23 GG⟩
  · exact ⟨_,rfl,ok24 GG⟩
  · exact ⟨_,rfl,ok25 GG⟩
  · exact ⟨_,rfl,ok26 GG⟩
  · exact ⟨_,rfl,ok27 GG⟩
  · exact ⟨_,rfl,ok28 GG⟩
  · exact ⟨_,rfl,ok29 GG⟩
  · exact ⟨_,rfl,ok30 GG⟩
  · exact ⟨_,rfl,ok31 GG⟩
  · exact ⟨_,rfl,ok32 GG⟩
  · exact ⟨_,rfl,ok33 GG⟩
  · exact ⟨_,rfl,ok34 GG⟩
  · exact ⟨_,rfl,ok35 GG⟩
  · exact ⟨_,rfl,ok36 GG⟩
  · exact ⟨_,rfl,ok37 GG⟩
  · exact ⟨_,rfl,ok38 GG⟩
  · exact ⟨_,rfl,ok39 GG⟩
end Mine
namespace Mine
open PySem PySem.Calls PySem.W PyProof.Rows PySem.SeqAt
theorem madeK {w:World} {hb:Heap} {mg mb:Str→Option Value} (G:Gd w hb (KK w.params) mg mb):KFMade PySem.Challenge.rw_pq0384_01.row.prog w hb kfA:=by
  refine kf_made (prog:=PySem.Challenge.rw_pq0384_01.row.prog) (K:=KK w.params) (C:=88) (f2:=66) (D2:=76) (f:=37) (D:=47) G
    ⟨⟨_,_,_,rfl⟩,by kernel_rfl,by decide,rfl,rfl,rfl,⟨_,rfl,rfl⟩,⟨_,_,_,_,_,_,rfl,rfl,by kernel_rfl⟩,⟨_,_,_,rfl⟩,⟨_,rfl⟩,by kernel_rfl,by kernel_rfl,by kernel_rfl,by kernel_rfl,by kernel_rfl,by kernel_rfl,by kernel_rfl,by kernel_rfl,rfl,by decide,by kernel_rfl,?_⟩ ?_ ?_
    ⟨⟨_,_,_,rfl⟩,by kernel_rfl,by decide,rfl,rfl,rfl,⟨_,rfl,rfl⟩,⟨_,_,_,_,_,_,rfl,rfl,by kernel_rfl⟩,⟨_,_,_,rfl⟩,⟨_,rfl⟩,by kernel_rfl,by kernel_rfl,by kernel_rfl,by kernel_rfl,by kernel_rfl,by kernel_rfl,by kernel_rfl,by kernel_rfl,rfl,by decide,by kernel_rfl,?_⟩ ?_
    ⟨_,rfl,rfl⟩ ⟨_,rfl,rfl⟩ (by kernel_rfl) xbK rfl ?_
  · exact ⟨⟨_,rfl,fun self=>rfl,rfl⟩,by kernel_rfl,by kernel_rfl,by kernel_rfl⟩
  · exact fun x v u=>rfl
  · kernel_rfl
  · exact ⟨⟨_,rfl,fun self=>rfl,rfl⟩,by kernel_rfl,by kernel_rfl,by kernel_rfl⟩
  · exact fun x v=>rfl
  · kernel_rfl
end Mine
namespace Mine
open PySem PySem.Calls PySem.W PyProof.Rows PySem.SeqAt
abbrev PR:Program:=PySem.Challenge.rw_pq0384_01.row.prog
theorem groundK {w:World} {hb:Heap} {mg mb:Str→Option Value} (G:Gd w hb (KK w.params) mg mb):Ground PR w hb mg mb:=⟨G,fun T hf=>clsTabK _ T hf,madeK G⟩
theorem well_ints {P:Params} {h:Heap} {B:Frz} {ρ:Nat→Addr} {n:Nat}:∀ {xs:List Int} {vs:List Value},WellAll P h vs (ofPys (xs.map .int))→DenAll P B ρ n vs (xs.map .int)
  | [],_,.nil => .nil
  | x::xs,_,.cons w r=>by
    cases w
    exact .cons (.int _ _) (well_ints r)
theorem script_at {P:Params} {h:Heap} {l:Addr} {xs:List Int} (W:Well P h (.ref l) (ofPy (.list (xs.map .int)))):∃ vs k,h.get? l=some (lstO vs k)∧WellAll P h vs (ofPys (xs.map .int)):=by
  have e:ofPy (.list (xs.map .int)) = .list (ofPys (xs.map .int)):=rfl
  rw [e] at W
  cases W
  rename_i vs hg r
  exact ⟨vs,_,hg,r⟩
theorem law_frame:∀ (xs:List Int),xs.length≤63→∃ ρ σ,execMs (L.TT 59) F_law.body [(205,.lst (xs.map .int))] []=some (.ret (.bool true),ρ,σ):=fun xs h=>by
  obtain ⟨σ,e⟩:=L.law_plain xs h
  have e:L.CM 60 0 [.lst (xs.map .int)] []=some (.val (.bool true),σ):=e
  rw [L.CM_eq (by decide) rfl rfl] at e
  have e:L.fin (execMs (L.TT 59) F_law.body [(205,.lst (xs.map .int))] [])=some (.val (.bool true),σ):=e
  cases q:execMs (L.TT 59) F_law.body [(205,.lst (xs.map .int))] [] with
  | none=>rw [q] at e; cases e
  | some p =>
    obtain ⟨f,ρ',σ'⟩:=p
    rw [q] at e
    cases f with
    | next=>cases e
    | exc i=>cases e
    | ret v=>cases e; exact ⟨_,_,rfl⟩
theorem law_end {w:World} {hb:Heap} {mg mb:Str→Option Value} (G:Gd w hb (KK w.params) mg mb) {xs:List Int} (hx:xs.length≤63) {l:Addr} (W:Well w.params hb (.ref l) (ofPy (.list (xs.map .int)))) {s:Shared} {m:Str→Option Value}
    {name:Str} {body:List Stmt} {sc:Scope} {fa:Addr} {cd:Value} {Q:Flow→Shared→Prop} {E:Value→Shared→Prop}
    (hlk:∃ oc od osl nm' qual params dV kV doc pm an cdv ct,(KK w.params).lookup 600=some ⟨oc,od,.func (fnOf nm' qual params body sc dV kV doc pm an cdv ct),osl⟩)
    (hsl:sc.names.lookup (Str.ofString "script")=some .local) (hnc:(sc.names.all fun y=>y.2 != .cell && y.2 != .free)=true)
    (F:Fr hb hb.objs.size s.heap m) (hm:m "script" = some (.ref l))
    (hQ:∀ s',(∀ b o,hb.get? b=some o→s'.heap.get? b=some o)→Rest s s' → Q (.ret (.bool true)) s') :
    wpAny (model PR w) (callerA.deeper (envOf name sc hb.objs.size fa cd)) (execs body (envOf name sc hb.objs.size fa cd)) Q E s:=by
  have GG:=groundK G
  obtain ⟨ys,body',sc',FO,hB⟩:=ok0 GG
  obtain ⟨oc,od,osl,nm1,q1,pa1,dV1,kV1,doc1,pm1,an1,cdv1,ct1,ho,_,_⟩:=FO.at_
  obtain ⟨oc2,od2,osl2,nm2,q2,pa2,dV2,kV2,doc2,pm2,an2,cdv2,ct2,h2⟩:=hlk
  have e:=Option.some.inj (ho.symm.trans h2)
  have eb:body' = body∧sc' = sc:=by
    injection e with _ _ e3 _
    injection e3 with e4
    have b1:=congrArg FuncData.body e4
    have s1:=congrArg FuncData.scope e4
    injection b1 with b2
    exact ⟨b2,s1⟩
  obtain ⟨rfl,rfl⟩:=eb
  have CT:CallTab PR w hb (KK w.params) ⟨callM fns methIx initIx fldIx true 59,callM fns methIx initIx fldIx false 59,true,methIx,initIx,fldIx⟩ adrOf 59:=(fixK _).tab rfl rfl (calls_sound G (fixK _) (fns_ok GG) 59 true)
  have CQ:CallTab PR w hb (KK w.params) (quietT ⟨callM fns methIx initIx fldIx true 59,callM fns methIx initIx fldIx false 59,true,methIx,initIx,fldIx⟩) adrOf 59:=(fixK _).tab rfl rfl (calls_sound G (fixK _) (fns_ok GG) 59 false)
  have H:=hB _ 59 rfl rfl rfl CT CQ
  obtain ⟨vs,k,hl,hints⟩:=script_at W
  obtain ⟨ρL,σL,hrun⟩:=law_frame xs hx
  have hsz:hb.get? hb.objs.size=none:=by
    cases q:hb.get? hb.objs.size with
    | none=>rfl
    | some o=>exact absurd (Heap.lt_size q) (Nat.lt_irrefl _)
  have hsc:FO.kind=FO.kind:=rfl
  have st:St w.params hb (fun a=>hb.get? a) (fun _=>none) (fun _=>0) [] s.heap:=by
    refine ⟨fun a o e=>e,F.keep,fun a o f e=>(by cases e),fun i c e=>(by cases e),fun i j hi=>absurd hi (Nat.not_lt_zero _),?_,fun i hi=>absurd hi (Nat.not_lt_zero _)⟩
    obtain ⟨o,es,ep,hh,_⟩:=G.g
    rw [hh]; rfl
  have o1:OkE w.params hb (envOf name sc' hb.objs.size fa cd) (fun _=>none) [(205,.lst (xs.map .int))] (fun a=>hb.get? a) (fun _=>0) [] s.heap:=by
    refine ⟨st,m,fun _=>none,F.ns,⟨hsz,rfl,fun i hi=>absurd hi (Nat.not_lt_zero _)⟩,fun x c e=>(by cases e),fun kk ll x hk hn=>?_⟩
    have hk2:kk=205∧ll = .lst (xs.map .int):=by
      unfold lookA at hk
      split at hk
      · rename_i q; cases hk; exact ⟨q.symm,rfl⟩
      · cases hk
    obtain ⟨rfl,rfl⟩:=hk2
    have hx2:x = "script" := nm_val hn n205
    subst hx2
    have hko:(envOf name sc' hb.objs.size fa cd).kindOf "script" = some .local:=hsl
    unfold ValAt
    rw [hko]
    exact ⟨_,hm,.lst hl (well_ints hints)⟩
  have hno:∀ x,sc'.names.lookup x≠some .cell∧sc'.names.lookup x≠some .free:=fun x=>by
    constructor <;> intro q
    · have:=List.all_eq_true.mp hnc _ (lookup_memK q); simp at this
    · have:=List.all_eq_true.mp hnc _ (lookup_memK q); simp at this
  have cx:CxS ⟨callM fns methIx initIx fldIx true 59,callM fns methIx initIx fldIx false 59,true,methIx,initIx,fldIx⟩ (callerA.deeper (envOf name sc' hb.objs.size fa cd)) (envOf name sc' hb.objs.size fa cd) sc' (fun _=>none) 59:=by
    refine ⟨⟨rfl,FO.kind,rfl,rfl,⟨_,[],hb.objs.size,rfl,rfl,rfl,?_,.inl rfl,fun e' h=>by cases h⟩,fun _=>rfl,Nat.le_of_ble_eq_true rfl,Nat.le_of_ble_eq_true rfl,fun y hy=>(by cases hy),fun x hx=>?_⟩,List.Pairwise.nil,fun x c h=>(by cases h)⟩
    · show sc'.kind ≠ .module
      rw [FO.kind]; decide
    · rcases hx with q | q
      · exact absurd q (hno x).1
      · exact absurd q (hno x).2
  refine H _ _ _ _ _ _ _ s cx o1 Q E ?_
  have hrun2:execMs ⟨callM fns methIx initIx fldIx true 59,callM fns methIx initIx fldIx false 59,true,methIx,initIx,fldIx⟩ F_law.body [(205,.lst (xs.map .int))] []=some (.ret (.bool true),ρL,σL):=hrun
  rw [hrun2]
  intro v B' ρ' s' ext o t d
  cases d
  exact hQ s' (fun b o' e=>o.1.stays b o' e) t
end Mine
open PySem PySem.Calls PySem.W PyProof.Rows
theorem PySem.Challenge.cw_pq0384_01_holds : PySem.Challenge.rw_pq0384_01.Holds :=
  Mine.hd (by
    k_go0
    rename Well _ _ _ _ => W1
    refine Mine.law_end (m := fun x => List.lookup x _) ⟨by assumption, TopRead.g (topRead_of (by assumption)), TopRead.b (topRead_of (by assumption)), TopRead.nolimit (topRead_of (by assumption)), TopRead.builtins (topRead_of (by assumption))⟩ ?_ W1
      ⟨_, _, _, _, _, _, _, _, _, _, _, _, _, rfl⟩ (by kernel_rfl) (by decide) (by assumption) (by rfl) (fun s' hk hr => ?_)
    · omega
    refine ⟨.inl ⟨.bool true, .bool true, [], rfl, ?_, .bool true, ?_, fun _ => ⟨List.nodup_nil, fun a h => (by cases h)⟩⟩, hk, hr.2, hr.1.trans (by assumption)⟩
    · exact raisesW_false (by wrow_none_raised)
    · wrow_post)
