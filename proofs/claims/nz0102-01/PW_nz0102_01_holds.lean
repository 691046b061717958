import PyProof.Rows.All
import Wide.All
import OpenK.AllK
import Wide.FinOn
import Lean
import PySem.Challenge.RW_nz0102_01
section
open PySem
set_option Elab.async false
set_option tactic.hygienic false
set_option maxRecDepth 100000
set_option bootstrap.genMatcherCode false
set_option genInjectivity false
set_option genSizeOf false
namespace Mine
set_option genSizeOf false
set_option genSizeOfSpec false
inductive V where
 | none
 | bool (b:Bool)
 | int (i:Int)
 | str (s:Str)
 | ref (i:Nat)
 | con (v:Value)
inductive O where
 | list (vs:List V)
 | tuple (vs:List V)
 | dict (es:List (Str×V))
 | ns (es:List (Nat×V))
 | inst (C:Addr) (d:Nat)
 | cell (v:Option V)
 | range (a b:Int)
abbrev H:=List O
inductive E where
 | cst (v:V)
 | loc (i:Nat)
 | cel (i:Nat)
 | attr (o:E) (n:Nat)
 | idx (o i:E)
 | slc (o hi:E)
 | repl (o:E) (a b:Str)
 | call (f:E) (as:List E)
 | meth (o:E) (n:Nat) (as:List E)
 | bin (op:Operator) (a b:E)
 | neg (a:E)
 | not (a:E)
 | boo (op:BoolOp) (es:List E)
 | cmp (l:E) (ops:List CmpOp) (rs:List E)
 | ite (t b o:E)
 | tup (es:List E)
 | lst (es:List E)
 | dct (ks vs:List E)
 | dcl (ps:List (Str×Str))
 | comp (ns:Nat) (cl:List Nat) (tgt:List Nat) (one:Bool) (src:E) (cond:Option E) (elt:E)
inductive T where
 | nm (i:Nat)
 | cl (i:Nat)
 | tp (is:List Nat)
 | at (o:E) (n:Nat)
 | ix (o i:E)
inductive S where
 | asg (t:T) (e:E)
 | asc (i:Nat) (e:E)
 | aug (i:Nat) (op:Operator) (e:E)
 | ex (e:E)
 | ret (e:Option E)
 | ite (t:E) (b o:List S)
 | whl (t:E) (b:List S)
 | for (t:T) (it:E) (b:List S)
 | fen (i j:Nat) (it:E) (b:List S)
 | brk
 | bad
inductive It where
 | li (i k:Nat)
 | tu (i k:Nat)
 | rg (x:Int) (n:Nat)
 | st (x:Str) (k:Nat)
inductive Fl where
 | next
 | brk
 | ret (v:V)
structure Fr where
 dp:Nat
 ρ:List (Option V)
 cl:List Nat
structure Fn where
 ps:List T
 nl:Nat
 nc:Nat
 df:List V
 body:List S
abbrev fz:Nat:=4
abbrev lim:Nat:=100000
structure Tab where
 fn:Addr→Option Fn
 mt:Addr→Nat→Option Addr
 da:Addr→Nat→Bool
 ini:Addr→Option Addr
noncomputable def okS (x:Str):Bool:=x.cps.toList.all fun c=>decide (c < 1114112)
theorem P2 {x:Str}:okS x=PyData.strOk x:=by
 unfold okS PyData.strOk
 rw [Array.all_toList]
section views
variable {α:Type}
noncomputable def gd (b:Bool) (x:Option α):Option α:=match b with
 | true=>x
 | false=>none
noncomputable def onL (x:Option O) (F:List V→Option α):Option α:=match x with
 | some (.list vs)=>F vs
 | _=>none
noncomputable def onT (x:Option O) (F:List V→Option α):Option α:=match x with
 | some (.tuple vs)=>F vs
 | _=>none
noncomputable def onS (x:Option O) (F:List V→Option α):Option α:=match x with
 | some (.list vs)=>F vs
 | some (.tuple vs)=>F vs
 | _=>none
noncomputable def onD (x:Option O) (F:List (Str×V)→Option α):Option α:=match x with
 | some (.dict es)=>F es
 | _=>none
noncomputable def vR (v:V) (F:Nat→Option α):Option α:=match v with
 | .ref i=>F i
 | _=>none
noncomputable def vI (v:V) (F:Int→Option α):Option α:=match v with
 | .int i=>F i
 | _=>none
noncomputable def vS (v:V) (F:Str→Option α):Option α:=match v with
 | .str s=>F s
 | _=>none
noncomputable def a0 (as:List V) (x:Option α):Option α:=match as with
 | []=>x
 | _=>none
noncomputable def a1 (as:List V) (F:V→Option α):Option α:=match as with
 | [v]=>F v
 | _=>none
noncomputable def a2 (as:List V) (F:V→V→Option α):Option α:=match as with
 | [v,u]=>F v u
 | _=>none
end views
section prims
variable (tb:Tab) (σ:H)
noncomputable def Eb (f:V→Option PyData):List V→Option (List PyData)
 | []=>some []
 | v :: vs=>match f v,Eb f vs with
  | some d,some ds=>some (d :: ds)
  | _,_=>none
noncomputable def pd0:V→Option PyData
 | .none=>some .none
 | .bool b=>some (.bool b)
 | .int i=>some (.int i)
 | .str s=>if okS s then some (.str s) else none
 | _=>none
noncomputable def pd:Nat→V→Option PyData
 | 0,v=>pd0 v
 | n+1,v=>match v with
  | .ref i=>(match σ[i]? with
   | some (.list vs)=>(Eb (pd n) vs).map .list
   | some (.tuple vs)=>(Eb (pd n) vs).map .tuple
   | _=>none)
  | v=>pd0 v
noncomputable def pds (n:Nat) (vs:List V):Option (List PyData):=Eb (pd σ n) vs
theorem Iz {n:Nat} {v:V} (h:∀ i,v≠.ref i):pd σ n v=pd0 v:=by
 cases n with
 | zero=>rfl
 | succ n=>cases v<;>first | rfl | exact absurd rfl (h _)
theorem Es {n i:Nat}:pd σ (n+1) (.ref i)=match σ[i]? with
   | some (.list vs)=>(pds σ n vs).map .list
   | some (.tuple vs)=>(pds σ n vs).map .tuple
   | _=>none:=rfl
abbrev Ax:Nat:=30
noncomputable def Az:V→Option Bool
 | .none=>some false
 | .bool b=>some b
 | .ref i=>onL σ[i]? fun vs=>some (!vs.isEmpty)
 | _=>none
noncomputable def Gn (a b:Str):Bool:=!(b.cps.toList < a.cps.toList)
noncomputable def Dm (x:Str):List V→Option Bool
 | []=>some false
 | v :: vs=>vS v fun y=>match vs with
  | []=>some (y==x)
  | _ :: _=>(Dm x vs).map fun b=>(y==x)||b
noncomputable def inG (x:V) (vs:List V):Option Bool:=(pd σ Ax x).bind fun d=>(pds σ Ax vs).map fun ds=>ds.any fun y=>PyData.eqv y d
noncomputable def inS (x:V) (vs:List V):Option Bool:=match x with
 | .str s=>Dm s vs
 | x=>inG σ x vs
noncomputable def inD (x:V) (es:List (Str×V)):Option Bool:=match x with
 | .str s=>some (es.lookup s).isSome
 | .int _=>gd es.isEmpty (some false)
 | _=>none
noncomputable def inO (x:V) (o:Option O):Option Bool:=match o with
 | some (.list vs)=>inS σ x vs
 | some (.tuple vs)=>inS σ x vs
 | some (.dict es)=>inD x es
 | _=>none
noncomputable def inA (x c:V):Option Bool:=vR c fun i=>inO σ x σ[i]?
noncomputable def eqG (a b:V) (F:Bool→Bool):Option Bool:=(pd σ Ax a).bind fun x=>(pd σ Ax b).map fun y=>F (PyData.eqv x y)
noncomputable def eqA (a b:V) (F:Bool→Bool):Option Bool:=match a with
 | .str x=>(match b with
  | .str y=>some (F (x==y))
  | b=>eqG σ (.str x) b F)
 | a=>eqG σ a b F
noncomputable def A6 (op:CmpOp) (a b:V):Option Bool:=match op with
 | .Eq=>eqA σ a b fun c=>c
 | .NotEq=>eqA σ a b not
 | .Lt=>vI a fun x=>vI b fun y=>some (decide (x < y))
 | .Gt=>vI a fun x=>vI b fun y=>some (decide (x > y))
 | .GtE=>vI a fun x=>vI b fun y=>some (decide (x≥y))
 | .LtE=>(match a with
  | .int x=>vI b fun y=>some (decide (x≤y))
  | .str x=>vS b fun y=>some (Gn x y)
  | _=>none)
 | .Is=>(match b with
  | .none=>(match a with
   | .none=>some true
   | .str _=>some false
   | _=>none)
  | _=>none)
 | .IsNot=>(match b with
  | .none=>(match a with
   | .none=>some false
   | .str _=>some true
   | _=>none)
  | _=>none)
 | .In=>inA σ a b
 | .NotIn=>(inA σ a b).map not
noncomputable def C7 (k:Int) (n:Nat):Option Nat:=if 0≤k then (if k < (n:Int) then some k.toNat else none) else if 0≤k+n then some (k+n).toNat else none
noncomputable def C8 (vs:List V) (k:Int):Option V:=match k with
 | .ofNat n=>vs[n]?
 | .negSucc m=>gd (Nat.blt m vs.length) vs[vs.length-(m+1)]?
noncomputable def Ao (o i:V):Option V:=vR o fun a=>match i with
 | .int k=>onS σ[a]? fun vs=>C8 vs k
 | .str s=>onD σ[a]? fun es=>es.lookup s
 | _=>none
noncomputable def Cx (o:V):Option (Addr×Nat×List (Nat×V)):=match o with
 | .ref i=>(match σ[i]? with
  | some (.inst C d)=>(match σ[d]? with
   | some (.ns es)=>some (C,d,es)
   | _=>none)
  | _=>none)
 | _=>none
noncomputable def I8:Option V→Option V
 | some (.con _)=>none
 | x=>x
noncomputable def A8 (o:V) (n:Nat):Option V:=(Cx σ o).bind fun t=>gd (tb.da t.1 n) (I8 (t.2.2.lookup n))
noncomputable def Ay (o:O):Option (V×H):=some (.ref σ.length,σ++[o])
noncomputable def Xn (a b:V):Option (V×H):=match a with
 | .int x=>vI b fun y=>some (.int (x+y),σ)
 | .str x=>vS b fun y=>gd (Nat.ble (x.length+y.length) lim) (some (.str (x++y),σ))
 | .ref i=>vR b fun j=>(match σ[i]? with
  | some (.list xs)=>onL σ[j]? fun ys=>gd (Nat.ble (xs.length+ys.length) lim) (Ay σ (.list (xs++ys)))
  | some (.tuple xs)=>onT σ[j]? fun ys=>gd (Nat.ble (xs.length+ys.length) lim) (gd (!xs.isEmpty) (match ys.isEmpty with
   | true=>some (.ref i,σ)
   | false=>Ay σ (.tuple (xs++ys))))
  | _=>none)
 | _=>none
noncomputable def Ce (op:Operator) (a b:V):Option (V×H):=match op with
 | .Add=>Xn σ a b
 | .Sub=>vI a fun x=>vI b fun y=>some (.int (x-y),σ)
 | .Mod=>vI a fun x=>vI b fun y=>if y=0 then none else some (.int (x.fmod y),σ)
 | .Mult=>vI a fun x=>vI b fun y=>if x=4 then some (.int (x*y),σ) else none
 | .FloorDiv=>vI a fun x=>vI b fun y=>if y=2 then some (.int (x.fdiv y),σ) else none
 | _=>none
noncomputable def Ec (o hi:V):Option (V×H):=vI hi fun k=>match o with
 | .ref i=>onL σ[i]? fun vs=>Ay σ (.list (vs.take (if 0≤k then k.toNat else (k+vs.length).toNat)))
 | .str s=>gd (Nat.ble s.length lim) (some (.str (Txt.slice s none (some k)),σ))
 | _=>none
noncomputable def Cs:List V→Option Int
 | [.int x]=>some x
 | .int x :: r=>(Cs r).map fun m=>max x m
 | _=>none
noncomputable def Fj:List V→Option (List Str)
 | []=>some []
 | .str s :: r=>(Fj r).map (s :: ·)
 | _=>none
noncomputable def P4 (v:V):Option (V×H):=vR v fun i=>onS σ[i]? fun vs=>some (.int vs.length,σ)
noncomputable def P5 (v:V):Option (V×H):=vR v fun i=>onL σ[i]? fun vs=>(Cs vs).map fun m=>(.int m,σ)
noncomputable def P6 (v:V):Option (V×H):=vI v fun k=>if 0≤k∧k≤1114111 then some (.str ⟨#[k.toNat]⟩,σ) else none
noncomputable def P7 (v:V):Option (V×H):=vS v fun s=>match s.cps.toList with
 | [c]=>some (.int c,σ)
 | _=>none
noncomputable def isA (v:V) (n:String):Option (V×H):=match v with
 | .bool _=>if n="bool" then some (.bool true,σ) else none
 | .str _=>if n="str" then some (.bool true,σ) else none
 | .ref i=>if n="str" then (onS σ[i]? fun _=>some (.bool false,σ)) else none
 | _=>none
noncomputable def P8 (v:V):Option (V×H):=vR v fun i=>onS σ[i]? fun vs=>Ay σ (.list vs)
noncomputable def P9 (v:V):Option (V×H):=vR v fun i=>match σ[i]? with
 | some (.list vs)=>Ay σ (.tuple vs)
 | some (.tuple _)=>some (.ref i,σ)
 | _=>none
noncomputable def Qa (v:V):Option (V×H):=vI v fun k=>if 0≤k∧k < 10 then some (.str (Str.ofString (toString k)),σ) else none
noncomputable def Mh (v:V):Option (V×H):=vI v fun k=>if k≤lim then Ay σ (.range 0 k) else none
noncomputable def Mi (v u:V):Option (V×H):=vI v fun a=>vI u fun b=>if -lim≤a∧a≤lim∧b≤lim then Ay σ (.range a b) else none
noncomputable def Xo:V→Option String
 | .con (.type n)=>some n
 | _=>none
noncomputable def Aw (f:Value) (as:List V):Option (V×H):=match f with
 | .builtin id=>if id="isinstance" then a2 as fun v t=>(Xo t).bind (isA σ v) else a1 as fun v=>if id="len" then P4 σ v else if id="max" then P5 σ v else if id="chr" then P6 σ v else if id="ord" then P7 σ v else none
 | .type n=>if n="range" then (match as with
   | [v]=>Mh σ v
   | [v,u]=>Mi σ v u
   | _=>none)
  else a1 as fun v=>if n="list" then P8 σ v else if n="tuple" then P9 σ v else if n="str" then Qa σ v else none
 | _=>none
inductive BM where
 | append | pop | insert | index | get | lower | split | join
 deriving DecidableEq
noncomputable def A4 (o:V) (m:BM) (as:List V):Option (V×H):=match m with
 | .append=>vR o fun i=>a1 as fun v=>onL σ[i]? fun vs=>gd (Nat.ble vs.length lim) (gd (Nat.ble fz i) (some (.none,σ.set i (.list (vs++[v])))))
 | .pop=>vR o fun i=>a0 as (onL σ[i]? fun vs=>gd (Nat.ble fz i) ((vs.getLast?).map fun v=>(v,σ.set i (.list vs.dropLast))))
 | .insert=>vR o fun i=>a2 as fun kv v=>vI kv fun k=>onL σ[i]? fun vs=>gd (Nat.ble vs.length lim) (gd (Nat.ble fz i) (if k=vs.length then some (.none,σ.set i (.list (vs++[v]))) else none))
 | .index=>vR o fun i=>a1 as fun kv=>vI kv fun k=>onL σ[i]? fun vs=>gd (Nat.ble vs.length lim) (gd (vs.all fun | .int _=>true | _=>false) ((vs.findIdx? (fun | .int x=>decide (x=k) | _=>false)).map fun j:Nat=>(.int j,σ)))
 | .get=>vR o fun i=>a2 as fun kv d=>vS kv fun k=>onD σ[i]? fun es=>some ((es.lookup k).getD d,σ)
 | .lower=>vS o fun s=>a0 as (gd (Nat.ble s.length lim) (some (.str (Txt.lower s),σ)))
 | .split=>vS o fun s=>a0 as (gd (Nat.ble s.length lim) (Ay σ (.list ((Txt.words s).map .str))))
 | .join=>vS o fun s=>a1 as fun v=>vR v fun i=>onL σ[i]? fun vs=>(Fj vs).bind fun ys=>if s.length≤16∧(ys.map (·.length)).sum+ys.length≤1048576 then some (.str (Txt.join s ys),σ) else none
noncomputable def Ed (o:V):Bool:=match o with
 | .ref i=>(match σ[i]? with
  | some (.list _)=>true
  | _=>false)
 | _=>false
noncomputable def Go (o:V):Bool:=match o with
 | .ref i=>(match σ[i]? with
  | some (.dict _)=>true
  | _=>false)
 | _=>false
noncomputable def isS (o:V):Bool:=match o with
 | .str _=>true
 | _=>false
noncomputable def Hh (o:V) (m:BM):Bool:=match m with
 | .append=>Ed σ o
 | .pop=>Ed σ o
 | .insert=>Ed σ o
 | .index=>Ed σ o
 | .get=>Go σ o
 | .lower=>isS o
 | .split=>isS o
 | .join=>isS o
noncomputable def Ct (es:List (Str×V)) (k:Str) (v:V):List (Str×V):=match es with
 | []=>[(k,v)]
 | (x,u) :: r=>if x=k then (x,v) :: r else (x,u) :: Ct r k v
noncomputable def Fk (es:List (Nat×V)) (k:Nat) (v:V):List (Nat×V):=match es with
 | []=>[(k,v)]
 | (x,u) :: r=>if x=k then (x,v) :: r else (x,u) :: Fk r k v
noncomputable def Fm (o:V) (n:Nat) (v:V):Option H:=(Cx σ o).bind fun t=>gd (tb.da t.1 n) (gd (Nat.ble t.2.2.length 100) (gd (Nat.ble fz t.2.1) (some (σ.set t.2.1 (.ns (Fk t.2.2 n v))))))
noncomputable def Cy (o i v:V):Option H:=vR o fun a=>match i with
 | .int k=>onL σ[a]? fun vs=>gd (Nat.ble fz a) ((C7 k vs.length).map (fun j=>σ.set a (.list (vs.set j v))))
 | .str s=>onD σ[a]? fun es=>gd (Nat.ble es.length 100) (gd (Nat.ble fz a) (some (σ.set a (.dict (Ct es s v)))))
 | _=>none
noncomputable def Ci (v:V):Option It:=match v with
 | .ref i=>(match σ[i]? with
  | some (.list _)=>some (.li i 0)
  | some (.tuple _)=>some (.tu i 0)
  | some (.range a b)=>if -(lim:Int)≤a∧a≤lim∧-(lim:Int)≤b∧b≤lim then some (.rg a (b-a).toNat) else none
  | _=>none)
 | .str s=>some (.st s 0)
 | _=>none
noncomputable def Bz (it:It):Option (Option (V×It)):=match it with
 | .li i k=>onL σ[i]? fun vs=>some (vs[k]?.map fun v=>(v,.li i (k+1)))
 | .tu i k=>onT σ[i]? fun vs=>some (vs[k]?.map fun v=>(v,.tu i (k+1)))
 | .rg x n=>(match n with
  | 0=>some none
  | m+1=>some (some (.int x,.rg (x+1) m)))
 | .st s k=>some (s.cps[k]?.map fun c=>(.str ⟨#[c]⟩,.st s (k+1)))
end prims
noncomputable def Hi:Nat→Option BM
 | 0=>some .append
 | 1=>some .pop
 | 2=>some .insert
 | 3=>some .index
 | 4=>some .get
 | 5=>some .lower
 | 6=>some .split
 | 7=>some .join
 | _=>none
noncomputable def Et:List (V×V)→List (Str×V)→Option (List (Str×V))
 | [],es=>some es
 | (.str k,v) :: r,es=>Et r (Ct es k v)
 | _,_=>none
noncomputable def C9 (cl:List Nat):List Nat→Option (List Nat)
 | []=>some []
 | j :: r=>match cl[j]?,C9 cl r with
  | some a,some b=>some (a :: b)
  | _,_=>none
noncomputable def Da:List T→List V→List (Option V)→List Nat→H→Option (List (Option V)×H)
 | [],[],ρ,_,σ=>some (ρ,σ)
 | .nm i :: ts,v :: vs,ρ,cl,σ=>Da ts vs (ρ.set i (some v)) cl σ
 | .cl j :: ts,v :: vs,ρ,cl,σ=>match cl[j]? with
  | some k=>Da ts vs ρ cl (σ.set k (.cell (some v)))
  | none=>none
 | _,_,_,_,_=>none
noncomputable def Cj:List Nat→List V→List (Option V)→Option (List (Option V))
 | [],[],ρ=>some ρ
 | i :: is,v :: vs,ρ=>Cj is vs (ρ.set i (some v))
 | _,_,_=>none
noncomputable def Fp (fr:Fr) (tgt:List Nat) (one:Bool) (v:V) (σ:H):Option (List (Option V)) :=
 if one then (match tgt with
  | [i]=>some (fr.ρ.set i (some v))
  | _=>none)
 else (match v with
  | .ref i=>(match σ[i]? with
   | some (.tuple vs)=>Cj tgt vs fr.ρ
   | _=>none)
  | _=>none)
section
variable {x y z w e m n a b c d:Nat}
theorem o_0 (h:x≤a) (k:Nat.ble a b=true):x≤b:=Nat.le_trans h (Nat.le_of_ble_eq_true k)
theorem o_1 (h:x+e≤a) (k:Nat.ble a b=true):x≤b:=Nat.le_trans (Nat.le_add_right x e) (o_0 h k)
theorem o_2 (g:x≤y) (h:y+e≤a) (k:Nat.ble a b=true):x≤b:=Nat.le_trans g (o_1 h k)
theorem o_3 (f:x=y) (g:y≤z) (h:z+e≤a) (k:Nat.ble a b=true):x≤b:=f▸o_2 g h k
theorem o_4 (f:x=y) (h:y≤a) (k:Nat.ble a b=true):x≤b:=f▸o_0 h k
theorem o_5 (f:x=y) (h:y+e≤a) (k:Nat.ble a b=true):x≤b:=f▸o_1 h k
theorem o_7 (h:x+(y+m)≤a) (k:Nat.ble n m=true):x+n+y≤a:=Nat.le_trans (Nat.le_of_eq (by rw [Nat.add_assoc,Nat.add_comm n])) (Nat.le_trans (Nat.add_le_add_left (Nat.add_le_add_left (Nat.le_of_ble_eq_true k) y) x) h)
theorem o_8 (h:x≤a) (g:y≤b) (k:Nat.ble (a+b) c=true):x+y≤c:=Nat.le_trans (Nat.add_le_add h g) (Nat.le_of_ble_eq_true k)
theorem o_9 (h:(x:Int) < (n:Int)):x < n:=Int.ofNat_lt.mp h
theorem Hj (h:x≤a) (k:Nat.ble (a+n) b=true):x+n≤b:=Nat.le_trans (Nat.add_le_add_right h n) (Nat.le_of_ble_eq_true k)
theorem Dn (h:x-y=0):x≤y:=Nat.le_of_sub_eq_zero h
theorem Qc (h:x < y):x < y+n:=Nat.lt_of_lt_of_le h (Nat.le_add_right y n)
theorem Fq (h:(x:Int) < (n:Int)) (k:Nat.ble n (b+1)=true):x≤b:=Nat.le_of_lt_succ (Nat.lt_of_lt_of_le (o_9 h) (Nat.le_of_ble_eq_true k))
theorem Mj (h:x=min e y) (g:y≤a) (k:Nat.ble a b=true):x≤b:=h▸Nat.le_trans (Nat.min_le_right e y) (o_0 g k)
theorem Eu (h:a≤x) (k:Nat.ble (b+1) a=true):b < x:=Nat.le_trans (Nat.le_of_ble_eq_true k) h
theorem Xp (h:x≤a) (k:Nat.ble (a+1) b=true):x < b:=Nat.lt_of_le_of_lt h (Nat.le_of_ble_eq_true k)
theorem Xq (h:x < y) (g:y≤z):x < z:=Nat.lt_of_lt_of_le h g
theorem Mk (h:x≤a) (k:Nat.ble (n+a) b=true):n+x≤b:=Nat.le_trans (Nat.add_le_add_left h n) (Nat.le_of_ble_eq_true k)
theorem Qd (h:x≤min e y) (g:y≤a) (k:Nat.ble a b=true):x≤b:=Nat.le_trans h (Nat.le_trans (Nat.min_le_right e y) (o_0 g k))
theorem Xr (h:x < y) (g:y+e≤a) (k:Nat.ble a b=true):x≤b:=o_2 (Nat.le_of_lt h) g k
theorem Xs (f:y=z+n) (h:x < z):x < y:=f▸Qc h
theorem I9 (h:x+e < y):x < y:=Nat.lt_of_le_of_lt (Nat.le_add_right x e) h
theorem Hk (h:x+e≤y):x≤y:=Nat.le_trans (Nat.le_add_right x e) h
theorem Do (h:x≤y):x≤y+n:=Nat.le_trans h (Nat.le_add_right y n)
theorem Ee (h:x < a) (k:Nat.ble a (b+1)=true):x≤b:=Nat.le_of_lt_succ (Nat.lt_of_lt_of_le h (Nat.le_of_ble_eq_true k))
theorem Hl (f:x=y) (h:x < y) {P:Prop}:P:=absurd (f▸h) (Nat.lt_irrefl _)
theorem Ml (h:x < 0) {P:Prop}:P:=absurd h (Nat.not_lt_zero x)
theorem Xt (h:x+e≤a) (k:Nat.ble (a+1) b=true):x < b:=Nat.lt_of_le_of_lt (Nat.le_add_right x e) (Xp h k)
theorem Qe (h:x < y) (g:y < z):x < z:=Nat.lt_trans h g
theorem Xu (h:x < y) (g:y < z+1):x < z:=Nat.lt_of_lt_of_le h (Nat.le_of_lt_succ g)
theorem Mm (f:x=z) (g:z≤y):x≤y:=f▸g
theorem Qf (h:¬ y < x):x≤y:=Nat.not_lt.mp h
theorem Qg (h:x≤a) (k:Nat.ble a b=true):(x:Int)≤(b:Int):=Int.ofNat_le.mpr (o_0 h k)
theorem Xv (h:x≤a) (g:a=b):x≤b:=g▸h
theorem Qh (f:z=y) (h:x < y):x < z:=f▸h
theorem Xw (h:x+(y+m)≤a) (k:Nat.ble (n+a) (b+m)=true):n+y≤b:=Nat.le_of_add_le_add_right (b:=m) (Nat.le_trans (Nat.le_of_eq (Nat.add_assoc n y m)) (Nat.le_trans (Nat.add_le_add_left (Nat.le_trans (Nat.le_add_left _ x) h) n) (Nat.le_of_ble_eq_true k)))
theorem Xx (h:x < y) (f:x=y) {P:Prop}:P:=absurd h (f▸Nat.lt_irrefl x)
theorem Qi (h:x < y) (f:(x:Int)=(y:Int)) {P:Prop}:P:=Xx h (Int.ofNat_inj.mp f)
theorem Mn (f:(x:Int)=(y:Int)):x=y:=Int.ofNat_inj.mp f
theorem Mo (f:(x:Int)=(y:Int)):y=x:=(Int.ofNat_inj.mp f).symm
theorem Qj (h:x < y):y-x=y-(x+1)+1:=by rw [Nat.sub_succ];exact (Nat.succ_pred_eq_of_pos (Nat.sub_pos_of_lt h)).symm
theorem Ja:x≤x+n:=Nat.le_add_right x n
theorem Ql:(0:Int)≤(x:Int):=Int.natCast_nonneg x
end
theorem Ac {P:Prop} {A B:Prop} (h:A∧B) (k:A→B→P):P:=k h.1 h.2
theorem As {P:Prop} {A B C:Prop} (h:A∧B∧C) (k:A→B→C→P):P:=k h.1 h.2.1 h.2.2
theorem Hm {P:Prop} {A B C D:Prop} (h:A∧B∧C∧D) (k:A→B→C→D→P):P:=k h.1 h.2.1 h.2.2.1 h.2.2.2
theorem Qm {P:Prop} {A B C D E:Prop} (h:A∧B∧C∧D∧E) (k:A→B→C→D→E→P):P:=k h.1 h.2.1 h.2.2.1 h.2.2.2.1 h.2.2.2.2
theorem Xy {P:Prop} {A B C D E F:Prop} (h:A∧B∧C∧D∧E∧F) (k:A→B→C→D→E→F→P):P:=k h.1 h.2.1 h.2.2.1 h.2.2.2.1 h.2.2.2.2.1 h.2.2.2.2.2
theorem Gp {P:Prop} {A B C D E F G:Prop} (h:A∧B∧C∧D∧E∧F∧G) (k:A→B→C→D→E→F→G→P):P:=k h.1 h.2.1 h.2.2.1 h.2.2.2.1 h.2.2.2.2.1 h.2.2.2.2.2.1 h.2.2.2.2.2.2
theorem Ad {P:Prop} {α:Type} {A:α→Prop} (h:∃ x,A x) (k:∀ x,A x→P):P:=h.elim fun x h_0=>k x h_0
theorem Aa {P:Prop} {α:Type} {A B:α→Prop} (h:∃ x,A x∧B x) (k:∀ x,A x→B x→P):P:=h.elim fun x h_0=>k x h_0.1 h_0.2
theorem Au {P:Prop} {α:Type} {A B C:α→Prop} (h:∃ x,A x∧B x∧C x) (k:∀ x,A x→B x→C x→P):P:=h.elim fun x h_0=>k x h_0.1 h_0.2.1 h_0.2.2
theorem Ck {P:Prop} {α:Type} {A B C D:α→Prop} (h:∃ x,A x∧B x∧C x∧D x) (k:∀ x,A x→B x→C x→D x→P):P:=h.elim fun x h_0=>k x h_0.1 h_0.2.1 h_0.2.2.1 h_0.2.2.2
theorem Jb {P:Prop} {α:Type} {A B C D E:α→Prop} (h:∃ x,A x∧B x∧C x∧D x∧E x) (k:∀ x,A x→B x→C x→D x→E x→P):P:=h.elim fun x h_0=>k x h_0.1 h_0.2.1 h_0.2.2.1 h_0.2.2.2.1 h_0.2.2.2.2
theorem A3 {P:Prop} {α β:Type} {A:α→β→Prop} (h:∃ x y,A x y) (k:∀ x y,A x y→P):P:=h.elim fun x h_0=>h_0.elim fun y h_1=>k x y h_1
theorem Cu {P:Prop} {α β:Type} {A B:α→β→Prop} (h:∃ x y,A x y∧B x y) (k:∀ x y,A x y→B x y→P):P:=h.elim fun x h_0=>h_0.elim fun y h_1=>k x y h_1.1 h_1.2
theorem Ai {P:Prop} {α β:Type} {A B C:α→β→Prop} (h:∃ x y,A x y∧B x y∧C x y) (k:∀ x y,A x y→B x y→C x y→P):P:=h.elim fun x h_0=>h_0.elim fun y h_1=>k x y h_1.1 h_1.2.1 h_1.2.2
theorem Dp {P:Prop} {α β:Type} {A B C D:α→β→Prop} (h:∃ x y,A x y∧B x y∧C x y∧D x y) (k:∀ x y,A x y→B x y→C x y→D x y→P):P:=h.elim fun x h_0=>h_0.elim fun y h_1=>k x y h_1.1 h_1.2.1 h_1.2.2.1 h_1.2.2.2
theorem Qn {P:Prop} {α β:Type} {A B C D E F:α→β→Prop} (h:∃ x y,A x y∧B x y∧C x y∧D x y∧E x y∧F x y) (k:∀ x y,A x y→B x y→C x y→D x y→E x y→F x y→P):P:=h.elim fun x h_0=>h_0.elim fun y h_1=>k x y h_1.1 h_1.2.1 h_1.2.2.1 h_1.2.2.2.1 h_1.2.2.2.2.1 h_1.2.2.2.2.2
theorem Jc {P:Prop} {α β γ:Type} {A:α→β→γ→Prop} (h:∃ x y z,A x y z) (k:∀ x y z,A x y z→P):P:=h.elim fun x h_0=>h_0.elim fun y h_1=>h_1.elim fun z h_2=>k x y z h_2
theorem Mp {P:Prop} {α β γ:Type} {A B:α→β→γ→Prop} (h:∃ x y z,A x y z∧B x y z) (k:∀ x y z,A x y z→B x y z→P):P:=h.elim fun x h_0=>h_0.elim fun y h_1=>h_1.elim fun z h_2=>k x y z h_2.1 h_2.2
theorem Gq {P:Prop} {α β γ:Type} {A B C:α→β→γ→Prop} (h:∃ x y z,A x y z∧B x y z∧C x y z) (k:∀ x y z,A x y z→B x y z→C x y z→P):P:=h.elim fun x h_0=>h_0.elim fun y h_1=>h_1.elim fun z h_2=>k x y z h_2.1 h_2.2.1 h_2.2.2
theorem Hn {P:Prop} {α β γ:Type} {A B C D:α→β→γ→Prop} (h:∃ x y z,A x y z∧B x y z∧C x y z∧D x y z) (k:∀ x y z,A x y z→B x y z→C x y z→D x y z→P):P:=h.elim fun x h_0=>h_0.elim fun y h_1=>h_1.elim fun z h_2=>k x y z h_2.1 h_2.2.1 h_2.2.2.1 h_2.2.2.2
theorem Mq {P:Prop} {α β γ:Type} {A B C D E:α→β→γ→Prop} (h:∃ x y z,A x y z∧B x y z∧C x y z∧D x y z∧E x y z) (k:∀ x y z,A x y z→B x y z→C x y z→D x y z→E x y z→P):P:=h.elim fun x h_0=>h_0.elim fun y h_1=>h_1.elim fun z h_2=>k x y z h_2.1 h_2.2.1 h_2.2.2.1 h_2.2.2.2.1 h_2.2.2.2.2
theorem Ev {P:Prop} {α β γ:Type} {A B C D E F:α→β→γ→Prop} (h:∃ x y z,A x y z∧B x y z∧C x y z∧D x y z∧E x y z∧F x y z) (k:∀ x y z,A x y z→B x y z→C x y z→D x y z→E x y z→F x y z→P):P:=h.elim fun x h_0=>h_0.elim fun y h_1=>h_1.elim fun z h_2=>k x y z h_2.1 h_2.2.1 h_2.2.2.1 h_2.2.2.2.1 h_2.2.2.2.2.1 h_2.2.2.2.2.2
theorem Qo {P:Prop} {α β γ δ:Type} {A:α→β→γ→δ→Prop} (h:∃ x y z u,A x y z u) (k:∀ x y z u,A x y z u→P):P:=h.elim fun x h_0=>h_0.elim fun y h_1=>h_1.elim fun z h_2=>h_2.elim fun u h_3=>k x y z u h_3
theorem Qp {P:Prop} {α β γ δ:Type} {A B:α→β→γ→δ→Prop} (h:∃ x y z u,A x y z u∧B x y z u) (k:∀ x y z u,A x y z u→B x y z u→P):P:=h.elim fun x h_0=>h_0.elim fun y h_1=>h_1.elim fun z h_2=>h_2.elim fun u h_3=>k x y z u h_3.1 h_3.2
theorem Gr {P:Prop} {α β γ δ:Type} {A B C D E:α→β→γ→δ→Prop} (h:∃ x y z u,A x y z u∧B x y z u∧C x y z u∧D x y z u∧E x y z u) (k:∀ x y z u,A x y z u→B x y z u→C x y z u→D x y z u→E x y z u→P):P:=h.elim fun x h_0=>h_0.elim fun y h_1=>h_1.elim fun z h_2=>h_2.elim fun u h_3=>k x y z u h_3.1 h_3.2.1 h_3.2.2.1 h_3.2.2.2.1 h_3.2.2.2.2
theorem Xz {P:Prop} {α β γ δ ε:Type} {A B C:α→β→γ→δ→ε→Prop} (h:∃ x y z u v,A x y z u v∧B x y z u v∧C x y z u v) (k:∀ x y z u v,A x y z u v→B x y z u v→C x y z u v→P):P:=h.elim fun x h_0=>h_0.elim fun y h_1=>h_1.elim fun z h_2=>h_2.elim fun u h_3=>h_3.elim fun v h_4=>k x y z u v h_4.1 h_4.2.1 h_4.2.2
theorem X0 {P:Prop} {α β γ δ ε:Type} {A B C D:α→β→γ→δ→ε→Prop} (h:∃ x y z u v,A x y z u v∧B x y z u v∧C x y z u v∧D x y z u v) (k:∀ x y z u v,A x y z u v→B x y z u v→C x y z u v→D x y z u v→P):P:=h.elim fun x h_0=>h_0.elim fun y h_1=>h_1.elim fun z h_2=>h_2.elim fun u h_3=>h_3.elim fun v h_4=>k x y z u v h_4.1 h_4.2.1 h_4.2.2.1 h_4.2.2.2
theorem oc {α:Type} {P:Prop} (x:Option α) (n:x=none→P) (s:∀ a,x=some a→P):P:=x.rec (motive:=fun y=>x=y→P) n s rfl
theorem oe {a b P:Prop} (h:a∨b) (f:a→P) (g:b→P):P:=h.elim f g
abbrev s (x:String):Str:=Str.ofString x
noncomputable def Jd:Fn:=⟨[(.nm 0)],2,0,[],[
 (.asg (.nm 1) (.dct [(.cst (.str (s "a"))),(.cst (.str (s "c"))),(.cst (.str (s "f"))),(.cst (.str (s "g"))),(.cst (.str (s "l"))),(.cst (.str (s "r"))),(.cst (.str (s "t")))] [(.cst (.str (s "altGlyph altGlyphDef altGlyphItem animateColor animateMotion animateTransform"))),(.cst (.str (s "clipPath"))),(.cst (.str (s "feBlend feColorMatrix feComponentTransfer feComposite feConvolveMatrix feDiffuseLighting feDisplacementMap feDistantLight feDropShadow feFlood feFuncA feFuncB feFuncG feFuncR feGaussianBlur feImage feMerge feMergeNode feMorphology feOffset fePointLight feSpecularLighting feSpotLight feTile feTurbulence foreignObject"))),(.cst (.str (s "glyphRef"))),(.cst (.str (s "linearGradient"))),(.cst (.str (s "radialGradient"))),(.cst (.str (s "textPath")))])),
 (.ret (some (.meth (.meth (.loc 1) 4 [(.loc 0),(.cst (.str (s "")))]) 6 [])))]⟩
noncomputable def Je:Fn:=⟨[(.nm 0)],2,0,[],[
 (.asg (.nm 1) (.dcl [((s "a"),(s "attributeName attributeType")),((s "b"),(s "baseFrequency baseProfile")),((s "c"),(s "calcMode clipPathUnits")),((s "d"),(s "diffuseConstant")),((s "e"),(s "edgeMode")),((s "f"),(s "filterUnits")),((s "g"),(s "glyphRef gradientTransform gradientUnits")),((s "k"),(s "kernelMatrix kernelUnitLength keyPoints keySplines keyTimes")),((s "l"),(s "lengthAdjust limitingConeAngle")),((s "m"),(s "markerHeight markerUnits markerWidth maskContentUnits maskUnits")),((s "n"),(s "numOctaves")),((s "p"),(s "pathLength patternContentUnits patternTransform patternUnits pointsAtX pointsAtY pointsAtZ preserveAlpha preserveAspectRatio primitiveUnits")),((s "r"),(s "refX refY repeatCount repeatDur requiredExtensions requiredFeatures")),((s "s"),(s "specularConstant specularExponent spreadMethod startOffset stdDeviation stitchTiles surfaceScale systemLanguage")),((s "t"),(s "tableValues targetX targetY textLength")),((s "v"),(s "viewBox viewTarget")),((s "x"),(s "xChannelSelector")),((s "y"),(s "yChannelSelector")),((s "z"),(s "zoomAndPan"))])),
 (.ret (some (.meth (.meth (.loc 1) 4 [(.loc 0),(.cst (.str (s "")))]) 6 [])))]⟩
noncomputable def Jf:Fn:=⟨[(.nm 0),(.nm 1)],3,0,[],[
 (.for (.nm 2) (.loc 0) [(.ite (.cmp (.meth (.loc 2) 5 []) [.Eq] [(.loc 1)]) [(.ret (some (.loc 2)))] [])]),
 (.ret (some (.loc 1)))]⟩
noncomputable def Jg:Fn:=⟨[(.nm 0)],1,0,[],[
 (.ret (some (.call (.cst (.con (.ref 42))) [(.call (.cst (.con (.ref 28))) [(.slc (.loc 0) (.cst (.int 1)))]),(.loc 0)])))]⟩
noncomputable def Jh:Fn:=⟨[(.nm 0)],1,0,[],[
 (.ret (some (.call (.cst (.con (.ref 42))) [(.call (.cst (.con (.ref 35))) [(.slc (.loc 0) (.cst (.int 1)))]),(.loc 0)])))]⟩
noncomputable def Ji:Fn:=⟨[(.nm 0)],1,0,[],[
 (.ite (.cmp (.loc 0) [.Eq] [(.cst (.str (s "definitionurl")))]) [(.ret (some (.cst (.str (s "definitionURL")))))] []),
 (.ret (some (.loc 0)))]⟩
noncomputable def Jj:Fn:=⟨[(.nm 0)],2,0,[],[
 (.asg (.nm 1) (.cst (.str (s "xlink:actuate xlink:arcrole xlink:href xlink:role xlink:show xlink:title xlink:type")))),
 (.asg (.nm 1) (.bin .Add (.loc 1) (.cst (.str (s " xml:lang xml:space xmlns:xlink"))))),
 (.ite (.cmp (.loc 0) [.In] [(.meth (.loc 1) 6 [])]) [(.ret (some (.repl (.loc 0) (s ":") (s " "))))] []),
 (.ret (some (.loc 0)))]⟩
noncomputable def Gs:Fn:=⟨[(.nm 0),(.nm 1)],5,0,[],[
 (.asg (.nm 2) (.lst [])),
 (.for (.tp [3,4]) (.loc 0) [(.ite (.cmp (.loc 1) [.Eq] [(.cst (.str (s "svg")))]) [(.ex (.meth (.loc 2) 0 [(.tup [(.call (.cst (.con (.ref 70))) [(.call (.cst (.con (.ref 56))) [(.loc 3)])]),(.loc 4)])]))] [(.ite (.cmp (.loc 1) [.Eq] [(.cst (.str (s "math")))]) [(.ex (.meth (.loc 2) 0 [(.tup [(.call (.cst (.con (.ref 70))) [(.call (.cst (.con (.ref 63))) [(.loc 3)])]),(.loc 4)])]))] [(.ex (.meth (.loc 2) 0 [(.tup [(.loc 3),(.loc 4)])]))])])]),
 (.ret (some (.call (.cst (.con (.type "tuple"))) [(.loc 2)])))]⟩
noncomputable def Jk:Fn:=⟨[(.nm 0)],2,0,[],[
 (.asg (.nm 1) (.cst (.str (s "b big blockquote body br center code dd div dl dt em embed h1 h2 h3 h4 h5 h6 head hr i img li")))),
 (.asg (.nm 1) (.bin .Add (.loc 1) (.cst (.str (s " listing menu meta nobr ol p pre ruby s small span strong strike sub sup table tt u ul var"))))),
 (.ret (some (.cmp (.loc 0) [.In] [(.meth (.loc 1) 6 [])])))]⟩
noncomputable def Jl:Fn:=⟨[(.nm 0)],1,0,[],[
 (.ret (some (.cmp (.loc 0) [.In] [(.tup [(.cst (.str (s "\t"))), (.cst (.str (s "\n"))), (.cst (.str (s "\u000c"))), (.cst (.str (s "\r"))), (.cst (.str (s " ")))])])))]⟩
noncomputable def Jm:Fn:=⟨[(.nm 0)],1,0,[],[
 (.ret (some (.cmp (.cst (.str (s "A"))) [.LtE,.LtE] [(.loc 0),(.cst (.str (s "Z")))])))]⟩
noncomputable def Jn:Fn:=⟨[(.nm 0)],1,0,[],[
 (.ite (.call (.cst (.con (.ref 98))) [(.loc 0)]) [(.ret (some (.call (.cst (.con (.builtin "chr"))) [(.bin .Add (.call (.cst (.con (.builtin "ord"))) [(.loc 0)]) (.cst (.int 32)))])))] []),
 (.ret (some (.loc 0)))]⟩
noncomputable def Ho:Fn:=⟨[(.nm 0)],3,0,[],[
 (.asg (.nm 1) (.lst [])),
 (.for (.nm 2) (.loc 0) [(.ex (.meth (.loc 1) 0 [(.call (.cst (.con (.ref 105))) [(.loc 2)])]))]),
 (.ret (some (.meth (.cst (.str (s ""))) 7 [(.loc 1)])))]⟩
noncomputable def X1:Fn:=⟨[(.nm 0)],1,0,[],[
 (.ret (some (.cmp (.loc 0) [.In] [(.tup [(.cst (.str (s "table"))),(.cst (.str (s "tbody"))),(.cst (.str (s "tfoot"))),(.cst (.str (s "thead"))),(.cst (.str (s "tr")))])])))]⟩
noncomputable def Jo:Fn:=⟨[(.nm 0),(.nm 1)],2,0,[],[
 (.ret (some (.boo .And [(.cmp (.idx (.attr (.loc 0) 9) (.loc 1)) [.Eq] [(.cst (.str (s "math")))]),(.cmp (.idx (.attr (.loc 0) 10) (.loc 1)) [.In] [(.tup [(.cst (.str (s "mi"))),(.cst (.str (s "mo"))),(.cst (.str (s "mn"))),(.cst (.str (s "ms"))),(.cst (.str (s "mtext")))])])])))]⟩
noncomputable def Jp:Fn:=⟨[(.nm 0),(.nm 1)],3,0,[],[
 (.ite (.cmp (.idx (.attr (.loc 0) 9) (.loc 1)) [.Eq] [(.cst (.str (s "svg")))]) [(.ret (some (.cmp (.idx (.attr (.loc 0) 10) (.loc 1)) [.In] [(.tup [(.cst (.str (s "foreignObject"))),(.cst (.str (s "desc"))),(.cst (.str (s "title")))])])))] []),
 (.ite (.boo .Or [(.cmp (.idx (.attr (.loc 0) 9) (.loc 1)) [.NotEq] [(.cst (.str (s "math")))]),(.cmp (.idx (.attr (.loc 0) 10) (.loc 1)) [.NotEq] [(.cst (.str (s "annotation-xml")))])]) [(.ret (some (.cst (.bool false))))] []),
 (.asg (.nm 2) (.meth (.loc 0) 47 [(.loc 1),(.cst (.str (s "encoding")))])),
 (.ret (some (.boo .And [(.cmp (.loc 2) [.IsNot] [(.cst .none)]),(.cmp (.call (.cst (.con (.ref 112))) [(.loc 2)]) [.In] [(.tup [(.cst (.str (s "text/html"))),(.cst (.str (s "application/xhtml+xml")))])])])))]⟩
noncomputable def X2:Fn:=⟨[(.nm 0)],5,0,[],[
 (.asg (.nm 1) (.attr (.loc 0) 16)),
 (.asg (.nm 2) (.attr (.attr (.loc 0) 19) 17)),
 (.asg (.nm 3) (.bin .Sub (.call (.cst (.con (.builtin "len"))) [(.loc 2)]) (.cst (.int 1)))),
 (.whl (.boo .And [(.cmp (.loc 3) [.Gt] [(.cst (.int 0))]),(.not (.meth (.loc 1) 54 [(.idx (.loc 2) (.loc 3)),(.cst (.str (s "table")))])),(.not (.meth (.loc 1) 54 [(.idx (.loc 2) (.loc 3)),(.cst (.str (s "template")))]))]) [(.aug 3 .Sub (.cst (.int 1)))]),
 (.asg (.nm 4) (.idx (.loc 2) (.loc 3))),
 (.ite (.not (.meth (.loc 1) 54 [(.loc 4),(.cst (.str (s "table")))])) [(.ret (some (.tup [(.loc 4),(.neg (.cst (.int 1)))])))] []),
 (.ite (.cmp (.idx (.attr (.loc 1) 13) (.loc 4)) [.NotEq] [(.neg (.cst (.int 1)))]) [(.ret (some (.tup [(.idx (.attr (.loc 1) 13) (.loc 4)),(.loc 4)])))] []),
 (.ite (.cmp (.loc 3) [.Gt] [(.cst (.int 0))]) [(.asg (.nm 4) (.idx (.loc 2) (.bin .Sub (.loc 3) (.cst (.int 1)))))] []),
 (.ret (some (.tup [(.loc 4),(.neg (.cst (.int 1)))])))]⟩
noncomputable def Jq:Fn:=⟨[(.nm 0),(.nm 1)],5,0,[(.int (-1))],[
 (.asg (.nm 2) (.attr (.loc 0) 16)),
 (.asg (.nm 3) (.loc 1)),
 (.ite (.cmp (.loc 3) [.Eq] [(.neg (.cst (.int 1)))]) [(.asg (.nm 3) (.meth (.attr (.loc 0) 19) 39 []))] []),
 (.ite (.cmp (.loc 3) [.Eq] [(.neg (.cst (.int 1)))]) [(.ret (some (.tup [(.cst (.int 0)),(.neg (.cst (.int 1)))])))] []),
 (.asg (.nm 4) (.neg (.cst (.int 1)))),
 (.ite (.boo .And [(.attr (.loc 0) 29),(.cmp (.idx (.attr (.loc 2) 9) (.loc 3)) [.Eq] [(.cst (.str (s "html")))]),(.call (.cst (.con (.ref 119))) [(.idx (.attr (.loc 2) 10) (.loc 3))])]) [(.asg (.tp [3,4]) (.call (.cst (.con (.ref 140))) [(.loc 0)]))] []),
 (.ite (.cmp (.loc 3) [.In] [(.attr (.loc 2) 15)]) [(.ret (some (.tup [(.idx (.attr (.loc 2) 15) (.loc 3)),(.neg (.cst (.int 1)))])))] []),
 (.ret (some (.tup [(.loc 3),(.loc 4)])))]⟩
noncomputable def Js:Fn:=⟨[(.nm 0),(.nm 1)],7,0,[],[
 (.asg (.nm 2) (.attr (.loc 0) 16)),
 (.asg (.tp [3,4]) (.call (.cst (.con (.ref 148))) [(.loc 0)])),
 (.ite (.cmp (.idx (.attr (.loc 2) 8) (.loc 3)) [.Eq] [(.cst (.str (s "document")))]) [(.ret none)] []),
 (.asg (.nm 5) (.meth (.loc 2) 46 [(.loc 3)])),
 (.ite (.cmp (.loc 4) [.NotEq] [(.neg (.cst (.int 1)))]) [(.asg (.nm 6) (.meth (.loc 2) 53 [(.loc 4)])),(.asg (.nm 5) (.neg (.cst (.int 1)))),(.ite (.cmp (.loc 6) [.Gt] [(.cst (.int 0))]) [(.asg (.nm 5) (.idx (.idx (.attr (.loc 2) 14) (.loc 3)) (.bin .Sub (.loc 6) (.cst (.int 1)))))] [])] []),
 (.ite (.boo .And [(.cmp (.loc 5) [.NotEq] [(.neg (.cst (.int 1)))]),(.cmp (.idx (.attr (.loc 2) 8) (.loc 5)) [.Eq] [(.cst (.str (s "text")))])]) [(.asg (.ix (.attr (.loc 2) 12) (.loc 5)) (.bin .Add (.idx (.attr (.loc 2) 12) (.loc 5)) (.loc 1)))] [(.ex (.meth (.loc 2) 2 [(.loc 3),(.meth (.loc 2) 43 [(.loc 1)]),(.loc 4)]))])]⟩
noncomputable def Jt:Fn:=⟨[(.nm 0),(.nm 1),(.nm 2)],4,0,[(.int (-1))],[
 (.asg (.nm 3) (.neg (.cst (.int 1)))),
 (.ite (.cmp (.loc 2) [.Eq] [(.neg (.cst (.int 1)))]) [(.asg (.tp [2,3]) (.call (.cst (.con (.ref 148))) [(.loc 0)]))] []),
 (.ex (.meth (.attr (.loc 0) 16) 2 [(.loc 2),(.meth (.attr (.loc 0) 16) 44 [(.loc 1)]),(.loc 3)]))]⟩
noncomputable def Ju:Fn:=⟨[(.nm 0),(.nm 1),(.nm 2),(.nm 3)],4,0,[(.str (s "html"))],[
 (.ret (some (.meth (.attr (.loc 0) 16) 42 [(.loc 1),(.loc 3),(.loc 2)])))]⟩
noncomputable def Jv:Fn:=⟨[(.nm 0),(.nm 1),(.nm 2),(.nm 3)],7,0,[(.ref 1),(.str (s "html"))],[
 (.asg (.tp [4,5]) (.call (.cst (.con (.ref 148))) [(.loc 0)])),
 (.asg (.nm 6) (.call (.cst (.con (.ref 171))) [(.loc 0),(.loc 1),(.loc 2),(.loc 3)])),
 (.ex (.meth (.attr (.loc 0) 16) 2 [(.loc 4),(.loc 6),(.loc 5)])),
 (.ex (.meth (.attr (.loc 0) 19) 38 [(.loc 6)])),
 (.ret (some (.loc 6)))]⟩
noncomputable def Hp:Fn:=⟨[(.nm 0),(.nm 1)],3,0,[],[
 (.for (.nm 2) (.idx (.loc 0) (.cst (.int 2))) [(.ite (.cmp (.idx (.loc 2) (.cst (.int 0))) [.Eq] [(.loc 1)]) [(.ret (some (.idx (.loc 2) (.cst (.int 1)))))] [])]),
 (.ret (some (.cst .none)))]⟩
noncomputable def Jw:Fn:=⟨[(.nm 0)],3,0,[],[
 (.ite (.cmp (.idx (.loc 0) (.cst (.int 0))) [.NotEq] [(.cst (.str (s "start")))]) [(.ret (some (.boo .And [(.cmp (.idx (.loc 0) (.cst (.int 0))) [.Eq] [(.cst (.str (s "end")))]),(.cmp (.idx (.loc 0) (.cst (.int 1))) [.In] [(.tup [(.cst (.str (s "br"))),(.cst (.str (s "p")))])])])))] []),
 (.asg (.nm 1) (.idx (.loc 0) (.cst (.int 1)))),
 (.ite (.cmp (.loc 1) [.Eq] [(.cst (.str (s "font")))]) [(.for (.nm 2) (.tup [(.cst (.str (s "color"))),(.cst (.str (s "face"))),(.cst (.str (s "size")))]) [(.ite (.cmp (.call (.cst (.con (.ref 187))) [(.loc 0),(.loc 2)]) [.IsNot] [(.cst .none)]) [(.ret (some (.cst (.bool true))))] [])]),(.ret (some (.cst (.bool false))))] []),
 (.ret (some (.call (.cst (.con (.ref 84))) [(.loc 1)])))]⟩
noncomputable def Jx:Fn:=⟨[(.nm 0),(.nm 1)],2,0,[],[
 (.ite (.cmp (.loc 1) [.Eq] [(.cst (.str (s "\u0000")))]) [(.ex (.meth (.loc 0) 48 [(.cst (.str (s "unexpected-null-character")))])), (.ex (.call (.cst (.con (.ref 155))) [(.loc 0), (.cst (.str (s "\ufffd")))])),(.ret none)] []),
 (.ex (.call (.cst (.con (.ref 155))) [(.loc 0),(.loc 1)])),
 (.ite (.not (.call (.cst (.con (.ref 91))) [(.loc 1)])) [(.asg (.at (.loc 0) 27) (.cst (.bool false)))] [])]⟩
noncomputable def Jy:Fn:=⟨[(.nm 0),(.nm 1)],2,0,[],[
 (.ite (.cmp (.idx (.attr (.loc 0) 9) (.loc 1)) [.Eq] [(.cst (.str (s "html")))]) [(.ret (some (.cst (.bool true))))] []),
 (.ret (some (.boo .Or [(.call (.cst (.con (.ref 126))) [(.loc 0),(.loc 1)]),(.call (.cst (.con (.ref 133))) [(.loc 0),(.loc 1)])])))]⟩
noncomputable def Gu:Fn:=⟨[(.nm 0),(.nm 1)],3,0,[],[
 (.ite (.cmp (.idx (.loc 1) (.cst (.int 0))) [.Eq] [(.cst (.str (s "end")))]) [(.ex (.meth (.loc 0) 48 [(.cst (.str (s "unexpected-end-tag")))]))] [(.ex (.meth (.loc 0) 48 [(.cst (.str (s "unexpected-start-tag")))]))]),
 (.asg (.nm 2) (.attr (.loc 0) 19)),
 (.whl (.boo .And [(.cmp (.meth (.loc 2) 40 []) [.Gt] [(.cst (.int 0))]),(.not (.call (.cst (.con (.ref 208))) [(.attr (.loc 0) 16),(.meth (.loc 2) 39 [])]))]) [(.ex (.meth (.loc 2) 1 []))]),
 (.ex (.meth (.loc 0) 50 [(.attr (.loc 0) 21),(.loc 1)]))]⟩
noncomputable def Hq:Fn:=⟨[(.nm 0),(.nm 1)],4,0,[],[
 (.asg (.nm 2) (.idx (.attr (.attr (.loc 0) 16) 9) (.meth (.loc 0) 51 []))),
 (.asg (.nm 3) (.idx (.loc 1) (.cst (.int 1)))),
 (.ite (.cmp (.loc 2) [.Eq] [(.cst (.str (s "svg")))]) [(.asg (.nm 3) (.call (.cst (.con (.ref 49))) [(.loc 3)]))] []),
 (.ex (.call (.cst (.con (.ref 180))) [(.loc 0),(.loc 3),(.call (.cst (.con (.ref 77))) [(.idx (.loc 1) (.cst (.int 2))),(.loc 2)]),(.loc 2)])),
 (.ite (.idx (.loc 1) (.cst (.int 3))) [(.asg (.at (.loc 0) 36) (.cst (.bool true))),(.ex (.meth (.attr (.loc 0) 19) 1 []))] [])]⟩
noncomputable def Gv:Fn:=⟨[(.nm 0),(.nm 1)],6,0,[],[
 (.asg (.nm 2) (.attr (.loc 0) 16)),
 (.asg (.nm 3) (.attr (.loc 0) 19)),
 (.asg (.nm 4) (.bin .Sub (.meth (.loc 3) 40 []) (.cst (.int 1)))),
 (.asg (.nm 5) (.idx (.loc 1) (.cst (.int 1)))),
 (.ite (.cmp (.call (.cst (.con (.ref 112))) [(.idx (.attr (.loc 2) 10) (.meth (.loc 3) 39 []))]) [.NotEq] [(.loc 5)]) [(.ex (.meth (.loc 0) 48 [(.cst (.str (s "unexpected-end-tag")))]))] []),
 (.whl (.cmp (.loc 4) [.Gt] [(.cst (.int 0))]) [(.ite (.cmp (.call (.cst (.con (.ref 112))) [(.idx (.attr (.loc 2) 10) (.idx (.attr (.loc 3) 17) (.loc 4)))]) [.Eq] [(.loc 5)]) [(.whl (.cmp (.meth (.loc 3) 40 []) [.Gt] [(.loc 4)]) [(.ex (.meth (.loc 3) 1 []))]),(.ret none)] []),(.aug 4 .Sub (.cst (.int 1))),(.ite (.cmp (.idx (.attr (.loc 2) 9) (.idx (.attr (.loc 3) 17) (.loc 4))) [.Eq] [(.cst (.str (s "html")))]) [(.ex (.meth (.loc 0) 50 [(.attr (.loc 0) 21),(.loc 1)])),(.ret none)] [])])]⟩
noncomputable def Jz:Fn:=⟨[(.nm 0),(.nm 1)],3,0,[],[
 (.ite (.boo .Or [(.cmp (.idx (.loc 1) (.cst (.int 0))) [.NotEq] [(.cst (.str (s "end")))]),(.cmp (.idx (.loc 1) (.cst (.int 1))) [.NotEq] [(.cst (.str (s "script")))])]) [(.ret (some (.cst (.bool false))))] []),
 (.asg (.nm 2) (.meth (.attr (.loc 0) 19) 39 [])),
 (.ite (.cmp (.loc 2) [.Lt] [(.cst (.int 0))]) [(.ret (some (.cst (.bool false))))] []),
 (.ret (some (.boo .And [(.cmp (.idx (.attr (.attr (.loc 0) 16) 9) (.loc 2)) [.Eq] [(.cst (.str (s "svg")))]),(.cmp (.idx (.attr (.attr (.loc 0) 16) 10) (.loc 2)) [.Eq] [(.cst (.str (s "script")))])])))]⟩
noncomputable def J0:Fn:=⟨[(.nm 0),(.nm 1)],3,0,[],[
 (.asg (.nm 2) (.idx (.loc 1) (.cst (.int 0)))),
 (.ite (.cmp (.loc 2) [.Eq] [(.cst (.str (s "char")))]) [(.ex (.call (.cst (.con (.ref 201))) [(.loc 0),(.idx (.loc 1) (.cst (.int 1)))]))] [(.ite (.cmp (.loc 2) [.Eq] [(.cst (.str (s "comment")))]) [(.ex (.call (.cst (.con (.ref 163))) [(.loc 0),(.idx (.loc 1) (.cst (.int 1)))]))] [(.ite (.cmp (.loc 2) [.Eq] [(.cst (.str (s "doctype")))]) [(.ex (.meth (.loc 0) 48 [(.cst (.str (s "unexpected-doctype")))]))] [(.ite (.cmp (.loc 2) [.Eq] [(.cst (.str (s "eof")))]) [(.ex (.meth (.loc 0) 50 [(.attr (.loc 0) 21),(.loc 1)]))] [(.ite (.call (.cst (.con (.ref 194))) [(.loc 1)]) [(.ex (.call (.cst (.con (.ref 215))) [(.loc 0),(.loc 1)]))] [(.ite (.cmp (.loc 2) [.Eq] [(.cst (.str (s "start")))]) [(.ex (.call (.cst (.con (.ref 222))) [(.loc 0),(.loc 1)]))] [(.ite (.call (.cst (.con (.ref 236))) [(.loc 0),(.loc 1)]) [(.ex (.meth (.attr (.loc 0) 19) 1 []))] [(.ex (.call (.cst (.con (.ref 229))) [(.loc 0),(.loc 1)]))])])])])])])])]⟩
noncomputable def Hr:Fn:=⟨[(.nm 0),(.nm 1)],4,0,[],[
 (.asg (.nm 2) (.lst [])),
 (.asg (.nm 3) (.idx (.attr (.loc 0) 13) (.loc 1))),
 (.whl (.cmp (.loc 3) [.NotEq] [(.neg (.cst (.int 1)))]) [(.ex (.meth (.loc 2) 0 [(.loc 3)])),(.asg (.nm 3) (.idx (.attr (.loc 0) 13) (.loc 3)))]),
 (.ret (some (.loc 2)))]⟩
noncomputable def Gw:Fn:=⟨[(.nm 0),(.nm 1)],4,0,[],[
 (.ite (.boo .Or [(.not (.meth (.loc 0) 52 [])),(.cmp (.idx (.loc 1) (.cst (.int 0))) [.Eq] [(.cst (.str (s "eof")))])]) [(.ret (some (.cst (.bool true))))] []),
 (.asg (.nm 2) (.attr (.loc 0) 16)),
 (.asg (.nm 3) (.meth (.loc 0) 51 [])),
 (.ite (.cmp (.idx (.loc 1) (.cst (.int 0))) [.Eq] [(.cst (.str (s "char")))]) [(.ret (some (.boo .Or [(.call (.cst (.con (.ref 126))) [(.loc 2),(.loc 3)]),(.call (.cst (.con (.ref 133))) [(.loc 2),(.loc 3)])])))] []),
 (.ite (.cmp (.idx (.loc 1) (.cst (.int 0))) [.NotEq] [(.cst (.str (s "start")))]) [(.ret (some (.cst (.bool false))))] []),
 (.ite (.boo .And [(.call (.cst (.con (.ref 126))) [(.loc 2),(.loc 3)]),(.cmp (.idx (.loc 1) (.cst (.int 1))) [.NotIn] [(.tup [(.cst (.str (s "mglyph"))),(.cst (.str (s "malignmark")))])])]) [(.ret (some (.cst (.bool true))))] []),
 (.ite (.boo .And [(.cmp (.idx (.attr (.loc 2) 9) (.loc 3)) [.Eq] [(.cst (.str (s "math")))]),(.cmp (.idx (.attr (.loc 2) 10) (.loc 3)) [.Eq] [(.cst (.str (s "annotation-xml")))]),(.cmp (.idx (.loc 1) (.cst (.int 1))) [.Eq] [(.cst (.str (s "svg")))])]) [(.ret (some (.cst (.bool true))))] []),
 (.ret (some (.call (.cst (.con (.ref 133))) [(.loc 2),(.loc 3)])))]⟩
noncomputable def J3:Fn:=⟨[(.nm 0),(.nm 1)],2,0,[],[
 (.ret (some (.ite (.cmp (.loc 1) [.Lt] [(.call (.cst (.con (.builtin "len"))) [(.loc 0)])]) (.idx (.loc 0) (.loc 1)) (.cst (.int 0)))))]⟩
noncomputable def X3:Fn:=⟨[],2,0,[],[
 (.asg (.nm 0) (.lst [(.tup [(.cst (.str (s "svg"))),(.cst (.str (s "svg"))),(.tup [])]),(.tup [(.cst (.str (s "svg"))),(.cst (.str (s "g"))),(.tup [])]),(.tup [(.cst (.str (s "svg"))),(.cst (.str (s "foreignObject"))),(.tup [])]),(.tup [(.cst (.str (s "math"))),(.cst (.str (s "math"))),(.tup [])])])),
 (.asg (.nm 0) (.bin .Add (.loc 0) (.lst [(.tup [(.cst (.str (s "math"))),(.cst (.str (s "mi"))),(.tup [])]),(.tup [(.cst (.str (s "html"))),(.cst (.str (s "p"))),(.tup [])]),(.tup [(.cst (.str (s "svg"))),(.cst (.str (s "desc"))),(.tup [])]),(.tup [(.cst (.str (s "svg"))),(.cst (.str (s "title"))),(.tup [])])]))),
 (.for (.nm 1) (.lst [(.cst (.str (s "Text/HTML"))),(.cst (.str (s "application/XHTML+xml"))),(.cst (.str (s "text/htm"))),(.cst (.str (s "")))]) [(.ex (.meth (.loc 0) 0 [(.tup [(.cst (.str (s "math"))),(.cst (.str (s "annotation-xml"))),(.tup [(.tup [(.cst (.str (s "id"))),(.cst (.str (s "text/html")))]),(.tup [(.cst (.str (s "encoding"))),(.loc 1)])])])]))]),
 (.asg (.nm 0) (.bin .Add (.loc 0) (.lst [(.tup [(.cst (.str (s "math"))),(.cst (.str (s "annotation-xml"))),(.tup [])]),(.tup [(.cst (.str (s "svg"))),(.cst (.str (s "annotation-xml"))),(.tup [(.tup [(.cst (.str (s "encoding"))),(.cst (.str (s "text/html")))])])])]))),
 (.asg (.nm 0) (.bin .Add (.loc 0) (.lst [(.tup [(.cst (.str (s "svg"))),(.cst (.str (s "script"))),(.tup [])]),(.tup [(.cst (.str (s "math"))),(.cst (.str (s "desc"))),(.tup [])]),(.tup [(.cst (.str (s "svg"))),(.cst (.str (s "mi"))),(.tup [])]),(.tup [(.cst (.str (s "math"))),(.cst (.str (s "mo"))),(.tup [])])]))),
 (.asg (.nm 0) (.bin .Add (.loc 0) (.lst [(.tup [(.cst (.str (s "math"))),(.cst (.str (s "mn"))),(.tup [])]),(.tup [(.cst (.str (s "math"))),(.cst (.str (s "ms"))),(.tup [])]),(.tup [(.cst (.str (s "math"))),(.cst (.str (s "mtext"))),(.tup [])]),(.tup [(.cst (.str (s "html"))),(.cst (.str (s "b"))),(.tup [])])]))),
 (.ret (some (.bin .Add (.loc 0) (.lst [(.tup [(.cst (.str (s "math"))),(.cst (.str (s "mrow"))),(.tup [])]),(.tup [(.cst (.str (s "svg"))),(.cst (.str (s "clipPath"))),(.tup [])]),(.tup [(.cst (.str (s "math"))),(.cst (.str (s "foreignObject"))),(.tup [])]),(.tup [(.cst (.str (s "svg"))),(.cst (.str (s "a"))),(.tup [])])]))))]⟩
noncomputable def J5:Fn:=⟨[],1,0,[],[
 (.asg (.nm 0) (.lst [(.tup []),(.tup [(.tup [(.cst (.str (s "encoding"))),(.cst (.str (s "text/html")))])]),(.tup [(.tup [(.cst (.str (s "viewbox"))),(.cst (.str (s "1")))]),(.tup [(.cst (.str (s "xlink:href"))),(.cst (.str (s "viewbox")))])])])),
 (.asg (.nm 0) (.bin .Add (.loc 0) (.lst [(.tup [(.tup [(.cst (.str (s "definitionurl"))),(.cst (.str (s "x")))]),(.tup [(.cst (.str (s "color"))),(.cst (.str (s "c")))])]),(.tup [(.tup [(.cst (.str (s "face"))),(.cst (.str (s "")))])]),(.tup [(.tup [(.cst (.str (s "size"))),(.cst (.str (s "3")))]),(.tup [(.cst (.str (s "xml:lang"))),(.cst (.str (s "e")))])])]))),
 (.ret (some (.bin .Add (.loc 0) (.lst [(.tup [(.tup [(.cst (.str (s "id"))),(.cst (.str (s "i")))]),(.tup [(.cst (.str (s "definitionurl"))),(.cst (.str (s "d")))]),(.tup [(.cst (.str (s "viewbox"))),(.cst (.str (s "v")))])])]))))]⟩
noncomputable def J6:Fn:=⟨[(.nm 0),(.nm 1)],7,0,[],[
 (.asg (.nm 2) (.bin .Mod (.bin .Add (.call (.cst (.con (.ref 680))) [(.loc 0),(.bin .Add (.cst (.int 9)) (.bin .Mult (.cst (.int 4)) (.loc 1)))]) (.idx (.lst [(.cst (.int 0)),(.cst (.int 4)),(.cst (.int 6)),(.cst (.int 0)),(.cst (.int 7)),(.cst (.int 5))]) (.loc 1))) (.cst (.int 9)))),
 (.asg (.nm 3) (.cst (.str (s "p g svg foreignobject font mi math annotation-xml mglyph malignmark desc title script br b clippath a")))),
 (.asg (.nm 3) (.bin .Add (.meth (.loc 3) 6 []) (.lst [(.cst (.str (s "mtext"))),(.cst (.str (s "span"))),(.cst (.str (s "mrow"))),(.cst (.str (s "html")))]))),
 (.asg (.nm 4) (.idx (.loc 3) (.bin .Mod (.bin .Add (.call (.cst (.con (.ref 680))) [(.loc 0),(.bin .Add (.cst (.int 10)) (.bin .Mult (.cst (.int 4)) (.loc 1)))]) (.idx (.lst [(.cst (.int 0)),(.cst (.int 3)),(.cst (.int 0)),(.cst (.int 2)),(.cst (.int 0)),(.cst (.int 6))]) (.loc 1))) (.call (.cst (.con (.builtin "len"))) [(.loc 3)])))),
 (.asg (.nm 5) (.call (.cst (.con (.ref 680))) [(.loc 0),(.bin .Add (.cst (.int 11)) (.bin .Mult (.cst (.int 4)) (.loc 1)))])),
 (.ite (.cmp (.loc 2) [.Lt] [(.cst (.int 4))]) [(.asg (.nm 6) (.call (.cst (.con (.ref 694))) [])),(.ret (some (.tup [(.cst (.str (s "start"))),(.loc 4),(.idx (.loc 6) (.bin .Mod (.loc 5) (.call (.cst (.con (.builtin "len"))) [(.loc 6)]))),(.cmp (.bin .Mod (.call (.cst (.con (.ref 680))) [(.loc 0),(.bin .Add (.cst (.int 12)) (.bin .Mult (.cst (.int 4)) (.loc 1)))]) (.cst (.int 2))) [.Eq] [(.cst (.int 1))])])))] []),
 (.ite (.cmp (.loc 2) [.Lt] [(.cst (.int 6))]) [(.ret (some (.tup [(.cst (.str (s "end"))),(.loc 4),(.tup []),(.cst (.bool false))])))] []),
 (.ite (.cmp (.loc 2) [.Eq] [(.cst (.int 6))]) [(.ret (some (.tup [(.cst (.str (s "char"))),(.idx (.lst [(.cst (.str (s "\u0000"))), (.cst (.str (s "x"))), (.cst (.str (s " "))), (.cst (.str (s "\t"))), (.cst (.str (s "\n"))), (.cst (.str (s "\u000c"))), (.cst (.str (s "\r"))), (.cst (.str (s "\u00a0"))), (.cst (.str (s "x")))]) (.bin .Mod (.loc 5) (.cst (.int 9))))])))] []),
 (.ite (.cmp (.loc 2) [.Eq] [(.cst (.int 7))]) [(.ret (some (.tup [(.cst (.str (s "comment"))),(.bin .Add (.cst (.str (s "c"))) (.call (.cst (.con (.type "str"))) [(.bin .Mod (.loc 5) (.cst (.int 10)))]))])))] []),
 (.ret (some (.tup [(.cst (.str (s "doctype"))),(.cst (.str (s "html"))),(.cst .none),(.cst .none),(.cst (.bool false))])))]⟩
noncomputable def J7:Fn:=⟨[(.nm 0)],1,0,[],[
 (.ret (some (.boo .And [(.cmp (.idx (.loc 0) (.cst (.int 0))) [.Eq] [(.cst (.str (s "math")))]),(.cmp (.idx (.loc 0) (.cst (.int 1))) [.In] [(.lst [(.cst (.str (s "mtext"))),(.cst (.str (s "ms"))),(.cst (.str (s "mn"))),(.cst (.str (s "mo"))),(.cst (.str (s "mi")))])])])))]⟩
noncomputable def J8:Fn:=⟨[(.nm 0)],2,0,[],[
 (.ite (.cmp (.idx (.loc 0) (.cst (.int 0))) [.Eq] [(.cst (.str (s "svg")))]) [(.ret (some (.cmp (.idx (.loc 0) (.cst (.int 1))) [.In] [(.lst [(.cst (.str (s "title"))),(.cst (.str (s "desc"))),(.cst (.str (s "foreignObject")))])])))] []),
 (.ite (.boo .Or [(.cmp (.idx (.loc 0) (.cst (.int 0))) [.Eq] [(.cst (.str (s "html")))]),(.cmp (.idx (.loc 0) (.cst (.int 1))) [.NotEq] [(.cst (.str (s "annotation-xml")))])]) [(.ret (some (.cst (.bool false))))] []),
 (.asc 1 (.comp 2 [] [0,1] false (.idx (.loc 0) (.cst (.int 2))) (some (.cmp (.loc 0) [.Eq] [(.cst (.str (s "encoding")))])) (.meth (.loc 1) 5 []))),
 (.ret (some (.cmp (.loc 1) [.In] [(.lst [(.lst [(.cst (.str (s "application/xhtml+xml")))]),(.lst [(.cst (.str (s "text/html")))])])])))]⟩
noncomputable def J9:Fn:=⟨[(.nm 0)],1,0,[],[
 (.ret (some (.boo .Or [(.cmp (.idx (.loc 0) (.cst (.int 0))) [.Eq] [(.cst (.str (s "html")))]),(.call (.cst (.con (.ref 708))) [(.loc 0)]),(.call (.cst (.con (.ref 713))) [(.loc 0)])])))]⟩
noncomputable def Fs:Fn:=⟨[(.nm 0),(.nm 1)],3,0,[],[
 (.asg (.nm 2) (.idx (.loc 1) (.cst (.int 0)))),
 (.ite (.cmp (.idx (.loc 0) (.cst (.int 0))) [.Eq] [(.cst (.str (s "html")))]) [(.ret (some (.cst (.bool true))))] []),
 (.ite (.cmp (.loc 2) [.Eq] [(.cst (.str (s "char")))]) [(.ret (some (.call (.cst (.con (.ref 720))) [(.loc 0)])))] []),
 (.ite (.cmp (.loc 2) [.NotEq] [(.cst (.str (s "start")))]) [(.ret (some (.cst (.bool false))))] []),
 (.ite (.boo .And [(.call (.cst (.con (.ref 708))) [(.loc 0)]),(.cmp (.idx (.loc 1) (.cst (.int 1))) [.NotIn] [(.lst [(.cst (.str (s "malignmark"))),(.cst (.str (s "mglyph")))])])]) [(.ret (some (.cst (.bool true))))] []),
 (.ite (.boo .And [(.cmp (.idx (.loc 0) (.cst (.int 0))) [.Eq] [(.cst (.str (s "math")))]),(.cmp (.idx (.loc 0) (.cst (.int 1))) [.Eq] [(.cst (.str (s "annotation-xml")))]),(.cmp (.idx (.loc 1) (.cst (.int 1))) [.Eq] [(.cst (.str (s "svg")))])]) [(.ret (some (.cst (.bool true))))] []),
 (.ret (some (.call (.cst (.con (.ref 713))) [(.loc 0)])))]⟩
noncomputable def Ka:Fn:=⟨[(.nm 0)],1,0,[],[
 (.ite (.cmp (.idx (.loc 0) (.cst (.int 0))) [.Eq] [(.cst (.str (s "end")))]) [(.ret (some (.cmp (.idx (.loc 0) (.cst (.int 1))) [.In] [(.lst [(.cst (.str (s "br"))),(.cst (.str (s "p")))])])))] []),
 (.ite (.cmp (.idx (.loc 0) (.cst (.int 1))) [.Eq] [(.cst (.str (s "font")))]) [(.ret (some (.cmp (.comp 2 [] [0,1] false (.idx (.loc 0) (.cst (.int 2))) (some (.cmp (.loc 0) [.In] [(.lst [(.cst (.str (s "size"))),(.cst (.str (s "face"))),(.cst (.str (s "color")))])])) (.loc 0)) [.NotEq] [(.lst [])])))] []),
 (.ret (some (.cmp (.idx (.loc 0) (.cst (.int 1))) [.In] [(.lst [(.cst (.str (s "p"))),(.cst (.str (s "br"))),(.cst (.str (s "b"))),(.cst (.str (s "span")))])])))]⟩
noncomputable def Hs:Fn:=⟨[(.nm 0),(.nm 1),(.nm 2),(.nm 3)],6,0,[],[
 (.asg (.nm 4) (.idx (.idx (.loc 0) (.cst (.str (s "stack")))) (.neg (.cst (.int 1))))),
 (.asg (.nm 5) (.lst [(.loc 1),(.loc 2),(.call (.cst (.con (.type "list"))) [(.loc 3)]),(.lst []),(.bin .Add (.idx (.loc 4) (.cst (.int 4))) (.tup [(.call (.cst (.con (.builtin "len"))) [(.idx (.loc 4) (.cst (.int 3)))])]))])),
 (.ex (.meth (.idx (.loc 4) (.cst (.int 3))) 0 [(.loc 5)])),
 (.asg (.ix (.loc 0) (.cst (.str (s "stack")))) (.bin .Add (.idx (.loc 0) (.cst (.str (s "stack")))) (.lst [(.loc 5)])))]⟩
noncomputable def Kc:Fn:=⟨[(.nm 0)],1,0,[],[
 (.ret (some (.ite (.cmp (.loc 0) [.In] [(.lst [(.cst (.str (s "svg"))),(.cst (.str (s "math")))])]) (.loc 0) (.cst (.str (s "html"))))))]⟩
noncomputable def Kd:Fn:=⟨[(.nm 0),(.nm 1)],2,0,[],[
 (.ex (.meth (.attr (.loc 0) 32) 0 [(.tup [(.cst (.str (s "body"))),(.loc 1)])])),
 (.ite (.cmp (.idx (.loc 1) (.cst (.int 0))) [.Eq] [(.cst (.str (s "start")))]) [(.ex (.call (.cst (.con (.ref 180))) [(.loc 0),(.idx (.loc 1) (.cst (.int 1))),(.idx (.loc 1) (.cst (.int 2))),(.call (.cst (.con (.ref 746))) [(.idx (.loc 1) (.cst (.int 1)))])]))] [(.ite (.boo .And [(.cmp (.idx (.loc 1) (.cst (.int 0))) [.Eq] [(.cst (.str (s "end")))]),(.cmp (.meth (.attr (.loc 0) 19) 40 []) [.Gt] [(.cst (.int 1))]),(.cmp (.idx (.attr (.attr (.loc 0) 16) 10) (.meth (.attr (.loc 0) 19) 39 [])) [.Eq] [(.idx (.loc 1) (.cst (.int 1)))])]) [(.ex (.meth (.attr (.loc 0) 19) 1 []))] [])])]⟩
noncomputable def Ke:Fn:=⟨[(.nm 0),(.nm 1)],3,0,[],[
 (.ex (.meth (.idx (.loc 0) (.cst (.str (s "notes")))) 0 [(.tup [(.cst (.str (s "body"))),(.loc 1)])])),
 (.asg (.nm 2) (.idx (.loc 0) (.cst (.str (s "stack"))))),
 (.ite (.cmp (.idx (.loc 1) (.cst (.int 0))) [.Eq] [(.cst (.str (s "start")))]) [(.ex (.call (.cst (.con (.ref 739))) [(.loc 0),(.call (.cst (.con (.ref 746))) [(.idx (.loc 1) (.cst (.int 1)))]),(.idx (.loc 1) (.cst (.int 1))),(.idx (.loc 1) (.cst (.int 2)))]))] [(.ite (.boo .And [(.cmp (.idx (.loc 1) (.cst (.int 0))) [.Eq] [(.cst (.str (s "end")))]),(.cmp (.call (.cst (.con (.builtin "len"))) [(.loc 2)]) [.Gt] [(.cst (.int 1))]),(.cmp (.idx (.idx (.loc 2) (.neg (.cst (.int 1)))) (.cst (.int 1))) [.Eq] [(.idx (.loc 1) (.cst (.int 1)))])]) [(.asg (.ix (.loc 0) (.cst (.str (s "stack")))) (.slc (.loc 2) (.neg (.cst (.int 1)))))] [])])]⟩
noncomputable def Gx:Fn:=⟨[(.nm 0),(.nm 1),(.nm 2)],4,1,[],[
 (.asg (.cl 0) (.dct [(.cst (.str (s "xlink:href"))),(.cst (.str (s "xml:lang")))] [(.cst (.str (s "xlink href"))),(.cst (.str (s "xml lang")))])),
 (.asg (.nm 3) (.idx (.loc 2) (.cst (.int 1)))),
 (.ite (.cmp (.loc 1) [.Eq] [(.cst (.str (s "svg")))]) [(.asg (.ix (.cel 0) (.cst (.str (s "viewbox")))) (.cst (.str (s "viewBox")))),(.ite (.cmp (.loc 3) [.In] [(.lst [(.cst (.str (s "foreignobject"))),(.cst (.str (s "clippath")))])]) [(.asg (.nm 3) (.ite (.cmp (.loc 3) [.Eq] [(.cst (.str (s "foreignobject")))]) (.cst (.str (s "foreignObject"))) (.cst (.str (s "clipPath")))))] [])] []),
 (.ite (.cmp (.loc 1) [.Eq] [(.cst (.str (s "math")))]) [(.asg (.ix (.cel 0) (.cst (.str (s "definitionurl")))) (.cst (.str (s "definitionURL"))))] []),
 (.ex (.call (.cst (.con (.ref 739))) [(.loc 0),(.loc 1),(.loc 3),(.comp 2 [0] [0,1] false (.idx (.loc 2) (.cst (.int 2))) none (.tup [(.meth (.cel 0) 4 [(.loc 0),(.loc 0)]),(.loc 1)]))])),
 (.ite (.idx (.loc 2) (.cst (.int 3))) [(.asg (.ix (.loc 0) (.cst (.str (s "is_acknowledged")))) (.cst (.bool true))),(.asg (.ix (.loc 0) (.cst (.str (s "stack")))) (.slc (.idx (.loc 0) (.cst (.str (s "stack")))) (.neg (.cst (.int 1)))))] [])]⟩
noncomputable def Gy:Fn:=⟨[(.nm 0),(.cl 0)],4,2,[],[
 (.asg (.cl 1) (.idx (.loc 0) (.cst (.str (s "stack"))))),
 (.asg (.nm 1) (.bin .Sub (.call (.cst (.con (.builtin "len"))) [(.cel 1)]) (.cst (.int 1)))),
 (.ite (.cmp (.meth (.idx (.idx (.cel 1) (.loc 1)) (.cst (.int 1))) 5 []) [.NotEq] [(.idx (.cel 0) (.cst (.int 1)))]) [(.ex (.meth (.idx (.loc 0) (.cst (.str (s "notes")))) 0 [(.tup [(.cst (.str (s "unexpected-end-tag"))),(.idx (.loc 0) (.cst (.str (s "mode"))))])]))] []),
 (.asg (.nm 2) (.call (.cst (.con (.builtin "max"))) [(.bin .Add (.lst [(.cst (.int 0))]) (.comp 1 [1] [0] true (.call (.cst (.con (.type "range"))) [(.loc 1)]) (some (.cmp (.idx (.idx (.cel 0) (.loc 0)) (.cst (.int 0))) [.Eq] [(.cst (.str (s "html")))])) (.loc 0)))])),
 (.asc 3 (.comp 1 [1,0] [0] true (.call (.cst (.con (.type "range"))) [(.bin .Add (.loc 2) (.cst (.int 1))),(.bin .Add (.loc 1) (.cst (.int 1)))]) (some (.cmp (.meth (.idx (.idx (.cel 0) (.loc 0)) (.cst (.int 1))) 5 []) [.Eq] [(.idx (.cel 1) (.cst (.int 1)))])) (.loc 0))),
 (.ite (.cmp (.loc 3) [.NotEq] [(.lst [])]) [(.asg (.ix (.loc 0) (.cst (.str (s "stack")))) (.slc (.cel 1) (.idx (.loc 3) (.neg (.cst (.int 1))))))] [(.ite (.cmp (.loc 1) [.Gt] [(.cst (.int 0))]) [(.ex (.call (.cst (.con (.ref 760))) [(.loc 0),(.cel 0)]))] [])])]⟩
noncomputable def Kf:Fn:=⟨[(.nm 0),(.nm 1),(.nm 2)],7,1,[],[
 (.asg (.cl 0) (.idx (.loc 0) (.cst (.str (s "stack"))))),
 (.asg (.nm 3) (.idx (.loc 2) (.cst (.int 0)))),
 (.ite (.cmp (.loc 3) [.Eq] [(.cst (.str (s "char")))]) [(.asg (.nm 4) (.idx (.loc 2) (.cst (.int 1)))),(.asg (.nm 5) (.idx (.idx (.cel 0) (.neg (.cst (.int 1)))) (.cst (.int 3)))),(.ite (.cmp (.loc 4) [.Eq] [(.cst (.str (s "\u0000")))]) [(.ex (.meth (.idx (.loc 0) (.cst (.str (s "notes")))) 0 [(.tup [(.cst (.str (s "unexpected-null-character"))), (.idx (.loc 0) (.cst (.str (s "mode"))))])])), (.asg (.nm 4) (.cst (.str (s "\ufffd"))))] [(.ite (.cmp (.loc 4) [.NotIn] [(.lst [(.cst (.str (s " "))), (.cst (.str (s "\t"))), (.cst (.str (s "\n"))), (.cst (.str (s "\u000c"))), (.cst (.str (s "\r")))])]) [(.asg (.ix (.loc 0) (.cst (.str (s "is_frameset_ok")))) (.cst (.bool false)))] [])]), (.ite (.boo .And [(.cmp (.loc 5) [.NotEq] [(.lst [])]), (.call (.cst (.con (.builtin "isinstance"))) [(.idx (.loc 5) (.neg (.cst (.int 1)))), (.cst (.con (.type "str")))])]) [(.asg (.ix (.loc 5) (.neg (.cst (.int 1)))) (.bin .Add (.idx (.loc 5) (.neg (.cst (.int 1)))) (.loc 4)))] [(.ex (.meth (.loc 5) 0 [(.loc 4)]))])] [(.ite (.cmp (.loc 3) [.Eq] [(.cst (.str (s "comment")))]) [(.ex (.meth (.idx (.idx (.cel 0) (.neg (.cst (.int 1)))) (.cst (.int 3))) 0 [(.tup [(.cst (.str (s "comment"))), (.idx (.loc 2) (.cst (.int 1)))])]))] [(.ite (.cmp (.loc 3) [.Eq] [(.cst (.str (s "doctype")))]) [(.ex (.meth (.idx (.loc 0) (.cst (.str (s "notes")))) 0 [(.tup [(.cst (.str (s "unexpected-doctype"))), (.idx (.loc 0) (.cst (.str (s "mode"))))])]))] [(.ite (.call (.cst (.con (.ref 732))) [(.loc 2)]) [(.ex (.meth (.idx (.loc 0) (.cst (.str (s "notes")))) 0 [(.tup [(.bin .Add (.bin .Add (.cst (.str (s "unexpected-"))) (.loc 3)) (.cst (.str (s "-tag")))), (.idx (.loc 0) (.cst (.str (s "mode"))))])])), (.asg (.nm 6) (.call (.cst (.con (.builtin "max"))) [(.comp 1 [0] [0] true (.call (.cst (.con (.type "range"))) [(.call (.cst (.con (.builtin "len"))) [(.cel 0)])]) (some (.call (.cst (.con (.ref 720))) [(.idx (.cel 0) (.loc 0))])) (.loc 0))])), (.asg (.ix (.loc 0) (.cst (.str (s "stack")))) (.slc (.cel 0) (.bin .Add (.loc 6) (.cst (.int 1))))), (.ex (.call (.cst (.con (.ref 760))) [(.loc 0), (.loc 2)]))] [(.ite (.cmp (.loc 3) [.Eq] [(.cst (.str (s "start")))]) [(.ex (.call (.cst (.con (.ref 765))) [(.loc 0),(.loc 1),(.loc 2)]))] [(.ex (.call (.cst (.con (.ref 770))) [(.loc 0),(.loc 2)]))])])])])])]⟩
noncomputable def Ew:Fn:=⟨[(.nm 0),(.nm 1)],4,0,[],[
 (.asg (.nm 2) (.tup [])),
 (.whl (.cmp (.loc 1) [.NotEq] [(.cst (.int 0))]) [(.asg (.nm 3) (.idx (.attr (.loc 0) 13) (.loc 1))),(.asg (.nm 2) (.bin .Add (.tup [(.meth (.idx (.attr (.loc 0) 14) (.loc 3)) 3 [(.loc 1)])]) (.loc 2))),(.asg (.nm 1) (.loc 3))]),
 (.ret (some (.loc 2)))]⟩
noncomputable def Gz:Fn:=⟨[(.nm 0),(.nm 1),(.nm 2)],7,0,[],[
 (.asg (.nm 3) (.lst [])),
 (.fen 4 5 (.idx (.attr (.loc 0) 14) (.loc 1)) [(.asg (.nm 6) (.idx (.attr (.loc 0) 8) (.loc 5))),(.ite (.cmp (.loc 6) [.Eq] [(.cst (.str (s "text")))]) [(.ex (.meth (.loc 3) 0 [(.idx (.attr (.loc 0) 12) (.loc 5))]))] [(.ite (.cmp (.loc 6) [.Eq] [(.cst (.str (s "comment")))]) [(.ex (.meth (.loc 3) 0 [(.tup [(.cst (.str (s "comment"))),(.idx (.attr (.loc 0) 12) (.loc 5))])]))] [(.ex (.meth (.loc 3) 0 [(.call (.cst (.con (.ref 787))) [(.loc 0),(.loc 5),(.bin .Add (.loc 2) (.tup [(.loc 4)]))])]))])])]),
 (.ret (some (.lst [(.idx (.attr (.loc 0) 9) (.loc 1)),(.idx (.attr (.loc 0) 10) (.loc 1)),(.comp 1 [] [0] true (.idx (.attr (.loc 0) 11) (.loc 1)) none (.call (.cst (.con (.type "tuple"))) [(.loc 0)])),(.loc 3),(.loc 2)])))]⟩
noncomputable def Bh:Fn:=⟨[(.nm 0)],19,1,[],[
 (.asg (.nm 1) (.call (.cst (.con (.ref 680))) [(.loc 0),(.cst (.int 0))])),
 (.asg (.nm 2) (.idx (.lst [(.cst (.str (s "in body"))),(.cst (.str (s "in cell")))]) (.bin .Mod (.loc 1) (.cst (.int 2))))),
 (.asg (.nm 3) (.call (.cst (.con (.ref 662))) [(.dct [(.loc 2)] [(.cst (.con (.ref 753)))])])),
 (.ex (.meth (.loc 3) 49 [(.loc 2)])),
 (.asg (.cl 0) (.attr (.loc 3) 16)),
 (.asg (.nm 4) (.attr (.loc 3) 19)),
 (.asg (.nm 5) (.lst [(.cst (.str (s "html"))),(.cst (.str (s "html"))),(.lst []),(.lst []),(.tup [(.cst (.int 0))])])),
 (.asg (.nm 6) (.dct [(.cst (.str (s "stack"))),(.cst (.str (s "notes"))),(.cst (.str (s "mode"))),(.cst (.str (s "is_frameset_ok"))),(.cst (.str (s "is_acknowledged")))] [(.lst [(.loc 5)]),(.lst []),(.loc 2),(.cst (.bool true)),(.cst (.bool false))])),
 (.ex (.meth (.loc 4) 38 [(.meth (.cel 0) 42 [(.cst (.str (s "html")))])])),
 (.ex (.meth (.cel 0) 0 [(.cst (.int 0)),(.meth (.loc 4) 39 [])])),
 (.asg (.nm 7) (.call (.cst (.con (.ref 687))) [])),
 (.asg (.nm 8) (.cmp (.bin .Mod (.bin .FloorDiv (.loc 1) (.cst (.int 2))) (.cst (.int 3))) [.Eq] [(.cst (.int 2))])),
 (.for (.nm 9) (.call (.cst (.con (.type "range"))) [(.ite (.loc 8) (.bin .Mod (.call (.cst (.con (.ref 680))) [(.loc 0),(.cst (.int 1))]) (.cst (.int 3))) (.bin .Mod (.bin .Add (.call (.cst (.con (.ref 680))) [(.loc 0),(.cst (.int 1))]) (.cst (.int 4))) (.cst (.int 7))))]) [(.asg (.tp [10,11,12]) (.idx (.loc 7) (.bin .Mod (.bin .Add (.call (.cst (.con (.ref 680))) [(.loc 0),(.bin .Add (.cst (.int 2)) (.loc 9))]) (.idx (.lst [(.cst (.int 0)),(.cst (.int 2)),(.cst (.int 0)),(.cst (.int 1)),(.cst (.int 3)),(.cst (.int 8))]) (.loc 9))) (.call (.cst (.con (.builtin "len"))) [(.loc 7)])))),(.asg (.nm 13) (.meth (.cel 0) 42 [(.loc 11),(.loc 10),(.loc 12)])),(.ex (.meth (.cel 0) 0 [(.meth (.loc 4) 39 []),(.loc 13)])),(.ex (.meth (.loc 4) 38 [(.loc 13)])),(.ex (.call (.cst (.con (.ref 739))) [(.loc 6),(.loc 10),(.loc 11),(.loc 12)]))]),
 (.asg (.nm 14) (.loc 5)),
 (.ite (.loc 8) [(.asg (.tp [10,11,12]) (.idx (.loc 7) (.bin .Mod (.call (.cst (.con (.ref 680))) [(.loc 0),(.cst (.int 8))]) (.call (.cst (.con (.builtin "len"))) [(.loc 7)])))),(.asg (.at (.loc 3) 30) (.meth (.cel 0) 42 [(.loc 11),(.loc 10),(.loc 12)])),(.asg (.nm 14) (.lst [(.loc 10),(.loc 11),(.call (.cst (.con (.type "list"))) [(.loc 12)])]))] []),
 (.for (.nm 9) (.call (.cst (.con (.type "range"))) [(.cst (.int 6))]) [(.asg (.nm 15) (.call (.cst (.con (.ref 701))) [(.loc 0),(.loc 9)])),(.asg (.nm 16) (.ite (.cmp (.call (.cst (.con (.builtin "len"))) [(.idx (.loc 6) (.cst (.str (s "stack"))))]) [.Eq] [(.cst (.int 1))]) (.loc 14) (.idx (.idx (.loc 6) (.cst (.str (s "stack")))) (.neg (.cst (.int 1)))))),(.asg (.nm 17) (.call (.cst (.con (.ref 727))) [(.loc 16),(.loc 15)])),(.asg (.nm 18) (.call (.cst (.con (.ref 673))) [(.loc 3),(.loc 15)])),(.ite (.boo .Or [(.cmp (.loc 18) [.NotEq] [(.loc 17)]),(.not (.call (.cst (.con (.builtin "isinstance"))) [(.loc 18),(.cst (.con (.type "bool")))]))]) [(.ret (some (.cst (.bool false))))] []),(.asg (.at (.loc 3) 36) (.cst (.bool false))),(.asg (.ix (.loc 6) (.cst (.str (s "is_acknowledged")))) (.cst (.bool false))),(.ite (.loc 17) [(.ex (.call (.cst (.con (.ref 753))) [(.loc 3),(.loc 15)])),(.ex (.call (.cst (.con (.ref 760))) [(.loc 6),(.loc 15)]))] [(.ex (.call (.cst (.con (.ref 243))) [(.loc 3),(.loc 15)])),(.ex (.call (.cst (.con (.ref 775))) [(.loc 6),(.idx (.loc 16) (.cst (.int 0))),(.loc 15)]))]),(.ite (.cmp (.attr (.loc 3) 36) [.NotEq] [(.idx (.loc 6) (.cst (.str (s "is_acknowledged"))))]) [(.ret (some (.cst (.bool false))))] []),(.ite (.cmp (.comp 1 [0] [0] true (.attr (.loc 4) 17) none (.call (.cst (.con (.ref 782))) [(.cel 0),(.loc 0)])) [.NotEq] [(.comp 1 [] [0] true (.idx (.loc 6) (.cst (.str (s "stack")))) none (.idx (.loc 0) (.cst (.int 4))))]) [(.ret (some (.cst (.bool false))))] [])]),
 (.ite (.boo .Or [(.cmp (.attr (.loc 3) 32) [.NotEq] [(.idx (.loc 6) (.cst (.str (s "notes"))))]),(.cmp (.attr (.loc 3) 27) [.NotEq] [(.idx (.loc 6) (.cst (.str (s "is_frameset_ok"))))]),(.cmp (.attr (.loc 3) 21) [.NotEq] [(.loc 2)])]) [(.ret (some (.cst (.bool false))))] []),
 (.ite (.boo .Or [(.not (.call (.cst (.con (.ref 673))) [(.loc 3),(.tup [(.cst (.str (s "eof")))])])),(.cmp (.attr (.attr (.loc 3) 20) 17) [.NotEq] [(.lst [])])]) [(.ret (some (.cst (.bool false))))] []),
 (.ret (some (.cmp (.comp 1 [0] [0] true (.idx (.attr (.cel 0) 14) (.cst (.int 0))) none (.call (.cst (.con (.ref 787))) [(.cel 0),(.loc 0),(.tup [(.cst (.int 0))])])) [.Eq] [(.lst [(.loc 5)])])))]⟩
noncomputable def X4:Fn:=⟨[(.nm 0),(.nm 1)],2,0,[],[
 (.asg (.at (.loc 0) 16) (.loc 1)),
 (.asg (.at (.loc 0) 17) (.lst []))]⟩
noncomputable def X5:Fn:=⟨[(.nm 0),(.nm 1)],2,0,[],[
 (.asg (.at (.loc 0) 16) (.loc 1)),
 (.asg (.at (.loc 0) 17) (.lst []))]⟩
noncomputable def Kg:Fn:=⟨[(.nm 0),(.nm 1)],2,0,[],[
 (.ex (.meth (.attr (.loc 0) 17) 0 [(.loc 1)]))]⟩
noncomputable def Kh:Fn:=⟨[(.nm 0)],1,0,[],[
 (.ite (.cmp (.call (.cst (.con (.builtin "len"))) [(.attr (.loc 0) 17)]) [.Eq] [(.cst (.int 0))]) [(.ret (some (.neg (.cst (.int 1)))))] []),
 (.ret (some (.meth (.attr (.loc 0) 17) 1 [])))]⟩
noncomputable def Ki:Fn:=⟨[(.nm 0)],1,0,[],[
 (.ite (.cmp (.call (.cst (.con (.builtin "len"))) [(.attr (.loc 0) 17)]) [.Eq] [(.cst (.int 0))]) [(.ret (some (.neg (.cst (.int 1)))))] []),
 (.ret (some (.idx (.attr (.loc 0) 17) (.bin .Sub (.call (.cst (.con (.builtin "len"))) [(.attr (.loc 0) 17)]) (.cst (.int 1))))))]⟩
noncomputable def Kj:Fn:=⟨[(.nm 0)],1,0,[],[
 (.ret (some (.call (.cst (.con (.builtin "len"))) [(.attr (.loc 0) 17)])))]⟩
noncomputable def X6:Fn:=⟨[(.nm 0)],1,0,[],[
 (.asg (.at (.loc 0) 8) (.lst [])),
 (.asg (.at (.loc 0) 9) (.lst [])),
 (.asg (.at (.loc 0) 10) (.lst [])),
 (.asg (.at (.loc 0) 11) (.lst [])),
 (.asg (.at (.loc 0) 12) (.lst [])),
 (.asg (.at (.loc 0) 13) (.lst [])),
 (.asg (.at (.loc 0) 14) (.lst [])),
 (.asg (.at (.loc 0) 15) (.dct [] [])),
 (.ex (.meth (.loc 0) 41 [(.cst (.str (s "document")))]))]⟩
noncomputable def Ft:Fn:=⟨[(.nm 0),(.nm 1),(.nm 2),(.nm 3),(.nm 4),(.nm 5)],6,0,[(.str (s "")),(.str (s "")),(.ref 2),(.str (s ""))],[
 (.ex (.meth (.attr (.loc 0) 8) 0 [(.loc 1)])),
 (.ex (.meth (.attr (.loc 0) 9) 0 [(.loc 2)])),
 (.ex (.meth (.attr (.loc 0) 10) 0 [(.loc 3)])),
 (.ex (.meth (.attr (.loc 0) 11) 0 [(.call (.cst (.con (.type "list"))) [(.loc 4)])])),
 (.ex (.meth (.attr (.loc 0) 12) 0 [(.loc 5)])),
 (.ex (.meth (.attr (.loc 0) 13) 0 [(.neg (.cst (.int 1)))])),
 (.ex (.meth (.attr (.loc 0) 14) 0 [(.lst [])])),
 (.ret (some (.bin .Sub (.call (.cst (.con (.builtin "len"))) [(.attr (.loc 0) 8)]) (.cst (.int 1)))))]⟩
noncomputable def Kk:Fn:=⟨[(.nm 0),(.nm 1),(.nm 2),(.nm 3)],5,0,[(.str (s "html")),(.ref 3)],[
 (.asg (.nm 4) (.meth (.loc 0) 41 [(.cst (.str (s "element"))),(.loc 2),(.loc 1),(.loc 3)])),
 (.ite (.boo .And [(.cmp (.loc 2) [.Eq] [(.cst (.str (s "html")))]),(.cmp (.loc 1) [.Eq] [(.cst (.str (s "template")))])]) [(.asg (.ix (.attr (.loc 0) 15) (.loc 4)) (.meth (.loc 0) 41 [(.cst (.str (s "fragment")))]))] []),
 (.ret (some (.loc 4)))]⟩
noncomputable def Kl:Fn:=⟨[(.nm 0),(.nm 1)],2,0,[],[
 (.ret (some (.meth (.loc 0) 41 [(.cst (.str (s "text"))),(.cst (.str (s ""))),(.cst (.str (s ""))),(.tup []),(.loc 1)])))]⟩
noncomputable def Km:Fn:=⟨[(.nm 0),(.nm 1)],2,0,[],[
 (.ret (some (.meth (.loc 0) 41 [(.cst (.str (s "comment"))),(.cst (.str (s ""))),(.cst (.str (s ""))),(.tup []),(.loc 1)])))]⟩
noncomputable def Fu:Fn:=⟨[(.nm 0),(.nm 1),(.nm 2),(.nm 3)],5,0,[(.int (-1))],[
 (.ite (.boo .Or [(.cmp (.loc 2) [.Eq] [(.loc 1)]),(.cmp (.loc 2) [.In] [(.call (.cst (.con (.ref 595))) [(.loc 0),(.loc 1)])])]) [.bad] []),
 (.ite (.boo .And [(.cmp (.loc 3) [.NotEq] [(.neg (.cst (.int 1)))]),(.cmp (.loc 3) [.NotIn] [(.idx (.attr (.loc 0) 14) (.loc 1))])]) [.bad] []),
 (.ite (.cmp (.loc 3) [.Eq] [(.loc 2)]) [(.ret none)] []),
 (.ex (.meth (.loc 0) 45 [(.loc 2)])),
 (.asg (.nm 4) (.call (.cst (.con (.builtin "len"))) [(.idx (.attr (.loc 0) 14) (.loc 1))])),
 (.ite (.cmp (.loc 3) [.NotEq] [(.neg (.cst (.int 1)))]) [(.asg (.nm 4) (.meth (.idx (.attr (.loc 0) 14) (.loc 1)) 3 [(.loc 3)]))] []),
 (.ex (.meth (.idx (.attr (.loc 0) 14) (.loc 1)) 2 [(.loc 4),(.loc 2)])),
 (.asg (.ix (.attr (.loc 0) 13) (.loc 2)) (.loc 1))]⟩
noncomputable def Kn:Fn:=⟨[(.nm 0),(.nm 1),(.nm 2)],3,0,[],[
 (.ex (.meth (.loc 0) 2 [(.loc 1),(.loc 2)]))]⟩
noncomputable def Ko:Fn:=⟨[(.nm 0),(.nm 1)],2,0,[],[
 (.ite (.cmp (.idx (.attr (.loc 0) 13) (.loc 1)) [.NotEq] [(.neg (.cst (.int 1)))]) [(.ex (.meth (.idx (.attr (.loc 0) 14) (.idx (.attr (.loc 0) 13) (.loc 1))) 45 [(.loc 1)])),(.asg (.ix (.attr (.loc 0) 13) (.loc 1)) (.neg (.cst (.int 1))))] [])]⟩
noncomputable def Kp:Fn:=⟨[(.nm 0),(.nm 1)],2,0,[],[
 (.ite (.not (.idx (.attr (.loc 0) 14) (.loc 1))) [(.ret (some (.neg (.cst (.int 1)))))] []),
 (.ret (some (.idx (.idx (.attr (.loc 0) 14) (.loc 1)) (.neg (.cst (.int 1))))))]⟩
noncomputable def Ht:Fn:=⟨[(.nm 0),(.nm 1),(.nm 2)],4,0,[],[
 (.for (.nm 3) (.idx (.attr (.loc 0) 11) (.loc 1)) [(.ite (.cmp (.idx (.loc 3) (.cst (.int 0))) [.Eq] [(.loc 2)]) [(.ret (some (.idx (.loc 3) (.cst (.int 1)))))] [])]),
 (.ret (some (.cst .none)))]⟩
noncomputable def X7:Fn:=⟨[(.nm 0),(.nm 1),(.nm 2)],3,0,[(.bool false)],[
 (.asg (.at (.loc 0) 18) (.loc 1)),
 (.asg (.at (.loc 0) 16) (.call (.cst (.con (.ref 584))) [])),
 (.asg (.at (.loc 0) 19) (.call (.cst (.con (.ref 467))) [(.attr (.loc 0) 16)])),
 (.asg (.at (.loc 0) 20) (.call (.cst (.con (.ref 355))) [(.attr (.loc 0) 16)])),
 (.asg (.at (.loc 0) 21) (.cst (.str (s "initial")))),
 (.asg (.at (.loc 0) 22) (.cst (.str (s "")))),
 (.asg (.at (.loc 0) 23) (.lst [])),
 (.asg (.at (.loc 0) 24) (.neg (.cst (.int 1)))),
 (.asg (.at (.loc 0) 25) (.neg (.cst (.int 1)))),
 (.asg (.at (.loc 0) 26) (.dct [] [])),
 (.asg (.at (.loc 0) 27) (.cst (.bool true))),
 (.asg (.at (.loc 0) 28) (.loc 2)),
 (.asg (.at (.loc 0) 29) (.cst (.bool false))),
 (.asg (.at (.loc 0) 30) (.neg (.cst (.int 1)))),
 (.asg (.at (.loc 0) 31) (.cst (.str (s "no-quirks")))),
 (.asg (.at (.loc 0) 32) (.lst [])),
 (.asg (.at (.loc 0) 33) (.lst [])),
 (.asg (.at (.loc 0) 34) (.cst (.str (s "")))),
 (.asg (.at (.loc 0) 35) (.cst (.bool false))),
 (.asg (.at (.loc 0) 36) (.cst (.bool false))),
 (.asg (.at (.loc 0) 37) (.cst (.bool false)))]⟩
noncomputable def Kq:Fn:=⟨[(.nm 0),(.nm 1)],2,0,[],[
 (.ex (.meth (.attr (.loc 0) 32) 0 [(.tup [(.loc 1),(.attr (.loc 0) 21)])]))]⟩
noncomputable def X8:Fn:=⟨[(.nm 0),(.nm 1)],2,0,[],[
 (.asg (.at (.loc 0) 21) (.loc 1))]⟩
noncomputable def Kr:Fn:=⟨[(.nm 0),(.nm 1),(.nm 2)],4,0,[],[
 (.ite (.cmp (.loc 1) [.NotIn] [(.attr (.loc 0) 18)]) [.bad] []),
 (.asg (.nm 3) (.idx (.attr (.loc 0) 18) (.loc 1))),
 (.ex (.call (.loc 3) [(.loc 0),(.loc 2)]))]⟩
noncomputable def Ks:Fn:=⟨[(.nm 0)],1,0,[],[
 (.ite (.boo .And [(.cmp (.meth (.attr (.loc 0) 19) 40 []) [.Eq] [(.cst (.int 1))]),(.cmp (.attr (.loc 0) 30) [.NotEq] [(.neg (.cst (.int 1)))])]) [(.ret (some (.attr (.loc 0) 30)))] []),
 (.ret (some (.meth (.attr (.loc 0) 19) 39 [])))]⟩
noncomputable def Kt:Fn:=⟨[(.nm 0)],2,0,[],[
 (.asg (.nm 1) (.meth (.loc 0) 51 [])),
 (.ret (some (.boo .And [(.cmp (.loc 1) [.NotEq] [(.neg (.cst (.int 1)))]),(.cmp (.idx (.attr (.attr (.loc 0) 16) 9) (.loc 1)) [.NotEq] [(.cst (.str (s "html")))])])))]⟩
noncomputable def fnL:List (Addr×Fn):=[(28,Jd),(35,Je),(42,Jf),(49,Jg),(56,Jh),(63,Ji),(70,Jj),(77,Gs),(84,Jk),(91,Jl),(98,Jm),(105,Jn),(112,Ho),(119,X1),(126,Jo),(133,Jp),(140,X2),(148,Jq),(155,Js),(163,Jt),(171,Ju),(180,Jv),(187,Hp),(194,Jw),(201,Jx),(208,Jy),(215,Gu),(222,Hq),(229,Gv),(236,Jz),(243,J0),(595,Hr),(673,Gw),(680,J3),(687,X3),(694,J5),(701,J6),(708,J7),(713,J8),(720,J9),(727,Fs),(732,Ka),(739,Hs),(746,Kc),(753,Kd),(760,Ke),(765,Gx),(770,Gy),(775,Kf),(782,Ew),(787,Gz),(792,Bh),(289,X4),(380,X5),(387,Kg),(394,Kh),(401,Ki),(408,Kj),(485,X6),(494,Ft),(503,Kk),(510,Kl),(517,Km),(532,Fu),(539,Kn),(546,Ko),(567,Kp),(574,Ht),(610,X7),(617,Kq),(624,X8),(631,Kr),(652,Ks),(659,Kt)]
noncomputable def mtL:List ((Addr×Nat)×Addr):=[((467,38),387),((467,1),394),((467,39),401),((467,40),408),((584,41),494),((584,42),503),((584,43),510),((584,44),517),((584,2),532),((584,0),539),((584,45),546),((584,46),567),((584,47),574),((662,48),617),((662,49),624),((662,50),631),((662,51),652),((662,52),659)]
noncomputable def daL:List (Addr×Nat):=[(355,16),(355,17),(467,16),(467,17),(584,8),(584,9),(584,10),(584,11),(584,12),(584,13),(584,14),(584,15),(662,18),(662,16),(662,19),(662,20),(662,21),(662,22),(662,23),(662,24),(662,25),(662,26),(662,27),(662,28),(662,29),(662,30),(662,31),(662,32),(662,33),(662,34),(662,35),(662,36),(662,37)]
noncomputable def Mr:List (Addr×Addr):=[(355,289),(467,380),(584,485),(662,610)]
noncomputable def tb:Tab:=⟨fun a=>fnL.lookup a,fun c n=>mtL.lookup (c,n),fun c n=>daL.contains (c,n),fun c=>Mr.lookup c⟩
end Mine
end
namespace Mine
section
set_option Elab.async false
set_option tactic.hygienic false
set_option maxRecDepth 100000
set_option bootstrap.genMatcherCode false
set_option compiler.extract_closed false
set_option genInjectivity false
set_option genSizeOf false
section
open PySem PySem.W PyProof.Rows PySem.Calls
namespace Z
noncomputable def place? (x:Str):List Str→Option Nat
 | []=>none
 | y :: r=>if y=x then some 0 else (place? x r).map (·+1)
set_option tactic.hygienic true in
theorem Cl {x:Str}:∀ {l:List Str} {i:Nat},place? x l=some i→l[i]?=some x
 | [],_,e=>by cases e
 | y :: r,i,e=>by
  unfold place? at e
  split at e
  ·rename_i q;obtain rfl:=Option.some.inj e;subst q;rfl
  ·(refine Aa (Option.map_eq_some_iff.mp e) ?_;intro j ej z_2;obtain rfl:=z_2)
   simpa using Cl ej
noncomputable def nmL:List Str:=(["append","pop","insert","index","get","lower","split","join",
"kinds","spaces","names","attrs","texts","parents","children","contents","tree","items","rules","stack","formatting","mode","original","modes","head","form","owners","is_frameset_ok","is_scripting","is_foster","context","quirks","errors","pending","wish","is_skipping","is_acknowledged","is_done",
"push","current","many","add","element","text","comment","remove","last","value","error","to","use","adjusted","is_foreign","place","is_html"]:List String).map Str.ofString
noncomputable def nm (i:Nat):Str:=match nmL[i]? with
 | some s=>s
 | none=>⟨#[0,i]⟩
noncomputable def an (s:Str):Option Nat:=place? s nmL
noncomputable def glL:List (Str×Value):=([("svg_words",.ref 28),("svg_attr_words",.ref 35),("spelled",.ref 42),("svg_name",.ref 49),("svg_attr",.ref 56),("math_attr",.ref 63),("foreign_attr",.ref 70),("adjusted",.ref 77),("is_breakout_name",.ref 84),("is_space",.ref 91),("is_upper",.ref 98),("lower",.ref 105),("lower_text",.ref 112),("is_table_part",.ref 119),("is_math_point",.ref 126),("is_html_point",.ref 133),("foster_place",.ref 140),("place_for",.ref 148),("insert_sign",.ref 155),("insert_comment",.ref 163),("make",.ref 171),("insert_element",.ref 180),("value_of",.ref 187),("is_breakout",.ref 194),("foreign_sign",.ref 201),("holds_html",.ref 208),("break_out",.ref 215),("foreign_start",.ref 222),("foreign_end",.ref 229),("is_script_end",.ref 236),("foreign_content",.ref 243),("Formatting",.ref 355),("OpenStack",.ref 467),("Tree",.ref 584),("above",.ref 595),("Builder",.ref 662),("is_html_turn",.ref 673),("_law_digit",.ref 680),("_law_shapes",.ref 687),("_law_attrs",.ref 694),("_law_token",.ref 701),("_law_is_text_point",.ref 708),("_law_is_html_point",.ref 713),("_law_holds",.ref 720),("_law_is_turn",.ref 727),("_law_leaves",.ref 732),("_law_add",.ref 739),("_law_space",.ref 746),("_law_body",.ref 753),("_law_body_due",.ref 760),("_law_start_due",.ref 765),("_law_end_due",.ref 770),("_law_foreign_due",.ref 775),("_law_path",.ref 782),("_law_plain",.ref 787),
("len",.builtin "len"),("max",.builtin "max"),("chr",.builtin "chr"),("ord",.builtin "ord"),("isinstance",.builtin "isinstance"),("list",.type "list"),("tuple",.type "tuple"),("str",.type "str"),("range",.type "range"),("bool",.type "bool"),("enumerate",.type "enumerate")]:List (String×Value)).map fun p=>(Str.ofString p.1,p.2)
noncomputable def gl (s:Str):Option Value:=glL.lookup s
noncomputable abbrev BB:List (Nat×Addr):=[(1,172),(2,486),(3,495)]
theorem Hu {α:Type} {l:List α} (h:l.Nodup) {i j:Nat} {x:α} (hi:l[i]?=some x) (hj:l[j]?=some x):i=j:=by
 rcases List.getElem?_eq_some_iff.mp hi with ⟨a,e1⟩
 rcases List.getElem?_eq_some_iff.mp hj with ⟨b,e2⟩
 rcases Nat.lt_trichotomy i j with q | q | q
 ·exact absurd (e1.trans e2.symm) (List.pairwise_iff_getElem.mp h i j a b q)
 ·exact q
 ·exact absurd (e2.trans e1.symm) (List.pairwise_iff_getElem.mp h j i b a q)
theorem Kw {i:Nat} (h:55≤i):nm i=⟨#[0,i]⟩:=by
 unfold nm
 rw [List.getElem?_eq_none (by show 55≤i;exact h)]
theorem Kx {i:Nat} (h:i < 55):nmL[i]?=some (nm i):=by
 unfold nm
 rw [List.getElem?_eq_getElem (by show i < 55;exact h)]
theorem X9:nmL.Nodup:=by decide +kernel
theorem Qq:∀ x∈nmL,x.cps[0]?≠some 0:=by decide +kernel
theorem Qr (i j:Nat) (h:nm i=nm j):i=j:=by
 refine oe (Nat.lt_or_ge i 55) (fun hi=>?_) (fun hi=>?_)<;>refine oe (Nat.lt_or_ge j 55) (fun hj=>?_) (fun hj=>?_)
 ·exact Hu X9 (Kx hi) (by rw [h];exact Kx hj)
 ·have:=Qq _ (List.mem_of_getElem? (Kx hi))
  rw [h,Kw hj] at this
  exact absurd rfl this
 ·have:=Qq _ (List.mem_of_getElem? (Kx hj))
  rw [← h,Kw hi] at this
  exact absurd rfl this
 ·rw [Kw hi,Kw hj] at h
  simpa using h
structure Wd where
 prog:Program
 w:World
 hb:Heap
 K:Frag
noncomputable def Nw (hb:Heap) (a:Addr):Prop:=hb.get? a=none∧(a==sysModules)=false
section rel
variable (wd:Wd)
noncomputable def Ah (π:List Addr):V→Value→Prop
 | .none,x=>x=.none
 | .bool b,x=>x=.bool b
 | .int i,x=>∃ t,x=.int i t
 | .str s,x=>∃ t,x=.str s t
 | .ref i,x=>∃ a,π[i]?=some a∧x=.ref a
 | .con c,x=>x=c
noncomputable def VRels (π:List Addr):List V→List Value→Prop
 | [],l=>l=[]
 | v :: vs,l=>∃ x xs,l=x :: xs∧Ah π v x∧VRels π vs xs
noncomputable def Bq (π:List Addr):List (Str×V)→List (Str×Value)→Prop
 | [],l=>l=[]
 | (k,v) :: vs,l=>∃ x xs,l=(k,x) :: xs∧Ah π v x∧Bq π vs xs
noncomputable def Cm (π:List Addr):List (Nat×V)→List DictEntry→Prop
 | [],l=>l=[]
 | (k,v) :: vs,l=>∃ t x xs,l=⟨PyData.keyHash wd.w.params (nm k),.str (nm k) t,x⟩ :: xs∧Ah π v x∧Cm π vs xs
noncomputable def Sz (vs:List V):Prop:=vs.length≤lim+1
noncomputable def Bb (π:List Addr):O→Obj→Prop
 | .list vs,o=>∃ xs n,o={cls:=.type "list",dict:=none,data:=.seq xs n,slots:=#[]}∧VRels π vs xs.toList∧Sz vs
 | .tuple vs,o=>∃ xs n,o={cls:=.type "tuple",dict:=none,data:=.seq xs n,slots:=#[]}∧VRels π vs xs.toList∧Sz vs
 | .dict es,o=>∃ ds n kvs,o.ExactDict∧o.data=.dict ds n∧KeysOf (strKind wd.prog wd.w) ds∧Pairs (strKind wd.prog wd.w) ds.toList kvs∧(kvs.map (·.1)).Nodup∧Bq π es kvs
 | .ns es,o=>∃ ds n,o={cls:=.type "dict",dict:=none,data:=.dict ds n,slots:=#[]}∧Cm wd π es ds.toList
 | .inst C d,o=>∃ a,π[d]?=some a∧o={cls:=.ref C,dict:=some a,data:=.plain,slots:=#[]}
 | .cell v,o=>∃ x,o.data=.cell x∧(match v,x with | some v,some x=>Ah π v x | none,none=>True | _,_=>False)
 | .range a b,o=>∃ t u z,o={cls:=.type "range",dict:=none,data:=.fields #[.int a t,.int b u,.int 1 z],slots:=#[]}
structure Inv (π:List Addr) (σ:H) (X:List (Addr×Obj)) (h:Heap):Prop where
 base:∀ b o,wd.hb.get? b=some o→h.get? b=some o
 len:π.length=σ.length
 obj:∀ (i:Nat) (a:Addr) (o:O),π[i]?=some a→σ[i]?=some o→∃ ob,h.get? a=some ob∧Bb wd π o ob
 ext:∀ p∈X,h.get? p.1=some p.2
 new:∀ (i:Nat) (a:Addr),fz≤i→π[i]?=some a→wd.hb.get? a=none
 newX:∀ p∈X,Nw wd.hb p.1
 nd:(π++X.map (·.1)).Nodup
 sysb:∃ b o,sysModules < b∧wd.hb.get? b=some o
 sys:∀ a∈π,(a==sysModules)=false
 lenf:fz≤σ.length
end rel
theorem Ah.mono {π:List Addr} (ρ:List Addr) {v:V} {x:Value} (h:Ah π v x):Ah (π++ρ) v x:=by
 induction v with
 | ref i =>
  (refine Aa h ?_;try clear h;intro a ha e)
  refine ⟨a,?_,e⟩
  rw [List.getElem?_append_left (List.getElem?_eq_some_iff.mp ha).1]
  exact ha
 | _=>exact h
theorem VRels.mono {π:List Addr} (ρ:List Addr):∀ {vs:List V} {xs:List Value},VRels π vs xs→VRels (π++ρ) vs xs
 | [],_,h=>h
 | _ :: _,_,h=>by
  (refine Ai h ?_;try clear h;intro x xs e hv hr)
  exact ⟨x,xs,e,hv.mono ρ,VRels.mono ρ hr⟩
theorem Bq.mono {π:List Addr} (ρ:List Addr):∀ {vs:List (Str×V)} {xs:List (Str×Value)},Bq π vs xs→Bq (π++ρ) vs xs
 | [],_,h=>h
 | (_,_) :: _,_,h=>by
  (refine Ai h ?_;try clear h;intro x xs e hv hr)
  exact ⟨x,xs,e,hv.mono ρ,Bq.mono ρ hr⟩
theorem Cm.mono {wd:Wd} {π:List Addr} (ρ:List Addr):∀ {vs:List (Nat×V)} {xs:List DictEntry},Cm wd π vs xs→Cm wd (π++ρ) vs xs
 | [],_,h=>h
 | (_,_) :: _,_,h=>by
  (refine Gq h ?_;try clear h;intro t x xs e hv hr)
  exact ⟨t,x,xs,e,hv.mono ρ,Cm.mono ρ hr⟩
theorem get_mono {π:List Addr} (ρ:List Addr) {i:Nat} {a:Addr} (h:π[i]?=some a):(π++ρ)[i]?=some a:=by
 rw [List.getElem?_append_left (List.getElem?_eq_some_iff.mp h).1]
 exact h
theorem Bb.mono {wd:Wd} {π:List Addr} (ρ:List Addr) {o:O} {ob:Obj} (h:Bb wd π o ob):Bb wd (π++ρ) o ob:=by
 induction o with
 | list vs=>(refine Ai h ?_;try clear h;intro xs n e r z);exact ⟨xs,n,e,r.mono ρ,z⟩
 | tuple vs=>(refine Ai h ?_;try clear h;intro xs n e r z);exact ⟨xs,n,e,r.mono ρ,z⟩
 | dict es=>(refine Ev h ?_;try clear h;intro ds n kvs a b c d e r);exact ⟨ds,n,kvs,a,b,c,d,e,r.mono ρ⟩
 | ns es=>(refine Cu h ?_;try clear h;intro ds n e r);exact ⟨ds,n,e,r.mono ρ⟩
 | inst C d=>(refine Aa h ?_;try clear h;intro a ha e);exact ⟨a,get_mono ρ ha,e⟩
 | cell v =>
  (refine Aa h ?_;try clear h;intro x e r)
  refine ⟨x,e,?_⟩
  cases v<;>cases x<;>first | exact r | exact Ah.mono ρ r
 | range a b=>exact h
theorem Bb.notFreed {wd:Wd} {π:List Addr} {o:O} {ob:Obj} (h:Bb wd π o ob):ob.isFreed=false:=by
 induction o with
 | list vs=>(refine Cu h ?_;try clear h;intro xs n z_2 r;obtain rfl:=z_2);rfl
 | tuple vs=>(refine Cu h ?_;try clear h;intro xs n z_2 r;obtain rfl:=z_2);rfl
 | dict es=>(refine Ev h ?_;try clear h;intro ds n kvs a b c d e r);rcases ob with ⟨c',d',dt,sl⟩;dsimp only at b;subst b;rfl
 | ns es=>(refine Cu h ?_;try clear h;intro ds n z_2 r;obtain rfl:=z_2);rfl
 | inst C d=>(refine Aa h ?_;try clear h;intro a ha z_2;obtain rfl:=z_2);rfl
 | cell v=>(refine Aa h ?_;try clear h;intro x e r);rcases ob with ⟨c',d',dt,sl⟩;dsimp only at e;subst e;rfl
 | range a b=>(refine Jc h ?_;try clear h;intro t u z z_3;obtain rfl:=z_3);rfl
section inv
variable {wd:Wd} {h h':Heap} {π:List Addr} {σ:H} {X:List (Addr×Obj)}
theorem Inv.lt (I:Inv wd π σ X h) {i:Nat} {a:Addr} (ha:π[i]?=some a):a < h.objs.size:=by
 have hi:=(List.getElem?_eq_some_iff.mp ha).1
 rw [I.len] at hi
 (refine Aa (I.obj i a _ ha (List.getElem?_eq_getElem hi)) ?_;intro ob e _)
 exact Heap.lt_size e
theorem Inv.at {i:Nat} {a:Addr} {o:O} (I:Inv wd π σ X h) (ha:π[i]?=some a) (ho:σ[i]?=some o):∃ ob,h.get? a=some ob∧Bb wd π o ob:=I.obj i a o ha ho
theorem Inv.keep (I:Inv wd π σ X h) (k:∀ b o,h.get? b=some o→h'.get? b=some o):Inv wd π σ X h' :=
 ⟨fun b o e=>k b o (I.base b o e),I.len,fun i a o ha ho=>let ⟨ob,e,r⟩:=I.obj i a o ha ho;⟨ob,k _ _ e,r⟩,fun p hp=>k _ _ (I.ext p hp),I.new,I.newX,I.nd,I.sysb,I.sys,I.lenf⟩
theorem Inv.add (I:Inv wd π σ X h) {a:Addr} {o:O} {ob:Obj} (k:∀ b o,h.get? b=some o→h'.get? b=some o) (hle:h.objs.size≤a) (e:h'.get? a=some ob)
  (r:Bb wd (π++[a]) o ob):Inv wd (π++[a]) (σ++[o]) X h':=by
 have ha:h.get? a=none:=Heap.get?_none_of_le hle
 have hπ:∀ i b,π[i]?=some b→b≠a:=fun i b hi q=>by
  have hl:=(List.getElem?_eq_some_iff.mp hi).1
  rw [I.len] at hl
  (refine Aa (I.obj i b _ hi (List.getElem?_eq_getElem hl)) ?_;intro _ e' _)
  rw [q,ha] at e';cases e'
 have hX:∀ p∈X,p.1≠a:=fun p hp q=>by
  have:=I.ext p hp
  rw [q,ha] at this;cases this
 have hn:wd.hb.get? a=none:=by
  cases q:wd.hb.get? a with
  | none=>rfl
  | some o'=>have:=I.base _ _ q;rw [ha] at this;cases this
 refine ⟨fun b o e=>k b o (I.base b o e),by simp [I.len],fun i b o' hi ho'=>?_,fun p hp=>k _ _ (I.ext p hp),fun i b hf hi=>?_,I.newX,?_,I.sysb,fun b hb'=>?_,by rw [List.length_append];exact Nat.le_trans I.lenf (Nat.le_add_right _ _)⟩
 ·by_cases hl:i < π.length
  ·rw [List.getElem?_append_left hl] at hi
   rw [List.getElem?_append_left (I.len▸hl)] at ho'
   (refine Aa (I.obj i b o' hi ho') ?_;intro ob' e' r')
   exact ⟨ob',k _ _ e',r'.mono _⟩
  ·have e1:i=π.length:=by
    have:=(List.getElem?_eq_some_iff.mp hi).1
    rw [List.length_append,List.length_singleton] at this
    exact Nat.le_antisymm (Nat.le_of_lt_succ this) (Nat.not_lt.mp hl)
   subst e1
   rw [List.getElem?_append_right (Nat.le_refl _),Nat.sub_self] at hi
   rw [I.len,List.getElem?_append_right (Nat.le_refl _),Nat.sub_self] at ho'
   obtain rfl:=Option.some.inj hi;cases ho'
   exact ⟨ob,e,r⟩
 ·by_cases hl:i < π.length
  ·rw [List.getElem?_append_left hl] at hi
   exact I.new i b hf hi
  ·have e1:i=π.length:=by
    have:=(List.getElem?_eq_some_iff.mp hi).1
    rw [List.length_append,List.length_singleton] at this
    exact Nat.le_antisymm (Nat.le_of_lt_succ this) (Nat.not_lt.mp hl)
   subst e1
   rw [List.getElem?_append_right (Nat.le_refl _),Nat.sub_self] at hi
   obtain rfl:=Option.some.inj hi
   exact hn
 ·rw [List.append_assoc]
  have nd:=I.nd
  rw [List.nodup_append] at nd ⊢
  refine ⟨nd.1,?_,?_⟩
  ·rw [List.nodup_append]
   refine ⟨by simp,nd.2.1,?_⟩
   intro x hx y hy q
   rw [List.mem_singleton] at hx
   (refine Aa (List.mem_map.mp hy) ?_;intro p hp z_2;obtain rfl:=z_2)
   exact hX p hp (q.symm.trans hx)
  ·intro x hx y hy q
   refine oe (List.mem_append.mp hy) (fun hy=>?_) (fun hy=>?_)
   ·rw [List.mem_singleton] at hy
    (refine Ad (List.mem_iff_getElem?.mp hx) ?_;intro i hi)
    exact hπ i x hi (q.trans hy)
   ·exact nd.2.2 x hx y hy q
 ·refine oe (List.mem_append.mp hb') (fun hb'=>?_) (fun hb'=>?_)
  ·exact I.sys b hb'
  ·rw [List.mem_singleton] at hb'
   subst hb'
   (refine Cu I.sysb ?_;intro c o' hc eo)
   have:=Heap.lt_size (I.base _ _ eo)
   rw [beq_eq_false_iff_ne]
   exact Nat.ne_of_gt (Nat.lt_of_lt_of_le (Nat.lt_trans hc this) hle)
theorem Inv.push (I:Inv wd π σ X h) {o:O} {ob:Obj} (r:Bb wd (π++[h.objs.size]) o ob):Inv wd (π++[h.objs.size]) (σ++[o]) X (h.push ob) :=
 I.add (fun _ _ e=>Heap.get?_push_of_some _ e) (Nat.le_refl _) (Heap.get?_push_size _ r.notFreed) r
theorem Inv.garbage (I:Inv wd π σ X h) (ob:Obj):Inv wd π σ X (h.push ob):=I.keep fun _ _ e=>Heap.get?_push_of_some _ e
theorem Inv.turn (I:Inv wd π σ X h) {i:Nat} {a:Addr} {o:O} {ob:Obj} (ha:π[i]?=some a) (hf:fz≤i) (hs:Heap.SameBut a h h') (e:h'.get? a=some ob) (r:Bb wd π o ob) :
  Inv wd π (σ.set i o) X h':=by
 have hn:=I.new i a hf ha
 have hi:=(List.getElem?_eq_some_iff.mp ha).1
 have nd:=I.nd
 rw [List.nodup_append] at nd
 refine ⟨fun b ob' e'=>?_,by rw [List.length_set];exact I.len,fun j b o' hj ho'=>?_,fun p hp=>?_,I.new,I.newX,I.nd,I.sysb,I.sys,by rw [List.length_set];exact I.lenf⟩
 ·refine (hs.2 b fun q=>?_).trans (I.base b ob' e')
  rw [q,hn] at e';cases e'
 ·by_cases q:j=i
  ·subst q
   rw [ha] at hj;obtain rfl:=Option.some.inj hj
   rw [List.getElem?_set_self (by rw [← I.len];exact hi)] at ho'
   cases ho'
   exact ⟨ob,e,r⟩
  ·rw [List.getElem?_set_ne (Ne.symm q)] at ho'
   (refine Aa (I.obj j b o' hj ho') ?_;intro ob' e' r')
   refine ⟨ob',(hs.2 b fun z=>q ?_).trans e',r'⟩
   exact Hu nd.1 hj (z▸ha)
 ·refine (hs.2 p.1 fun z=>?_).trans (I.ext p hp)
  exact nd.2.2 a (List.mem_of_getElem? ha) p.1 (List.mem_map_of_mem hp) z.symm
theorem Inv.hold (I:Inv wd π σ X h) {a:Addr} {ob:Obj} (k:∀ b o,h.get? b=some o→h'.get? b=some o) (hle:h.objs.size≤a) (e:h'.get? a=some ob):Inv wd π σ ((a,ob) :: X) h':=by
 have ha:h.get? a=none:=Heap.get?_none_of_le hle
 have hsy:(a==sysModules)=false:=by
  (refine Cu I.sysb ?_;intro c o' hc eo)
  have:=Heap.lt_size (I.base _ _ eo)
  rw [beq_eq_false_iff_ne]
  exact Nat.ne_of_gt (Nat.lt_of_lt_of_le (Nat.lt_trans hc this) hle)
 have hπ:a ∉ π:=fun q=>by
  (refine Ad (List.mem_iff_getElem?.mp q) ?_;intro i hi)
  have:=I.lt hi
  have hl:=(List.getElem?_eq_some_iff.mp hi).1
  rw [I.len] at hl
  (refine Aa (I.obj i a _ hi (List.getElem?_eq_getElem hl)) ?_;intro _ e' _)
  rw [ha] at e';cases e'
 have hX:a ∉ X.map (·.1):=fun q=>by
  (refine Aa (List.mem_map.mp q) ?_;intro p hp z)
  have:=I.ext p hp
  rw [z,ha] at this;cases this
 have hn:wd.hb.get? a=none:=by
  cases q:wd.hb.get? a with
  | none=>rfl
  | some o'=>have:=I.base _ _ q;rw [ha] at this;cases this
 refine ⟨fun b o e=>k b o (I.base b o e),I.len,fun i b o hi ho=>let ⟨ob',e',r'⟩:=I.obj i b o hi ho;⟨ob',k _ _ e',r'⟩,fun p hp=>?_,I.new,fun p hp=>?_,?_,I.sysb,I.sys,I.lenf⟩
 ·focus (refine oe (List.mem_cons.mp hp) ?_ ?_;rotate_left;(intro hp);rotate_right;(intro z_o;obtain rfl:=z_o))
  ·exact e
  ·exact k _ _ (I.ext p hp)
 ·focus (refine oe (List.mem_cons.mp hp) ?_ ?_;rotate_left;(intro hp);rotate_right;(intro z_o;obtain rfl:=z_o))
  ·exact ⟨hn,hsy⟩
  ·exact I.newX p hp
 ·have nd:=I.nd
  rw [List.nodup_append] at nd ⊢
  rw [List.map_cons,List.nodup_cons]
  refine ⟨nd.1,⟨hX,nd.2.1⟩,fun x hx y hy z=>?_⟩
  focus (refine oe (List.mem_cons.mp hy) ?_ ?_;rotate_left;(intro hy);rotate_right;(intro z_o;obtain rfl:=z_o))
  ·exact hπ (z▸hx)
  ·exact nd.2.2 x hx y hy z
theorem Inv.drop {p:Addr×Obj} (I:Inv wd π σ (p :: X) h):Inv wd π σ X h:=by
 refine ⟨I.base,I.len,I.obj,fun q hq=>I.ext q (.tail _ hq),I.new,fun q hq=>I.newX q (.tail _ hq),?_,I.sysb,I.sys,I.lenf⟩
 have nd:=I.nd
 rw [List.nodup_append,List.map_cons,List.nodup_cons] at nd
 rw [List.nodup_append]
 exact ⟨nd.1,nd.2.1.2,fun x hx y hy=>nd.2.2 x hx y (.tail _ hy)⟩
theorem Inv.turnX (I:Inv wd π σ X h) {a:Addr} {ob ob':Obj} (hm:∃ Y Z,X=Y++(a,ob) :: Z) (hs:Heap.SameBut a h h') (e:h'.get? a=some ob') :
  ∀ Y Z,X=Y++(a,ob) :: Z→Inv wd π σ (Y++(a,ob') :: Z) h':=by
 intro Y Z eX
 subst eX
 have nd:=I.nd
 rw [List.nodup_append] at nd
 have hn:=I.newX (a,ob) (List.mem_append_right _ (.head _))
 have em:(Y++(a,ob') :: Z).map (·.1)=(Y++(a,ob) :: Z).map (·.1):=by simp
 have nX:=nd.2.1
 rw [List.map_append,List.map_cons,List.nodup_append,List.nodup_cons] at nX
 have hY:∀ p∈Y,p.1≠a:=fun p hp z=>nX.2.2 p.1 (List.mem_map_of_mem hp) a (.head _) z
 have hZ:∀ p∈Z,p.1≠a:=fun p hp z=>nX.2.1.1 (List.mem_map.mpr ⟨p,hp,z⟩)
 refine ⟨fun b o e'=>(hs.2 b fun z=>?_).trans (I.base b o e'),I.len,fun i b o hi ho=>?_,fun p hp=>?_,I.new,fun p hp=>?_,by rw [em];exact I.nd,I.sysb,I.sys,I.lenf⟩
 ·rw [z,hn.1] at e';cases e'
 ·(refine Aa (I.obj i b o hi ho) ?_;intro ob'' e'' r'')
  refine ⟨ob'',(hs.2 b fun z=>?_).trans e'',r''⟩
  exact nd.2.2 b (List.mem_of_getElem? hi) a (by simp) z
 ·refine oe (List.mem_append.mp hp) (fun hp=>?_) (fun hp=>?_)
  ·exact (hs.2 p.1 (hY p hp)).trans (I.ext p (List.mem_append_left _ hp))
  ·focus (refine oe (List.mem_cons.mp hp) ?_ ?_;rotate_left;(intro hp);rotate_right;(intro z_o;obtain rfl:=z_o))
   ·exact e
   ·exact (hs.2 p.1 (hZ p hp)).trans (I.ext p (List.mem_append_right _ (.tail _ hp)))
 ·refine oe (List.mem_append.mp hp) (fun hp=>?_) (fun hp=>?_)
  ·exact I.newX p (List.mem_append_left _ hp)
  ·focus (refine oe (List.mem_cons.mp hp) ?_ ?_;rotate_left;(intro hp);rotate_right;(intro z_o;obtain rfl:=z_o))
   ·exact hn
   ·exact I.newX p (List.mem_append_right _ (.tail _ hp))
end inv
structure AOk (n:Nat) (A:Around):Prop where
 handled:A.handled=none
 depth:A.depth+n < recursionLimit
 units:A.units+10*n+60 < cLine
theorem AOk.deep {n j:Nat} {A:Around} (h:AOk n A) (hj:j≤60):A.units+j < cLine:=Nat.lt_of_le_of_lt (Nat.le_trans (Nat.add_le_add_left hj _) (by rw [Nat.add_assoc];exact Nat.add_le_add_left (Nat.le_add_left _ _) _)) h.units
theorem AOk.lim {n:Nat} {A:Around} (h:AOk n A):A.depth < recursionLimit:=by have:=h.depth;exact I9 ‹_›
theorem Ya {n m:Nat} (h:m=n) (hz:n≤lim):m≤sizeLine:=by
 rw [h,sizeLine_eq];exact Nat.le_trans hz (by decide)
theorem Ms {m:Nat} {vs:List V} (h:m=vs.length) (hz:Sz vs):((m:Nat):Int) < 2 ^ 63:=by
 subst h
 exact Int.lt_of_le_of_lt (Int.ofNat_le.mpr hz) (by decide)
theorem Ky {m:Nat} {vs:List V} (h:m=vs.length) (hz:Sz vs):m≤sizeLine:=by
 rw [h,sizeLine_eq];exact Nat.le_trans hz (by decide)
theorem Fv {n:Nat} (h:n≤lim):n≤sizeLine:=by rw [sizeLine_eq];unfold lim at h;exact o_0 ‹_› (by exact rfl)
section prims
variable {wd:Wd} {π:List Addr} {σ σ':H} {X:List (Addr×Obj)} {A:Around} {E:Value→Shared→Prop} {s:Shared}
theorem VRels.len {π:List Addr}:∀ {vs:List V} {xs:List Value},VRels π vs xs→xs.length=vs.length
 | [],_,h=>by subst h;rfl
 | _ :: _,_,h=>by
  (refine Ai h ?_;try clear h;intro x xs z_2 _ r;obtain rfl:=z_2)
  rw [List.length_cons,List.length_cons,r.len]
theorem VRels.get {π:List Addr}:∀ {vs:List V} {xs:List Value} {i:Nat} {v:V},VRels π vs xs→vs[i]?=some v→∃ x,xs[i]?=some x∧Ah π v x
 | [],_,_,_,_,e=>by simp at e
 | _ :: _,_,0,_,h,e=>by
  (refine Ai h ?_;try clear h;intro x xs z_2 a r;obtain rfl:=z_2)
  obtain rfl:=Option.some.inj e
  exact ⟨x,rfl,a⟩
 | _ :: _,_,i+1,_,h,e=>by
  (refine Ai h ?_;try clear h;intro x xs z_2 a r;obtain rfl:=z_2)
  exact r.get (i:=i) (by simpa using e)
theorem VRels.append {π:List Addr}:∀ {vs ws:List V} {xs ys:List Value},VRels π vs xs→VRels π ws ys→VRels π (vs++ws) (xs++ys)
 | [],_,_,_,h,k=>by subst h;exact k
 | _ :: _,_,_,_,h,k=>by
  (refine Ai h ?_;try clear h;intro x xs z_2 a r;obtain rfl:=z_2)
  exact ⟨x,_,rfl,a,r.append k⟩
theorem VRels.single {π:List Addr} {v:V} {x:Value} (h:Ah π v x):VRels π [v] [x]:=⟨x,[],rfl,h,rfl⟩
theorem VRels.cons {π:List Addr} {v:V} {x:Value} {vs:List V} {xs:List Value} (h:Ah π v x) (r:VRels π vs xs):VRels π (v :: vs) (x :: xs):=⟨x,xs,rfl,h,r⟩
theorem VRels.take {π:List Addr}:∀ (n:Nat) {vs:List V} {xs:List Value},VRels π vs xs→VRels π (vs.take n) (xs.take n)
 | 0,_,_,_=>by rw [List.take_zero,List.take_zero];exact rfl
 | n+1,[],_,h=>by subst h;exact rfl
 | n+1,_ :: _,_,h=>by
  (refine Ai h ?_;try clear h;intro x xs z_2 a r;obtain rfl:=z_2)
  exact ⟨x,_,rfl,a,r.take n⟩
theorem VRels.drop {π:List Addr}:∀ (n:Nat) {vs:List V} {xs:List Value},VRels π vs xs→VRels π (vs.drop n) (xs.drop n)
 | 0,_,_,h=>h
 | n+1,[],_,h=>by subst h;exact rfl
 | n+1,_ :: _,_,h=>by
  (refine Ai h ?_;try clear h;intro x xs z_2 a r;obtain rfl:=z_2)
  exact r.drop n
theorem VRels.set {π:List Addr} {v:V} {x:Value} (hv:Ah π v x):∀ (i:Nat) {vs:List V} {xs:List Value},VRels π vs xs→VRels π (vs.set i v) (xs.set i x)
 | _,[],_,h=>by subst h;exact rfl
 | 0,_ :: _,_,h=>by
  (refine Ai h ?_;try clear h;intro y xs z_2 a r;obtain rfl:=z_2)
  exact ⟨x,_,rfl,hv,r⟩
 | i+1,_ :: _,_,h=>by
  (refine Ai h ?_;try clear h;intro y xs z_2 a r;obtain rfl:=z_2)
  exact ⟨y,_,rfl,a,r.set hv i⟩
theorem list_at (I:Inv wd π σ X s.heap) {i:Nat} {a:Addr} {vs:List V} (ha:π[i]?=some a) (ho:σ[i]?=some (.list vs)):∃ xs n,IsL s.heap a xs n∧VRels π vs xs.toList∧Sz vs:=by
 rcases I.at ha ho with ⟨ob,e,xs,n,rfl,r⟩
 exact ⟨xs,n,e,r⟩
theorem Ex (I:Inv wd π σ X s.heap) {i:Nat} {a:Addr} {vs:List V} (ha:π[i]?=some a) (ho:σ[i]?=some (.tuple vs)) :
  ∃ xs n,s.heap.get? a=some {cls:=.type "tuple",dict:=none,data:=.seq xs n,slots:=#[]}∧VRels π vs xs.toList∧Sz vs:=by
 rcases I.at ha ho with ⟨ob,e,xs,n,rfl,r⟩
 exact ⟨xs,n,e,r⟩
theorem nn {α:Type} {a:α} {P:Prop} (h:none=some a):P:=nomatch h
theorem nf {P:Prop} (h:false=true):P:=(Bool.false_ne_true h).elim
theorem B4 {α:Type} {c:Prop} [Decidable c] {x:Option α} {r:α} {P:Prop} (h:(if c then x else none)=some r) (k:c→x=some r→P):P:=by
 by_cases hc:c
 ·rw [if_pos hc] at h;exact k hc h
 ·rw [if_neg hc] at h;exact nn h
theorem Fw {α:Type} {b:Bool} {x:Option α} {r:α} {P:Prop} (h:gd b x=some r) (k:b=true→x=some r→P):P:=by
 induction b with
 | false=>exact nn h
 | true=>exact k rfl h
theorem Bl {α:Type} {a b:Nat} {x:Option α} {r:α} {P:Prop} (h:gd (Nat.ble a b) x=some r) (k:a≤b→x=some r→P):P:=Fw h fun hb hx=>k (Nat.le_of_ble_eq_true hb) hx
theorem Cn {α:Type} {v:V} {F:Nat→Option α} {r:α} {P:Prop} (h:vR v F=some r) (k:∀ i,v=.ref i→F i=some r→P):P:=by
 induction v with
 | ref i=>exact k i rfl h
 | _=>exact nn h
theorem Cz {α:Type} {v:V} {F:Int→Option α} {r:α} {P:Prop} (h:vI v F=some r) (k:∀ i,v=.int i→F i=some r→P):P:=by
 induction v with
 | int i=>exact k i rfl h
 | _=>exact nn h
theorem Ey {α:Type} {v:V} {F:Str→Option α} {r:α} {P:Prop} (h:vS v F=some r) (k:∀ i,v=.str i→F i=some r→P):P:=by
 induction v with
 | str i=>exact k i rfl h
 | _=>exact nn h
theorem b_e {α β:Type} {x:Option α} {f:α→Option β} {c:β} {P:Prop} (h:x.bind f=some c) (k:∀ a,x=some a→f a=some c→P):P:=by
 induction x with
 | none=>exact nn h
 | some a=>exact k a rfl h
theorem o1_e {α β:Type} {f:α→β} {x:Option α} {c:β} {M:β→Prop} (h:x.map f=some c) (k:∀ a,x=some a→M (f a)):M c:=by
 induction x with
 | none=>exact nn h
 | some a=>obtain rfl:=Option.some.inj h;exact k a rfl
theorem Db {α:Type} {F:List V→Option α} {r:α} {P:Prop} {i:Nat} {a:Addr} (h:onL σ[i]? F=some r) (I:Inv wd π σ X s.heap) (ha:π[i]?=some a)
  (k:∀ vs xs n,σ[i]?=some (.list vs)→IsL s.heap a xs n→VRels π vs xs.toList→xs.size=vs.length→Sz vs→F vs=some r→P):P:=by
 cases ho:σ[i]? with
 | none=>rw [ho] at h;exact nn h
 | some o =>
  rw [ho] at h
  induction o with
  | list vs =>
   (refine Ai (list_at I ha ho) ?_;intro xs n hL q z)
   exact k vs xs n ho hL q (Array.length_toList.symm.trans q.len) z h
  | _=>exact nn h
theorem Qv {α:Type} {F:List V→Option α} {r:α} {P:Prop} {i:Nat} {a:Addr} (h:onT σ[i]? F=some r) (I:Inv wd π σ X s.heap) (ha:π[i]?=some a)
  (k:∀ vs xs n,σ[i]?=some (.tuple vs)→s.heap.get? a=some {cls:=.type "tuple",dict:=none,data:=.seq xs n,slots:=#[]}→VRels π vs xs.toList→xs.size=vs.length→Sz vs→F vs=some r→P):P:=by
 cases ho:σ[i]? with
 | none=>rw [ho] at h;exact nn h
 | some o =>
  rw [ho] at h
  induction o with
  | tuple vs =>
   (refine Ai (Ex I ha ho) ?_;intro xs n hL q z)
   exact k vs xs n ho hL q (Array.length_toList.symm.trans q.len) z h
  | _=>exact nn h
theorem Kz {α:Type} {F:List V→Option α} {r:α} {P:Prop} {i:Nat} {a:Addr} (h:onS σ[i]? F=some r) (I:Inv wd π σ X s.heap) (ha:π[i]?=some a)
  (k:∀ vs xs n c,((c="list"∧σ[i]?=some (.list vs))∨(c="tuple"∧σ[i]?=some (.tuple vs)))→s.heap.get? a=some {cls:=.type c,dict:=none,data:=.seq xs n,slots:=#[]}→VRels π vs xs.toList→xs.size=vs.length→Sz vs→F vs=some r→P):P:=by
 cases ho:σ[i]? with
 | none=>rw [ho] at h;exact nn h
 | some o =>
  rw [ho] at h
  induction o with
  | list vs =>
   (refine Ai (list_at I ha ho) ?_;intro xs n hL q z)
   exact k vs xs n _ (.inl ⟨rfl,ho⟩) hL q (Array.length_toList.symm.trans q.len) z h
  | tuple vs =>
   (refine Ai (Ex I ha ho) ?_;intro xs n hL q z)
   exact k vs xs n _ (.inr ⟨rfl,ho⟩) hL q (Array.length_toList.symm.trans q.len) z h
  | _=>exact nn h
noncomputable def Hv (h:Heap) (x:Value) (d:PyData) (n:Nat):Prop:=(∃ as,Reads h x d as)∧d.canLay0=true∧d.depth≤n
theorem Qw {h:Heap} {v:V} {x:Value} {d:PyData} (hv:Ah π v x) (e:pd0 v=some d) (n:Nat):Hv h x d n:=by
 induction v with
 | none=>subst hv;obtain rfl:=Option.some.inj e;exact ⟨⟨_,.none⟩,rfl,Nat.zero_le _⟩
 | bool b=>subst hv;obtain rfl:=Option.some.inj e;exact ⟨⟨_,.bool b⟩,rfl,Nat.zero_le _⟩
 | int b=>(refine Ad hv ?_;try clear hv;intro t z_1;obtain rfl:=z_1);obtain rfl:=Option.some.inj e;exact ⟨⟨_,.int b t⟩,rfl,Nat.zero_le _⟩
 | str b =>
  (refine Ad hv ?_;try clear hv;intro t z_1;obtain rfl:=z_1)
  exact B4 e fun q e=>by obtain rfl:=Option.some.inj e;exact ⟨⟨_,.str b t⟩,P2.symm.trans q,Nat.zero_le _⟩
 | _=>exact nn e
theorem K0 {f:V→Option PyData} {n:Nat} {h:Heap} (ih:∀ {v:V} {x:Value} {d:PyData},Ah π v x→f v=some d→Hv h x d n):∀ {vs:List V} {xs:List Value} {ds:List PyData},
  VRels π vs xs→Eb f vs=some ds→(∃ as,ReadsAll h xs ds as)∧PyData.canLayAll0 ds=true∧PyData.depthAll ds≤n
 | [],xs,ds,hv,e=>by subst hv;obtain rfl:=Option.some.inj e;exact ⟨⟨_,.nil⟩,rfl,Nat.zero_le _⟩
 | v :: vs,xs,ds,hv,e=>by
  (refine Ai hv ?_;try clear hv;intro x xs z_2 a r;obtain rfl:=z_2)
  have e':(match f v,Eb f vs with
   | some d,some ds=>some (d :: ds)
   | _,_=>none)=some ds:=e
  cases h1:f v with
  | none=>rw [h1] at e';exact nn e'
  | some d =>
   cases h2:Eb f vs with
   | none=>rw [h1,h2] at e';exact nn e'
   | some ds' =>
    rw [h1,h2] at e'
    cases e'
    (refine As (ih a h1) ?_;intro z_0 c dp;refine Ad z_0 ?_;intro as q)
    (refine As (K0 ih r h2) ?_;intro z_0 c' dp';refine Ad z_0 ?_;intro bs q')
    exact ⟨⟨_,.cons q q'⟩,Bool.and_eq_true_iff.mpr ⟨c,c'⟩,Nat.max_le.mpr ⟨dp,dp'⟩⟩
theorem Fx (I:Inv wd π σ X s.heap):∀ (n:Nat) {v:V} {x:Value} {d:PyData},Ah π v x→pd σ n v=some d→Hv s.heap x d n
 | 0,v,x,d,hv,e=>Qw hv e 0
 | n+1,v,x,d,hv,e=>by
  induction v with
  | ref i =>
   (refine Aa hv ?_;try clear hv;intro a ha z_2;obtain rfl:=z_2)
   have e':(match σ[i]? with
    | some (.list vs)=>(Eb (pd σ n) vs).map .list
    | some (.tuple vs)=>(Eb (pd σ n) vs).map .tuple
    | _=>none)=some d:=e
   cases ho:σ[i]? with
   | none=>rw [ho] at e';exact nn e'
   | some o =>
    rw [ho] at e'
    induction o with
    | list vs =>
     (refine Ai (list_at I ha ho) ?_;intro xs m hl r _)
     refine o1_e (f:=PyData.list) (M:=fun d=>Hv s.heap (.ref a) d (n+1)) e' fun ds hds=>?_
     (refine As (K0 (Fx I n) r hds) ?_;intro z_0 c dp;refine Ad z_0 ?_;intro as q)
     exact ⟨⟨_,.list hl rfl rfl q⟩,c,Nat.succ_le_succ dp⟩
    | tuple vs =>
     (refine Ai (Ex I ha ho) ?_;intro xs m hl r _)
     refine o1_e (f:=PyData.tuple) (M:=fun d=>Hv s.heap (.ref a) d (n+1)) e' fun ds hds=>?_
     (refine As (K0 (Fx I n) r hds) ?_;intro z_0 c dp;refine Ad z_0 ?_;intro as q)
     exact ⟨⟨_,.tuple hl rfl rfl q⟩,c,Nat.succ_le_succ dp⟩
    | _=>exact nn e'
  | _=>exact Qw hv e _
theorem Qz (I:Inv wd π σ X s.heap) (n:Nat) {vs:List V} {xs:List Value} {ds:List PyData} (h:VRels π vs xs) (e:pds σ n vs=some ds):(∃ as,ReadsAll s.heap xs ds as)∧PyData.canLayAll0 ds=true∧PyData.depthAll ds≤n :=
 K0 (Fx I n) h e
theorem Yb {v:V} {x:Value} {b:Bool} {Q:Bool→Shared→Prop} (I:Inv wd π σ X s.heap) (hv:Ah π v x) (e:Az σ v=some b) (k:∀ t',Q b {s with toks:=t'}) :
  wpAny (model wd.prog wd.w) A (truthy x) Q E s:=by
 induction v with
 | none=>subst hv;obtain rfl:=Option.some.inj e;exact fun _ _ _=>k s.toks
 | bool c=>subst hv;obtain rfl:=Option.some.inj e;exact wpAny_truthy_bool (k s.toks)
 | ref i =>
  (refine Aa hv ?_;try clear hv;intro a ha z_2;obtain rfl:=z_2)
  refine Db e I ha fun vs xs n _ hL r hl hz e=>?_
  obtain rfl:=Option.some.inj e
  refine wpAny_truthy_list (IsL.isList hL) (Ms hl hz) ?_
  have:xs.isEmpty=vs.isEmpty:=by
   rw [Bool.eq_iff_iff,Array.isEmpty_iff,List.isEmpty_iff,← Array.size_eq_zero_iff,← List.length_eq_zero_iff,hl]
  rw [this]
  exact k _
 | _=>exact nn e
end prims
section prims
variable {wd:Wd} {π:List Addr} {σ σ':H} {X:List (Addr×Obj)} {A:Around} {E:Value→Shared→Prop} {s:Shared}
theorem K1 {π:List Addr}:∀ {es:List (Str×V)} {kvs:List (Str×Value)},Bq π es kvs→∀ k:Str,
  (es.lookup k=none∧valueAt kvs k=none)∨∃ v x,es.lookup k=some v∧valueAt kvs k=some x∧Ah π v x
 | [],_,h,k=>by subst h;exact .inl ⟨rfl,rfl⟩
 | (x,v) :: es,_,h,k=>by
  (refine Ai h ?_;try clear h;intro y ys z_2 a r;obtain rfl:=z_2)
  by_cases q:x=k
  ·subst q
   exact .inr ⟨v,y,by simp,by simp [valueAt],a⟩
  ·haveI q':(k==x)=false:=by simp [Ne.symm q]
   haveI e1:valueAt ((x,y) :: ys) k=valueAt ys k:=by simp [valueAt,q]
   rw [List.lookup_cons,q',e1]
   exact K1 r k
theorem Mt (I:Inv wd π σ X s.heap) {i:Nat} {a:Addr} {es:List (Str×V)} (ha:π[i]?=some a) (ho:σ[i]?=some (.dict es)):∃ kvs,s.heap.DictOf (strKind wd.prog wd.w) a kvs∧Bq π es kvs:=by
 rcases I.at ha ho with ⟨ob,e,ds,n,kvs,h1,h2,h3,h4,h5,r⟩
 exact ⟨kvs,⟨ob,ds,n,e,h1,h2,h3,h4,h5⟩,r⟩
theorem Q0 {α:Type} {F:List (Str×V)→Option α} {r:α} {P:Prop} {i:Nat} {a:Addr} (h:onD σ[i]? F=some r) (I:Inv wd π σ X s.heap) (ha:π[i]?=some a)
  (k:∀ es kvs,s.heap.DictOf (strKind wd.prog wd.w) a kvs→Bq π es kvs→F es=some r→P):P:=by
 cases ho:σ[i]? with
 | none=>rw [ho] at h;exact nn h
 | some o =>
  rw [ho] at h
  induction o with
  | dict es =>
   (refine Aa (Mt I ha ho) ?_;intro kvs hD q)
   exact k es kvs hD q h
  | _=>exact nn h
theorem Q1 {wd:Wd} {h:Heap} {a:Addr} (D:h.DictOf (strKind wd.prog wd.w) a []):h.MapOf (intKind wd.prog wd.w) a (fun _=>none):=by
 (refine Ev D ?_;try clear D;intro o ds ep e h1 h2 _ h4 _)
 have hz:ds.toList=[]:=by cases q:ds.toList with
  | nil=>rfl
  | cons x r=>rw [q] at h4;cases h4
 have hz':ds=#[]:=by rw [← Array.toArray_toList (xs:=ds),hz]
 subst hz'
 exact ⟨o,#[],ep,e,h1,h2,fun _ h=>by simp at h,fun _=>rfl⟩
noncomputable def isX (x:Str) (y:Value):Bool:=match y with
 | .str z _=>z==x
 | _=>false
theorem K3 {π:List Addr} {x:Str}:∀ {vs:List V} {xs:List Value} {c:Bool},VRels π vs xs→Dm x vs=some c→(∀ y,y∈xs→∃ z t,y=.str z t)∧xs.any (isX x)=c
 | [],_,_,h,e=>by subst h;obtain rfl:=Option.some.inj e;exact ⟨fun _ h=>(nomatch h),rfl⟩
 | v :: vs,_,c,h,e=>by
  (refine Ai h ?_;try clear h;intro y ys z_2 a r;obtain rfl:=z_2)
  refine Ey e fun z ez e=>?_
  subst ez
  (refine Ad a ?_;try clear a;intro t z_1;obtain rfl:=z_1)
  cases vs with
  | nil=>cases r;obtain rfl:=Option.some.inj e;exact ⟨fun y hy=>⟨z,t,List.mem_singleton.mp hy⟩,Bool.or_false _⟩
  | cons v' vs'=>exact o1_e (f:=fun b=>(z==x)||b) (M:=fun c=>(∀ y,y∈Value.str z t :: ys→∃ z t,y=Value.str z t)∧(Value.str z t :: ys).any (isX x)=c) e fun b hb =>
    ⟨fun y hy=>(List.mem_cons.mp hy).elim (fun h=>⟨z,t,h⟩) ((K3 r hb).1 y),congrArg ((z==x)||·) (K3 r hb).2⟩
theorem Q2 {σ:H} {x:V} {vs:List V} {c:Bool} {P:Prop} (h:inS σ x vs=some c) (k1:∀ z,x=.str z→Dm z vs=some c→P) (k2:inG σ x vs=some c→P):P:=by
 induction x with
 | str z=>exact k1 z rfl h
 | _=>exact k2 h
theorem K4 {z:Str} {u:Tok} {xs:Array Value} (h:∀ y,y∈xs.toList→∃ z t,y=.str z t) (y:Value) (hy:y∈xs):SeqAt.EqAt A.in1 s y (.str z u) (isX z y):=by
 (refine A3 (h y (Array.mem_toList_iff.mpr hy)) ?_;intro w t z_2;obtain rfl:=z_2)
 exact SeqAt.EqAt.str_str w t z u
noncomputable def InR (wd:Wd) (A:Around) (E:Value→Shared→Prop) (s:Shared) (x y:Value) (c:Bool):Prop :=
  (∀ Q:Value→Shared→Prop,(∀ t',Q (.bool c) {s with toks:=t'})→wpAny (model wd.prog wd.w) A (compareOp .In x y) Q E s) ∧
  (∀ Q:Value→Shared→Prop,(∀ t',Q (.bool (!c)) {s with toks:=t'})→wpAny (model wd.prog wd.w) A (compareOp .NotIn x y) Q E s)
theorem Q3 {a b:V} {x y:Value} {c:Bool} {n:Nat} (hA:AOk n A)
  (I:Inv wd π σ X s.heap) (ha:Ah π a x) (hb':Ah π b y) (e:inA σ a b=some c):InR wd A E s x y c:=by
 haveI hu:∀ {m k:Nat},k≤Ax→A.units+1+min m k < cLine:=fun {m k} h=>by
  rw [Nat.add_assoc]
  exact hA.deep (Nat.le_trans (Nat.add_le_add_left (Nat.le_trans (Nat.min_le_right m k) h) 1) (by decide))
 refine Cn e fun i ei e1=>?_
 subst ei
 (refine Aa hb' ?_;try clear hb';intro l hl z_2;obtain rfl:=z_2)
 cases ho:σ[i]? with
 | none=>rw [ho] at e1;exact nn e1
 | some o =>
  rw [ho] at e1
  induction o with
  | list vs =>
   (refine Ai (list_at I hl ho) ?_;intro xs m hL r _)
   refine Q2 e1 (fun z ez e2=>?_) fun e=>b_e e fun d h1 e=>o1_e (M:=InR wd A E s x (.ref l)) e fun ds h2=>?_
   ·subst ez
    (refine Ad ha ?_;try clear ha;intro u z_1;obtain rfl:=z_1)
    haveI q:=K3 r e2
    haveI q2:=Array.any_toList.symm.trans q.2
    exact ⟨fun Q k=>SeqAt.in_listAt _ (IsL.isList hL) (K4 q.1) (q2▸k s.toks),fun Q k=>SeqAt.notIn_listAt _ (IsL.isList hL) (K4 q.1) (q2▸k s.toks)⟩
   ·(refine As (Fx I _ ha h1) ?_;intro z_0 c1 d1;refine Ad z_0 ?_;intro as q)
    (refine As (Qz I _ r h2) ?_;intro z_0 c2 d2;refine Ad z_0 ?_;intro bs q')
    exact ⟨fun Q k=>SeqAt.in_list_reads (.list hL rfl rfl q') q c2 c1 (hu d1) (k s.toks),fun Q k=>SeqAt.notIn_list_reads (.list hL rfl rfl q') q c2 c1 (hu d1) (k s.toks)⟩
  | tuple vs =>
   (refine Ai (Ex I hl ho) ?_;intro xs m hL r _)
   refine Q2 e1 (fun z ez e2=>?_) fun e=>b_e e fun d h1 e=>o1_e (M:=InR wd A E s x (.ref l)) e fun ds h2=>?_
   ·subst ez
    (refine Ad ha ?_;try clear ha;intro u z_1;obtain rfl:=z_1)
    haveI q:=K3 r e2
    haveI q2:=Array.any_toList.symm.trans q.2
    exact ⟨fun Q k=>SeqAt.in_tupleAt _ ⟨_,hL,rfl,_,rfl⟩ (K4 q.1) (q2▸k s.toks),fun Q k=>SeqAt.notIn_tupleAt _ ⟨_,hL,rfl,_,rfl⟩ (K4 q.1) (q2▸k s.toks)⟩
   ·(refine As (Fx I _ ha h1) ?_;intro z_0 c1 d1;refine Ad z_0 ?_;intro as q)
    (refine As (Qz I _ r h2) ?_;intro z_0 c2 d2;refine Ad z_0 ?_;intro bs q')
    exact ⟨fun Q k=>SeqAt.in_tuple_reads (.tuple hL rfl rfl q') q c2 c1 (hu d1) (k s.toks),fun Q k=>SeqAt.notIn_tuple_reads (.tuple hL rfl rfl q') q c2 c1 (hu d1) (k s.toks)⟩
  | dict es =>
   (refine Aa (Mt I hl ho) ?_;intro kvs hD r)
   haveI hsys:=I.sys l (List.mem_of_getElem? hl)
   induction a with
   | str z =>
    (refine Ad ha ?_;try clear ha;intro t z_1;obtain rfl:=z_1)
    haveI q:(valueAt kvs z).isSome=(es.lookup z).isSome:=(K1 r z).elim (fun h=>by rw [h.1,h.2];rfl) fun ⟨_,_,e1,e2,_⟩=>by rw [e1,e2];rfl
    haveI q':=q.trans (Option.some.inj e1)
    exact ⟨fun Q k=>wpAny_in_of (strKind_is wd.prog wd.w z t) hsys hD.mapOf (q'.symm▸k _),fun Q k=>wpAny_notIn_of (strKind_is wd.prog wd.w z t) hsys hD.mapOf (q'.symm▸k _)⟩
   | int z =>
    refine Fw e1 fun hz e=>?_
    (refine Ad ha ?_;try clear ha;intro t z_1;obtain rfl:=z_1)
    induction es with
    | cons _ _=>exact nomatch hz
    | nil =>
     obtain rfl:=Option.some.inj e
     cases r
     exact ⟨fun Q k=>wpAny_in_of (intKind_is wd.prog wd.w z t) hsys (Q1 hD) (k _),fun Q k=>wpAny_notIn_of (intKind_is wd.prog wd.w z t) hsys (Q1 hD) (k _)⟩
   | _=>exact nn e1
  | _=>exact nn e1
theorem Q4 {σ:H} {a b:V} {F:Bool→Bool} {c:Bool} {P:Prop} (h:eqA σ a b F=some c) (k1:∀ x y,a=.str x→b=.str y→F (x==y)=c→P) (k2:eqG σ a b F=some c→P):P:=by
 induction a with
 | str x=>induction b with
  | str y=>exact k1 x y rfl rfl (Option.some.inj h)
  | _=>exact k2 h
 | _=>exact k2 h
theorem Yc {op:CmpOp} {a b:V} {x y:Value} {c:Bool} {Q:Value→Shared→Prop} {n:Nat} (hA:AOk n A)
  (I:Inv wd π σ X s.heap) (ha:Ah π a x) (hb':Ah π b y) (e:A6 σ op a b=some c) (k:∀ t',Q (.bool c) {s with toks:=t'}) :
  wpAny (model wd.prog wd.w) A (compareOp op x y) Q E s:=by
 have eq:∀ {F:Bool→Bool},eqG σ a b F=some c→(∀ d1 d2 as bs,Reads s.heap x d1 as→Reads s.heap y d2 bs→d1.canLay0=true→d2.canLay0=true→A.units+min d1.depth d2.depth < cLine→F (PyData.eqv d1 d2)=c→wpAny (model wd.prog wd.w) A (compareOp op x y) Q E s)→wpAny (model wd.prog wd.w) A (compareOp op x y) Q E s:=fun e kk =>
  b_e e fun d1 h1 e=>o1_e (M:=fun z=>z=c→_) e (fun d2 h2 ez=>by
   (refine As (Fx I _ ha h1) ?_;intro z_0 c1 p1;refine Ad z_0 ?_;intro as q)
   (refine As (Fx I _ hb' h2) ?_;intro z_0 c2 p2;refine Ad z_0 ?_;intro bs q')
   exact kk d1 d2 as bs q q' c1 c2 (hA.deep (Nat.le_trans (Nat.min_le_left _ _) (Nat.le_trans p1 (by decide)))) ez) rfl
 haveI ii:∀ {F:Int→Int→Bool},(vI a fun x=>vI b fun y=>some (F x y))=some c→(∀ i j t u,F i j=c→wpAny (model wd.prog wd.w) A (compareOp op (.int i t) (.int j u)) Q E s)→wpAny (model wd.prog wd.w) A (compareOp op x y) Q E s:=fun e kk =>
  Cz e fun i ei e=>Cz e fun j ej e=>by
   subst ei;subst ej
   (refine Ad ha ?_;try clear ha;intro t z_1;obtain rfl:=z_1);(refine Ad hb' ?_;try clear hb';intro u z_1;obtain rfl:=z_1)
   exact kk i j t u (Option.some.inj e)
 induction op with
 | Eq =>
  refine Q4 (F:=fun c=>c) e (fun z w ez ew ec=>?_) fun e=>eq (F:=fun c=>c) e fun d1 d2 as bs q q' c1 c2 hu ez=>SeqAt.compareEq_reads q q' c1 c2 hu ((show PyData.eqv d1 d2=c from ez)▸k s.toks)
  subst ez;subst ew
  (refine Ad ha ?_;try clear ha;intro t z_1;obtain rfl:=z_1);(refine Ad hb' ?_;try clear hb';intro u z_1;obtain rfl:=z_1)
  exact P.eq_str (by rw [SeqAt.str_beq];exact (show (z==w)=c from ec)▸k s.toks)
 | NotEq =>
  refine Q4 (F:=not) e (fun z w ez ew ec=>?_) fun e=>eq (F:=not) e fun d1 d2 as bs q q' c1 c2 hu ez=>SeqAt.compareNe_reads q q' c1 c2 hu ((show (!PyData.eqv d1 d2)=c from ez)▸k s.toks)
  subst ez;subst ew
  (refine Ad ha ?_;try clear ha;intro t z_1;obtain rfl:=z_1);(refine Ad hb' ?_;try clear hb';intro u z_1;obtain rfl:=z_1)
  exact P.ne_str (by rw [bne,SeqAt.str_beq];exact (show (!(z==w))=c from ec)▸k s.toks)
 | Lt=>exact ii e fun i j t u ez=>P.lt_int (ez▸k _)
 | Gt=>exact ii e fun i j t u ez=>P.gt_int (ez▸k _)
 | GtE=>exact ii e fun i j t u ez=>P.ge_int (ez▸k _)
 | LtE =>
  induction a with
  | int i=>exact ii (F:=fun x y=>decide (x≤y)) e fun i j t u ez=>P.le_int (ez▸k _)
  | str z =>
   refine Ey e fun j ej e=>?_
   subst ej
   (refine Ad ha ?_;try clear ha;intro t z_1;obtain rfl:=z_1);(refine Ad hb' ?_;try clear hb';intro u z_1;obtain rfl:=z_1);obtain rfl:=Option.some.inj e;exact P.le_str (k _)
  | _=>exact nn e
 | Is =>
  induction b with
  | none=>induction a with
   | none=>cases ha;cases hb';obtain rfl:=Option.some.inj e;exact wpAny_is_self (by rfl) (k _)
   | str z=>(refine Ad ha ?_;try clear ha;intro t z_1;obtain rfl:=z_1);cases hb';cases e;exact wpAny_is_other (by rfl) (by intro x;cases x) (k _)
   | _=>exact nn e
  | _=>exact nn e
 | IsNot =>
  induction b with
  | none=>induction a with
   | none=>cases ha;cases hb';obtain rfl:=Option.some.inj e;exact wpAny_isNot_self (by rfl) (k _)
   | str z=>(refine Ad ha ?_;try clear ha;intro t z_1;obtain rfl:=z_1);cases hb';cases e;exact wpAny_isNot_other (by rfl) (by intro x;cases x) (k _)
   | _=>exact nn e
  | _=>exact nn e
 | In=>exact (Q3 hA I ha hb' e).1 Q k
 | NotIn =>
  refine o1_e (f:=fun b=>!b) (M:=fun c=>(∀ t',Q (.bool c) {s with toks:=t'})→_) e (fun b' e' k=>?_) k
  exact (Q3 hA I ha hb' e').2 Q k
end prims
noncomputable def Kv (wd:Wd) (X:List (Addr×Obj)) (s:Shared) (Q:Value→Shared→Prop) (π:List Addr) (v:V) (σ':H):Prop :=
 ∀ (ρ:List Addr) (x:Value) (h':Heap) (t':Nat),Inv wd (π++ρ) σ' X h'→Ah (π++ρ) v x→Q x ⟨h',s.gens,s.drawn,t',s.os⟩
noncomputable def Ku (wd:Wd) (X:List (Addr×Obj)) (s:Shared) (Q:Unit→Shared→Prop) (π:List Addr) (σ':H):Prop :=
 ∀ (ρ:List Addr) (h':Heap) (t':Nat),Inv wd (π++ρ) σ' X h'→Q () ⟨h',s.gens,s.drawn,t',s.os⟩
section prims
variable {wd:Wd} {π:List Addr} {σ σ':H} {X:List (Addr×Obj)} {A:Around} {E:Value→Shared→Prop} {s:Shared} {Q:Value→Shared→Prop} {v:V}
theorem Kv.here (k:Kv wd X s Q π v σ) {x:Value} {h':Heap} {t':Nat} (I:Inv wd π σ X h') (hv:Ah π v x):Q x ⟨h',s.gens,s.drawn,t',s.os⟩ :=
 k [] x h' t' (by rw [List.append_nil];exact I) (by rw [List.append_nil];exact hv)
theorem Ku.here {Q:Unit→Shared→Prop} (k:Ku wd X s Q π σ) {h':Heap} {t':Nat} (I:Inv wd π σ X h'):Q () ⟨h',s.gens,s.drawn,t',s.os⟩ :=
 k [] h' t' (by rw [List.append_nil];exact I)
theorem Kv.new {o:O} (I:Inv wd π σ X s.heap) (k:Kv wd X s Q π (.ref σ.length) (σ++[o])) {a:Addr} {ob:Obj} {h':Heap} {t':Nat}
  (kp:∀ b o,s.heap.get? b=some o→h'.get? b=some o) (ha:s.heap.objs.size≤a) (e:h'.get? a=some ob) (r:Bb wd (π++[a]) o ob):Q (.ref a) ⟨h',s.gens,s.drawn,t',s.os⟩:=by
 refine k [a] _ h' t' (I.add kp ha e r) ⟨a,?_,rfl⟩
 rw [← I.len,List.getElem?_append_right (Nat.le_refl _),Nat.sub_self];rfl
theorem Kv.pushed {o:O} (I:Inv wd π σ X s.heap) (k:Kv wd X s Q π (.ref σ.length) (σ++[o])) {ob:Obj} {t':Nat}
  (r:Bb wd (π++[s.heap.objs.size]) o ob):Q (.ref s.heap.objs.size) ⟨s.heap.push ob,s.gens,s.drawn,t',s.os⟩ :=
 k.new I (fun _ _ e=>Heap.get?_push_of_some _ e) (Nat.le_refl _) (Heap.get?_push_size _ r.notFreed) r
theorem Bb.ofList {π:List Addr} {vs:List V} {xs:List Value} (r:VRels π vs xs) {ys:Array Value} (e:ys.toList=xs) (n:Nat) (z:Sz vs):Bb wd π (.list vs) {cls:=.type "list",dict:=none,data:=.seq ys n,slots:=#[]} :=
 ⟨_,_,rfl,e▸r,z⟩
theorem Bb.ofTuple {π:List Addr} {vs:List V} {xs:List Value} (r:VRels π vs xs) {ys:Array Value} (e:ys.toList=xs) (n:Nat) (z:Sz vs):Bb wd π (.tuple vs) {cls:=.type "tuple",dict:=none,data:=.seq ys n,slots:=#[]} :=
 ⟨_,_,rfl,e▸r,z⟩
theorem Q5 {vs ws:List V} (h:vs.length+ws.length≤lim):Sz (vs++ws):=Nat.le_trans (Nat.le_of_eq List.length_append) (Nat.le_succ_of_le h)
theorem Yd {op:Operator} {a b:V} {x y:Value} (I:Inv wd π σ X s.heap) (ha:Ah π a x) (hb':Ah π b y) {p:V×H} (e:Ce σ op a b=some p) (k:Kv wd X s Q π p.1 p.2) :
  wpAny (model wd.prog wd.w) A (binaryOp op x y) Q E s:=by
 have ii:∀ {F:Int→Int→Option (V×H)},(vI a fun x=>vI b fun y=>F x y)=some p→(∀ i j t u,F i j=some p→wpAny (model wd.prog wd.w) A (binaryOp op (.int i t) (.int j u)) Q E s)→wpAny (model wd.prog wd.w) A (binaryOp op x y) Q E s:=fun e kk =>
  Cz e fun i ei e=>Cz e fun j ej e=>by
   subst ei;subst ej
   (refine Ad ha ?_;try clear ha;intro t z_1;obtain rfl:=z_1);(refine Ad hb' ?_;try clear hb';intro u z_1;obtain rfl:=z_1)
   exact kk i j t u e
 induction op with
 | Sub=>exact ii e fun i j t u e=>by obtain rfl:=Option.some.inj e;exact P.sub_int (k.here I ⟨_,rfl⟩)
 | Mod =>
  refine ii e fun i j t u e=>?_
  by_cases hz:j=0
  ·rw [if_pos hz] at e;exact nn e
  ·rw [if_neg hz] at e;obtain rfl:=Option.some.inj e;exact mod_int' hz (k.here I ⟨_,rfl⟩)
 | Mult=>exact ii e fun i j t u e=>B4 e fun hz e=>by subst hz;obtain rfl:=Option.some.inj e;exact PyProof.Rows.mul_int (k.here I ⟨_,rfl⟩) (IntMulOk.of_left (by decide))
 | FloorDiv=>exact ii e fun i j t u e=>B4 e fun hz e=>by subst hz;obtain rfl:=Option.some.inj e;exact floordiv_int (by decide) (k.here I ⟨_,rfl⟩) (.inl (by rw [Builtin.divisionGoesByPylong];rfl))
 | Add =>
  induction a with
  | int i=>exact ii (F:=fun x y=>some (.int (x+y),σ)) e fun i j t u e=>by obtain rfl:=Option.some.inj e;exact P.add_int (k.here I ⟨_,rfl⟩)
  | str z =>
   refine Ey e fun j ej e1=>Bl e1 fun hz e2=>?_
   subst ej
   (refine Ad ha ?_;try clear ha;intro t z_1;obtain rfl:=z_1);(refine Ad hb' ?_;try clear hb';intro u z_1;obtain rfl:=z_1)
   obtain rfl:=Option.some.inj e2
   exact add_str (fun t' tk=>k.here I ⟨_,rfl⟩) (Fv hz)
  | ref i =>
   refine Cn e fun j ej e1=>?_
   clear e
   subst ej
   have e:=e1
   clear e1
   (refine Aa ha ?_;try clear ha;intro a ha z_2;obtain rfl:=z_2);(refine Aa hb' ?_;try clear hb';intro b hb'' z_2;obtain rfl:=z_2)
   cases ho:σ[i]? with
   | none=>rw [ho] at e;exact nn e
   | some o =>
    rw [ho] at e
    induction o with
    | list vs =>
     refine Db e I hb'' fun ws ys m ho2 hL' r' l2 _ e=>Bl e fun hz e=>?_
     obtain rfl:=Option.some.inj e
     (refine Ai (list_at I ha ho) ?_;intro xs n hL r _)
     have l1:=Array.length_toList.symm.trans r.len
     exact P.add_list hL hL' (k.pushed I (.ofList ((r.append r').mono _) Array.toList_append _ (Q5 hz))) (by rw [l1,l2];exact Fv hz)
    | tuple vs =>
     refine Qv e I hb'' fun ws ys m ho2 hL' r' l2 _ e=>Bl e fun hz e=>Fw e fun he e=>?_
     (refine Ai (Ex I ha ho) ?_;intro xs n hL r _)
     have l1:=Array.length_toList.symm.trans r.len
     have hne:¬ xs.isEmpty=true:=by
      rw [Array.isEmpty_iff_size_eq_zero,l1]
      induction vs with
      | nil=>exact nf he
      | cons _ _=>exact Nat.succ_ne_zero _
     cases ws with
     | nil =>
      obtain rfl:=Option.some.inj e
      exact concat_meets ⟨_,hL,rfl⟩ ⟨_,hL',rfl⟩ noFill_tuple_add seq_tuple_add PySem.F.slot_tuple_add PySem.F.entry_tuple_add (PySem.F.args_tuple_add_2 _ _)
       (AutoSeq1.tuple___add___tuple_tuple_1 a xs n b ys m hne (Array.isEmpty_iff_size_eq_zero.mpr l2)) ⟨hL,hL',k.here I ⟨a,ha,rfl⟩⟩
     | cons w1 ws =>
      obtain rfl:=Option.some.inj e
      have hme:¬ ys.isEmpty=true:=by
       rw [Array.isEmpty_iff_size_eq_zero,l2]
       exact Nat.succ_ne_zero _
      exact concat_meets ⟨_,hL,rfl⟩ ⟨_,hL',rfl⟩ noFill_tuple_add seq_tuple_add PySem.F.slot_tuple_add PySem.F.entry_tuple_add (PySem.F.args_tuple_add_2 _ _)
       (AutoSeq1.tuple___add___tuple_tuple_2 a xs n b ys m hne hme (by rw [l1,l2];exact Fv hz)) ⟨hL,hL',k.pushed I (.ofTuple ((r.append r').mono _) Array.toList_append _ (Q5 hz))⟩
    | _=>exact nn e
  | _=>exact nn e
 | _=>exact nn e
theorem Ye {k:Int} {n j:Nat} (e:C7 k n=some j):j < n∧((0≤k∧k < n∧j=k.toNat)∨(k < 0∧0≤k+n∧j=(k+n).toNat)):=by
 unfold C7 at e
 by_cases h0:0≤k
 ·rw [if_pos h0] at e
  refine B4 e fun h1 e=>?_
  obtain rfl:=Option.some.inj e
  exact ⟨(Int.toNat_lt h0).mpr h1,.inl ⟨h0,h1,rfl⟩⟩
 ·rw [if_neg h0] at e
  refine B4 e fun h1 e=>?_
  obtain rfl:=Option.some.inj e
  exact ⟨(Int.toNat_lt h1).mpr (by have:=Int.add_lt_add_right (Int.not_le.mp h0) n;rwa [Int.zero_add] at this),.inr ⟨Int.not_le.mp h0,h1,rfl⟩⟩
theorem ns_nat (m n:Nat):(Int.negSucc m+(n:Int)).toNat=n-(m+1):=by
 show (Int.subNatNat n (m+1)).toNat=_
 rw [Int.subNatNat_eq_coe];exact Int.toNat_sub n (m+1)
theorem ns_nn {m n:Nat} (h:m < n):0≤Int.negSucc m+(n:Int):=by
 show 0≤Int.subNatNat n (m+1)
 rw [Int.subNatNat_of_le h];exact Int.natCast_nonneg _
theorem Yf {m n:Nat} (h:m < n):Int.negSucc m+(n:Int) < (n:Int):=by
 show Int.subNatNat n (m+1) < _
 rw [Int.subNatNat_of_le h];exact Int.ofNat_lt.mpr (Nat.sub_lt (Nat.lt_of_le_of_lt (Nat.zero_le _) h) (Nat.succ_pos _))
theorem Q6 {m n:Nat} (h:m < n):-(n:Int)≤Int.negSucc m:=by
 rw [Int.negSucc_eq]
 exact Int.neg_le_neg (Int.ofNat_le.mpr h)
theorem Yg {m n:Nat} (h:m < n) (hz:n≤100001):-(2 ^ 63:Int)≤Int.negSucc m :=
 Int.le_trans (Int.neg_le_neg (Int.le_trans (Int.ofNat_le.mpr hz) (by decide))) (Q6 h)
theorem Yh {n k:Nat} (h:n < k):seqIndex? (n:Int) k=some n:=by
 unfold seqIndex?
 rw [if_neg (Int.not_lt.mpr (Int.natCast_nonneg n))]
 dsimp only
 rw [decide_eq_true (Int.natCast_nonneg n),decide_eq_true (Int.ofNat_lt.mpr h)];rfl
theorem Yi {m k:Nat} (h:m < k):seqIndex? (Int.negSucc m) k=some (k-(m+1)):=by
 unfold seqIndex?
 rw [if_pos (Int.negSucc_lt_zero m)]
 dsimp only
 rw [decide_eq_true (ns_nn h),decide_eq_true (Yf h),ns_nat];rfl
theorem Yj {value slice:PySem.Expr} {a b:V} {x y:Value} (hs:∀ u a b q,slice≠.Slice u a b q) (I:Inv wd π σ X s.heap) (ha:Ah π a x) (hb':Ah π b y) (e:Ao σ a b=some v) (k:∀ x t',Ah π v x→Q x {s with toks:=t'}) :
  wpAny (model wd.prog wd.w) A (subscriptTail value slice x y) Q E s:=by
 have hsub:∀ o i,subscripted slice false o i=operate [o,i] (getItem o i):=by
  intro o i
  cases slice<;>first | rfl | exact absurd rfl (hs _ _ _ _)
 refine Cn e fun i ei e1=>?_
 clear e
 subst ei
 have e:=e1
 clear e1
 (refine Aa ha ?_;try clear ha;intro l hl z_2;obtain rfl:=z_2)
 induction b with
 | int j =>
  (refine Ad hb' ?_;try clear hb';intro u z_1;obtain rfl:=z_1)
  refine Kz e I hl fun vs xs n c hc hL r l1 hz e=>?_
  induction j with
  | ofNat p =>
   have hv:vs[p]?=some v:=e
   (refine Aa (r.get hv) ?_;intro z hz0 hz2)
   have hp:=(List.getElem?_eq_some_iff.mp hv).1
   have hk:(Int.ofNat p) < 2 ^ 63:=Int.lt_of_le_of_lt (Int.ofNat_le.mpr (Nat.le_trans (Nat.le_of_lt hp) hz)) (by decide)
   focus (refine oe hc ?_ ?_;rotate_left;(try clear hc;intro z_o;refine Ac z_o ?_;intro z_0 ho;obtain rfl:=z_0);rotate_right;(try clear hc;intro z_o;refine Ac z_o ?_;intro z_0 ho;obtain rfl:=z_0))
   ·exact tail_any (IsL.isList hL).typeIs slot_list_getitem.lookup (wpAny_getItem_list (IsL.isList hL) (Int.natCast_nonneg p) hk (Array.getElem?_toList.symm.trans hz0) (k _ s.toks hz2)) (hsub _ _)
   ·exact item_tupleT ⟨_,hL,rfl,_,rfl⟩ (Int.le_trans (by decide) (Int.natCast_nonneg p)) hk (j:=p) (Yh (by rw [Array.length_toList,l1];exact hp)) hz0 (k _ s.toks hz2) (hsub _ _)
  | negSucc m =>
   refine Fw e fun hm e=>?_
   have hm:m < vs.length:=Nat.le_of_ble_eq_true hm
   (refine Aa (r.get e) ?_;intro z hz0 hz2)
   have hk:=Yg hm hz
   focus (refine oe hc ?_ ?_;rotate_left;(try clear hc;intro z_o;refine Ac z_o ?_;intro z_0 ho;obtain rfl:=z_0);rotate_right;(try clear hc;intro z_o;refine Ac z_o ?_;intro z_0 ho;obtain rfl:=z_0))
   ·exact tail_any (IsL.isList hL).typeIs slot_list_getitem.lookup (wpAny_getItem_list_neg (IsL.isList hL) (Int.negSucc_lt_zero m) (by rw [l1];exact Q6 hm) hk (by rw [l1,ns_nat];exact Array.getElem?_toList.symm.trans hz0) (k _ s.toks hz2)) (hsub _ _)
   ·exact item_tupleT ⟨_,hL,rfl,_,rfl⟩ hk (Int.lt_trans (Int.negSucc_lt_zero m) (by decide)) (j:=vs.length-(m+1)) (by rw [Array.length_toList,l1];exact Yi hm) hz0 (k _ s.toks hz2) (hsub _ _)
 | str z =>
  (refine Ad hb' ?_;try clear hb';intro u z_1;obtain rfl:=z_1)
  cases ho:σ[i]? with
  | none=>rw [ho] at e;exact nn e
  | some o =>
   rw [ho] at e
   induction o with
   | dict es =>
    have e:es.lookup z=some v:=e
    (refine Aa (Mt I hl ho) ?_;intro kvs hD r)
    focus (refine oe (K1 r z) ?_ ?_;rotate_left;(intro z_o;refine Ai z_o ?_;intro v' x e1 e2 hv);rotate_right;(intro z_o;refine Ac z_o ?_;intro e1 e2))
    ·rw [e1] at e;exact nn e
    ·rw [e1] at e;obtain rfl:=Option.some.inj e
     exact tail_any hD.mapOf.typeIs slot_dict_getitem.lookup (wpAny_getItem_of (strKind_is wd.prog wd.w z u) hD.mapOf e2 (k _ _ hv)) (hsub _ _)
   | _=>exact nn e
 | _=>exact nn e
end prims
theorem Mu {M:Model} {Γ:Ctx} {p:Pos} {t:Sem Fin} {fs:List Frame} {s s':Shared} {e:End} (h:Runs M Γ p t fs s e s'):s.toks≤s'.toks:=by
 induction h with
 | done | raise | yield=>exact Nat.le_refl _
 | fresh _ ih=>exact Nat.le_trans (Nat.le_succ _) ih
 | call _ _ i1 i2 | segRet _ _ i1 i2 | segGen _ _ i1 i2=>exact Nat.le_trans i1 i2
 | resumeFresh _ _ _ _ i1 i2 | resumeSuspended _ _ _ _ i1 i2=>exact Nat.le_trans i1 i2
 | segSuspGen _ _ _ _ i1 i2=>exact Nat.le_trans i1 i2
 | again _ _ ih | rule _ ih | «at» _ ih | load _ _ ih | update _ _ ih | loadIfAlive _ ih | point _ ih | alloc _ ih | ask _ ih | choose _ _ ih | os _ ih | handled _ ih | genState _ _ ih | stack _ ih | thread _ ih | newGen _ ih=>exact ih
 | callSusp _ ih=>exact ih
 | resumeJustStarted _ _ _ ih=>exact ih
 | resumeThrowFresh _ _ ih | resumeRunning _ _ ih | resumeFinished _ _ ih=>exact ih
 | segSuspOut _ _ ih=>exact ih
theorem Hw (s:Shared) (g:Nat) (x:GenState):(s.setGen g x).toks=s.toks:=rfl
theorem Yk {M:Model} {Γ:Ctx} {p:Pos} {g:Nat} {r:Resume} {s s':Shared} {res:GenResult} (h:Wakes M Γ p g r s res s'):s.toks≤s'.toks:=by
 unfold Wakes at h
 split at h
 ·exact h.elim
 ·split at h
  ·(refine Dp h ?_;try clear h;intro e₁ s₁ h1 _ _ e)
   have h2:=Mu h1
   rw [Hw] at h2
   rw [e,Hw]
   exact h2
  ·rw [h.2];exact Nat.le_refl _
  ·rw [h.2,Hw];exact Nat.le_refl _
 ·(refine Dp h ?_;try clear h;intro e₁ s₁ h1 _ _ e)
  have h2:=Mu h1
  rw [Hw] at h2
  rw [e,Hw]
  exact h2
 ·rw [h.2];exact Nat.le_refl _
 ·rw [h.2];exact Nat.le_refl _
theorem Mv {α:Type} {M:Model} {Γ:Ctx} {m:Nat} {t:Sem α} {Q:α→Pos→Shared→Prop} {E:Value→Pos→Shared→Prop} {p:Pos} {s:Shared} (hm:m≤s.toks)
  (h:Sem.wp M Γ t (fun a p' s'=>m≤s'.toks→Q a p' s') E p s):Sem.wp M Γ t Q E p s:=by
 revert h
 induction t generalizing p s with
 | pure x=>exact fun h=>h hm
 | raise v=>exact id
 | unsupported | finish | yield | fork | await | register=>exact id
 | rule _ k ih | «at» _ k ih | alloc _ k ih | loadIfAlive _ k ih | point _ k ih | ask k ih | os _ _ k ih | handled _ k ih | newGen _ k ih | stack k ih | thread k ih=>exact ih _ hm
 | fresh k ih=>exact ih _ (Nat.le_succ_of_le hm)
 | load a _ k ih | genState a k ih=>exact fun ⟨o,ho,h⟩=>⟨o,ho,ih _ hm h⟩
 | update a _ f k ih | choose _ _ k ih=>exact fun ⟨ha,h⟩=>⟨ha,ih _ hm h⟩
 | call c h g l k ih=>exact fun ⟨r,s',hr,h⟩=>⟨r,s',hr,ih r (Nat.le_trans hm (Mu hr)) h⟩
 | resume g r l k ih=>exact fun ⟨res,s',hw,h⟩=>⟨res,s',hw,ih _ (Nat.le_trans hm (Yk hw)) h⟩
theorem tok_up {α:Type} {M:Model} {A:Around} {t:Sem α} {Q:α→Shared→Prop} {E:Value→Shared→Prop} {s:Shared} (hm:0 < s.toks) (h:wpAny M A t (fun v s'=>0 < s'.toks→Q v s') E s):wpAny M A t Q E s :=
 fun Γ p hΓ=>Mv (m:=1) hm (h Γ p hΓ)
section prims
variable {wd:Wd} {π:List Addr} {σ σ':H} {X:List (Addr×Obj)} {A:Around} {E:Value→Shared→Prop} {s:Shared} {Q:Value→Shared→Prop} {v:V}
theorem Yl (len:Nat):∀ j:Int,min (if j < 0 then len-(-j).toNat else min j.toNat len) len=min (if 0≤j then j.toNat else (j+(len:Int)).toNat) len
 | .ofNat n=>by
  rw [if_neg (show ¬ Int.ofNat n < 0 from Int.not_lt.mpr (Int.natCast_nonneg n)),if_pos (show 0≤Int.ofNat n from Int.natCast_nonneg n)]
  show min (min n len) len=min n len
  rw [Nat.min_assoc,Nat.min_self]
 | .negSucc m=>by
  rw [if_pos (Int.negSucc_lt_zero m),if_neg (Int.not_le.mpr (Int.negSucc_lt_zero m)),ns_nat]
  rfl
theorem Ym {value u:PySem.Expr} {p:PySem.Pos} {a b:V} {x y:Value} {sl:Addr} (I:Inv wd π σ X s.heap) (ha:Ah π a x) (hb':Ah π b y) {r:V×H} (e:Ec σ a b=some r) (k:Kv wd X s Q π r.1 r.2)
  (hs:s.heap.get? sl=some {cls:=.type "slice",data:=.fields #[.none,y,.none]}) :
  wpAny (model wd.prog wd.w) A (subscriptTail value (.Slice none (some u) none p) x (.ref sl)) Q E s:=by
 refine Cz e fun j ej e1=>?_
 clear e
 subst ej
 (refine Ad hb' ?_;try clear hb';intro t z_1;obtain rfl:=z_1)
 induction a with
 | ref i =>
  (refine Aa ha ?_;try clear ha;intro l hl z_2;obtain rfl:=z_2)
  refine Db e1 I hl fun vs xs n _ hL q l1 hz e=>?_
  obtain rfl:=Option.some.inj e
  refine tail_any (ops:=[.ref sl,.ref l]) (IsL.isList hL).typeIs slot_list_getitem.lookup ?_ rfl
  refine wpAny_getItem_list_slice (IsL.isList hL) ⟨_,hs,rfl,rfl⟩ .none (.int j t) .none (fun q=>nn q) ?_ (Ky l1 hz)
  refine k.pushed I (.ofList ((q.take _).mono _) ?_ _ (Nat.le_trans (List.length_take_le' _ _) hz))
  rw [kms_pick_eq]
  unfold kms_pick kms_lo kms_hi
  dsimp only
  rw [List.drop_zero,Nat.sub_zero]
  clear k hs hL q I
  rw [List.take_eq_take_iff,Array.length_toList,l1]
  exact Yl _ j
 | str z =>
  (refine Ad ha ?_;try clear ha;intro t' z_1;obtain rfl:=z_1)
  refine Bl e1 fun hz e=>?_
  obtain rfl:=Option.some.inj e
  refine tail_any (ops:=[.ref sl,.str z t']) (typeIs_str _ _ _) PySem.F.slot_str_getitem.lookup ?_ rfl
  refine wpAny_getItem_str_slice (l:=none) (u:=some (j,t)) (st:=none) ⟨_,hs,rfl,rfl⟩ rfl ?_
  exact post_val_or_str ⟨Nat.le_trans (Txt.slice_le z _ _) (Fv hz),fun t' k'=>k.here I ⟨_,rfl⟩⟩
 | _=>exact nn e1
theorem Q7:∀ {vs:List V} {m:Int},Cs vs=some m→(∃ i∈vs,i=.int m)∧∀ i,.int i∈vs→i≤m
 | [],_,e=>by exact nn e
 | [.int x],m,e=>by
  obtain rfl:=Option.some.inj e
  exact ⟨⟨_,.head _,rfl⟩,fun i hi=>by
   refine oe (List.mem_cons.mp hi) (fun h=>?_) (fun h=>?_)
   ·cases h;exact Int.le_refl _
   ·cases h⟩
 | .int x :: y :: r,m,e=>by
  (refine Aa (Option.map_eq_some_iff.mp (show (Cs (y :: r)).map (fun m=>max x m)=some m from e)) ?_;intro m' e' z_2;obtain rfl:=z_2)
  (refine Ac (Q7 e') ?_;intro z_0 h2;refine Aa z_0 ?_;intro z hz z_2;obtain rfl:=z_2)
  refine ⟨?_,fun i hi=>?_⟩
  ·by_cases q:x≤m'
   ·exact ⟨_,.tail _ hz,congrArg V.int (Int.max_eq_right q).symm⟩
   ·exact ⟨_,.head _,congrArg V.int (Int.max_eq_left (Int.le_of_lt (Int.not_le.mp q))).symm⟩
  ·refine oe (List.mem_cons.mp hi) (fun h=>?_) (fun h=>?_)
   ·cases h;exact Int.le_max_left _ _
   ·exact Int.le_trans (h2 i h) (Int.le_max_right _ _)
 | .none :: _,_,e=>nn e
 | .bool _ :: _,_,e=>nn e
 | .str _ :: _,_,e=>nn e
 | .ref _ :: _,_,e=>nn e
 | .con _ :: _,_,e=>nn e
theorem Q8 {π:List Addr}:∀ {vs:List V} {xs:List Value} {m:Int},VRels π vs xs→Cs vs=some m→∃ ps:List (Int×Tok),xs=ps.map (fun p=>Value.int p.1 p.2)∧ps.map (·.1)=vs.filterMap (fun | .int i=>some i | _=>none)∧ps.length=vs.length
 | [],_,_,_,e=>by exact nn e
 | [.int x],_,m,h,e=>by
  (refine Ai h ?_;try clear h;intro y ys z_2 z_3 h2;obtain rfl:=z_2;refine Ad z_3 ?_;intro t z_1;obtain rfl:=z_1)
  subst h2
  exact ⟨[(x,t)],rfl,rfl,rfl⟩
 | .int x :: y :: r,_,m,h,e=>by
  (refine Aa (Option.map_eq_some_iff.mp (show (Cs (y :: r)).map (fun m=>max x m)=some m from e)) ?_;intro m' e' z_2;obtain rfl:=z_2)
  (refine Ai h ?_;try clear h;intro z zs z_2 z_3 h2;obtain rfl:=z_2;refine Ad z_3 ?_;intro t z_1;obtain rfl:=z_1)
  (refine Au (Q8 h2 e') ?_;intro ps z_1 e1 e2;obtain rfl:=z_1)
  refine ⟨(x,t) :: ps,rfl,?_,by simp [e2]⟩
  rw [List.map_cons,e1]
  rfl
 | .none :: _,_,_,_,e=>nn e
 | .bool _ :: _,_,_,_,e=>nn e
 | .str _ :: _,_,_,_,e=>nn e
 | .ref _ :: _,_,_,_,e=>nn e
 | .con _ :: _,_,_,_,e=>nn e
end prims
section prims
variable {wd:Wd} {π:List Addr} {σ σ':H} {X:List (Addr×Obj)} {A:Around} {E:Value→Shared→Prop} {s:Shared} {Q:Value→Shared→Prop} {v:V}
theorem Yn {n:Nat} (hA:AOk n A) (I:Inv wd π σ X s.heap) {i:Nat} {a:Addr} {vs:List V} {m:Int} (ha:π[i]?=some a) (ho:σ[i]?=some (.list vs)) (e:Cs vs=some m)
  (k:Kv wd X s Q π (.int m) σ):wpAny (model wd.prog wd.w) A (call (.builtin "max") [.ref a]) Q E s:=by
 (refine Ai (list_at I ha ho) ?_;intro xs c hL r _)
 (refine Au (Q8 r e) ?_;intro ps e1 e2 e3)
 have hne:0 < ps.length:=by
  rw [e3]
  induction vs with
  | nil=>exact nn e
  | cons _ _=>simp
 haveI hx:xs=intItems ps.toArray:=by
  unfold intItems
  rw [List.map_toArray,← e1,Array.toArray_toList]
 subst hx
 refine max_intList hA.handled (IsL.isList hL) (by simpa using hne) fun v h' tk hv hk=>?_
 (refine Ad (intItems_at hv) ?_;intro t z_1;obtain rfl:=z_1)
 (refine Ac (argBest_gt (numAt ps.toArray) (ps.toArray.size-1)) ?_;intro h1 h2)
 (refine Ac (Q7 e) ?_;intro z_0 q2;refine Aa z_0 ?_;intro _ q1 z_2;obtain rfl:=z_2)
 haveI hmem:∀ j,j < ps.length→V.int (numAt ps.toArray j)∈vs:=fun j hj=>by
  haveI:numAt ps.toArray j∈ps.map (·.1):=by
   rw [numAt_eq];exact getD_mem (by simpa using hj)
  rw [e2,List.mem_filterMap] at this
  (refine Aa this ?_;try clear this;intro z hz ez)
  split at ez
  ·obtain rfl:=Option.some.inj ez;exact hz
  ·exact nn ez
 haveI hin:m∈ps.map (·.1):=by
  rw [e2,List.mem_filterMap]
  exact ⟨_,q1,rfl⟩
 (refine Aa (mem_getD hin) ?_;intro j hj ej)
 rw [List.length_map] at hj
 haveI ej':numAt ps.toArray j=m:=by rw [numAt_eq];simpa using ej
 haveI hbest:numAt ps.toArray (argBest (fun i j=>decide (numAt ps.toArray i > numAt ps.toArray j)) (ps.toArray.size-1))=m:=by
  haveI a1:=q2 _ (hmem _ (Nat.lt_of_le_of_lt h1 (Nat.sub_lt hne Nat.one_pos)))
  haveI a2:=h2 j (Nat.le_sub_one_of_lt hj)
  rw [ej'] at a2
  exact Int.le_antisymm a1 a2
 rw [hbest]
 exact k.here (I.keep hk) ⟨_,rfl⟩
section
variable {p:V×H} {x:Value} (I:Inv wd π σ X s.heap) (hx:Ah π v x) (k:Kv wd X s Q π p.1 p.2)
include I hx k
theorem Yo (e:P4 σ v=some p):wpAny (model wd.prog wd.w) A (call (.builtin "len") [x]) Q E s:=by
 refine Cn e fun i ei e1=>?_
 subst ei
 (refine Aa hx ?_;try clear hx;intro a hl z_2;obtain rfl:=z_2)
 refine Kz e1 I hl fun vs xs n c hc hL r l1 hz e3=>?_
 obtain rfl:=Option.some.inj e3
 focus (refine oe hc ?_ ?_;rotate_left;(try clear hc;intro z_o;refine Ac z_o ?_;intro z_0 _;obtain rfl:=z_0);rotate_right;(try clear hc;intro z_o;refine Ac z_o ?_;intro z_0 _;obtain rfl:=z_0))
 ·exact call_len_list (IsL.isList hL) (Ms l1 hz) (k.here I ⟨_,by rw [l1]⟩)
 ·exact PyProof.Rows.len_tuple ⟨_,hL,rfl,_,rfl⟩ (Ms l1 hz) (k.here I ⟨_,by rw [l1]⟩)
theorem Yp {n:Nat} (hA:AOk n A) (e:P5 σ v=some p):wpAny (model wd.prog wd.w) A (call (.builtin "max") [x]) Q E s:=by
 refine Cn e fun i ei e1=>?_
 subst ei
 (refine Aa hx ?_;try clear hx;intro a hl z_2;obtain rfl:=z_2)
 refine Db e1 I hl fun vs xs n ho _ _ _ _ e3=>?_
 exact o1_e (f:=fun m=>(V.int m,σ)) (M:=fun p=>Kv wd X s Q π p.1 p.2→_) e3 (fun m hm k=>Yn hA I hl ho hm k) k
theorem Yq (e:P6 σ v=some p):wpAny (model wd.prog wd.w) A (call (.builtin "chr") [x]) Q E s:=by
 refine Cz e fun i ei e1=>B4 e1 fun hz e2=>?_
 subst ei
 (refine Ad hx ?_;try clear hx;intro t z_1;obtain rfl:=z_1)
 obtain rfl:=Option.some.inj e2
 exact P.chr_of_int (by simp;assumption) (k.here I ⟨_,rfl⟩)
theorem Yr (e:P7 σ v=some p):wpAny (model wd.prog wd.w) A (call (.builtin "ord") [x]) Q E s:=by
 refine Ey e fun z ez e1=>?_
 subst ez
 (refine Ad hx ?_;try clear hx;intro t z_1;obtain rfl:=z_1)
 obtain ⟨⟨cs⟩⟩:=z
 have e2:(match (generalizing:=false) cs with
  | [c]=>some (V.int c,σ)
  | _=>none)=some p:=e1
 cases cs with
 | nil=>exact nn e2
 | cons c r=>induction r with
  | nil=>obtain rfl:=Option.some.inj e2;exact P.ord_of_char (k.here I ⟨_,rfl⟩)
  | cons _ _=>exact nn e2
theorem Ys {n:String} (e:isA σ v n=some p):wpAny (model wd.prog wd.w) A (call (.builtin "isinstance") [x,.type n]) Q E s:=by
 induction v with
 | bool b=>exact B4 e fun hn e=>by subst hn;obtain rfl:=Option.some.inj e;subst hx;exact IsiPair.bool_bool (k.here I rfl)
 | str z=>exact B4 e fun hn e=>by subst hn;obtain rfl:=Option.some.inj e;(refine Ad hx ?_;try clear hx;intro tk z_1;obtain rfl:=z_1);exact IsiPair.str_str (k.here I rfl)
 | ref i =>
  refine B4 e fun hn e1=>?_
  subst hn
  (refine Aa hx ?_;try clear hx;intro a hl z_2;obtain rfl:=z_2)
  refine Kz e1 I hl fun vs xs n c hc hL r l1 _ e2=>?_
  obtain rfl:=Option.some.inj e2
  focus (refine oe hc ?_ ?_;rotate_left;(try clear hc;intro z_o;refine Ac z_o ?_;intro z_0 _;obtain rfl:=z_0);rotate_right;(try clear hc;intro z_o;refine Ac z_o ?_;intro z_0 _;obtain rfl:=z_0))
  ·exact IsiPair.list_str hL rfl (k.here I rfl)
  ·exact IsiPair.tuple_str hL rfl (k.here I rfl)
 | _=>exact nn e
theorem Yt (e:P8 σ v=some p):wpAny (model wd.prog wd.w) A (call (.type "list") [x]) Q E s:=by
 refine Cn e fun i ei e1=>?_
 subst ei
 (refine Aa hx ?_;try clear hx;intro a hl z_2;obtain rfl:=z_2)
 refine Kz e1 I hl fun vs xs n c hc hL r l1 hz e3=>?_
 obtain rfl:=Option.some.inj e3
 exact call_list_seq a (hc.imp (·.1) (·.1)) hL rfl rfl (fun h' c' hk e'=>k.new I hk (Nat.le_refl _) e' (.ofList (r.mono _) rfl _ hz)) (Ky l1 hz)
theorem Yu (e:P9 σ v=some p):wpAny (model wd.prog wd.w) A (call (.type "tuple") [x]) Q E s:=by
 refine Cn e fun i ei e1=>?_
 subst ei
 (refine Aa hx ?_;try clear hx;intro a hl z_2;obtain rfl:=z_2)
 cases ho:σ[i]? with
 | none=>rw [ho] at e1;exact nn e1
 | some o =>
  rw [ho] at e1
  induction o with
  | list vs =>
   obtain rfl:=Option.some.inj e1
   (refine Ai (list_at I hl ho) ?_;intro xs c hL r hz)
   refine call_tuple_list (IsL.isList hL) (fun h' hk=>?_) (Ky (Array.length_toList.symm.trans r.len) hz)
   exact Kv.pushed (s:=⟨h',s.gens,s.drawn,s.toks,s.os⟩) (I.keep hk) k (.ofTuple (r.mono _) rfl _ hz)
  | tuple vs =>
   obtain rfl:=Option.some.inj e1
   (refine Ai (Ex I hl ho) ?_;intro xs c hL r _)
   exact call_tuple_tup ⟨_,hL,rfl,_,rfl⟩ (k.here I ⟨a,hl,rfl⟩)
  | _=>exact nn e1
theorem Yv (e:Qa σ v=some p):wpAny (model wd.prog wd.w) A (call (.type "str") [x]) Q E s:=by
 refine Cz e fun i ei e1=>B4 e1 fun hz e2=>?_
 subst ei
 (refine Ad hx ?_;try clear hx;intro t z_1;obtain rfl:=z_1)
 obtain rfl:=Option.some.inj e2
 refine P.str_of_int ?_ (k.here I ⟨_,rfl⟩)
 refine Nat.lt_of_le_of_lt (Nat.log2_le_self _) ?_
 exact Nat.lt_trans (Int.natAbs_lt_natAbs_of_nonneg_of_lt hz.1 hz.2) (by decide)
theorem Yw (e:Mh σ v=some p):wpAny (model wd.prog wd.w) A (call (.type "range") [x]) Q E s:=by
 refine Cz e fun i ei e1=>B4 e1 fun hz e2=>?_
 subst ei
 (refine Ad hx ?_;try clear hx;intro t z_1;obtain rfl:=z_1)
 obtain rfl:=Option.some.inj e2
 exact call_range_1 (k.pushed I ⟨_,_,_,rfl⟩)
theorem Yx {u:V} {y:Value} (hy:Ah π u y) (e:Mi σ v u=some p):wpAny (model wd.prog wd.w) A (call (.type "range") [x,y]) Q E s:=by
 refine Cz e fun i ei e1=>Cz e1 fun j ej e2=>B4 e2 fun hz e3=>?_
 subst ei
 subst ej
 (refine Ad hx ?_;try clear hx;intro t z_1;obtain rfl:=z_1)
 (refine Ad hy ?_;try clear hy;intro u z_1;obtain rfl:=z_1)
 obtain rfl:=Option.some.inj e3
 exact call_range_2 (k.pushed I ⟨_,_,_,rfl⟩)
end
theorem Fy {α:Type} {c:Prop} [Decidable c] {x y:Option α} {r:α} {P:Prop} (h:(if c then x else y)=some r) (k1:c→x=some r→P) (k2:y=some r→P):P:=by
 by_cases hc:c
 ·rw [if_pos hc] at h;exact k1 hc h
 ·rw [if_neg hc] at h;exact k2 h
theorem Mw {α:Type} {as:List V} {x:Option α} {r:α} {xs:List Value} {P:Prop} (h:a0 as x=some r) (ha:VRels π as xs) (k:xs=[]→x=some r→P):P:=by
 induction as with
 | nil=>exact k ha h
 | cons _ _=>exact nn h
theorem Hx {α:Type} {as:List V} {F:V→Option α} {r:α} {xs:List Value} {P:Prop} (h:a1 as F=some r) (ha:VRels π as xs) (k:∀ v x,xs=[x]→Ah π v x→F v=some r→P):P:=by
 cases as with
 | nil=>exact nn h
 | cons v as=>induction as with
  | cons _ _=>exact nn h
  | nil =>
   (refine Ai ha ?_;try clear ha;intro x _ z_2 hx z_4;obtain rfl:=z_2;obtain rfl:=z_4)
   exact k v x rfl hx h
theorem Mx {α:Type} {as:List V} {F:V→V→Option α} {r:α} {xs:List Value} {P:Prop} (h:a2 as F=some r) (ha:VRels π as xs) (k:∀ v u x y,xs=[x,y]→Ah π v x→Ah π u y→F v u=some r→P):P:=by
 cases as with
 | nil=>exact nn h
 | cons v as=>cases as with
  | nil=>exact nn h
  | cons u as=>induction as with
   | cons _ _=>exact nn h
   | nil =>
    rcases ha with ⟨x,_,rfl,hx,y,_,rfl,hy,rfl⟩
    exact k v u x y rfl hx hy h
theorem Q9 {n:Nat} {f:Value} {as:List V} {xs:List Value} {p:V×H} (hA:AOk n A) (I:Inv wd π σ X s.heap) (ha:VRels π as xs) (e:Aw σ f as=some p) (k:Kv wd X s Q π p.1 p.2) :
  wpAny (model wd.prog wd.w) A (call f xs) Q E s:=by
 induction f with
 | builtin id =>
  refine Fy e (fun hid e1=>Mx e1 ha fun v u x y h1 hx hy e2=>?_) fun e=>Hx e ha fun v x h1 hx e=>?_
  ·subst hid
   subst h1
   refine b_e e2 fun n hn e3=>?_
   induction u with
   | con t=>induction t with
    | type m=>obtain rfl:=Option.some.inj hn;subst hy;exact Ys I hx k e3
    | _=>exact nn hn
   | _=>exact nn hn
  ·subst h1
   exact Fy e (fun h e=>h▸Yo I hx k e) fun e=>Fy e (fun h e=>h▸Yp I hx k hA e) fun e=>Fy e (fun h e=>h▸Yq I hx k e) fun e=>B4 e fun h e=>h▸Yr I hx k e
 | type id =>
  refine Fy e (fun hid e1=>?_) fun e=>Hx e ha fun v x h1 hx e=>?_
  ·subst hid
   haveI e2:(match (generalizing:=false) as with
    | [v]=>Mh σ v
    | [v,u]=>Mi σ v u
    | _=>none)=some p:=e1
   cases as with
   | nil=>exact nn e2
   | cons v as =>
    (refine Ai ha ?_;try clear ha;intro x xs z_2 hx hr;obtain rfl:=z_2)
    cases as with
    | nil=>subst hr;exact Yw I hx k e2
    | cons u as =>
     (refine Ai hr ?_;try clear hr;intro y ys z_2 hy hr;obtain rfl:=z_2)
     induction as with
     | nil=>subst hr;exact Yx I hx k hy e2
     | cons _ _=>exact nn e2
  ·subst h1
   exact Fy e (fun h e=>h▸Yt I hx k e) fun e=>Fy e (fun h e=>h▸Yu I hx k e) fun e=>B4 e fun h e=>h▸Yv I hx k e
 | _=>exact nn e
end prims
noncomputable def Ra:BM→String
 | .append=>"list.append"
 | .pop=>"list.pop"
 | .insert=>"list.insert"
 | .index=>"list.index"
 | .get=>"dict.get"
 | .lower=>"str.lower"
 | .split=>"str.split"
 | .join=>"str.join"
noncomputable def bmN:BM→Str
 | .append=>"append"
 | .pop=>"pop"
 | .insert=>"insert"
 | .index=>"index"
 | .get=>"get"
 | .lower=>"lower"
 | .split=>"split"
 | .join=>"join"
section prims
variable {wd:Wd} {π:List Addr} {σ σ':H} {X:List (Addr×Obj)} {A:Around} {E:Value→Shared→Prop} {s:Shared} {Q:Value→Shared→Prop} {v:V}
noncomputable def Pl (s:Shared) (x:Value) (t:String):Prop:=s.TypeIs x t∧∀ a,x=.ref a→∃ ob,s.heap.get? a=some ob∧ob.dict=none
theorem ft {P:Prop} (h:false=true):P:=nomatch h
theorem K5 {o:V} {x:Value} (I:Inv wd π σ X s.heap) (hv:Ah π o x) (e:Ed σ o=true):Pl s x "list":=by
 induction o with
 | ref i =>
  (refine Aa hv ?_;try clear hv;intro a ha z_2;obtain rfl:=z_2)
  haveI e':(match σ[i]? with
   | some (.list _)=>true
   | _=>false)=true:=e
  cases ho:σ[i]? with
  | none=>rw [ho] at e';exact ft e'
  | some o =>
   rw [ho] at e'
   induction o with
   | list vs =>
    (refine Ai (list_at I ha ho) ?_;intro xs c hL r _)
    exact ⟨⟨_,hL,rfl⟩,fun b q=>by cases q;exact ⟨_,hL,rfl⟩⟩
   | _=>exact ft e'
 | _=>exact ft e
theorem Yy {o:V} {x:Value} (I:Inv wd π σ X s.heap) (hv:Ah π o x) (e:Go σ o=true):Pl s x "dict":=by
 induction o with
 | ref i =>
  (refine Aa hv ?_;try clear hv;intro a ha z_2;obtain rfl:=z_2)
  haveI e':(match σ[i]? with
   | some (.dict _)=>true
   | _=>false)=true:=e
  cases ho:σ[i]? with
  | none=>rw [ho] at e';exact ft e'
  | some o =>
   rw [ho] at e'
   induction o with
   | dict vs =>
    rcases I.at ha ho with ⟨ob,e,ds,n,kvs,h1,_⟩
    exact ⟨⟨_,e,h1.1⟩,fun b q=>by cases q;exact ⟨_,e,h1.2.1⟩⟩
   | _=>exact ft e'
 | _=>exact ft e
theorem My {o:V} {x:Value} (hv:Ah π o x) (e:isS o=true):Pl s x "str":=by
 induction o with
 | str z=>(refine Ad hv ?_;try clear hv;intro t z_1;obtain rfl:=z_1);exact ⟨typeIs_str _ _ _,fun b q=>by cases q⟩
 | _=>exact ft e
theorem Yz {m:BM} {o:V} {x:Value} {pl:Sem Bool} {Q:Value×List Value→Shared→Prop} (I:Inv wd π σ X s.heap) (hv:Ah π o x) (e:Hh σ o m=true) (k:Q (.builtin (Ra m),[x]) s) :
  wpAny (model wd.prog wd.w) A (getMethod x (bmN m) pl) Q E s:=by
 induction m with
 | append=>exact (K5 I hv e).elim fun h1 h2=>getMethod_builtin h1 PySem.F.plainAttrs_list PySem.F.slot_list_append PySem.F.type_list_append h2 k
 | pop=>exact (K5 I hv e).elim fun h1 h2=>getMethod_builtin h1 PySem.F.plainAttrs_list PySem.F.slot_list_pop PySem.F.type_list_pop h2 k
 | insert=>exact (K5 I hv e).elim fun h1 h2=>getMethod_builtin h1 PySem.F.plainAttrs_list PySem.F.slot_list_insert PySem.F.type_list_insert h2 k
 | index=>exact (K5 I hv e).elim fun h1 h2=>getMethod_builtin h1 PySem.F.plainAttrs_list PySem.F.slot_list_index PySem.F.type_list_index h2 k
 | get=>exact (Yy I hv e).elim fun h1 h2=>getMethod_builtin h1 PySem.F.plainAttrs_dict PySem.F.slot_dict_get PySem.F.type_dict_get h2 k
 | lower=>exact (My (s:=s) hv e).elim fun h1 h2=>getMethod_builtin h1 PySem.F.plainAttrs_str PySem.F.slot_str_lower PySem.F.type_str_lower h2 k
 | split=>exact (My (s:=s) hv e).elim fun h1 h2=>getMethod_builtin h1 PySem.F.plainAttrs_str PySem.F.slot_str_split PySem.F.type_str_split h2 k
 | join=>exact (My (s:=s) hv e).elim fun h1 h2=>getMethod_builtin h1 PySem.F.plainAttrs_str PySem.F.slot_str_join PySem.F.type_str_join h2 k
theorem Y0 {n:Nat} (h:n≤lim):Builtin.List.listFitsIndex (n:Int)=true:=by
 unfold Builtin.List.listFitsIndex
 rw [Bool.and_eq_true,decide_eq_true_eq,decide_eq_true_eq]
 exact ⟨Int.le_trans (by decide) (Int.natCast_nonneg n),Int.lt_of_le_of_lt (Int.ofNat_le.mpr h) (by decide)⟩
theorem Rb {π:List Addr}:∀ {vs:List V} {xs:List Value} {ys:List Str},VRels π vs xs→Fj vs=some ys→StrsAre xs ys
 | [],_,_,h,e=>by subst h;obtain rfl:=Option.some.inj e;exact .nil
 | .str z :: r,_,_,h,e=>by
  (refine Ai h ?_;try clear h;intro x xs z_2 z_3 h2;obtain rfl:=z_2;refine Ad z_3 ?_;intro t z_1;obtain rfl:=z_1)
  have e:(Fj r).map (z :: ·)=some _:=e
  (refine Aa (Option.map_eq_some_iff.mp e) ?_;intro ys e' z_2;obtain rfl:=z_2)
  exact .cons z t (Rb h2 e')
 | .none :: _,_,_,_,e=>nn e
 | .bool _ :: _,_,_,_,e=>nn e
 | .int _ :: _,_,_,_,e=>nn e
 | .ref _ :: _,_,_,_,e=>nn e
 | .con _ :: _,_,_,_,e=>nn e
theorem Rc (π:List Addr):∀ (l:List (Str×Tok)),VRels π ((l.map (·.1)).map V.str) (strValues l)
 | []=>rfl
 | (x,t) :: r=>⟨_,_,rfl,⟨t,rfl⟩,Rc π r⟩
theorem Rd {vs:List V} {v:V} (h:vs.length≤lim):Sz (vs++[v]):=Nat.le_trans (Nat.le_of_eq List.length_append) (Nat.succ_le_succ h)
theorem Kv.turned {u:V} {x:Value} (I:Inv wd π σ X s.heap) {i:Nat} {a:Addr} {o:O} {ob:Obj} {h':Heap} {t':Nat} (k:Kv wd X s Q π u (σ.set i o)) (ha:π[i]?=some a) (hf:fz≤i) (hs:Heap.SameBut a s.heap h') (e:h'.get? a=some ob)
  (r:Bb wd π o ob) (hv:Ah π u x):Q x ⟨h',s.gens,s.drawn,t',s.os⟩:=k.here (I.turn ha hf hs e r) hv
theorem Y1 {xs:Array Value} {n:Nat} (hn:n=xs.size) (y:Value) :
  ((fun xs:Array Value=>have k:=if (n:Int) < 0 then ((n:Int)+((xs.size:Nat):Int)).toNat else min (n:Int).toNat xs.size;(xs.extract 0 k).push y++xs.extract k) xs).toList=xs.toList++[y]:=by
 subst hn
 dsimp only
 rw [if_neg (Int.not_lt.mpr (Int.natCast_nonneg _))]
 simp
theorem Y2 {a:Addr} {xs:Array Value} {c n:Nat} {t:Tok} {y:Value} (hL:IsL s.heap a xs c) (hz:xs.size≤lim) (hn:n=xs.size)
  (h:Q .none {s with heap:=s.heap.update a (Obj.mapSeq fun xs=>have k:=if (n:Int) < 0 then ((n:Int)+((xs.size:Nat):Int)).toNat else min (n:Int).toNat xs.size;(xs.extract 0 k).push y++xs.extract k)}) :
  wpAny (model wd.prog wd.w) A (call (.builtin "list.insert") [.ref a,.int n t,y]) Q E s:=by
 haveI hf:¬ (!Builtin.List.listFitsIndex (n:Int))=true:=fun q=>by
  rw [Y0 (Nat.le_trans (Nat.le_of_eq hn) hz)] at q
  exact Bool.false_ne_true q
 exact call_meets PySem.F.slot_list_insert ⟨_,hL,rfl⟩ PySem.F.entry_list_insert (PySem.F.args_list_insert_3 _ _ _) (@AutoListH.list_insert_list_int_val_1 a xs c n t y hf (Fv hz)) ⟨hL,h⟩
section
variable {p:V×H} {o:V} {as:List V} {x:Value} {xs:List Value} (I:Inv wd π σ X s.heap) (hv:Ah π o x) (ha:VRels π as xs) (k:Kv wd X s Q π p.1 p.2)
include I hv ha k
theorem Y3 (e:A4 σ o .append as=some p):wpAny (model wd.prog wd.w) A (call (.builtin "list.append") (x :: xs)) Q E s:=by
 refine Cn e fun i ei e1=>Hx e1 ha fun u y h1 hy e2=>?_
 subst ei
 subst h1
 (refine Aa hv ?_;try clear hv;intro a hl z_2;obtain rfl:=z_2)
 refine Db e2 I hl fun vs xs c ho hL r l1 _ e3=>Bl e3 fun hz e3=>Bl e3 fun hf e4=>?_
 obtain rfl:=Option.some.inj e4
 refine call_meets PySem.F.slot_list_append ⟨_,hL,rfl⟩ PySem.F.entry_list_append (PySem.F.args_list_append_2 _ _) (list_append a xs c y (Ya l1 hz)) ⟨hL,?_⟩
 exact k.turned I hl hf (Heap.SameBut.update ..) (IsL.update hL _) (.ofList (r.append (VRels.single hy)) Array.toList_push _ (Rd hz)) rfl
theorem Y4 (e:A4 σ o .pop as=some p):wpAny (model wd.prog wd.w) A (call (.builtin "list.pop") (x :: xs)) Q E s:=by
 refine Cn e fun i ei e1=>Mw e1 ha fun h1 e2=>?_
 subst ei
 subst h1
 (refine Aa hv ?_;try clear hv;intro a hl z_2;obtain rfl:=z_2)
 refine Db e2 I hl fun vs xs c ho hL r l1 hz e3=>Bl e3 fun hf e4=>?_
 refine o1_e (f:=fun v=>(v,σ.set i (.list vs.dropLast))) (M:=fun p=>Kv wd X s Q π p.1 p.2→_) e4 (fun u hu k=>?_) k
 rw [List.getLast?_eq_getElem?] at hu
 (refine Aa (r.get hu) ?_;intro y hy1 hy2)
 rw [Array.getElem?_toList,← l1] at hy1
 refine call_meets PySem.F.slot_list_pop ⟨_,hL,rfl⟩ PySem.F.entry_list_pop (PySem.F.args_list_pop_1 _) (MeetsSeq.list_pop_last a xs c y hy1 (Ky l1 hz)) ⟨hL,?_⟩
 refine k.turned I hl hf (Heap.SameBut.update ..) (IsL.update hL _) (.ofList (xs:=xs.toList.dropLast) ?_ ?_ _ (Nat.le_trans (by rw [List.length_dropLast];exact Nat.sub_le _ _) hz)) hy2
 ·rw [List.dropLast_eq_take,List.dropLast_eq_take,r.len]
  exact r.take _
 ·haveI hlt:=(Array.getElem?_eq_some_iff.mp hy1).1
  rw [Array.eraseIdxIfInBounds,dif_pos hlt]
  rw [Array.toList_eraseIdx,← List.eraseIdx_length_sub_one,Array.length_toList]
theorem Y5 (e:A4 σ o .insert as=some p):wpAny (model wd.prog wd.w) A (call (.builtin "list.insert") (x :: xs)) Q E s:=by
 refine Cn e fun i ei e1=>Mx e1 ha fun kv u z y h1 hz hy e2=>Cz e2 fun j ej e3=>?_
 subst ei
 subst h1
 subst ej
 (refine Ad hz ?_;try clear hz;intro t z_1;obtain rfl:=z_1)
 (refine Aa hv ?_;try clear hv;intro a hl z_2;obtain rfl:=z_2)
 refine Db e3 I hl fun vs xs c ho hL r l1 _ e4=>Bl e4 fun hz1 e4=>Bl e4 fun hz2 e4=>B4 e4 fun hj e5=>?_
 obtain rfl:=Option.some.inj e5
 subst hj
 refine Y2 hL (Nat.le_trans (Nat.le_of_eq l1) hz1) l1.symm ?_
 exact k.turned I hl hz2 (Heap.SameBut.update ..) (IsL.update hL _) (.ofList (r.append (VRels.single hy)) (Y1 l1.symm y) _ (Rd hz1)) rfl
theorem Y6 (e:A4 σ o .get as=some p):wpAny (model wd.prog wd.w) A (call (.builtin "dict.get") (x :: xs)) Q E s:=by
 refine Cn e fun i ei e1=>Mx e1 ha fun kv d z y h1 hz hy e2=>Ey e2 fun j ej e3=>?_
 subst ei
 subst h1
 subst ej
 (refine Ad hz ?_;try clear hz;intro t z_1;obtain rfl:=z_1)
 (refine Aa hv ?_;try clear hv;intro a hl z_2;obtain rfl:=z_2)
 refine Q0 e3 I hl fun es kvs hD r e4=>?_
 obtain rfl:=Option.some.inj e4
 refine call_meetsIn PySem.F.slot_dict_get hD.mapOf.typeIs PySem.F.entry_dict_get (PySem.F.args_dict_get_3 _ _ _) (meets_dict_get_default (strKind wd.prog wd.w) a (strKind_is wd.prog wd.w j t) (I.sys a (List.mem_of_getElem? hl)) y) ⟨_,hD.mapOf,?_⟩
 focus (refine oe (K1 r j) ?_ ?_;rotate_left;(intro z_o;refine Ai z_o ?_;intro v' x e1 e2 hv);rotate_right;(intro z_o;refine Ac z_o ?_;intro e1 e2))
 ·rw [e1] at k;rw [e2];exact k.here I hy
 ·rw [e1] at k;rw [e2];exact k.here I hv
theorem Y7 (e:A4 σ o .lower as=some p):wpAny (model wd.prog wd.w) A (call (.builtin "str.lower") (x :: xs)) Q E s:=by
 refine Ey e fun z ei e1=>Mw e1 ha fun h1 e2=>Bl e2 fun hz e3=>?_
 subst ei
 subst h1
 obtain rfl:=Option.some.inj e3
 (refine Ad hv ?_;try clear hv;intro t z_1;obtain rfl:=z_1)
 exact SCL.lower (Nat.le_trans hz (by decide)) fun _=>k.here I ⟨_,rfl⟩
theorem Y8 (e:A4 σ o .split as=some p):wpAny (model wd.prog wd.w) A (call (.builtin "str.split") (x :: xs)) Q E s:=by
 refine Ey e fun z ei e1=>Mw e1 ha fun h1 e2=>Bl e2 fun hz e3=>?_
 subst ei
 subst h1
 obtain rfl:=Option.some.inj e3
 (refine Ad hv ?_;try clear hv;intro t z_1;obtain rfl:=z_1)
 have hn0:(Builtin.Str.spaceWords z (z.length+1)).length≤z.length+1:=Nat.le_trans (StrLaws.len_le_wsum _) (StrLaws.sw_weight z).1
 haveI hn:(Builtin.Str.spaceWords z (z.length+1)).length≤sizeLine:=by
  rw [sizeLine_eq]
  exact Nat.le_trans hn0 (Nat.le_trans (Nat.succ_le_succ hz) (by decide))
 haveI fin:∀ (l:List (Str×Tok)) (t':Nat),l.map (·.1)=Txt.words z→l.length≤z.length+1→Q (.ref s.heap.objs.size) ⟨s.heap.push {cls:=.type "list",data:=.seq (strValues l).toArray},s.gens,s.drawn,t',s.os⟩:=fun l t' hl hw =>
  k.pushed I (.ofList (hl▸Rc _ l) rfl _ (hl▸Nat.le_trans (Nat.le_of_eq ((List.length_map _).trans (List.length_map _))) (Nat.le_trans hw (Nat.succ_le_succ hz))))
 refine call_meets PySem.F.slot_str_split (typeIs_str _ _ _) PySem.F.entry_str_split (PySem.F.args_str_split_1 _) (meets_str_split_space z t (Fv hz) hn) ?_
 cases hw:Builtin.Str.spaceWords z (z.length+1)==[(0,z.length)]
 ·simp only [Bool.false_eq_true,if_false]
  rw [strsFrom_eq]
  exact fin (numbered s.toks (PySem.wordsOf z)) _ ((numbered_texts _ _).trans (if_neg (ne_true_of_eq_false hw)).symm) (Nat.le_trans (Nat.le_of_eq ((List.length_map _).symm.trans ((congrArg List.length (numbered_texts s.toks (PySem.wordsOf z))).trans (List.length_map _)))) hn0)
 ·simp only [if_true]
  exact fin [(z,t)] s.toks (if_pos hw).symm (Nat.succ_le_succ (Nat.zero_le _))
theorem Y9 (e:A4 σ o .join as=some p):wpAny (model wd.prog wd.w) A (call (.builtin "str.join") (x :: xs)) Q E s:=by
 refine Ey e fun z ei e1=>Hx e1 ha fun u y h1 hy e2=>Cn e2 fun i ej e3=>?_
 subst ei
 subst h1
 subst ej
 (refine Ad hv ?_;try clear hv;intro t z_1;obtain rfl:=z_1)
 (refine Aa hy ?_;try clear hy;intro a hl z_2;obtain rfl:=z_2)
 refine Db e3 I hl fun vs xs c ho hL r l1 _ e4=>b_e e4 fun ys hys e5=>B4 e5 fun hz e6=>?_
 obtain rfl:=Option.some.inj e6
 exact join_listW (IsL.isList hL) (Rb r hys) hz.1 hz.2 fun _ _=>k.here I ⟨_,rfl⟩
end
theorem Za {vs:List V} {xs:Array Value} (hz2:(vs.all fun | .int _=>true | _=>false)=true) (r:VRels π vs xs.toList) (p:Nat) (hp:p < vs.length) (hp':p < xs.size):∃ (z:Int) (tk:Tok),vs[p]=.int z∧xs[p]=.int z tk:=by
 haveI h1:=List.all_eq_true.mp hz2 vs[p] (List.getElem_mem hp)
 (refine Aa (r.get (List.getElem?_eq_getElem hp)) ?_;intro y hy hy2)
 rw [Array.getElem?_toList,Array.getElem?_eq_getElem hp'] at hy
 obtain rfl:=Option.some.inj hy
 revert h1 hy2
 cases vs[p] with
 | int z=>intro _ ⟨tk,e⟩;exact ⟨z,tk,rfl,e⟩
 | _=>exact fun h1 _=>ft h1
theorem Zb {a:Addr} {vs:List V} {xs:Array Value} {c q:Nat} {j:Int} {t:Tok} (hL:IsL s.heap a xs c) (r:VRels π vs xs.toList) (l1:xs.size=vs.length) (hz1:vs.length≤lim)
  (hz2:(vs.all fun | .int _=>true | _=>false)=true) (hq:vs.findIdx? (fun | .int x=>decide (x=j) | _=>false)=some q) (k:∀ t' u,Q (.int q t') {s with toks:=u}) :
  wpAny (model wd.prog wd.w) A (call (.builtin "list.index") [.ref a,.int j t]) Q E s:=by
 rcases List.findIdx?_eq_some_iff_getElem.mp hq with ⟨hqlt,hqt,hqf⟩
 haveI hint:=Za hz2 r
 refine call_meets PySem.F.slot_list_index ⟨_,hL,rfl⟩ PySem.F.entry_list_index (PySem.F.args_list_index_2 _ _)
  (MeetsSeq.list_index a xs c (.int j t) (fun | .int z _=>z==j | _=>false) (fun y hy=>?_) q (l1▸hqlt) (Int.lt_of_le_of_lt (Int.ofNat_le.mpr (Nat.le_trans (Nat.le_of_lt hqlt) hz1)) (by decide)) ?_ (fun p hp hlt=>?_)) ⟨hL,k _ _⟩
 ·rcases Array.mem_iff_getElem.mp hy with ⟨p,hp,rfl⟩
  (refine Cu (hint p (l1▸hp) hp) ?_;intro z tk _ e2)
  rw [e2]
  exact MeetsSeq.EqGives.int _ _ _ _
 ·(refine Cu (hint q hqlt (l1▸hqlt)) ?_;intro z tk e1 e2)
  rw [e1] at hqt
  rw [e2]
  simpa using hqt
 ·(refine Cu (hint p (l1▸hp) hp) ?_;intro z tk e1 e2)
  haveI:=hqf p hlt
  rw [e1] at this
  rw [e2]
  simpa using this
theorem Zc {p:V×H} {o:V} {as:List V} {x:Value} {xs:List Value} (I:Inv wd π σ X s.heap) (hv:Ah π o x) (ha:VRels π as xs) (k:Kv wd X s Q π p.1 p.2) (e:A4 σ o .index as=some p) :
  wpAny (model wd.prog wd.w) A (call (.builtin "list.index") (x :: xs)) Q E s:=by
 refine Cn e fun i ei e1=>Hx e1 ha fun kv z h1 hz e2=>Cz e2 fun j ej e3=>?_
 subst ei
 subst h1
 subst ej
 (refine Ad hz ?_;try clear hz;intro t z_1;obtain rfl:=z_1)
 (refine Aa hv ?_;try clear hv;intro a hl z_2;obtain rfl:=z_2)
 refine Db e3 I hl fun vs xs c ho hL r l1 _ e4=>Bl e4 fun hz e4=>Fw e4 fun hi e5=>?_
 exact o1_e (f:=fun j:Nat=>(V.int j,σ)) (M:=fun p=>Kv wd X s Q π p.1 p.2→_) e5 (fun q hq k=>Zb hL r l1 hz hi hq fun t' u=>k.here I ⟨t',rfl⟩) k
theorem methB_sound {p:V×H} {m:BM} {o:V} {as:List V} {x:Value} {xs:List Value} (I:Inv wd π σ X s.heap) (hv:Ah π o x) (ha:VRels π as xs) (e:A4 σ o m as=some p) (k:Kv wd X s Q π p.1 p.2) :
  wpAny (model wd.prog wd.w) A (call (.builtin (Ra m)) (x :: xs)) Q E s:=by
 induction m with
 | append=>exact Y3 I hv ha k e
 | pop=>exact Y4 I hv ha k e
 | insert=>exact Y5 I hv ha k e
 | index=>exact Zc I hv ha k e
 | get=>exact Y6 I hv ha k e
 | lower=>exact Y7 I hv ha k e
 | split=>exact Y8 I hv ha k e
 | join=>exact Y9 I hv ha k e
end prims
end Z
end
section
open PySem PySem.W PyProof.Rows PySem.Calls Builtin Builtin.ObjectAttr
namespace Z
structure ClsOk (K:Frag) (C:Addr):Prop where
 ga:findIn K (.ref C) "__getattribute__"=some (some (.builtin "object.__getattribute__"))
 gt:findIn K (.ref C) "__getattr__"=some none
 sa:findIn K (.ref C) "__setattr__"=some (some (.builtin "object.__setattr__"))
 po:plainOver K C=true
 hd:(clsIn K C).any (·.hasDict)=true
section prims
variable {wd:Wd} {π:List Addr} {σ σ':H} {X:List (Addr×Obj)} {A:Around} {E:Value→Shared→Prop} {s:Shared} {Q:Value→Shared→Prop} {v:V}
theorem Re {wd:Wd} {π:List Addr}:∀ {es:List (Nat×V)} {ds:List DictEntry},Cm wd π es ds→∀ n:Nat,
  (es.lookup n=none∧ds.find? (·.key.isStr (nm n))=none)∨∃ v x,es.lookup n=some v∧(ds.find? (·.key.isStr (nm n))).map (·.val)=some x∧Ah π v x
 | [],_,h,n=>by subst h;exact .inl ⟨rfl,rfl⟩
 | (k,v) :: es,_,h,n=>by
  (refine Gq h ?_;try clear h;intro t y ys z_3 a r;obtain rfl:=z_3)
  by_cases q:k=n
  ·subst q
   refine .inr ⟨v,y,by simp,?_,a⟩
   rw [List.find?_cons_of_pos]
   ·rfl
   ·exact beq_self_eq_true (nm k)
  ·haveI q':(n==k)=false:=beq_false_of_ne (Ne.symm q)
   haveI hne:(nm k==nm n)=false:=beq_false_of_ne fun z=>q (Qr _ _ z)
   rw [List.lookup_cons,q',List.find?_cons_of_neg]
   ·exact Re r n
   ·exact ne_true_of_eq_false hne
theorem Mz {wd:Wd} {π:List Addr}:∀ {es:List (Nat×V)} {ds:List DictEntry},Cm wd π es ds→ds.any (·.refKey)=false
 | [],_,h=>by subst h;rfl
 | (k,v) :: es,_,h=>by
  (refine Gq h ?_;try clear h;intro t y ys z_3 a r;obtain rfl:=z_3)
  rw [List.any_cons,Mz r]
  rfl
theorem Rf {wd:Wd} {π:List Addr} {es:List (Nat×V)} {ds:Array DictEntry} {c:Nat} (h:Cm wd π es ds.toList) (n:Nat) :
  (es.lookup n=none∧lookIn (nm n) {cls:=.type "dict",dict:=none,data:=.dict ds c,slots:=#[]}=some none) ∨
  ∃ v x,es.lookup n=some v∧lookIn (nm n) {cls:=.type "dict",dict:=none,data:=.dict ds c,slots:=#[]}=some (some x)∧Ah π v x:=by
 focus (refine oe (Re h n) ?_ ?_;rotate_left;(intro z_o;refine Ai z_o ?_;intro v x e1 e2 r);rotate_right;(intro z_o;refine Ac z_o ?_;intro e1 e2))
 ·refine .inl ⟨e1,?_⟩
  unfold lookIn
  dsimp only
  rw [e2]
  dsimp only
  rw [Mz h]
  rfl
 ·refine .inr ⟨v,x,e1,?_,r⟩
  unfold lookIn
  dsimp only
  (refine Aa (Option.map_eq_some_iff.mp e2) ?_;intro e he z_2;obtain rfl:=z_2)
  rw [he]
theorem M0 (I:Inv wd π σ X s.heap) {i:Nat} {a C:Addr} {d:Nat} {es:List (Nat×V)} (ha:π[i]?=some a) (e:Cx σ (.ref i)=some (C,d,es)) :
  ∃ dx ds c,π[d]?=some dx∧σ[d]?=some (.ns es)∧s.heap.get? dx=some {cls:=.type "dict",dict:=none,data:=.dict ds c,slots:=#[]}∧Cm wd π es ds.toList ∧
   InstAt s.heap a (instObj C dx) C (some {cls:=.type "dict",dict:=none,data:=.dict ds c,slots:=#[]}):=by
 haveI e':(match σ[i]? with
  | some (.inst C d)=>(match σ[d]? with
   | some (.ns es)=>some (C,d,es)
   | _=>none)
  | _=>none)=some (C,d,es):=e
 cases ho:σ[i]? with
 | none=>rw [ho] at e';exact nn e'
 | some o =>
  rw [ho] at e'
  induction o with
  | inst C' d' =>
   haveI e2:(match σ[d']? with
    | some (.ns es)=>some (C',d',es)
    | _=>none)=some (C,d,es):=e'
   cases ho':σ[d']? with
   | none=>rw [ho'] at e2;exact nn e2
   | some o =>
    rw [ho'] at e2
    induction o with
    | ns es' =>
     cases e2
     rcases I.at ha ho with ⟨ob,e1,dx,hdx,rfl⟩
     rcases I.at hdx ho' with ⟨ob',e2,ds,c,rfl,r⟩
     exact ⟨dx,ds,c,hdx,ho',e2,r,⟨e1,rfl,rfl,e2⟩⟩
    | _=>exact nn e2
  | _=>exact nn e'
theorem Zd {v':V} (h:I8 (some v')=some v):v'=v∧∀ c,v≠.con c:=by
 induction v' with
 | con c=>exact nn h
 | _=>obtain rfl:=Option.some.inj h;exact ⟨rfl,fun c q=>nomatch q⟩
theorem Ze {π:List Addr} {v:V} {x:Value} (h:Ah π v x) (hc:∀ c,v≠.con c):handedIn x=true:=by
 induction v with
 | none=>subst h;rfl
 | bool b=>subst h;rfl
 | int i=>(refine Ad h ?_;try clear h;intro t z_1;obtain rfl:=z_1);rfl
 | str i=>(refine Ad h ?_;try clear h;intro t z_1;obtain rfl:=z_1);rfl
 | ref i=>(refine Aa h ?_;try clear h;intro a _ z_2;obtain rfl:=z_2);rfl
 | con c=>exact absurd rfl (hc c)
theorem Zf (KI:wd.K.In wd.hb) (hda:∀ C n,tb.da C n=true→findIn wd.K (.ref C) (nm n)=some none∧ClsOk wd.K C) {o:V} {x:Value} {n:Nat} {expr:Bool}
  (I:Inv wd π σ X s.heap) (hv:Ah π o x) (e:A8 tb σ o n=some v) (k:Kv wd X s Q π v σ):wpAny (model wd.prog wd.w) A (getAttr x (nm n) expr) Q E s:=by
 refine b_e e fun t hi e1=>Fw e1 fun hq e2=>?_
 rcases t with ⟨C,d,es⟩
 (refine Ac (hda C n hq) ?_;intro h1 h2)
 induction o with
 | ref i =>
  (refine Aa hv ?_;try clear hv;intro a ha z_2;obtain rfl:=z_2)
  (refine Mq (M0 I ha hi) ?_;intro dx ds c hdx hns hd r IA)
  focus (refine oe (Rf (c:=c) r n) ?_ ?_;rotate_left;(intro z_o;refine Ai z_o ?_;intro v' y q1 q2 hv');rotate_right;(intro z_o;refine Ac z_o ?_;intro q1 q2))
  ·exact nn ((congrArg I8 q1).symm.trans e2)
  ·(refine Ac (Zd ((congrArg I8 q1).symm.trans e2)) ?_;intro z_0 hc;obtain rfl:=z_0)
   refine get_value (KI.keeps I.base) IA h2.ga ?_ (Ze hv' hc) (k.here I hv')
   (refine Aa (any_some h2.hd) ?_;intro cd hcd hdict)
   unfold findObj
   rw [hcd,Option.bind_some,h1,Option.bind_some]
   dsimp only [Option.bind_some]
   unfold W.ownOf
   rw [if_pos hdict]
   dsimp only
   rw [q2]
   rfl
 | _=>exact nn hi
theorem Zg (KI:wd.K.In wd.hb) {o:V} {x:Value} {n:Nat} {C f:Addr} {d:Nat} {es:List (Nat×V)} {pl:Sem Bool} {Q:Value×List Value→Shared→Prop}
  (hc:ClsOk wd.K C) (hf:findIn wd.K (.ref C) (nm n)=some (some (.ref f))) (ht:typeIn wd.K (.ref f)=some (.type "function"))
  (I:Inv wd π σ X s.heap) (hv:Ah π o x) (e:Cx σ o=some (C,d,es)) (hn:(es.lookup n).isSome=false) (k:Q (.ref f,[x]) s):wpAny (model wd.prog wd.w) A (getMethod x (nm n) pl) Q E s:=by
 induction o with
 | ref i =>
  (refine Aa hv ?_;try clear hv;intro a ha z_2;obtain rfl:=z_2)
  (refine Mq (M0 I ha e) ?_;intro dx ds c hdx hns hd r IA)
  refine method_fn (KI.keeps I.base) IA hc.ga hc.gt hf ht ?_ k
  focus (refine oe (Rf (c:=c) r n) ?_ ?_;rotate_left;(intro z_o;refine Ai z_o ?_;intro v' y e1 e2 hv');rotate_right;(intro z_o;refine Ac z_o ?_;intro e1 e2))
  ·unfold shadowIn
   dsimp only
   rw [e2];rfl
  ·rw [e1] at hn;cases hn
 | _=>exact nn e
theorem Rg {n k:Nat} {u v:V} {es:List (Nat×V)} (h:k=n):Fk ((k,u) :: es) n v=(k,v) :: es:=if_pos h
theorem Rh {n k:Nat} {u v:V} {es:List (Nat×V)} (h:¬ k=n):Fk ((k,u) :: es) n v=(k,u) :: Fk es n v:=if_neg h
theorem Zh {α:Type} {p:α→Bool} {f:Option α→α} {e:α} {r:List α} (h:p e=true):(nswPut p f (e :: r)).1=f (some e) :: r:=congrArg Prod.fst (if_pos h)
theorem Zi {α:Type} {p:α→Bool} {f:Option α→α} {e:α} {r:List α} (h:p e=false):(nswPut p f (e :: r)).1=e :: (nswPut p f r).1:=congrArg Prod.fst (if_neg (h▸Bool.false_ne_true))
theorem Ri {wd:Wd} {π:List Addr} {v:V} {x:Value} {n:Nat} {t:Tok} (hv:Ah π v x):∀ {es:List (Nat×V)} {ds:List DictEntry},Cm wd π es ds →
  Cm wd π (Fk es n v) (nswPut (·.key.isStr (nm n)) (fun | some e=>{e with val:=x} | none=>⟨PyData.keyHash wd.w.params (nm n),.str (nm n) t,x⟩) ds).1
 | [],_,h=>by subst h;exact ⟨t,x,[],rfl,hv,rfl⟩
 | (k,u) :: es,_,h=>by
  (refine Gq h ?_;try clear h;intro t' y ys z_3 a r;obtain rfl:=z_3)
  by_cases q:k=n
  ·subst q
   rw [Rg rfl,Zh]
   ·exact ⟨t',x,ys,rfl,hv,r⟩
   ·exact beq_self_eq_true (nm k)
  ·haveI hne:(nm k==nm n)=false:=by exact beq_false_of_ne fun z=>q (Qr _ _ z)
   rw [Rh q,Zi]
   ·exact ⟨t',y,_,rfl,a,Ri hv r⟩
   ·exact hne
theorem Cm.len {wd:Wd} {π:List Addr}:∀ {es:List (Nat×V)} {ds:List DictEntry},Cm wd π es ds→ds.length=es.length
 | [],_,h=>by subst h;rfl
 | (k,v) :: es,_,h=>by
  (refine Gq h ?_;try clear h;intro t y ys z_3 a r;obtain rfl:=z_3)
  rw [List.length_cons,List.length_cons,r.len]
theorem Rj {n:Nat} {v:V}:∀ es:List (Nat×V),(Fk es n v).length≤es.length+1
 | []=>Nat.le_refl _
 | (k,u) :: es=>by
  by_cases h:k=n
  ·rw [Rg h]
   exact Nat.le_succ _
  ·rw [Rh h]
   exact Nat.succ_le_succ (Rj es)
theorem Zj (n:Nat) (ds:Array DictEntry) (c:Nat) (y:Value) (t:Tok):∃ m,Obj.putName (nm n) (PyData.keyHash wd.w.params (nm n)) (.str (nm n) t) y {cls:=.type "dict",dict:=none,data:=.dict ds c,slots:=#[]} =
  {cls:=.type "dict",dict:=none,data:=.dict (nswPut (·.key.isStr (nm n)) (fun | some e=>{e with val:=y} | none=>⟨PyData.keyHash wd.w.params (nm n),.str (nm n) t,y⟩) ds.toList).1.toArray m,slots:=#[]}:=by
 unfold Obj.putName
 dsimp only
 rw [nsPutIn_is,isStrByCps_fun]
 haveI h:∀ q:List DictEntry×Bool,∃ m:Nat,(match q with
  | (l,false)=>({cls:=.type "dict",dict:=none,data:=.dict l.toArray c,slots:=#[]}:Obj)
  | (l,true)=>{cls:=.type "dict",dict:=none,data:=.dict l.toArray (c+1),slots:=#[]})={cls:=.type "dict",dict:=none,data:=.dict q.1.toArray m,slots:=#[]}:=fun q=>by
  rcases q with ⟨l,b⟩
  cases b
  ·exact ⟨_,rfl⟩
  ·exact ⟨_,rfl⟩
 exact h _
theorem Zk (KI:wd.K.In wd.hb) (hda:∀ C n,tb.da C n=true→findIn wd.K (.ref C) (nm n)=some none∧ClsOk wd.K C) {o:V} {x y:Value} {n:Nat} {Q:Unit→Shared→Prop}
  (I:Inv wd π σ X s.heap) (hv:Ah π o x) (hu:Ah π v y) (e:Fm tb σ o n v=some σ') (k:Ku wd X s Q π σ'):wpAny (model wd.prog wd.w) A (setAttr x (nm n) y) Q E s:=by
 refine b_e e fun t hi e1=>Fw e1 fun hq e1=>Bl e1 fun hlen e1=>Bl e1 fun hfz e2=>?_
 rcases t with ⟨C,d,es⟩
 obtain rfl:=Option.some.inj e2
 (refine Ac (hda C n hq) ?_;intro h1 h2)
 induction o with
 | ref i =>
  (refine Aa hv ?_;try clear hv;intro a ha z_2;obtain rfl:=z_2)
  (refine Mq (M0 I ha hi) ?_;intro dx ds c hdx hns hd r IA)
  haveI XK:wd.K.In s.heap:=KI.keeps I.base
  refine set_plain XK IA h2.sa ?_
  refine osa_open (s:={s with toks:=s.toks+1}) XK IA h2.po (r:=none) ?_ fun b=>?_
  ·unfold takerIn
   rw [h1];rfl
  ·(refine Aa (any_some h2.hd) ?_;intro cd hcd hdict)
   rcases IA with ⟨hx,hcl,hn,-⟩
   refine wpAny_bind (wpAny_pure (wpAny_bind (wpAny_bind (wpAny_loadPart hx (wpAny_bind (Looks.here (s:={s with toks:=s.toks+1}) (looks_clsIn XK hcd) ?_))))))
   rw [hdict]
   refine wpAny_pure (a:=some dx) (wpAny_bind (wpAny_pure (wpAny_bind ?_)))
   unfold nsSet
   refine wpAny_bind (wpAny_bind (wpAny_askSetting (wpAny_pure (wpAny_bind (wpAny_mkText (wpAny_bind (wpAny_loadPart hd ?_)))))))
   haveI cr:(!ds.any (·.key.isStr (nm n))&&ds.any (·.refKey))=false:=by
    rw [← Array.any_toList (p:=fun x:DictEntry=>x.refKey),Mz r,Bool.and_false]
   dsimp only
   rw [aRefKeyMayBeTheName_at,cr]
   refine wpAny_updatePart hd ?_
   haveI R':=Ri (n:=n) (t:=s.toks+1) hu r
   (refine Ad (Zj (wd:=wd) n ds c y (s.toks+1)) ?_;intro m em)
   haveI g:=Heap.get?_update_self (Obj.putName (nm n) (PyData.keyHash wd.w.params (nm n)) (.str (nm n) (s.toks+1)) y) hd (by rw [em];rfl)
   rw [em] at g
   refine wpAny_bind (wpAny_lookBehind g (pastItsLine_dict ?_) ?_)
   ·rw [List.size_toArray,R'.len,sizeLine_eq]
    exact Nat.le_trans (Rj es) (Nat.le_trans (Nat.succ_le_succ hlen) (by decide))
   ·exact wpAny_pure (k.here (I.turn hdx hfz (Heap.SameBut.update ..) g ⟨_,_,rfl,R'⟩))
 | _=>exact nn hi
end prims
end Z
end
section
open PySem PySem.W PyProof.Rows PySem.Calls
namespace Z
section prims
variable {wd:Wd} {π:List Addr} {σ σ':H} {X:List (Addr×Obj)} {A:Around} {E:Value→Shared→Prop} {s:Shared} {v:V}
theorem Rk {n:Nat} (h:n≤lim+1):(n:Int) < 2 ^ 63:=Int.lt_of_le_of_lt (Int.ofNat_le.mpr h) (by decide)
theorem Rl {k n:Int} (h:0≤k+n):-n≤k:=by have:=Int.sub_le_sub_right h n;rwa [Int.zero_sub,Int.add_sub_cancel] at this
theorem Zl {k:Int} {n:Nat} (h:0≤k+n) (hl:n≤lim+1):-(2 ^ 63)≤k:=Int.le_trans (Int.neg_le_neg (Int.le_of_lt (Rk hl))) (Rl h)
theorem Zm {l:Addr} {items:Array Value} {n:Nat} {k:Int} {t:Tok} {y:Value} {j:Nat} {Q:Unit→Shared→Prop} (hL:IsL s.heap l items n) (hlim:items.size≤lim+1)
  (hc:(0≤k∧k < items.size∧j=k.toNat)∨(k < 0∧0≤k+items.size∧j=(k+items.size).toNat))
  (hQ:Q () {s with heap:=s.heap.update l (Obj.mapSeq (·.setIfInBounds j y))}) :
  wpAny (model wd.prog wd.w) A (setItem (.ref l) (.int k t) y) Q E s:=by
 haveI hl:=IsL.isList hL
 unfold setItem
 try with_reducible refine wpAny_holding ?_
 first | refine wpAny_bind (wpAny_pure ?_) | skip
 refine wpAny_bind (wpAny_sequenceKey hl.typeIs (by decide) ?_)
 refine wpAny_bind (wpAny_callSpecial?_slot (name:=Str.ofString "__setitem__") hl.typeIs slot_list_setitem
  (wpAny_call_entry slot_list_setitem hl.typeIs entry_list_setitem ?_ (args_list_setitem _ _ _)))
 show wpAny _ _ (Builtin.List.listSubscript? (.int k t) >>= _) _ _ s
 focus (refine oe hc ?_ ?_;rotate_left;(try clear hc;intro z_o;refine As z_o ?_;intro h0 h1 hj);rotate_right;(try clear hc;intro z_o;refine As z_o ?_;intro h0 h1 hj))
 ·refine wpAny_bind (wpAny_listSubscript_int (fitsIndex_of h0 (Int.lt_trans h1 (Rk hlim))) ?_)
  (refine Ad (Int.eq_ofNat_of_zero_le h0) ?_;intro i z_1;obtain rfl:=z_1)
  haveI hij:i=j:=by rw [hj];rfl
  subst hij
  haveI hi:i < items.size:=by exact o_9 ‹_›
  show wpAny _ _ ((seqItemAt l i >>= fun r=>pure (r.map (i,·))) >>= _) _ _ s
  refine wpAny_bind (wpAny_bind (wpAny_seqItemAt hL rfl (wpAny_pure ?_)))
  rw [Array.getElem?_eq_getElem hi]
  show wpAny _ _ (setSeqItemAt l i y >>= _) _ _ s
  refine wpAny_bind (wpAny_setSeqItemAt hL rfl ?_)
  first
   | exact wpAny_bind (wpAny_pure (wpAny_pure ⟨.none,rfl,wpAny_pure hQ⟩))
   | exact wpAny_pure ⟨.none,rfl,wpAny_pure hQ⟩
 ·refine wpAny_bind (wpAny_listSubscript_int (fitsIndex_neg h0 (Zl h1 hlim)) ?_)
  haveI hidx:=seqIndex_neg (n:=items.size) h0 (Rl h1)
  haveI hi:j < items.size:=hj▸(Int.toNat_lt h1).mpr (by have:=Int.add_lt_add_right h0 items.size;rwa [Int.zero_add] at this)
  obtain ⟨q,rfl⟩:∃ q:Nat,k=Int.negSucc q:=by
   cases k with
   | ofNat n=>exact absurd h0 (Int.not_lt.mpr (Int.natCast_nonneg n))
   | negSucc n=>exact ⟨n,rfl⟩
  show wpAny _ _ ((Builtin.List.listItems (.ref l) >>= fun xs=>pure ((seqIndex? (Int.negSucc q) xs.size).bind fun i=>xs[i]?.map (i,·))) >>= _) _ _ s
  refine wpAny_bind (wpAny_bind ?_)
  show wpAny _ _ (seqItems? (.ref l) >>= _) _ _ s
  refine wpAny_bind (wpAny_seqItems hL rfl (wpAny_pure (wpAny_pure ?_)))
  rw [hidx,← hj]
  simp only [Option.bind_some,Array.getElem?_eq_getElem hi,Option.map_some]
  show wpAny _ _ (setSeqItemAt l j y >>= _) _ _ s
  refine wpAny_bind (wpAny_setSeqItemAt hL rfl ?_)
  first
   | exact wpAny_bind (wpAny_pure (wpAny_pure ⟨.none,rfl,wpAny_pure hQ⟩))
   | exact wpAny_pure ⟨.none,rfl,wpAny_pure hQ⟩
noncomputable def Hy (kvs:List (Str×Value)) (k:Str) (v:Value):List (Str×Value):=match kvs with
 | []=>[(k,v)]
 | (x,u) :: r=>if x=k then (x,v) :: r else (x,u) :: Hy r k v
theorem Rm {es:List (Str×V)} {x k:Str} {u v:V}:Ct ((x,u) :: es) k v=if x=k then (x,v) :: es else (x,u) :: Ct es k v:=rfl
theorem Rn {es:List (Str×Value)} {x k:Str} {u v:Value}:Hy ((x,u) :: es) k v=if x=k then (x,v) :: es else (x,u) :: Hy es k v:=rfl
theorem M1 {k:Str} {v:Value}:∀ {kvs:List (Str×Value)},(kvs.map (·.1)).Nodup→stored kvs k v=Hy kvs k v
 | []=>@fun _=>rfl
 | (x,u) :: r=>@fun hn=>by
  rw [List.map_cons,List.nodup_cons] at hn
  haveI ih:=M1 (k:=k) (v:=v) hn.2
  rw [Rn]
  by_cases q:x=k
  ·subst q
   unfold stored
   rw [if_pos (by simp),if_pos rfl,List.map_cons,if_pos rfl]
   rw [map_store_of_not_mem r x v hn.1]
  ·rw [if_neg q,← ih]
   unfold stored
   by_cases qa:(r.any fun kv=>decide (kv.1=k))=true
   ·rw [if_pos (by rw [List.any_cons,qa,Bool.or_true]),if_pos qa,List.map_cons,if_neg q]
   ·rw [if_neg (by rw [List.any_cons];simp only [q,decide_false,Bool.false_or];exact qa),if_neg qa]
    rfl
theorem K6 {π:List Addr} {k:Str} {v:V} {x:Value} (hv:Ah π v x):∀ {es:List (Str×V)} {kvs:List (Str×Value)},Bq π es kvs→Bq π (Ct es k v) (Hy kvs k x)
 | [],_,h=>by subst h;exact ⟨x,[],rfl,hv,rfl⟩
 | (y,u) :: es,_,h=>by
  (refine Ai h ?_;try clear h;intro z zs z_2 a r;obtain rfl:=z_2)
  rw [Rm,Rn]
  by_cases q:y=k
  ·rw [if_pos q,if_pos q]
   exact ⟨x,zs,rfl,hv,r⟩
  ·rw [if_neg q,if_neg q]
   exact ⟨z,_,rfl,a,K6 hv r⟩
theorem Bq.len {π:List Addr}:∀ {es:List (Str×V)} {kvs:List (Str×Value)},Bq π es kvs→kvs.length=es.length
 | [],_,h=>by subst h;rfl
 | (y,u) :: es,_,h=>by
  (refine Ai h ?_;try clear h;intro z zs z_2 a r;obtain rfl:=z_2)
  rw [List.length_cons,List.length_cons,r.len]
theorem DictOf.nodup {h:Heap} {a:Addr} {kvs:List (Str×Value)} (D:h.DictOf (strKind wd.prog wd.w) a kvs):(kvs.map (·.1)).Nodup:=by
 (refine Ev D ?_;try clear D;intro o es ep e h1 h2 h3 h4 h5)
 exact h5
theorem DictOf.orel {h:Heap} {a:Addr} {kvs:List (Str×Value)} {es:List (Str×V)} (D:h.DictOf (strKind wd.prog wd.w) a kvs) (r:Bq π es kvs):∃ ob,h.get? a=some ob∧Bb wd π (.dict es) ob:=by
 (refine Ev D ?_;try clear D;intro o ds ep e h1 h2 h3 h4 h5)
 exact ⟨o,e,ds,ep,kvs,h1,h2,h3,h4,h5,r⟩
theorem Zn {a b:V} {x y z:Value} {Q:Unit→Shared→Prop} (I:Inv wd π σ X s.heap) (ha:Ah π a x) (hi:Ah π b y) (hv:Ah π v z) (e:Cy σ a b v=some σ') (k:Ku wd X s Q π σ') :
  wpAny (model wd.prog wd.w) A (setItem x y z) Q E s:=by
 refine Cn e fun i ei e1=>?_
 subst ei
 (refine Aa ha ?_;try clear ha;intro l hl z_2;obtain rfl:=z_2)
 induction b with
 | int j =>
  (refine Ad hi ?_;try clear hi;intro t z_1;obtain rfl:=z_1)
  refine Db e1 I hl fun vs xs n ho hL r l1 hz e2=>Bl e2 fun hf e3=>?_
  refine o1_e (f:=fun j=>σ.set i (.list (vs.set j v))) (M:=fun σ'=>Ku wd X s Q π σ'→_) e3 (fun p hp k=>?_) k
  refine Zm hL (Nat.le_trans (Nat.le_of_eq l1) hz) (j:=p) (l1▸(Ye hp).2) ?_
  exact k.here (I.turn hl hf (Heap.SameBut.update ..) (IsL.update hL _) (.ofList (r.set hv p) Array.toList_setIfInBounds _ (Nat.le_trans (Nat.le_of_eq List.length_set) hz)))
 | str q =>
  (refine Ad hi ?_;try clear hi;intro t z_1;obtain rfl:=z_1)
  refine Q0 e1 I hl fun es kvs hD r e2=>Bl e2 fun hz e2=>Bl e2 fun hf e3=>?_
  obtain rfl:=Option.some.inj e3
  refine wpAny_setItem_pairs (strKind_is wd.prog wd.w q t) hD (fun h' hD' hs=>?_) (by rw [r.len,sizeLine_eq];exact Nat.le_trans hz (by decide))
  rw [M1 (DictOf.nodup hD)] at hD'
  (refine Aa (DictOf.orel (π:=π) hD' (K6 hv r)) ?_;intro ob e1 r1)
  exact k.here (I.turn hl hf hs e1 r1)
 | _=>exact nn e1
theorem Inv.admit {h h':Heap} {a:Addr} {o:O} {ob ob':Obj} (I:Inv wd π σ ((a,ob) :: X) h) (hs:Heap.SameBut a h h') (e:h'.get? a=some ob') (r:Bb wd (π++[a]) o ob') :
  Inv wd (π++[a]) (σ++[o]) X h':=by
 have I':=I.turnX (h':=h') ⟨[],X,rfl⟩ hs e [] X rfl
 haveI nd:=I.nd
 rw [List.nodup_append,List.map_cons,List.nodup_cons] at nd
 refine ⟨I'.base,by rw [List.length_append,List.length_append,I.len];rfl,fun i b o' hi ho=>?_,fun p hp=>I'.ext p (.tail _ hp),fun i b hf hi=>?_,fun p hp=>I.newX p (.tail _ hp),?_,I.sysb,fun b hb'=>?_,by rw [List.length_append];exact Nat.le_trans I.lenf (Nat.le_add_right _ _)⟩
 ·by_cases hl:i < π.length
  ·rw [List.getElem?_append_left hl] at hi
   rw [List.getElem?_append_left (I.len▸hl)] at ho
   (refine Aa (I'.obj i b o' hi ho) ?_;intro ob2 e2 r2)
   exact ⟨ob2,e2,r2.mono _⟩
  ·haveI e1:i=π.length:=by
    haveI:=(List.getElem?_eq_some_iff.mp hi).1
    rw [List.length_append,List.length_singleton] at this
    exact Nat.le_antisymm (Nat.le_of_lt_succ this) (Nat.not_lt.mp hl)
   subst e1
   rw [List.getElem?_append_right (Nat.le_refl _),Nat.sub_self] at hi
   rw [I.len,List.getElem?_append_right (Nat.le_refl _),Nat.sub_self] at ho
   obtain rfl:=Option.some.inj hi;obtain rfl:=Option.some.inj ho
   exact ⟨ob',e,r⟩
 ·by_cases hl:i < π.length
  ·rw [List.getElem?_append_left hl] at hi
   exact I.new i b hf hi
  ·have e1:i=π.length:=by
    haveI:=(List.getElem?_eq_some_iff.mp hi).1
    rw [List.length_append,List.length_singleton] at this
    exact Nat.le_antisymm (Nat.le_of_lt_succ this) (Nat.not_lt.mp hl)
   subst e1
   rw [List.getElem?_append_right (Nat.le_refl _),Nat.sub_self] at hi
   obtain rfl:=Option.some.inj hi
   exact (I.newX (a,ob) (.head _)).1
 ·rw [List.append_assoc,List.nodup_append]
  refine ⟨nd.1,?_,?_⟩
  ·show (a :: X.map (·.1)).Nodup
   rw [List.nodup_cons]
   exact nd.2.1
  ·exact nd.2.2
 ·refine oe (List.mem_append.mp hb') (fun hb'=>?_) (fun hb'=>?_)
  ·exact I.sys b hb'
  ·rw [List.mem_singleton] at hb'
   subst hb'
   exact (I.newX (b,ob) (.head _)).2
end prims
section prims
variable {wd:Wd} {π:List Addr} {σ σ':H} {X:List (Addr×Obj)} {A:Around} {E:Value→Shared→Prop} {s:Shared} {v:V}
theorem Inv.turnE {h h':Heap} {a:Addr} {ob ob':Obj} (I:Inv wd π σ ((a,ob) :: X) h) (k:∀ b o,b≠a→h.get? b=some o→h'.get? b=some o) (e:h'.get? a=some ob') :
  Inv wd π σ ((a,ob') :: X) h':=by
 haveI nd:=I.nd
 rw [List.nodup_append,List.map_cons,List.nodup_cons] at nd
 have hn:=I.newX (a,ob) (.head _)
 refine ⟨fun b o e'=>k b o (fun z=>?_) (I.base b o e'),I.len,fun i b o hi ho=>?_,fun p hp=>?_,I.new,fun p hp=>?_,?_,I.sysb,I.sys,I.lenf⟩
 ·rw [z,hn.1] at e';exact nn e'
 ·(refine Aa (I.obj i b o hi ho) ?_;intro ob'' e'' r'')
  refine ⟨ob'',k _ _ (fun z=>?_) e'',r''⟩
  exact nd.2.2 b (List.mem_of_getElem? hi) a (.head _) z
 ·focus (refine oe (List.mem_cons.mp hp) ?_ ?_;rotate_left;(intro hp);rotate_right;(intro z_o;obtain rfl:=z_o))
  ·exact e
  ·exact k _ _ (fun z=>nd.2.1.1 (List.mem_map.mpr ⟨p,hp,z⟩)) (I.ext p (.tail _ hp))
 ·focus (refine oe (List.mem_cons.mp hp) ?_ ?_;rotate_left;(intro hp);rotate_right;(intro z_o;obtain rfl:=z_o))
  ·exact hn
  ·exact I.newX p (.tail _ hp)
 ·rw [List.map_cons,List.nodup_append,List.nodup_cons]
  exact nd
theorem Inv.dropE {h h':Heap} {a:Addr} {ob:Obj} (I:Inv wd π σ ((a,ob) :: X) h) (k:∀ b o,b≠a→h.get? b=some o→h'.get? b=some o):Inv wd π σ X h':=by
 have nd:=I.nd
 rw [List.nodup_append,List.map_cons,List.nodup_cons] at nd
 have hn:=I.newX (a,ob) (.head _)
 refine ⟨fun b o e'=>k b o (fun z=>?_) (I.base b o e'),I.len,fun i b o hi ho=>?_,fun p hp=>k _ _ (fun z=>nd.2.1.1 (List.mem_map.mpr ⟨p,hp,z⟩)) (I.ext p (.tail _ hp)),I.new,fun p hp=>I.newX p (.tail _ hp),?_,I.sysb,I.sys,I.lenf⟩
 ·rw [z,hn.1] at e';exact nn e'
 ·(refine Aa (I.obj i b o hi ho) ?_;intro ob'' e'' r'')
  refine ⟨ob'',k _ _ (fun z=>?_) e'',r''⟩
  exact nd.2.2 b (List.mem_of_getElem? hi) a (.head _) z
 ·rw [List.nodup_append]
  exact ⟨nd.1,nd.2.1.2,fun x hx y hy=>nd.2.2 x hx y (.tail _ hy)⟩
theorem Inv.swap {h:Heap} {p q:Addr×Obj} (I:Inv wd π σ (p :: q :: X) h):Inv wd π σ (q :: p :: X) h:=by
 have mem:∀ z,z∈q :: p :: X→z∈p :: q :: X:=fun z hz=>by
  simp only [List.mem_cons] at hz ⊢
  rcases hz with rfl | rfl | hz
  ·exact .inr (.inl rfl)
  ·exact .inl rfl
  ·exact .inr (.inr hz)
 refine ⟨I.base,I.len,I.obj,fun z hz=>I.ext z (mem z hz),I.new,fun z hz=>I.newX z (mem z hz),?_,I.sysb,I.sys,I.lenf⟩
 refine List.Perm.nodup ?_ I.nd
 rw [List.map_cons,List.map_cons,List.map_cons,List.map_cons]
 exact List.Perm.append_left _ (List.Perm.swap ..)
noncomputable def ItO (π:List Addr):It→Obj→Prop
 | .li i k,ob=>∃ l,π[i]?=some l∧ob.cls=.type "list_iterator"∧ob.data=.fields #[.ref l,.int k 0]
 | .tu i k,ob=>∃ l,π[i]?=some l∧ob.cls=.type "tuple_iterator"∧ob.data=.fields #[.ref l,.int k 0]
 | .rg a n,ob=>ob={cls:=.type "range_iterator",dict:=none,data:=.fields #[rawInt a,rawInt n,rawInt 1],slots:=#[]}
 | .st z k,ob=>∃ t,ob.cls=.type (strIterType z)∧ob.data=.fields #[.str z t,.int k 0]
theorem ItO.mono {π:List Addr} (ρ:List Addr) {it:It} {ob:Obj} (h:ItO π it ob):ItO (π++ρ) it ob:=by
 induction it with
 | li i k=>(refine Aa h ?_;try clear h;intro l hl r);exact ⟨l,get_mono ρ hl,r⟩
 | tu i k=>(refine Aa h ?_;try clear h;intro l hl r);exact ⟨l,get_mono ρ hl,r⟩
 | rg a n=>exact h
 | st z k=>exact h
theorem Inv.fresh (I:Inv wd π σ X s.heap) (ob:Obj) (hf:ob.isFreed=false):Inv wd π σ ((s.heap.objs.size,ob) :: X) (s.heap.push ob):=I.hold (fun _ _ e=>Heap.get?_push_of_some _ e) (Nat.le_refl _) (Heap.get?_push_size _ hf)
theorem Ro {p:Int} (h:-(lim:Int)≤p):-(2 ^ 62)≤p:=Int.le_trans (by decide) h
theorem Rp {p:Int} (h:p≤lim):p < 2 ^ 62:=Int.lt_of_le_of_lt h (by decide)
theorem Zo {p q:Int} {t u z:Tok} {x:Addr} {Q:Value→Shared→Prop} (hx:s.heap.get? x=some {cls:=.type "range",dict:=none,data:=.fields #[.int p t,.int q u,.int 1 z],slots:=#[]})
  (hz:-(lim:Int)≤p∧p≤lim∧-(lim:Int)≤q∧q≤lim) (k:∀ ob:Obj,ItO π (.rg p (q-p).toNat) ob→ob.isFreed=false→Q (.ref s.heap.objs.size) {s with heap:=s.heap.push ob}):wpAny (model wd.prog wd.w) A (pyIter (.ref x)) Q E s:=by
 (refine Hm hz ?_;try clear hz;intro z1 z2 z3 z4)
 refine wpAny_pyIter_range hx (small_one (Ro z1) (Rp z2) (Ro z3) (Rp z4)) (k _ ?_ rfl)
 haveI:((q-p).toNat:Int)=Builtin.Range.rangeSize p q 1:=by
  rw [rangeSize_one]
  by_cases h:p < q
  ·rw [if_pos h];exact Int.toNat_of_nonneg (Int.le_of_lt (Int.sub_pos_of_lt h))
  ·rw [if_neg h,Int.toNat_of_nonpos (Int.sub_nonpos_of_le (Int.not_lt.mp h))];rfl
 show (_:Obj)=_
 rw [this]
theorem Rq {a:V} {x:Value} {it:It} {Q:Value→Shared→Prop} (I:Inv wd π σ X s.heap) (ha:Ah π a x) (e:Ci σ a=some it)
  (k:∀ ia ob h',ItO π it ob→Inv wd π σ ((ia,ob) :: X) h'→Q (.ref ia) {s with heap:=h'}):wpAny (model wd.prog wd.w) A (pyIter x) Q E s:=by
 induction a with
 | ref i =>
  (refine Aa ha ?_;try clear ha;intro l hl z_2;obtain rfl:=z_2)
  haveI e':(match σ[i]? with
   | some (.list _)=>some (It.li i 0)
   | some (.tuple _)=>some (.tu i 0)
   | some (.range a b)=>if -(lim:Int)≤a∧a≤lim∧-(lim:Int)≤b∧b≤lim then some (.rg a (b-a).toNat) else none
   | _=>none)=some it:=e
  cases ho:σ[i]? with
  | none=>rw [ho] at e';exact nn e'
  | some o =>
   rw [ho] at e'
   induction o with
   | list vs =>
    cases e'
    (refine Ai (list_at I hl ho) ?_;intro xs c hL r _)
    exact wpAny_pyIter_list (IsL.isList hL) (k _ _ _ ⟨l,hl,rfl,rfl⟩ (I.fresh _ rfl))
   | tuple vs =>
    cases e'
    (refine Ai (Ex I hl ho) ?_;intro xs c hL r _)
    exact wpAny_pyIter_tuple ⟨_,hL,rfl,_,rfl⟩ (k _ _ _ ⟨l,hl,rfl,rfl⟩ (I.fresh _ rfl))
   | range p q =>
    refine B4 e' fun hz e2=>?_
    obtain rfl:=Option.some.inj e2
    rcases I.at hl ho with ⟨ob,e1,t,u,z,rfl⟩
    exact Zo (π:=π) e1 hz fun ob h1 h2=>k _ _ _ h1 (I.fresh _ h2)
   | _=>exact nn e'
 | str z =>
  (refine Ad ha ?_;try clear ha;intro t z_1;obtain rfl:=z_1)
  obtain rfl:=Option.some.inj e
  exact wpAny_pyIter_strU (k _ _ _ ⟨t,rfl,rfl⟩ (I.fresh _ rfl))
 | _=>exact nn e
noncomputable def Nx (wd:Wd) (π:List Addr) (σ:H) (X:List (Addr×Obj)) (ia:Addr) (s:Shared) (Q:Option Value→Shared→Prop):Option (V×It)→Prop
 | none=>∀ h',Inv wd π σ X h'→Q none {s with heap:=h'}
 | some (v,it)=>∀ y ob' h' t',Ah π v y→ItO π it ob'→Inv wd π σ ((ia,ob') :: X) h'→Q (some y) {s with heap:=h',toks:=t'}
section
variable {ia:Addr} {ob:Obj} {Q:Option Value→Shared→Prop} {xs:Array Value} {vs:List V} {i k c:Nat} {l:Addr} (hh:A.handled=none) (I:Inv wd π σ ((ia,ob) :: X) s.heap) (r:VRels π vs xs.toList) (hl:π[i]?=some l)
include I
theorem Nx.over (k0:Nx wd π σ X ia s Q none) {h':Heap} (hs:Heap.ExtBut ia s.heap h'):Q none {s with heap:=h'}:=k0 _ (I.dropE fun b o hb' e'=>hs b o hb' e')
theorem Nx.more {v:V} {it:It} (k1:Nx wd π σ X ia s Q (some (v,it))) {y:Value} {ob':Obj} {h':Heap} {t':Nat} (hv:Ah π v y) (hi:ItO π it ob') (hs:Heap.SameBut ia s.heap h') (e':h'.get? ia=some ob'):Q (some y) {s with heap:=h',toks:=t'} :=
 k1 y ob' h' t' hv hi (I.turnE (fun b o hb' e''=>hs.extBut b o hb' e'') e')
include hh r hl
theorem Zp (hit:s.heap.IsListIter ia l k) (hL:IsL s.heap l xs c) (kk:Nx wd π σ X ia s Q (vs[k]?.map fun v=>(v,.li i (k+1)))):wpAny (model wd.prog wd.w) A (pyNext (.ref ia)) Q E s:=by
 cases hv:vs[k]? with
 | none =>
  rw [hv] at kk
  refine wpAny_pyNext_list_end hh hit (IsL.isList hL) ?_ fun h' hs=>Nx.over I kk hs
  rw [← Array.getElem?_toList,List.getElem?_eq_none_iff,r.len]
  exact List.getElem?_eq_none_iff.mp hv
 | some v =>
  rw [hv] at kk
  (refine Aa (r.get hv) ?_;intro y hy hvy)
  rw [Array.getElem?_toList] at hy
  refine wpAny_pyNext_list_item hit (IsL.isList hL) hy fun h' hit' hs=>?_
  (refine Au hit' ?_;try clear hit';intro ob' e1 e2 e3)
  exact Nx.more I (t':=s.toks) kk hvy ⟨l,hl,e2,e3⟩ hs e1
theorem Zq (hit:s.heap.IsTupleIter ia l k) (hL:s.heap.IsTuple l xs) (kk:Nx wd π σ X ia s Q (vs[k]?.map fun v=>(v,.tu i (k+1)))):wpAny (model wd.prog wd.w) A (pyNext (.ref ia)) Q E s:=by
 cases hv:vs[k]? with
 | none =>
  rw [hv] at kk
  refine wpAny_pyNext_tuple_end hh hit hL ?_ fun h' hs=>Nx.over I kk hs
  rw [← Array.getElem?_toList,List.getElem?_eq_none_iff,r.len]
  exact List.getElem?_eq_none_iff.mp hv
 | some v =>
  rw [hv] at kk
  (refine Aa (r.get hv) ?_;intro y hy hvy)
  rw [Array.getElem?_toList] at hy
  refine wpAny_pyNext_tuple_item hit hL hy fun h' hit' hs=>?_
  (refine Au hit' ?_;try clear hit';intro ob' e1 e2 e3)
  exact Nx.more I (t':=s.toks) kk hvy ⟨l,hl,e2,e3⟩ hs e1
end
section
variable {ia:Addr} {ob:Obj} {Q:Option Value→Shared→Prop} (hh:A.handled=none) (I:Inv wd π σ ((ia,ob) :: X) s.heap)
include hh I
theorem Rr {x:Int}:∀ {m:Nat},ItO π (.rg x m) ob→Nx wd π σ X ia s Q (match m with
  | 0=>none
  | m+1=>some (.int x,.rg (x+1) m))→wpAny (model wd.prog wd.w) A (pyNext (.ref ia)) Q E s
 | 0=>@fun hI kk=>by
  subst hI
  exact wpAny_pyNext_range_end hh (I.ext _ (.head _)) (Int.le_refl _) fun h' hs=>Nx.over I kk hs
 | m+1=>@fun hI kk=>by
  subst hI
  refine wpAny_pyNext_range_item (I.ext _ (.head _)) (Int.natCast_pos.mpr (Nat.succ_pos _)) fun h' hit' hs=>?_
  refine Nx.more I (t':=s.toks+1) kk ⟨_,rfl⟩ ?_ hs hit'
  show (_:Obj)=_
  rw [Int.natCast_succ,Int.add_sub_cancel]
theorem Zr {z:Str} {j:Nat} (hI:ItO π (.st z j) ob) (kk:Nx wd π σ X ia s Q (z.cps[j]?.map fun c=>(.str ⟨#[c]⟩,.st z (j+1)))):wpAny (model wd.prog wd.w) A (pyNext (.ref ia)) Q E s:=by
 haveI hia:s.heap.get? ia=some ob:=I.ext _ (.head _)
 (refine Aa hI ?_;try clear hI;intro t hc hd)
 cases ha:z.cps.all (· < 128) with
 | false =>
  have ht:strIterType z="str_iterator":=by unfold strIterType;rw [ha];rfl
  have hit:s.heap.IsStrIter ia "str_iterator" z t j:=⟨ob,hia,ht▸hc,hd⟩
  cases hv:z.cps[j]? with
  | none=>rw [hv] at kk;exact wpAny_pyNext_wide_end hh hit hv fun h' hs=>Nx.over I kk hs
  | some c =>
   rw [hv] at kk
   refine wpAny_pyNext_wide_item hit hv fun h' hit' hs=>?_
   (refine Au hit' ?_;try clear hit';intro ob' e1 e2 e3)
   exact Nx.more I (t':=s.toks+1) kk ⟨_,rfl⟩ ⟨t,ht▸e2,e3⟩ hs e1
 | true =>
  have ht:strIterType z="str_ascii_iterator":=by unfold strIterType;rw [ha];rfl
  have hit:s.heap.IsStrIter ia "str_ascii_iterator" z t j:=⟨ob,hia,ht▸hc,hd⟩
  cases hv:z.cps[j]? with
  | none=>rw [hv] at kk;exact wpAny_pyNext_ascii_end hh hit hv fun h' hs=>Nx.over I kk hs
  | some c =>
   rw [hv] at kk
   refine wpAny_pyNext_ascii_item hit hv fun h' hit' hs=>?_
   (refine Au hit' ?_;try clear hit';intro ob' e1 e2 e3)
   exact Nx.more I (t':=s.toks+1) kk ⟨_,rfl⟩ ⟨t,ht▸e2,e3⟩ hs e1
end
theorem next_sound {n:Nat} (hA:AOk n A) {it:It} {ia:Addr} {ob:Obj} {r:Option (V×It)} {Q:Option Value→Shared→Prop} (hI:ItO π it ob) (I:Inv wd π σ ((ia,ob) :: X) s.heap) (e:Bz σ it=some r)
  (k:Nx wd π σ X ia s Q r):wpAny (model wd.prog wd.w) A (pyNext (.ref ia)) Q E s:=by
 induction it with
 | li i j =>
  (refine Au hI ?_;try clear hI;intro l hl hc hd)
  refine Db e I hl fun vs xs c ho hL rr l1 _ e2=>?_
  obtain rfl:=Option.some.inj e2
  exact Zp hA.handled I rr hl ⟨ob,I.ext _ (.head _),hc,hd⟩ hL k
 | tu i j =>
  (refine Au hI ?_;try clear hI;intro l hl hc hd)
  refine Qv e I hl fun vs xs c ho hL rr l1 _ e2=>?_
  obtain rfl:=Option.some.inj e2
  exact Zq hA.handled I rr hl ⟨ob,I.ext _ (.head _),hc,hd⟩ ⟨_,hL,rfl,_,rfl⟩ k
 | rg x m =>
  induction m with
  | zero=>obtain rfl:=Option.some.inj e;exact Rr hA.handled I hI k
  | succ m=>obtain rfl:=Option.some.inj e;exact Rr hA.handled I hI k
 | st z j=>obtain rfl:=Option.some.inj e;exact Zr hA.handled I hI k
end prims
noncomputable def Le (π π':List Addr):Prop:=∃ ρ,π'=π++ρ
theorem Le.refl (π:List Addr):Le π π:=⟨[],by simp⟩
theorem Le.trans {a b c:List Addr} (x:Le a b) (y:Le b c):Le a c:=by
 (refine Ad x ?_;try clear x;intro r z_1;obtain rfl:=z_1);(refine Ad y ?_;try clear y;intro q z_1;obtain rfl:=z_1);exact ⟨r++q,by simp⟩
theorem Le.app (π ρ:List Addr):Le π (π++ρ):=⟨ρ,rfl⟩
theorem Ah.le {π π':List Addr} {v:V} {x:Value} (h:Ah π v x) (l:Le π π'):Ah π' v x:=by (refine Ad l ?_;try clear l;intro r z_1;obtain rfl:=z_1);exact h.mono r
theorem VRels.le {π π':List Addr} {v:List V} {x:List Value} (h:VRels π v x) (l:Le π π'):VRels π' v x:=by (refine Ad l ?_;try clear l;intro r z_1;obtain rfl:=z_1);exact h.mono r
theorem ItO.le {π π':List Addr} {v:It} {x:Obj} (h:ItO π v x) (l:Le π π'):ItO π' v x:=by (refine Ad l ?_;try clear l;intro r z_1;obtain rfl:=z_1);exact h.mono r
theorem get_le {π π':List Addr} (l:Le π π') {i:Nat} {a:Addr} (h:π[i]?=some a):π'[i]?=some a:=by (refine Ad l ?_;try clear l;intro r z_1;obtain rfl:=z_1);exact get_mono r h
noncomputable def NsO (ob:Obj) (m:Str→Option Value):Prop:=∃ es ep,ob.data=.dict es ep∧StrKeys es∧∀ name,nsFind es name=m name
theorem NsO.ns {h:Heap} {a:Addr} {ob:Obj} {m:Str→Option Value} (n:NsO ob m) (e:h.get? a=some ob):h.Ns a m:=by
 (refine A3 n ?_;try clear n;intro es ep r);exact ⟨ob,es,ep,e,r⟩
theorem M2 {h:Heap} {a:Addr} {m:Str→Option Value} (n:h.Ns a m):∃ ob,h.get? a=some ob∧NsO ob m:=by
 (refine Mp n ?_;try clear n;intro ob es ep e r);exact ⟨ob,e,es,ep,r⟩
noncomputable def FOb (π:List Addr) (loc:List Str) (ρ:List (Option V)) (ob:Obj):Prop :=
 ∃ m,NsO ob m∧∀ (i:Nat) (n:Str) (v:V),loc[i]?=some n→ρ[i]?=some (some v)→∃ x,m n=some x∧Ah π v x
theorem FOb.le {π π':List Addr} {loc:List Str} {ρ:List (Option V)} {ob:Obj} (h:FOb π loc ρ ob) (l:Le π π'):FOb π' loc ρ ob:=by
 (refine Aa h ?_;try clear h;intro m n r)
 refine ⟨m,n,fun i n v a b=>?_⟩
 (refine Aa (r i n v a b) ?_;intro x e q)
 exact ⟨x,e,q.le l⟩
structure Sc where
 ko:List (Str×NameKind)
 loc:List Str
 cel:List Str
structure EnvOk (sc:Sc) (env:Env):Prop where
 kind:env.scope.kind=.function
 glob:env.globals=mainGlobals
 bui:env.builtins=builtinsNs
 ko:∀ x,env.kindOf x=sc.ko.lookup x
 nodup:sc.loc.Nodup
noncomputable def K7 (π:List Addr) (cel:List Str) (cl:List Nat) (env:Env):Prop :=
 ∀ (j:Nat) (n:Str) (k:Nat),cel[j]?=some n→cl[j]?=some k→∃ a,env.cells.lookup n=some a∧π[k]?=some a
theorem K7.le {π π':List Addr} {cel:List Str} {cl:List Nat} {env:Env} (h:K7 π cel cl env) (l:Le π π'):K7 π' cel cl env:=fun j n k a b=>by
 (refine Aa (h j n k a b) ?_;intro c e q)
 exact ⟨c,e,get_le l q⟩
theorem EnvOk.notcls {sc:Sc} {env:Env} (h:EnvOk sc env):(env.scope.kind==.class||(env.scope.kind==.module&&env.locals != env.globals))=false:=by rw [h.kind];rfl
theorem EnvOk.inter {sc:Sc} {env:Env} (h:EnvOk sc env):interactive env=false:=by unfold interactive;rw [h.kind];rfl
noncomputable def G0:PySem.Expr→Bool
 | .Call (.Name _ _) [] [] _=>true
 | _=>false
noncomputable def Fz:PySem.Expr→Bool
 | .ListComp ..=>true
 | .SetComp ..=>true
 | .DictComp ..=>true
 | _=>false
noncomputable def Ez:PySem.Expr→Bool
 | .Tuple ..=>true
 | _=>false
section comb
variable {α β γ δ ε ζ:Type}
noncomputable def o2 (f:α→β→γ) (x:Option α) (y:Option β):Option γ:=x.bind fun a=>y.map (f a)
noncomputable def o3 (f:α→β→γ→δ) (x:Option α) (y:Option β) (z:Option γ):Option δ:=x.bind fun a=>o2 (f a) y z
noncomputable def o4 (f:α→β→γ→δ→ε) (x:Option α) (y:Option β) (z:Option γ) (w:Option δ):Option ε:=x.bind fun a=>o3 (f a) y z w
noncomputable def o5 (f:α→β→γ→δ→ε→ζ) (x:Option α) (y:Option β) (z:Option γ) (w:Option δ) (v:Option ε):Option ζ:=x.bind fun a=>o4 (f a) y z w v
theorem An {f:α→β→γ} {x:Option α} {y:Option β} {c:γ} {M:γ→Prop} (h:o2 f x y=some c) (k:∀ a b,x=some a→y=some b→M (f a b)):M c:=by
 induction x with
 | none=>exact nn h
 | some a=>exact o1_e h fun b=>k a b rfl
theorem F0 {f:α→β→γ→δ} {x:Option α} {y:Option β} {z:Option γ} {c:δ} {M:δ→Prop} (h:o3 f x y z=some c) (k:∀ a b d,x=some a→y=some b→z=some d→M (f a b d)):M c:=by
 induction x with
 | none=>exact nn h
 | some a=>exact An h fun b d=>k a b d rfl
theorem Rs {f:α→β→γ→δ→ε} {x:Option α} {y:Option β} {z:Option γ} {w:Option δ} {c:ε} {M:ε→Prop} (h:o4 f x y z w=some c) (k:∀ a b d e,x=some a→y=some b→z=some d→w=some e→M (f a b d e)):M c:=by
 induction x with
 | none=>exact nn h
 | some a=>exact F0 h fun b d e=>k a b d e rfl
theorem Zs {f:α→β→γ→δ→ε→ζ} {x:Option α} {y:Option β} {z:Option γ} {w:Option δ} {v:Option ε} {c:ζ} {M:ζ→Prop} (h:o5 f x y z w v=some c) (k:∀ a b d e g,x=some a→y=some b→z=some d→w=some e→v=some g→M (f a b d e g)):M c:=by
 induction x with
 | none=>exact nn h
 | some a=>exact Rs h fun b d e g=>k a b d e g rfl
theorem Cp {b:Bool} {x:Option α} {c:α} (h:gd b x=some c):b=true:=by
 induction b with
 | true=>rfl
 | false=>exact nn h
theorem Br {b:Bool} {x:Option α} {c:α} (h:gd b x=some c):x=some c:=by
 induction b with
 | true=>exact h
 | false=>exact nn h
end comb
noncomputable def G1:PySem.Expr→Option Str
 | .Constant (.str x) _ _=>some x
 | _=>none
noncomputable def nmK:PySem.Expr→Option (Str×PySem.Pos)
 | .Name x p=>some (x,p)
 | _=>none
noncomputable def A9 (f:PySem.Expr→Option E):List PySem.Expr→Option (List E)
 | []=>some []
 | e :: es=>o2 List.cons (f e) (A9 f es)
noncomputable def F1 (f:PySem.Expr→Option E):List (Option PySem.Expr)→Option (List E)
 | []=>some []
 | e :: es=>o2 List.cons (e.bind f) (F1 f es)
noncomputable def G2:List (Option PySem.Expr)→List PySem.Expr→Option (List (Str×Str))
 | [],[]=>some []
 | k :: ks,v :: vs=>o2 List.cons (o2 Prod.mk (k.bind G1) (G1 v)) (G2 ks vs)
 | _,_=>none
noncomputable def Dq (loc:List Str) (ko:List (Str×NameKind)):List PySem.Expr→Option (List Nat)
 | []=>some []
 | e :: r=>o2 List.cons ((nmK e).bind fun x=>gd (ko.lookup x.1==some .local) (place? x.1 loc)) (Dq loc ko r)
noncomputable def Hz (cel:List Str):List Str→Option (List Nat)
 | []=>some []
 | x :: r=>o2 List.cons (place? x cel) (Hz cel r)
noncomputable def C0 (names:List (Str×NameKind)):List (Str×NameKind):=names.map fun p=>(p.1,if p.2=.free then .cell else p.2)
noncomputable def Ef (names:List (Str×NameKind)):List Str:=(names.filter fun p=>p.2=.local∧p.1≠(".0":Str)).map (·.1)
noncomputable def E0 (names:List (Str×NameKind)):List Str:=(names.filter fun p=>p.2=.free).map (·.1)
noncomputable def F2 (sc:Sc) (scope:Scope):Bool:=scope.kind==.function&&decide (Ef scope.names).Nodup&&decide (E0 scope.names).Nodup &&
 scope.names.all fun p=>p.2 != .cell&&(p.2 != .free||sc.ko.lookup p.1==some .cell)&&(p.2 != .local||scope.names.lookup p.1==some .local)
inductive SlK where
 | up (u:PySem.Expr)
 | no
 | plain
noncomputable def slK:PySem.Expr→SlK
 | .Slice none (some u) none _=>.up u
 | .Slice ..=>.no
 | _=>.plain
noncomputable def atK:PySem.Expr→Option (PySem.Expr×Str×PySem.Pos)
 | .Attribute o a p=>some (o,a,p)
 | _=>none
noncomputable def Zt:Const→Option V
 | .none=>some .none
 | .bool b=>some (.bool b)
 | .int i=>some (.int i)
 | .str s=>some (.str s)
 | _=>none
noncomputable def Rt:List PySem.Expr→Option (Str×Str)
 | [a,b]=>o2 Prod.mk (G1 a) (G1 b)
 | _=>none
noncomputable def tgtL (loc:List Str) (ko:List (Str×NameKind)):PySem.Expr→Option (Bool×List Nat)
 | .Name x p=>(Dq loc ko [.Name x p]).map fun l=>(true,l)
 | .Tuple es _ _=>(Dq loc ko es).map fun l=>(false,l)
 | _=>none
noncomputable def M3:List PySem.Comprehension→Option (PySem.Expr×PySem.Expr×List PySem.Expr)
 | [⟨tgt,iter,ifs,0⟩]=>some (tgt,iter,ifs)
 | _=>none
noncomputable def ifs?:List PySem.Expr→Option (Option PySem.Expr)
 | []=>some none
 | [c]=>some (some c)
 | _=>none
noncomputable def G3 (scope:Scope):Sc:=⟨C0 scope.names,Ef scope.names,E0 scope.names⟩
noncomputable def trE:Nat→Sc→PySem.Expr→Option E
 | 0,_,_=>none
 | n+1,sc,e=>match e with
  | .Constant c _ _=>(Zt c).map .cst
  | .Name x _=>gd (!(x==("__debug__":Str))) (match sc.ko.lookup x with
   | some .local=>(place? x sc.loc).map .loc
   | some .cell=>(place? x sc.cel).map .cel
   | some .globalImplicit=>(gl x).map fun v=>.cst (.con v)
   | _=>none)
  | .Attribute o a _=>gd (!G0 o) (o2 .attr (trE n sc o) (an a))
  | .Subscript o i _=>match slK i with
   | .up u=>o2 .slc (trE n sc o) (trE n sc u)
   | .no=>none
   | .plain=>o2 .idx (trE n sc o) (trE n sc i)
  | .Call f as kws pos=>gd kws.isEmpty (match atK f with
   | some (o,a,apos)=>gd (!G0 o&&(apos.endLine==pos.line&&Nat.blt as.length 20)) (cond (a==("replace":Str)) (o2 (fun e p=>.repl e p.1 p.2) (trE n sc o) (Rt as)) (o3 .meth (trE n sc o) (an a) (A9 (trE n sc) as)))
   | none=>o2 .call (trE n sc f) (A9 (trE n sc) as))
  | .BinOp l op r _=>o2 (.bin op) (trE n sc l) (trE n sc r)
  | .UnaryOp op x _=>(match op with
   | .USub=>(trE n sc x).map .neg
   | .Not=>(trE n sc x).map .not
   | _=>none)
  | .BoolOp op es _=>(A9 (trE n sc) es).map (.boo op)
  | .Compare l ops rs _=>o2 (fun a b=>.cmp a ops b) (trE n sc l) (A9 (trE n sc) rs)
  | .IfExp t b o _=>o3 .ite (trE n sc t) (trE n sc b) (trE n sc o)
  | .Tuple es _ _=>(A9 (trE n sc) es).map .tup
  | .List es _=>(A9 (trE n sc) es).map .lst
  | .Dict ks vs _=>cond (Nat.ble ks.length 15) (o2 .dct (F1 (trE n sc) ks) (A9 (trE n sc) vs)) ((G2 ks vs).map .dcl)
  | .ListComp elt gens scope _=>gd (F2 sc scope) (match M3 gens with
   | some (tgt,iter,ifs)=>o5 (fun t cl src cond el=>.comp (Ef scope.names).length cl t.2 t.1 src cond el) (tgtL (Ef scope.names) scope.names tgt) (Hz sc.cel (E0 scope.names)) (trE n sc iter)
     (match ifs? ifs with
      | some none=>some none
      | some (some c)=>(trE n (G3 scope) c).map some
      | none=>none)
     (trE n (G3 scope) elt)
   | none=>none)
  | _=>none
noncomputable def trT (n:Nat) (sc:Sc):PySem.Expr→Option T
 | .Name x _=>(match sc.ko.lookup x with
  | some .local=>(place? x sc.loc).map .nm
  | some .cell=>(place? x sc.cel).map .cl
  | _=>none)
 | .Tuple es _ _=>(Dq sc.loc sc.ko es).map .tp
 | .Attribute o a _=>o2 .at (trE n sc o) (an a)
 | .Subscript o i _=>match slK i with
  | .plain=>o2 .ix (trE n sc o) (trE n sc i)
  | _=>none
 | _=>none
noncomputable def stmtsL (f:PySem.Stmt→Option S):List PySem.Stmt→Option (List S)
 | []=>some []
 | e :: es=>o2 List.cons (f e) (stmtsL f es)
noncomputable def H0 (x:Str) (p:PySem.Pos):PySem.Expr→Bool
 | .ListComp _ _ s q=>p.line==q.line&&!(s.names.any fun z=>z.1==x&&(z.2==.local||z.2==.cell))
 | _=>false
noncomputable def Ru:List PySem.Expr→Option (Str×Str)
 | [a,b]=>o2 (fun x y=>(x.1,y.1)) (nmK a) (nmK b)
 | _=>none
noncomputable def M4:PySem.Expr→Option (Str×Str)
 | .Tuple es _ _=>Ru es
 | _=>none
noncomputable def H2:List PySem.Expr→Option PySem.Expr
 | [a]=>some a
 | _=>none
noncomputable def M5:PySem.Expr→Option (Str×PySem.Expr)
 | .Call f as [] _=>o2 (fun x a=>(x.1,a)) (nmK f) (H2 as)
 | _=>none
noncomputable def trS:Nat→Sc→PySem.Stmt→Option S
 | 0,_,_=>none
 | n+1,sc,s=>match s with
  | .Expr v _=>gd (!Fz v) ((trE n sc v).map .ex)
  | .Break _=>some .brk
  | .Raise ..=>some .bad
  | .Return none _=>some (.ret none)
  | .Return (some e) _=>(trE n sc e).map fun e=>.ret (some e)
  | .Assign ts v _=>(match H2 ts with
   | some t=>cond (Fz v) (match nmK t with
     | some (x,p)=>gd (H0 x p v&&sc.ko.lookup x==some .local) (o2 .asc (place? x sc.loc) (trE n sc v))
     | none=>none)
    (gd (!(Ez t&&Ez v)) (o2 .asg (trT n sc t) (trE n sc v)))
   | none=>none)
  | .AugAssign t op e _=>(match nmK t with
   | some (x,_)=>gd (sc.ko.lookup x==some .local) (o2 (fun i e=>.aug i op e) (place? x sc.loc) (trE n sc e))
   | none=>none)
  | .If t b o _=>o3 .ite (trE n sc t) (stmtsL (trS n sc) b) (stmtsL (trS n sc) o)
  | .While t b els _=>gd els.isEmpty (o2 .whl (trE n sc t) (stmtsL (trS n sc) b))
  | .For t it b els _=>gd els.isEmpty (match M4 t,M5 it with
   | some (x,y),some (f,src)=>gd ((f==("enumerate":Str)&&(sc.ko.lookup f==some .globalImplicit&&gl f==some (.type "enumerate")))&&(sc.ko.lookup x==some .local&&sc.ko.lookup y==some .local))
     (o4 .fen (place? x sc.loc) (place? y sc.loc) (trE n sc src) (stmtsL (trS n sc) b))
   | _,_=>o3 .for (trT n sc t) (trE n sc it) (stmtsL (trS n sc) b))
  | _=>none
noncomputable def Dr (names:List (Str×NameKind)):Sc:=⟨names,(names.filter fun p=>p.2=.local).map (·.1),(names.filter fun p=>p.2=.cell).map (·.1)⟩
noncomputable def K8 (K:Frag) (a:Addr):Option (List S):=match K.lookup a with
 | some ⟨_,_,.func fd,_⟩=>(match fd.body with
  | .stmts b=>stmtsL (trS 40 (Dr fd.scope.names)) b
  | _=>none)
 | _=>none
noncomputable def dfB (x:Value) (v:V):Bool:=match v with
 | .bool b=>(match x with
  | .bool c=>b==c
  | _=>false)
 | .int k=>(match x with
  | .int c _=>k==c
  | _=>false)
 | .str z=>(match x with
  | .str c _=>z==c
  | _=>false)
 | .ref j=>(match x with
  | .ref c=>BB.contains (j,c)
  | _=>false)
 | _=>false
noncomputable def Rv (K:Frag) (dV:Value) (df:List V) (n:Nat):Bool:=match dV with
 | .none=>df.isEmpty
 | .ref T=>(match K.lookup T with
  | some o=>(match o.data with
   | .seq xs _=>xs.size==df.length&&(Nat.ble df.length n&&(xs.toList.zip df).all fun p=>dfB p.1 p.2)
   | _=>false)
  | none=>false)
 | _=>false
noncomputable def psB (names:List (Str×NameKind)) (p:Str×T):Bool:=match p.2 with
 | .nm j=>names.lookup p.1==some .local&&place? p.1 (Dr names).loc==some j
 | .cl j=>names.lookup p.1==some .cell&&place? p.1 (Dr names).cel==some j
 | _=>false
noncomputable def fdB (K:Frag) (fd:FuncData) (fi:Fn):Bool:=fd.globals==mainGlobals&&(fd.closure.isEmpty&&(fd.builtins==builtinsNs&&(codeIn K fd.code fd.qualname&&(!fd.scope.isCoroutine&&(!fd.scope.isGenerator&&(fd.scope.kind==.function &&
   (decide (Dr fd.scope.names).loc.Nodup&&(decide (Dr fd.scope.names).cel.Nodup&&(fi.nl==(Dr fd.scope.names).loc.length&&(fi.nc==(Dr fd.scope.names).cel.length &&
   (fd.params.posonlyargs.isEmpty&&(fd.params.vararg.isNone&&(fd.params.kwonlyargs.isEmpty&&(fd.params.kwarg.isNone&&(decide (fd.params.args.map (·.arg)).Nodup&&(fi.ps.length==fd.params.args.length &&
   (((fd.params.args.map (·.arg)).zip fi.ps).all (psB fd.scope.names)&&Rv K fd.defaults fi.df fi.ps.length)))))))))))))))))
theorem M6 (x:Str) (k:Nat) (h:an x=some k):nm k=x:=by
 have:=Cl h
 unfold nm
 rw [this]
theorem Zu (k:Nat) (m:BM) (h:Hi k=some m):nm k=bmN m:=by
 match k,h with
 | 0,h=>obtain rfl:=Option.some.inj h;rfl
 | 1,h=>obtain rfl:=Option.some.inj h;rfl
 | 2,h=>obtain rfl:=Option.some.inj h;rfl
 | 3,h=>obtain rfl:=Option.some.inj h;rfl
 | 4,h=>obtain rfl:=Option.some.inj h;rfl
 | 5,h=>obtain rfl:=Option.some.inj h;rfl
 | 6,h=>obtain rfl:=Option.some.inj h;rfl
 | 7,h=>obtain rfl:=Option.some.inj h;rfl
structure Wd.Ok (wd:Wd):Prop where
 KI:wd.K.In wd.hb
 lim:wd.hb.NoLimit
 glob:∀ x v,gl x=some v→∃ mg mb,wd.hb.Ns mainGlobals mg∧wd.hb.Ns builtinsNs mb∧(mg x=some v∨(mg x=none∧mb x=some v))
 da:∀ C n,tb.da C n=true→findIn wd.K (.ref C) (nm n)=some none∧ClsOk wd.K C
 mt:∀ C n f,tb.mt C n=some f→findIn wd.K (.ref C) (nm n)=some (some (.ref f))∧typeIn wd.K (.ref f)=some (.type "function")∧ClsOk wd.K C
 ini:∀ C i,tb.ini C=some i→makesIn wd.K C=true∧findIn wd.K (.ref C) "__init__"=some (some (.ref i))∧typeIn wd.K (.ref i)=some (.type "function")
 fn:∀ a fi,tb.fn a=some fi→∃ oc od fd osl body,wd.K.lookup a=some ⟨oc,od,.func fd,osl⟩∧fd.body=.stmts body∧stmtsL (trS 40 (Dr fd.scope.names)) body=some fi.body∧fdB wd.K fd fi=true
noncomputable def BOk (π:List Addr):Prop:=∀ p∈BB,π[p.1]?=some p.2
theorem BOk.le {π π':List Addr} (h:BOk π) (l:Le π π'):BOk π':=fun p hp=>get_le l (h p hp)
noncomputable def Rw (π:List Addr):Fl→Flow→Prop
 | .next,f=>f=.next
 | .brk,f=>f=.brk
 | .ret v,f=>∃ x,f=.ret x∧Ah π v x
section defs
variable (wd:Wd)
noncomputable def KW (X:List (Addr×Obj)) (s:Shared) (Q:V→H→Prop) (Qx:Value→Shared→Prop) (π:List Addr):Prop :=
 ∀ v σ' π' x h' t',Q v σ'→Le π π'→Inv wd π' σ' X h'→Ah π' v x→0 < t'→Qx x ⟨h',s.gens,s.drawn,t',s.os⟩
noncomputable def KWs (X:List (Addr×Obj)) (s:Shared) (Q:List V→H→Prop) (Qx:List Value→Shared→Prop) (π:List Addr):Prop :=
 ∀ v σ' π' x h' t',Q v σ'→Le π π'→Inv wd π' σ' X h'→VRels π' v x→0 < t'→Qx x ⟨h',s.gens,s.drawn,t',s.os⟩
noncomputable def KWb (X:List (Addr×Obj)) (s:Shared) (Q:Bool→H→Prop) (Qx:Bool→Shared→Prop) (π:List Addr):Prop :=
 ∀ b σ' π' h' t',Q b σ'→Le π π'→Inv wd π' σ' X h'→0 < t'→Qx b ⟨h',s.gens,s.drawn,t',s.os⟩
noncomputable def KWf (env:Env) (X:List (Addr×Obj)) (s:Shared) (Q:Fl→List (Option V)→H→Prop) (Qx:Flow→Shared→Prop) (π:List Addr) (loc:List Str):Prop :=
 ∀ fl ρ' σ' π' f h' t' ob',Q fl ρ' σ'→Le π π'→Inv wd π' σ' ((env.locals,ob') :: X) h'→Rw π' fl f→FOb π' loc ρ' ob'→0 < t'→Qx f ⟨h',s.gens,s.drawn,t',s.os⟩
noncomputable def KWt (env:Env) (X:List (Addr×Obj)) (s:Shared) (Q:List (Option V)→H→Prop) (Qx:Unit→Shared→Prop) (π:List Addr) (loc:List Str):Prop :=
 ∀ ρ' σ' π' h' t' ob',Q ρ' σ'→Le π π'→Inv wd π' σ' ((env.locals,ob') :: X) h'→FOb π' loc ρ' ob'→0 < t'→Qx () ⟨h',s.gens,s.drawn,t',s.os⟩
structure At (sc:Sc) (env:Env) (fr:Fr) (ob:Obj) (π:List Addr) (σ:H) (X:List (Addr×Obj)) (A:Around) (s:Shared):Prop where
 wk:wd.Ok
 ok:EnvOk sc env
 fo:FOb π sc.loc fr.ρ ob
 ce:K7 π sc.cel fr.cl env
 ao:AOk fr.dp A
 tk:0 < s.toks
 inv:Inv wd π σ ((env.locals,ob) :: X) s.heap
 bb:BOk π
end defs
noncomputable def RetR (Q:Value→Shared→Prop):Result→Shared→Prop:=fun r s=>match r with | .ok (.ret v)=>Q v s | _=>False
noncomputable def OkR (Q:Flow→Shared→Prop):Result→Shared→Prop:=fun r s=>match r with | .ok f=>Q f s | .error _=>False
noncomputable def EnO (π:List Addr) (l k:Nat) (it:Addr) (eob iob:Obj):Prop:=∃ la old,π[l]?=some la∧eob={cls:=.type "enumerate",dict:=none,data:=.fields #[.none,.bool false,.ref it,rawInt k,.none,old],slots:=#[]} ∧
 iob.cls=.type "list_iterator"∧iob.data=.fields #[.ref la,.int k 0]
noncomputable def trC (m:Nat) (sc:Sc) (ifs:List PySem.Expr):Option (Option E):=match ifs? ifs with
 | some none=>some none
 | some (some c)=>(trE m sc c).map some
 | none=>none
section
variable {wd:Wd} {π π':List Addr} {σ σ':H} {X:List (Addr×Obj)} {A:Around} {s:Shared} {sc:Sc} {env:Env} {fr:Fr} {ob:Obj}
theorem At.next (a:At wd sc env fr ob π σ X A s) (l:Le π π') {h':Heap} {t':Nat} (I:Inv wd π' σ' ((env.locals,ob) :: X) h') (t:0 < t') {g d o}:At wd sc env fr ob π' σ' X A ⟨h',g,d,t',o⟩ :=
 ⟨a.wk,a.ok,a.fo.le l,a.ce.le l,a.ao,t,I,a.bb.le l⟩
theorem At.step (a:At wd sc env fr ob π σ X A s) (l:Le π π') {ρ':List (Option V)} {ob':Obj} {h':Heap} {t':Nat} (I:Inv wd π' σ' ((env.locals,ob') :: X) h') (f:FOb π' sc.loc ρ' ob') (t:0 < t') {g d o} :
  At wd sc env ⟨fr.dp,ρ',fr.cl⟩ ob' π' σ' X A ⟨h',g,d,t',o⟩ :=
 ⟨a.wk,a.ok,f,a.ce.le l,a.ao,t,I,a.bb.le l⟩
theorem KW.le {Q:V→H→Prop} {Qx:Value→Shared→Prop} (k:KW wd X s Q Qx π) (l:Le π π') {h t}:KW wd X ⟨h,s.gens,s.drawn,t,s.os⟩ Q Qx π' :=
 fun v σ' p x h' t' hq l' I hv ht=>k v σ' p x h' t' hq (l.trans l') I hv ht
theorem KW.kv {Q:V→H→Prop} {Qx:Value→Shared→Prop} (k:KW wd X s Q Qx π) {v:V} (q:Q v σ'):Kv wd X s (fun v s'=>0 < s'.toks→Qx v s') π v σ' :=
 fun ρ x h' t' I hv ht=>k v σ' (π++ρ) x h' t' q (Le.app π ρ) I hv ht
theorem KWb.le {Q:Bool→H→Prop} {Qx:Bool→Shared→Prop} (k:KWb wd X s Q Qx π) (l:Le π π') {h t}:KWb wd X ⟨h,s.gens,s.drawn,t,s.os⟩ Q Qx π' :=
 fun b σ' p h' t' hq l' I ht=>k b σ' p h' t' hq (l.trans l') I ht
theorem KWf.le {Q:Fl→List (Option V)→H→Prop} {Qx:Flow→Shared→Prop} {loc:List Str} (k:KWf wd env X s Q Qx π loc) (l:Le π π') {h t}:KWf wd env X ⟨h,s.gens,s.drawn,t,s.os⟩ Q Qx π' loc :=
 fun fl ρ' σ' p f h' t' ob' hq l' I hf fo ht=>k fl ρ' σ' p f h' t' ob' hq (l.trans l') I hf fo ht
theorem KWt.le {Q:List (Option V)→H→Prop} {Qx:Unit→Shared→Prop} {loc:List Str} (k:KWt wd env X s Q Qx π loc) (l:Le π π') {h t}:KWt wd env X ⟨h,s.gens,s.drawn,t,s.os⟩ Q Qx π' loc :=
 fun ρ' σ' p h' t' ob' hq l' I fo ht=>k ρ' σ' p h' t' ob' hq (l.trans l') I fo ht
theorem Inv.turnP {h h':Heap} {a b:Addr} {oa ob oa' ob':Obj} (I:Inv wd π σ ((a,oa) :: (b,ob) :: X) h) (k:∀ c o,c≠a→c≠b→h.get? c=some o→h'.get? c=some o) (ea:h'.get? a=some oa') (eb:h'.get? b=some ob') :
  Inv wd π σ ((a,oa') :: (b,ob') :: X) h':=by
 have nd:=I.nd
 rw [List.nodup_append,List.map_cons,List.map_cons,List.nodup_cons,List.nodup_cons] at nd
 have hna:=I.newX (a,oa) (.head _)
 have hnb:=I.newX (b,ob) (.tail _ (.head _))
 refine ⟨fun c o e'=>k c o (fun z=>?_) (fun z=>?_) (I.base c o e'),I.len,fun i c o hi ho=>?_,fun p hp=>?_,I.new,fun p hp=>?_,?_,I.sysb,I.sys,I.lenf⟩
 ·rw [z,hna.1] at e';exact nn e'
 ·rw [z,hnb.1] at e';exact nn e'
 ·(refine Aa (I.obj i c o hi ho) ?_;intro ob'' e'' r'')
  refine ⟨ob'',k _ _ (fun z=>?_) (fun z=>?_) e'',r''⟩
  ·exact nd.2.2 c (List.mem_of_getElem? hi) a (.head _) z
  ·exact nd.2.2 c (List.mem_of_getElem? hi) b (.tail _ (.head _)) z
 ·focus (refine oe (List.mem_cons.mp hp) ?_ ?_;rotate_left;(intro hp);rotate_right;(intro z_o;obtain rfl:=z_o))
  ·exact ea
  ·focus (refine oe (List.mem_cons.mp hp) ?_ ?_;rotate_left;(intro hp);rotate_right;(intro z_o;obtain rfl:=z_o))
   ·exact eb
   ·refine k _ _ (fun z=>nd.2.1.1 ?_) (fun z=>nd.2.1.2.1 ?_) (I.ext p (.tail _ (.tail _ hp)))
    ·exact List.mem_cons_of_mem _ (List.mem_map.mpr ⟨p,hp,z⟩)
    ·exact List.mem_map.mpr ⟨p,hp,z⟩
 ·focus (refine oe (List.mem_cons.mp hp) ?_ ?_;rotate_left;(intro hp);rotate_right;(intro z_o;obtain rfl:=z_o))
  ·exact hna
  ·focus (refine oe (List.mem_cons.mp hp) ?_ ?_;rotate_left;(intro hp);rotate_right;(intro z_o;obtain rfl:=z_o))
   ·exact hnb
   ·exact I.newX p (.tail _ (.tail _ hp))
 ·rw [List.map_cons,List.map_cons,List.nodup_append,List.nodup_cons,List.nodup_cons]
  exact nd
theorem Inv.rot {h:Heap} {p q t:Addr×Obj} (I:Inv wd π σ (p :: q :: t :: X) h):Inv wd π σ (q :: t :: p :: X) h:=by
 have mem:∀ z,z∈q :: t :: p :: X→z∈p :: q :: t :: X:=fun z hz=>by
  simp only [List.mem_cons] at hz ⊢
  rcases hz with rfl | rfl | rfl | hz
  ·exact .inr (.inl rfl)
  ·exact .inr (.inr (.inl rfl))
  ·exact .inl rfl
  ·exact .inr (.inr (.inr hz))
 refine ⟨I.base,I.len,I.obj,fun z hz=>I.ext z (mem z hz),I.new,fun z hz=>I.newX z (mem z hz),?_,I.sysb,I.sys,I.lenf⟩
 refine List.Perm.nodup ?_ I.nd
 simp only [List.map_cons]
 refine List.Perm.append_left _ ?_
 exact (List.Perm.swap ..).trans (List.Perm.cons _ (List.Perm.swap ..))
theorem Inv.rot' {h:Heap} {p q t:Addr×Obj} (I:Inv wd π σ (q :: t :: p :: X) h):Inv wd π σ (p :: q :: t :: X) h:=I.rot.rot
theorem Inv.takeX {h:Heap} {a:Addr} {ob:Obj} (I:Inv wd π σ X h) (hn:Nw wd.hb a) (hπ:a ∉ π) (hX:a ∉ X.map (·.1)) (e:h.get? a=some ob):Inv wd π σ ((a,ob) :: X) h:=by
 refine ⟨I.base,I.len,I.obj,fun p hp=>?_,I.new,fun p hp=>?_,?_,I.sysb,I.sys,I.lenf⟩
 ·focus (refine oe (List.mem_cons.mp hp) ?_ ?_;rotate_left;(intro hp);rotate_right;(intro z_o;obtain rfl:=z_o))
  ·exact e
  ·exact I.ext p hp
 ·focus (refine oe (List.mem_cons.mp hp) ?_ ?_;rotate_left;(intro hp);rotate_right;(intro z_o;obtain rfl:=z_o))
  ·exact hn
  ·exact I.newX p hp
 ·have nd:=I.nd
  rw [List.nodup_append] at nd ⊢
  rw [List.map_cons,List.nodup_cons]
  refine ⟨nd.1,⟨hX,nd.2.1⟩,fun x hx y hy z=>?_⟩
  focus (refine oe (List.mem_cons.mp hy) ?_ ?_;rotate_left;(intro hy);rotate_right;(intro z_o;obtain rfl:=z_o))
  ·exact hπ (z▸hx)
  ·exact nd.2.2 x hx y hy z
theorem Inv.past {h:Heap} {a:Addr} (I:Inv wd π σ X h) (ha:h.objs.size≤a):Nw wd.hb a∧a ∉ π∧a ∉ X.map (·.1):=by
 have hno:h.get? a=none:=Heap.get?_none_of_le ha
 refine ⟨⟨?_,?_⟩,fun q=>?_,fun q=>?_⟩
 ·cases q:wd.hb.get? a with
  | none=>rfl
  | some o=>have:=I.base _ _ q;rw [hno] at this;exact nn this
 ·(refine Cu I.sysb ?_;intro c o' hc eo)
  have:=Heap.lt_size (I.base _ _ eo)
  rw [beq_eq_false_iff_ne]
  exact Nat.ne_of_gt (Nat.lt_of_lt_of_le (Nat.lt_trans hc this) ha)
 ·(refine Ad (List.mem_iff_getElem?.mp q) ?_;intro i hi)
  exact absurd (I.lt hi) (Nat.not_lt.mpr ha)
 ·(refine Aa (List.mem_map.mp q) ?_;intro p hp z_2;obtain rfl:=z_2)
  have:=I.ext p hp
  rw [hno] at this;exact nn this
end
end Z
end
section
open PySem PySem.W PyProof.Rows PySem.Calls
namespace Y
noncomputable def opt {α:Type} (x:Option α) (Q:α→Prop):Prop:=match x with
 | some a=>Q a
 | none=>False
theorem Zv {α:Type} (a:α) (Q:α→Prop):opt (some a) Q=Q a:=rfl
abbrev WV:=H→(V→H→Prop)→Prop
abbrev WB:=H→(Bool→H→Prop)→Prop
abbrev KS:=Fl→List (Option V)→H→Prop
structure Ca (d:Nat) (f:V) (as:List V) (σ:H) (Q:V→H→Prop):Prop where mk ::
 ev:∃ i,f=.con (.ref i)∧∀ (wd:Z.Wd) (π:List Addr) (X:List (Addr×Obj)) (A:Around) (s:Shared) (xs:List Value),wd.Ok→Z.VRels π as xs→Z.AOk d A→Z.BOk π→Z.Inv wd π σ X s.heap →
  (∀ (Er:Value→Shared→Prop) (Qk:Keeper→Shared→Prop),(∀ kp,Qk kp s)→wpAny (model wd.prog wd.w) A (keeperOf (.ref i)) Qk Er s) ∧
  ∀ Qx,0 < s.toks→Z.KW wd X s Q Qx π→codeAny (model wd.prog wd.w) A (.call (.ref i) ⟨xs,[]⟩) (Z.RetR Qx) s
structure Wl (fr:Fr) (t:E) (b:List S) (σ:H) (Q:KS):Prop where mk ::
 ev:∀ (wd:Z.Wd) (m:Nat) (sc:Z.Sc) (env:Env) (tx:PySem.Expr) (bx:List PySem.Stmt) (π:List Addr) (X:List (Addr×Obj)) (ob:Obj) (A:Around) (s:Shared) (Qx:Flow→Shared→Prop),
  Z.trE m sc tx=some t→Z.stmtsL (Z.trS m sc) bx=some b→Z.At wd sc env fr ob π σ X A s→Z.KWf wd env X s Q Qx π sc.loc→codeAny (model wd.prog wd.w) A (.whileLoop tx bx [] env) (Z.OkR Qx) s
structure Fo (fr:Fr) (t:T) (it:It) (b:List S) (σ:H) (Q:KS):Prop where mk ::
 ev:∀ (wd:Z.Wd) (m:Nat) (sc:Z.Sc) (env:Env) (tx:PySem.Expr) (bx:List PySem.Stmt) (π:List Addr) (ia:Addr) (iob:Obj) (X:List (Addr×Obj)) (ob:Obj) (A:Around) (s:Shared) (Qx:Flow→Shared→Prop),
  Z.trT m sc tx=some t→Z.stmtsL (Z.trS m sc) bx=some b→Z.ItO π it iob→Z.At wd sc env fr ob π σ ((ia,iob) :: X) A s→Z.KWf wd env X s Q Qx π sc.loc→codeAny (model wd.prog wd.w) A (.forLoop tx (.ref ia) bx [] env) (Z.OkR Qx) s
structure Fe (fr:Fr) (i j l k:Nat) (b:List S) (σ:H) (Q:KS):Prop where mk ::
 ev:∀ (wd:Z.Wd) (m:Nat) (sc:Z.Sc) (env:Env) (x y:Str) (px py pt:PySem.Pos) (kt:Nat) (bx:List PySem.Stmt) (π:List Addr) (ea ia:Addr) (eob iob:Obj) (X:List (Addr×Obj)) (ob:Obj) (A:Around) (s:Shared) (Qx:Flow→Shared→Prop),
  sc.ko.lookup x=some .local→sc.ko.lookup y=some .local→Z.place? x sc.loc=some i→Z.place? y sc.loc=some j→Z.stmtsL (Z.trS m sc) bx=some b→Z.EnO π l k ia eob iob→Z.At wd sc env fr ob π σ ((ea,eob) :: (ia,iob) :: X) A s→Z.KWf wd env X s Q Qx π sc.loc →
  codeAny (model wd.prog wd.w) A (.forLoop (.Tuple [.Name x px,.Name y py] kt pt) (.ref ea) bx [] env) (Z.OkR Qx) s
structure Co (fr:Fr) (tgt:List Nat) (one:Bool) (it:It) (cond:Option E) (elt:E) (acc:Nat) (σ:H) (Q:H→Prop):Prop where mk ::
 ev:∀ (wd:Z.Wd) (m:Nat) (sc:Z.Sc) (env:Env) (eltx tx itx:PySem.Expr) (ifs:List PySem.Expr) (scx:Scope) (px:PySem.Pos) (π:List Addr) (ia aa:Addr) (iob:Obj) (X:List (Addr×Obj)) (ob:Obj) (A:Around) (s:Shared) (Qx:Flow→Shared→Prop),
  Z.tgtL sc.loc sc.ko tx=some (one,tgt)→Z.trC m sc ifs=some cond→Z.trE m sc eltx=some elt→Z.ItO π it iob→π[acc]?=some aa→fz≤acc→Z.At wd sc env fr ob π σ ((ia,iob) :: X) A s →
  (∀ σ' π' h' t' ob',Q σ'→Z.Le π π'→(∃ m,Z.NsO ob' m)→Z.Inv wd π' σ' ((env.locals,ob') :: X) h'→0 < t'→Qx .next ⟨h',s.gens,s.drawn,t',s.os⟩) →
  codeAny (model wd.prog wd.w) A (.compLoop (.ListComp eltx [⟨tx,itx,ifs,0⟩] scx px) 0 (.ref ia) (.ref aa) env) (Z.OkR Qx) s
noncomputable def wC (d:Nat) (f:V) (as:List V) (σ:H) (Q:V→H→Prop):Prop:=match f with
 | .con c=>(match c with
  | .ref a=>Ca d (.con (.ref a)) as σ Q
  | .builtin a=>opt (Aw σ (.builtin a) as) fun p=>Q p.1 p.2
  | .type a=>opt (Aw σ (.type a) as) fun p=>Q p.1 p.2
  | _=>False)
 | _=>False
noncomputable def H3:Option O→Option V
 | some (.cell (some v))=>some v
 | _=>none
noncomputable def H4:Option O→Option Unit
 | some (.list _)=>some ()
 | _=>none
noncomputable def H5:Option O→Option Unit
 | some (.cell _)=>some ()
 | _=>none
noncomputable def H6:Option O→Option (List V)
 | some (.tuple vs)=>some vs
 | _=>none
noncomputable def itV:Option It→Option It
 | some (.st _ _)=>none
 | x=>x
inductive MK where
 | own (f:Addr)
 | blt (m:BM)
 | no
noncomputable def Am (σ:H) (v:V) (n:Nat):MK:=match Cx σ v with
 | some (C,_,es)=>if (es.lookup n).isSome then .no else (match tb.mt C n with
  | some f=>.own f
  | none=>.no)
 | none=>(match Hi n with
  | some m=>if Hh σ v m then .blt m else .no
  | none=>.no)
noncomputable def B5 (fr:Fr):List E→Option (List V)
 | []=>some []
 | .cst v :: r=>(B5 fr r).map (v :: ·)
 | .loc i :: r=>match (fr.ρ[i]?).join,B5 fr r with
  | some v,some vs=>some (v :: vs)
  | _,_=>none
 | _=>none
noncomputable def byV (w:WV):WV×WB:=⟨w,fun σ Q=>w σ fun v σ=>opt (Az σ v) fun b=>Q b σ⟩
noncomputable def sel (op:BoolOp) (b:Bool) (x y:Prop):Prop:=match op with
 | .Or=>cond b x y
 | .And=>cond b y x
mutual
noncomputable def wP (fr:Fr):E→WV×WB
 | .cst v=>byV fun σ Q=>Q v σ
 | .loc i=>byV fun σ Q=>opt (fr.ρ[i]?).join fun v=>Q v σ
 | .cel i=>byV fun σ Q=>opt (fr.cl[i]?) fun k=>opt (H3 σ[k]?) fun v=>Q v σ
 | .attr o n=>byV fun σ Q=>(wP fr o).1 σ fun v σ=>opt (A8 tb σ v n) fun x=>Q x σ
 | .idx o i=>byV fun σ Q=>(wP fr o).1 σ fun v σ=>(wP fr i).1 σ fun k σ=>opt (Ao σ v k) fun x=>Q x σ
 | .slc o i=>byV fun σ Q=>(wP fr o).1 σ fun v σ=>(wP fr i).1 σ fun k σ=>opt (Ec σ v k) fun p=>Q p.1 p.2
 | .repl o a b=>byV fun σ Q=>(wP fr o).1 σ fun v σ=>match v with
  | .str s=>if s.length≤lim∧b.length≤14∧(a==b)=false then Q (.str (Txt.replace s a b)) σ else False
  | _=>False
 | .call f as=>byV fun σ Q=>(wP fr f).1 σ fun v σ=>wEs fr as σ fun vs σ=>wC fr.dp v vs σ Q
 | .meth o n as=>byV fun σ Q=>(wP fr o).1 σ fun v σ=>match Am σ v n with
  | .own f=>wEs fr as σ fun vs σ=>Ca fr.dp (.con (.ref f)) (v :: vs) σ Q
  | .blt m=>wEs fr as σ fun vs σ=>opt (A4 σ v m vs) fun p=>Q p.1 p.2
  | .no=>False
 | .bin op a b=>byV fun σ Q=>(wP fr a).1 σ fun x σ=>(wP fr b).1 σ fun y σ=>opt (Ce σ op x y) fun p=>Q p.1 p.2
 | .neg a=>byV fun σ Q=>(wP fr a).1 σ fun v σ=>match v with
  | .int k=>Q (.int (-k)) σ
  | _=>False
 | .not a=>⟨fun σ Q=>(wP fr a).1 σ fun v σ=>opt (Az σ v) fun b=>Q (.bool (!b)) σ,fun σ Q=>(wP fr a).2 σ fun b σ=>Q (!b) σ⟩
 | .boo op es=>⟨wBo fr op es,wBs fr op es⟩
 | .cmp l ops rs=>⟨fun σ Q=>(wP fr l).1 σ fun v σ=>wCh fr rs v ops σ fun c σ=>Q (.bool c) σ,fun σ Q=>(wP fr l).1 σ fun v σ=>wCh fr rs v ops σ Q⟩
 | .ite t b o=>⟨fun σ Q=>(wP fr t).2 σ fun c σ=>cond c ((wP fr b).1 σ Q) ((wP fr o).1 σ Q),fun σ Q=>(wP fr t).2 σ fun c σ=>cond c ((wP fr b).2 σ Q) ((wP fr o).2 σ Q)⟩
 | .tup es=>byV fun σ Q=>wEs fr es σ fun vs σ=>opt (gd (Nat.ble vs.length lim) (Ay σ (.tuple vs))) fun p=>Q p.1 p.2
 | .lst es=>byV fun σ Q=>wEs fr es σ fun vs σ=>opt (gd (Nat.ble vs.length lim) (Ay σ (.list vs))) fun p=>Q p.1 p.2
 | .dct ks es=>byV fun σ Q=>if ks.length≤15∧ks.length=es.length then opt (B5 fr ks) fun kv=>wEs fr es σ fun vs σ=>opt (Et (kv.zip vs) []) fun es=>opt (Ay σ (.dict es)) fun p=>Q p.1 p.2 else False
 | .dcl ps=>byV fun σ Q=>if 17 < ps.length∧ps.length≤30∧(ps.map (·.1)).Nodup then opt (Ay σ (.dict (ps.map fun p=>(p.1,.str p.2)))) fun p=>Q p.1 p.2 else False
 | .comp ns cl tgt one src cond elt=>byV fun σ Q=>opt (C9 fr.cl cl) fun cs=>(wP fr src).1 σ fun v σ=>opt (itV (Ci σ v)) fun it=>Co ⟨fr.dp,List.replicate ns none,cs⟩ tgt one it cond elt σ.length (σ++[.list []]) fun σ'=>Q (.ref σ.length) σ'
noncomputable def wEs (fr:Fr):List E→H→(List V→H→Prop)→Prop
 | [],σ,Q=>Q [] σ
 | e :: es,σ,Q=>(wP fr e).1 σ fun v σ=>wEs fr es σ fun vs σ=>Q (v :: vs) σ
noncomputable def wBo (fr:Fr) (op:BoolOp):List E→H→(V→H→Prop)→Prop
 | [],_,_=>False
 | e :: es,σ,Q=>(wP fr e).1 σ fun v σ=>cond es.isEmpty (Q v σ) <| opt (Az σ v) fun b=>sel op b (Q v σ) (wBo fr op es σ Q)
noncomputable def wCh (fr:Fr):List E→V→List CmpOp→H→(Bool→H→Prop)→Prop
 | [],_,_,_,_=>False
 | e :: es,a,ops,σ,Q=>match ops with
  | []=>False
  | op :: ops=>(wP fr e).1 σ fun b σ=>opt (A6 σ op a b) fun c=>match es.isEmpty,ops.isEmpty with
   | true,true=>Q c σ
   | false,false=>cond c (wCh fr es b ops σ Q) (Q false σ)
   | _,_=>False
noncomputable def wBs (fr:Fr) (op:BoolOp):List E→H→(Bool→H→Prop)→Prop
 | [],σ,Q=>Q (op==.And) σ
 | e :: es,σ,Q=>(wP fr e).2 σ fun b σ=>sel op b (Q b σ) (wBs fr op es σ Q)
end
noncomputable def wT (fr:Fr) (t:T) (v:V) (σ:H) (Q:List (Option V)→H→Prop):Prop:=match t with
 | .nm i=>Q (fr.ρ.set i (some v)) σ
 | .cl j=>opt (fr.cl[j]?) fun k=>opt (H5 σ[k]?) fun _=>if fz≤k then Q fr.ρ (σ.set k (.cell (some v))) else False
 | .tp is=>(match v with
  | .ref i=>opt (H6 σ[i]?) fun vs=>opt (Cj is vs fr.ρ) fun ρ=>Q ρ σ
  | _=>False)
 | .at o n=>(wP fr o).1 σ fun ov σ=>opt (Fm tb σ ov n v) fun σ=>Q fr.ρ σ
 | .ix o i=>(wP fr o).1 σ fun ov σ=>(wP fr i).1 σ fun iv σ=>opt (Cy σ ov iv v) fun σ=>Q fr.ρ σ
structure Bx (p:Prop):Prop where mk :: (ev:p)
mutual
noncomputable def wS:S→Fr→H→KS→Prop
 | .asg t e,fr,σ,Q=>(wP fr e).1 σ fun v σ=>wT fr t v σ fun ρ σ=>Q .next ρ σ
 | .asc i e,fr,σ,Q=>(wP fr e).1 σ fun v σ=>Q .next (fr.ρ.set i (some v)) σ
 | .aug i op e,fr,σ,Q=>opt (fr.ρ[i]?).join fun x=>match x with
  | .int x=>(wP fr e).1 σ fun v σ=>(match v,op with
   | .int y,.Add=>Q .next (fr.ρ.set i (some (.int (x+y)))) σ
   | .int y,.Sub=>Q .next (fr.ρ.set i (some (.int (x-y)))) σ
   | _,_=>False)
  | _=>False
 | .ex e,fr,σ,Q=>(wP fr e).1 σ fun v σ=>match v with
  | .none=>Q .next fr.ρ σ
  | .int _=>Q .next fr.ρ σ
  | _=>False
 | .ret none,fr,σ,Q=>Q (.ret .none) fr.ρ σ
 | .ret (some e),fr,σ,Q=>(wP fr e).1 σ fun v σ=>Q (.ret v) fr.ρ σ
 | .ite t b o,fr,σ,Q=>(wP fr t).2 σ fun c σ=>cond c (wSs b fr σ Q) (wSs o fr σ Q)
 | .whl t b,fr,σ,Q=>Wl fr t b σ Q
 | .for t it b,fr,σ,Q=>(wP fr it).1 σ fun v σ=>opt (Ci σ v) fun k=>Fo fr t k b σ Q
 | .fen i j it b,fr,σ,Q=>(wP fr it).1 σ fun v σ=>match v with
  | .ref l=>opt (H4 σ[l]?) fun _=>Fe fr i j l 0 b σ Q
  | _=>False
 | .brk,fr,σ,Q=>Q .brk fr.ρ σ
 | .bad,_,_,_=>False
noncomputable def wSs:List S→Fr→H→KS→Prop
 | [],fr,σ,Q=>Q .next fr.ρ σ
 | s :: ss,fr,σ,Q=>Bx (wS s fr σ fun f ρ σ=>match f with
  | .next=>wSs ss ⟨fr.dp,ρ,fr.cl⟩ σ Q
  | .brk=>Q .brk ρ σ
  | .ret v=>Q (.ret v) ρ σ)
end
noncomputable def lk (Q:KS) (again:List (Option V)→H→Prop):KS:=fun f ρ σ=>match f with
 | .next=>again ρ σ
 | .brk=>Q .next ρ σ
 | .ret v=>Q (.ret v) ρ σ
noncomputable def Dc (fr:Fr) (cond:Option E) (σ:H) (Q:Bool→H→Prop):Prop:=match cond with
 | some c=>(wP fr c).2 σ Q
 | none=>Q true σ
noncomputable def rk (Q:V→H→Prop):KS:=fun f _ σ=>match f with
 | .next=>Q .none σ
 | .ret v=>Q v σ
 | .brk=>False
end Y
end
section
open PySem PySem.W PyProof.Rows PySem.Calls
namespace Z
open Mine.Y
theorem opt_e {α:Type} {x:Option α} {Q:α→Prop} {P:Prop} (h:opt x Q) (k:∀ a,x=some a→Q a→P):P:=by
 induction x with
 | none=>exact h.elim
 | some a=>exact k a rfl h
theorem join_some {α:Type} {x:Option (Option α)} {a:α} (h:x.join=some a):x=some (some a):=by
 induction x with
 | none=>exact nn h
 | some y=>exact congrArg some h
theorem M7 {x:Option O} {v:V} (h:H3 x=some v):x=some (.cell (some v)):=by
 induction x with
 | none=>exact nn h
 | some o=>induction o with
  | cell c=>induction c with
   | none=>exact nn h
   | some u=>exact congrArg (fun z=>some (O.cell (some z))) (Option.some.inj h)
  | _=>exact nn h
theorem M8 {x:Option O} {u:Unit} (h:H4 x=some u):∃ vs,x=some (.list vs):=by
 induction x with
 | none=>exact nn h
 | some o=>induction o with
  | list vs=>exact ⟨vs,rfl⟩
  | _=>exact nn h
theorem M9 {x:Option O} {u:Unit} (h:H5 x=some u):∃ c,x=some (.cell c):=by
 induction x with
 | none=>exact nn h
 | some o=>induction o with
  | cell c=>exact ⟨c,rfl⟩
  | _=>exact nn h
theorem Na {x:Option O} {vs:List V} (h:H6 x=some vs):x=some (.tuple vs):=by
 induction x with
 | none=>exact nn h
 | some o=>induction o with
  | tuple ws=>exact congrArg (fun z=>some (O.tuple z)) (Option.some.inj h)
  | _=>exact nn h
theorem Zw {x:Option It} {it:It} (h:itV x=some it):x=some it∧∀ z k,it≠.st z k:=by
 induction x with
 | none=>exact nn h
 | some i=>induction i with
  | st z k=>exact nn h
  | _=>obtain rfl:=Option.some.inj h;exact ⟨rfl,fun _ _ q=>nomatch q⟩
structure SE (n:Nat):Prop where
 ev:∀ {wd:Wd} {sc:Sc} {env:Env} {fr:Fr} {ob:Obj} {π:List Addr} {σ:H} {X:List (Addr×Obj)} {A:Around} {s:Shared} {ex:PySem.Expr} {e:E} {Q:V→H→Prop} {Qx:Value→Shared→Prop} {Er:Value→Shared→Prop},
  trE n sc ex=some e→(wP fr e).1 σ Q→At wd sc env fr ob π σ X A s→KW wd ((env.locals,ob) :: X) s Q Qx π→wpAny (model wd.prog wd.w) A (eval ex env) Qx Er s
 bo:∀ {wd:Wd} {sc:Sc} {env:Env} {fr:Fr} {ob:Obj} {π:List Addr} {σ:H} {X:List (Addr×Obj)} {A:Around} {s:Shared} {ex:PySem.Expr} {e:E} {Q:Bool→H→Prop} {Qx:Bool→Shared→Prop} {Er:Value→Shared→Prop},
  trE n sc ex=some e→(wP fr e).2 σ Q→At wd sc env fr ob π σ X A s→KWb wd ((env.locals,ob) :: X) s Q Qx π→wpAny (model wd.prog wd.w) A (isTrue ex env (eval ex env)) Qx Er s
section
variable {wd:Wd} {π π':List Addr} {σ σ':H} {X:List (Addr×Obj)} {A:Around} {Er:Value→Shared→Prop} {s:Shared} {sc:Sc} {env:Env} {fr:Fr} {ob:Obj} {e:E} {n:Nat}
variable {Q:V→H→Prop} {Qx:Value→Shared→Prop}
theorem K9 {ex:PySem.Expr} (h:trE n sc ex=some e):(∀ rest env,starEach (ex :: rest) env=(false,eval ex env) :: starEach rest env)∧(∀ env x,foldedSetIterable ex env x=pure x)∧∀ op,behindInMarks op ex=false:=by
 cases n with
 | zero=>exact nn h
 | succ n=>cases ex<;>first | exact nn h | exact ⟨fun _ _=>rfl,fun _ _=>rfl,fun _=>rfl⟩
theorem Rx {ex:PySem.Expr} {rest:List PySem.Expr} (h:trE n sc ex=some e):starEach (ex :: rest) env=(false,eval ex env) :: starEach rest env:=(K9 h).1 _ _
theorem La (H:SE n) {pos:PySem.Pos}:∀ {exs:List PySem.Expr} {es:List E} {σ:Mine.H} {π:List Addr} {s:Shared} {Q:List V→Mine.H→Prop} {Qx:List Value→Shared→Prop},
  A9 (trE n sc) exs=some es→wEs fr es σ Q→At wd sc env fr ob π σ X A s→KWs wd ((env.locals,ob) :: X) s Q Qx π→wpAny (model wd.prog wd.w) A (spliced (backTo pos (starEach exs env))) Qx Er s
 | [],es,σ,π,s,Q,Qx,ht,q,a,k=>by
  obtain rfl:=Option.some.inj ht
  exact spliced_nil (k [] σ π [] s.heap s.toks q (Le.refl π) a.inv rfl a.tk)
 | ex :: exs,es,σ,π,s,Q,Qx,ht,q,a,k=>by
  refine An (M:=fun es=>wEs fr es σ Q→_) ht (fun e1 es1 h1 h2 q=>?_) q
  refine args_cons (H.ev h1 q a fun v σ1 π1 x h' t' q1 l1 I1 hx ht1=>?_) (Rx h1)
  exact La H h2 q1 (a.next l1 I1 ht1) fun vs σ2 π2 xs h'' t'' q2 l2 I2 hxs ht2=>k _ σ2 π2 (x :: xs) h'' t'' q2 (l1.trans l2) I2 ⟨x,xs,rfl,hx.le l2,hxs⟩ ht2
theorem Lb {pos:PySem.Pos}:∀ {exs:List PySem.Expr} {es:List E},A9 (trE n sc) exs=some es→(backTo pos (starEach exs env)).any (·.1)=false
 | [],_,_=>rfl
 | ex :: exs,es,h=>by
  refine An (f:=List.cons) (M:=fun _=>_) h fun e1 es1 h1 h2=>?_
  rw [Rx h1]
  exact Lb (exs:=exs) h2
theorem Zx {x:Str} {pos:PySem.Pos} (h:trE (n+1) sc (.Name x pos)=some e) (q:(wP fr e).1 σ Q) (a:At wd sc env fr ob π σ X A s) (k:KW wd ((env.locals,ob) :: X) s Q Qx π) :
  wpAny (model wd.prog wd.w) A (eval (.Name x pos) env) Qx Er s:=by
 have hd:(x==("__debug__":Str))=false:=Bool.not_eq_true' _▸Cp h
 have h1:=Br h
 cases hko:sc.ko.lookup x with
 | none=>rw [hko] at h1;exact nn h1
 | some kd =>
  rw [hko] at h1
  induction kd with
  | «local» =>
   refine o1_e (M:=fun e=>(wP fr e).1 σ Q→_) h1 (fun i hi q=>opt_e q fun v hv q=>?_) q
   (refine Aa a.fo ?_;intro mm hn hf)
   (refine Aa (hf i x v (Cl hi) (join_some hv)) ?_;intro xv e1 e2)
   exact wpAny_Name (wpAny_loadName_local a.ok.kind ((a.ok.ko x).trans hko) (hn.ns (a.inv.ext _ (.head _))) e1 (k v σ π xv s.heap s.toks q (Le.refl π) a.inv e2 a.tk)) hd
  | cell =>
   refine o1_e (M:=fun e=>(wP fr e).1 σ Q→_) h1 (fun i hi q=>opt_e q fun kk hk q=>opt_e q fun v hv q=>?_) q
   (refine Aa (a.ce i x kk (Cl hi) hk) ?_;intro c e1 e2)
   rcases a.inv.at e2 (M7 hv) with ⟨obc,e3,xo,e5,e6⟩
   induction xo with
   | none=>exact e6.elim
   | some xv=>exact wpAny_Name (wpAny_loadName_cell a.ok.kind ((a.ok.ko x).trans hko) e1 ⟨obc,e3,e5⟩ (k v σ π xv s.heap s.toks q (Le.refl π) a.inv e6 a.tk)) hd
  | globalImplicit =>
   refine o1_e (M:=fun e=>(wP fr e).1 σ Q→_) h1 (fun xv hx q=>?_) q
   have kk:=k _ σ π xv s.heap s.toks q (Le.refl π) a.inv rfl a.tk
   (refine Ai (a.wk.glob x xv hx) ?_;intro mg mb g1 g2 g3)
   have g1':s.heap.Ns env.globals mg:=a.ok.glob▸g1.keeps a.inv.base
   refine Name_function_global a.ok.kind ((a.ok.ko x).trans hko) ?_ hd
   focus (refine oe g3 ?_ ?_;rotate_left;(try clear g3;intro z_o;refine Ac z_o ?_;intro g3 g4);rotate_right;(try clear g3;intro g3))
   ·exact loadGlobal_global g1' g3 kk
   ·exact loadGlobal_builtin g1' g3 (a.ok.bui▸g2.keeps a.inv.base) g4 kk
  | _=>exact nn h1
theorem Zy {c:Const} {kk:Nat} {pos:PySem.Pos} (h:trE (n+1) sc (.Constant c kk pos)=some e) (q:(wP fr e).1 σ Q) (a:At wd sc env fr ob π σ X A s) (k:KW wd ((env.locals,ob) :: X) s Q Qx π) :
  wpAny (model wd.prog wd.w) A (eval (.Constant c kk pos) env) Qx Er s:=by
 refine o1_e (M:=fun e=>(wP fr e).1 σ Q→_) h (fun v hv q=>?_) q
 haveI q':Q v σ:=q
 haveI tk:=a.tk
 induction c with
 | none=>obtain rfl:=Option.some.inj hv;exact wpAny_pure (k _ σ π _ s.heap s.toks q' (Le.refl π) a.inv rfl a.tk)
 | bool b=>obtain rfl:=Option.some.inj hv;exact wpAny_pure (k _ σ π _ s.heap s.toks q' (Le.refl π) a.inv rfl a.tk)
 | int i=>obtain rfl:=Option.some.inj hv;exact wpAny_Constant_int (k _ σ π _ s.heap (s.toks+1) q' (Le.refl π) a.inv ⟨_,rfl⟩ (Nat.succ_pos _))
 | str i=>obtain rfl:=Option.some.inj hv;exact Constant_str (k _ σ π _ s.heap (s.toks+1) q' (Le.refl π) a.inv ⟨_,rfl⟩ (Nat.succ_pos _))
 | _=>exact nn hv
theorem Ry {o:PySem.Expr} (hb:G0 o=false) (name:Str) (env:Env):attributeBase o name env (eval o env)=eval o env:=by
 cases o with
 | Call f as kws p=>cases f<;>first | rfl | (cases as<;>cases kws<;>first | rfl | cases hb)
 | _=>rfl
theorem H7 {b:Bool} (h:(!b)=true):b=false:=by
 induction b with
 | true=>exact nf h
 | false=>rfl
theorem Zz (H:SE n) {o:PySem.Expr} {at':Str} {pos:PySem.Pos} (h:trE (n+1) sc (.Attribute o at' pos)=some e) (q:(wP fr e).1 σ Q) (a:At wd sc env fr ob π σ X A s) (k:KW wd ((env.locals,ob) :: X) s Q Qx π) :
  wpAny (model wd.prog wd.w) A (eval (.Attribute o at' pos) env) Qx Er s:=by
 refine An (M:=fun e=>(wP fr e).1 σ Q→_) (Br h) (fun e' kk h1 h2 q=>?_) q
 refine Attribute_any_ (H.ev h1 q a fun v σ1 π1 x h' t' q1 l1 I1 hx1 ht1=>opt_e q1 fun u hu q1=>?_) (by
  show (do let o' ← attributeBase o at' env (eval o env);standAt pos.atName;let r ← holding [o'] (getAttr o' at' true);letTemporaryGo o o' r;pure r)=_
  rw [Ry (H7 (Cp h))])
 rw [← M6 _ _ h2]
 exact tok_up ht1 (Zf a.wk.KI a.wk.da I1 hx1 hu (KW.kv (k.le l1) q1))
theorem Z0 {u a b:Option PySem.Expr} {q:PySem.Pos} (h:slK (.Slice u a b q)=.plain):False:=by
 cases u<;>cases a<;>cases b<;>cases h
theorem np {u:PySem.Expr} {P:Prop} (h:SlK.plain=.up u):P:=nomatch h
theorem Z1 {i u:PySem.Expr} (h:slK i=.up u):∃ p,i=.Slice none (some u) none p:=by
 cases i with
 | Slice l m st p=>cases l<;>cases m<;>cases st<;>first | (cases h;exact ⟨_,rfl⟩) | cases h
 | _=>exact np h
theorem Z2 (H:SE n) {o i:PySem.Expr} {pos:PySem.Pos} (h:trE (n+1) sc (.Subscript o i pos)=some e) (q:(wP fr e).1 σ Q) (a:At wd sc env fr ob π σ X A s) (k:KW wd ((env.locals,ob) :: X) s Q Qx π) :
  wpAny (model wd.prog wd.w) A (eval (.Subscript o i pos) env) Qx Er s:=by
 haveI h':(match slK i with
   | .up u=>o2 .slc (trE n sc o) (trE n sc u)
   | .no=>none
   | .plain=>o2 .idx (trE n sc o) (trE n sc i))=some e:=h
 cases hi:slK i with
 | no=>rw [hi] at h';exact nn h'
 | plain =>
  rw [hi] at h'
  refine An (M:=fun e=>(wP fr e).1 σ Q→_) h' (fun e1 e2 h1 h2 q=>?_) q
  refine Subscript_ (H.ev h1 q a fun v σ1 π1 x h' t' q1 l1 I1 hx1 ht1=>H.ev h2 q1 (a.next l1 I1 ht1) fun u σ2 π2 y h'' t'' q2 l2 I2 hx2 ht2=>opt_e q2 fun z hz q2=>?_)
  refine tok_up ht2 (Yj ?_ I2 (hx1.le l2) hx2 hz fun z' t3 hz' ht3=>k z σ2 π2 z' h'' t3 q2 (l1.trans l2) I2 hz' ht3)
  rintro u a b q rfl
  exact Z0 hi
 | up u =>
  rw [hi] at h'
  (refine Ad (Z1 hi) ?_;intro p z_1;obtain rfl:=z_1)
  refine An (M:=fun e=>(wP fr e).1 σ Q→_) h' (fun e1 e2 h1 h2 q=>?_) q
  refine Subscript_ (H.ev h1 q a fun v σ1 π1 x h' t' q1 l1 I1 hx1 ht1=>?_)
  show wpAny _ _ (do
   let l ← pure Value.none
   let u' ← holding [l] (eval u env)
   let s ← holding [l,u'] (pure Value.none)
   newFields "slice" [l,u',s]) _ _ _
  refine wpAny_bind (wpAny_pure (wpAny_bind (wpAny_holding (H.ev h2 q1 (a.next l1 I1 ht1) fun w σ2 π2 y h'' t'' q2 l2 I2 hx2 ht2=>wpAny_bind (wpAny_holding (wpAny_pure (wpAny_newObj_type (opt_e q2 fun z hz q2=>?_))))))))
  exact tok_up ht2 (Ym (I2.garbage _) (hx1.le l2) hx2 hz (KW.kv (KW.le k (l1.trans l2)) q2) (Heap.get?_push_size _ rfl))
theorem Z3 (H:SE n) {l rr:PySem.Expr} {op:Operator} {pos:PySem.Pos} (h:trE (n+1) sc (.BinOp l op rr pos)=some e) (q:(wP fr e).1 σ Q) (a:At wd sc env fr ob π σ X A s) (k:KW wd ((env.locals,ob) :: X) s Q Qx π) :
  wpAny (model wd.prog wd.w) A (eval (.BinOp l op rr pos) env) Qx Er s:=by
 refine An (M:=fun e=>(wP fr e).1 σ Q→_) h (fun e1 e2 h1 h2 q=>?_) q
 refine wpAny_BinOp (H.ev h1 q a fun v σ1 π1 x h' t' q1 l1 I1 hx1 ht1=>H.ev h2 q1 (a.next l1 I1 ht1) fun u σ2 π2 y h'' t'' q2 l2 I2 hx2 ht2=>opt_e q2 fun z hz q2=>?_)
 exact tok_up ht2 (Yd I2 (hx1.le l2) hx2 hz (KW.kv (KW.le k (l1.trans l2)) q2))
end
open Mine.Y
section
variable {wd:Wd} {π π':List Addr} {σ σ':H} {X:List (Addr×Obj)} {A:Around} {Er:Value→Shared→Prop} {s:Shared} {sc:Sc} {env:Env} {fr:Fr} {ob:Obj} {e:E} {n:Nat}
variable {Q:V→H→Prop} {Qx:Value→Shared→Prop} {Qb:Bool→H→Prop} {Qy:Bool→Shared→Prop}
theorem cf {P Q:Prop} (h:cond false P Q):Q:=h
theorem Lc {M:Model} {A:Around} {E:Value→Shared→Prop} {s:Shared} {vs keep:List Value} {Q:Unit→Shared→Prop} (h:Q () s):wpAny M A (release vs keep) Q E s :=
 fun Γ p hΓ=>by rw [Sem.wp_release];exact h
theorem Nb {v:V} {x:Value} {b:Bool} (I:Inv wd π σ X s.heap) (hv:Ah π v x) (t:0 < s.toks) (e:Az σ v=some b) (k:∀ t',0 < t'→Qy b ⟨s.heap,s.gens,s.drawn,t',s.os⟩) :
  wpAny (model wd.prog wd.w) A (truthy x) Qy Er s :=
 tok_up t (Yb I hv e k)
theorem Ld {op:CmpOp} {a b:V} {x y:Value} {c:Bool} {n:Nat} (hA:AOk n A) (I:Inv wd π σ X s.heap) (ha:Ah π a x) (hb':Ah π b y) (t:0 < s.toks) (e:A6 σ op a b=some c)
  (k:∀ t',0 < t'→Qx (.bool c) ⟨s.heap,s.gens,s.drawn,t',s.os⟩):wpAny (model wd.prog wd.w) A (compareOp op x y) Qx Er s :=
 tok_up t (Yc hA I ha hb' e k)
theorem Z4 (H:SE n) {x:PySem.Expr} {op:UnaryOp} {pos:PySem.Pos} (h:trE (n+1) sc (.UnaryOp op x pos)=some e) (q:(wP fr e).1 σ Q) (a:At wd sc env fr ob π σ X A s) (k:KW wd ((env.locals,ob) :: X) s Q Qx π) :
  wpAny (model wd.prog wd.w) A (eval (.UnaryOp op x pos) env) Qx Er s:=by
 rw [arm_eval_UnaryOp]
 induction op with
 | USub =>
  refine o1_e (M:=fun e=>(wP fr e).1 σ Q→_) h (fun e1 h1 q=>?_) q
  refine wpAny_bind (H.ev h1 q a fun v σ1 π1 x h' t' q1 l1 I1 hx1 ht1=>wpAny_bind (wpAny_standAt (wpAny_holding ?_)))
  induction v with
  | int i =>
   (refine Ad hx1 ?_;try clear hx1;intro t z_1;obtain rfl:=z_1)
   exact PyProof.Rows.neg_int (k _ σ1 π1 _ h' (t'+1) q1 l1 I1 ⟨_,rfl⟩ (Nat.succ_pos _))
  | _=>exact q1.elim
 | Not =>
  refine o1_e (M:=fun e=>(wP fr e).1 σ Q→_) h (fun e1 h1 q=>?_) q
  refine wpAny_bind (H.ev h1 q a fun v σ1 π1 x h' t' q1 l1 I1 hx1 ht1=>wpAny_bind (wpAny_standAt (wpAny_holding (opt_e q1 fun b hb q1=>?_))))
  exact not_of (Nb I1 hx1 ht1 hb fun t'' ht2=>k _ σ1 π1 _ h' t'' q1 l1 I1 rfl ht2)
 | _=>exact nn h
theorem Rz (H:SE n) {pos:PySem.Pos} {op:BoolOp}:∀ {exs:List PySem.Expr} {es:List E} {σ:Mine.H} {π:List Addr} {s:Shared} {Q:V→Mine.H→Prop} {Qx:Value→Shared→Prop},
  A9 (trE n sc) exs=some es→wBo fr op es σ Q→At wd sc env fr ob π σ X A s→KW wd ((env.locals,ob) :: X) s Q Qx π →
  wpAny (model wd.prog wd.w) A (boolOp pos op (evalEach exs env)) Qx Er s
 | [],es,σ,π,s,Q,Qx,ht,q,a,k=>by
  obtain rfl:=Option.some.inj ht
  exact q.elim
 | [ex],es,σ,π,s,Q,Qx,ht,q,a,k=>by
  refine An (M:=fun es=>wBo fr op es σ Q→_) ht (fun e1 es1 h1 h2 q=>?_) q
  obtain rfl:=Option.some.inj h2
  exact H.ev h1 q a k
 | ex :: ey :: exs,es,σ,π,s,Q,Qx,ht,q,a,k=>by
  refine An (M:=fun es=>wBo fr op es σ Q→_) ht (fun e1 es1 h1 h2 q=>?_) q
  have hne:es1.isEmpty=false:=An (f:=List.cons) (M:=fun es=>es.isEmpty=false) h2 fun _ _ _ _=>rfl
  show wpAny _ _ (do
   let v ← eval ex env
   standAt pos
   match op,← holding [v] (truthy v) with
   | .And,false=>pure v
   | .Or,true=>pure v
   | _,_=>boolOp pos op (eval ey env :: evalEach exs env)) _ _ _
  refine wpAny_bind (H.ev h1 q a fun v σ1 π1 x h' t' q1 l1 I1 hx ht1=>wpAny_bind (wpAny_standAt (wpAny_bind (wpAny_holding ?_))))
  rw [hne] at q1
  refine opt_e (cf q1) fun b hb q1=>Nb I1 hx ht1 hb fun t2 ht2=>?_
  haveI fin:Q v σ1→wpAny (model wd.prog wd.w) A (pure x) Qx Er ⟨h',s.gens,s.drawn,t2,s.os⟩:=fun q1=>wpAny_pure (k v σ1 π1 x h' t2 q1 l1 I1 hx ht2)
  haveI go:wBo fr op es1 σ1 Q→wpAny (model wd.prog wd.w) A (boolOp pos op (eval ey env :: evalEach exs env)) Qx Er ⟨h',s.gens,s.drawn,t2,s.os⟩:=fun q1 =>
   Rz H (exs:=ey :: exs) h2 q1 (a.next l1 I1 ht2) (k.le l1)
  cases op<;>cases b<;>first | exact fin q1 | exact go q1
theorem R5 (H:SE n) {op:BoolOp}:∀ {exs:List PySem.Expr} {es:List E} {σ:Mine.H} {π:List Addr} {s:Shared} {Q:Bool→Mine.H→Prop} {Qx:Bool→Shared→Prop},
  A9 (trE n sc) exs=some es→wBs fr op es σ Q→At wd sc env fr ob π σ X A s→KWb wd ((env.locals,ob) :: X) s Q Qx π →
  wpAny (model wd.prog wd.w) A (allTrue op exs env) Qx Er s
 | [],es,σ,π,s,Q,Qx,ht,q,a,k=>by
  obtain rfl:=Option.some.inj ht
  exact wpAny_pure (k _ σ π s.heap s.toks q (Le.refl π) a.inv a.tk)
 | ex :: exs,es,σ,π,s,Q,Qx,ht,q,a,k=>by
  refine An (M:=fun es=>wBs fr op es σ Q→_) ht (fun e1 es1 h1 h2 q=>?_) q
  show wpAny _ _ (do
   match op,← isTrue ex env (eval ex env) with
   | .And,false=>pure false
   | .Or,true=>pure true
   | _,_=>allTrue op exs env) _ _ _
  refine wpAny_bind (H.bo h1 q a fun b σ1 π1 h' t' q1 l1 I1 ht1=>?_)
  haveI go:wBs fr op es1 σ1 Q→wpAny (model wd.prog wd.w) A (allTrue op exs env) Qx Er ⟨h',s.gens,s.drawn,t',s.os⟩:=fun q1=>R5 H h2 q1 (a.next l1 I1 ht1) (k.le l1)
  cases op<;>cases b<;>first | exact go q1 | exact wpAny_pure (k _ σ1 π1 h' t' q1 l1 I1 ht1)
theorem Nc:∀ {ops:List CmpOp} {exs:List PySem.Expr} {es:List E} {ts:List (Sem Value)},A9 (trE n sc) exs=some es→markedEach ops exs ts=ts
 | [],_,_,_,_=>by unfold markedEach;rfl
 | [op],[],_,ts,_=>by unfold markedEach;rfl
 | _ :: _ :: _,[],_,ts,_=>by unfold markedEach;rfl
 | op :: ops,ex :: exs,es,ts,h=>by
  refine An (f:=List.cons) (c:=es) (M:=fun _=>_) h fun e1 es1 h1 h2=>?_
  haveI hm:markedBehindIn op ex=fun t=>t:=funext fun t=>by rw [markedBehindIn_of_false ((K9 h1).2.2 op)]
  cases ts with
  | nil=>cases ops<;>cases exs<;>(unfold markedEach;rfl)
  | cons t ts =>
   haveI ih:=Nc (ops:=ops) (ts:=ts) h2
   cases ops<;>cases exs<;>cases ts<;>(unfold markedEach;first | rw [hm] | rw [ih] | rfl)
theorem Lf (H:SE n) {pos:PySem.Pos}:∀ {ops:List CmpOp} {exs:List PySem.Expr} {es:List E} {v:V} {x:Value} {σ:Mine.H} {π:List Addr} {s:Shared} {Q:Bool→Mine.H→Prop},
  A9 (trE n sc) exs=some es→wCh fr es v ops σ Q→Ah π v x→At wd sc env fr ob π σ X A s →
  (∀ {Qx:Value→Shared→Prop},KW wd ((env.locals,ob) :: X) s (fun v σ=>∃ b,v=.bool b∧Q b σ) Qx π→wpAny (model wd.prog wd.w) A (compareChain pos x ops (evalEach exs env)) Qx Er s) ∧
  (∀ {Qx:Bool→Shared→Prop},KWb wd ((env.locals,ob) :: X) s Q Qx π→wpAny (model wd.prog wd.w) A (testChain pos x ops (evalEach exs env)) Qx Er s)
 | ops,[],es,v,x,σ,π,s,Q,ht,q,hx,a=>by obtain rfl:=Option.some.inj ht;exact q.elim
 | [],ex :: exs,es,v,x,σ,π,s,Q,ht,q,hx,a=>by
  refine An (M:=fun es=>wCh fr es v [] σ Q→_) ht (fun e1 es1 h1 h2 q=>?_) q
  exact q.elim
 | [op],[ex],es,v,x,σ,π,s,Q,ht,q,hx,a=>by
  refine An (M:=fun es=>wCh fr es v [op] σ Q→_) ht (fun e1 es1 h1 h2 q=>?_) q
  obtain rfl:=Option.some.inj h2
  refine ⟨fun {Qx} k=>?_,fun {Qx} k=>?_⟩
  ·show wpAny _ _ (do
    let rv ← holding [x] (eval ex env)
    standAt pos
    operate [x,rv] (compareOp op x rv)) _ _ _
   refine wpAny_bind (wpAny_holding (H.ev h1 q a fun u σ1 π1 y h' t' q1 l1 I1 hy ht1=>wpAny_bind (wpAny_standAt (wpAny_operating (opt_e q1 fun c hc q1=>?_)))))
   exact Ld a.ao I1 (hx.le l1) hy ht1 hc fun t'' h''=>k _ σ1 π1 _ h' t'' ⟨c,rfl,q1⟩ l1 I1 rfl h''
  ·show wpAny _ _ (do
    let rv ← holding [x] (eval ex env)
    standAt pos
    let c ← operate [x,rv] (compareOp op x rv)
    holding [c] (truthy c)) _ _ _
   refine wpAny_bind (wpAny_holding (H.ev h1 q a fun u σ1 π1 y h' t' q1 l1 I1 hy ht1=>wpAny_bind (wpAny_standAt (wpAny_bind (wpAny_operating (opt_e q1 fun c hc q1=>?_))))))
   exact Ld a.ao I1 (hx.le l1) hy ht1 hc fun t'' h''=>wpAny_holding (wpAny_truthy_bool (k _ σ1 π1 h' t'' q1 l1 I1 h''))
 | [op],ex :: ey :: exs,es,v,x,σ,π,s,Q,ht,q,hx,a=>by
  refine An (M:=fun es=>wCh fr es v [op] σ Q→_) ht (fun e1 es1 h1 h2 q=>?_) q
  have hne:es1.isEmpty=false:=An (f:=List.cons) (M:=fun es=>es.isEmpty=false) h2 fun _ _ _ _=>rfl
  refine ⟨fun {Qx} k=>?_,fun {Qx} k=>?_⟩
  ·show wpAny _ _ (do
    let rv ← holding [x] (eval ex env)
    standAt pos
    let c ← holding [x,rv] (compareOp op x rv)
    release [x,rv] [c]
    if ← holding [c,rv] (truthy c) then compareChain pos rv [] (eval ey env :: evalEach exs env) else pure c) _ _ _
   exact wpAny_bind (wpAny_holding (H.ev h1 q a fun u σ1 π1 y h' t' q1 l1 I1 hy ht1=>opt_e q1 fun c hc q1=>by rw [hne] at q1;exact q1.elim))
  ·show wpAny _ _ (do
    let rv ← holding [x] (eval ex env)
    standAt pos
    let c ← holding [x,rv] (compareOp op x rv)
    release [x,rv] [c]
    if ← holding [c,rv] (truthy c) then testChain pos rv [] (eval ey env :: evalEach exs env) else pure false) _ _ _
   exact wpAny_bind (wpAny_holding (H.ev h1 q a fun u σ1 π1 y h' t' q1 l1 I1 hy ht1=>opt_e q1 fun c hc q1=>by rw [hne] at q1;exact q1.elim))
 | op :: op2 :: ops,ex :: exs,es,v,x,σ,π,s,Q,ht,q,hx,a=>by
  refine An (M:=fun es=>wCh fr es v (op :: op2 :: ops) σ Q→_) ht (fun e1 es1 h1 h2 q=>?_) q
  haveI ih:∀ {b:Bool} {u:V} {y:Value} {σ1:Mine.H} {π1:List Addr} {h':Heap} {t'':Nat},(match es1.isEmpty,(op2 :: ops).isEmpty with
   | true,true=>Q b σ1
   | false,false=>cond b (wCh fr es1 u (op2 :: ops) σ1 Q) (Q false σ1)
   | _,_=>False)→Le π π1→Inv wd π1 σ1 ((env.locals,ob) :: X) h'→Ah π1 u y→0 < t'' →
   (∀ {Qx:Value→Shared→Prop},KW wd ((env.locals,ob) :: X) s (fun v σ=>∃ b,v=.bool b∧Q b σ) Qx π→wpAny (model wd.prog wd.w) A (if b=true then compareChain pos y (op2 :: ops) (evalEach exs env) else pure (.bool b)) Qx Er ⟨h',s.gens,s.drawn,t'',s.os⟩) ∧
   (∀ {Qx:Bool→Shared→Prop},KWb wd ((env.locals,ob) :: X) s Q Qx π→wpAny (model wd.prog wd.w) A (if b=true then testChain pos y (op2 :: ops) (evalEach exs env) else pure false) Qx Er ⟨h',s.gens,s.drawn,t'',s.os⟩):=fun {b u y σ1 π1 h' t''} q1 l1 I1 hy ht1=>by
   cases es1 with
   | nil=>exact q1.elim
   | cons e2 es2=>induction b with
    | true =>
     haveI q2:wCh fr (e2 :: es2) u (op2 :: ops) σ1 Q:=q1
     exact ⟨fun k=>(Lf H h2 q2 hy (a.next l1 I1 ht1)).1 (KW.le k l1),fun k=>(Lf H h2 q2 hy (a.next l1 I1 ht1)).2 (KWb.le k l1)⟩
    | false=>exact ⟨fun k=>wpAny_pure (k _ σ1 π1 _ h' t'' ⟨false,rfl,q1⟩ l1 I1 rfl ht1),fun k=>wpAny_pure (k _ σ1 π1 h' t'' q1 l1 I1 ht1)⟩
  refine ⟨fun {Qx} k=>?_,fun {Qx} k=>?_⟩
  ·show wpAny _ _ (do
    let rv ← holding [x] (eval ex env)
    standAt pos
    let c ← holding [x,rv] (compareOp op x rv)
    release [x,rv] [c]
    if ← holding [c,rv] (truthy c) then compareChain pos rv (op2 :: ops) (evalEach exs env) else pure c) _ _ _
   refine wpAny_bind (wpAny_holding (H.ev h1 q a fun u σ1 π1 y h' t' q1 l1 I1 hy ht1=>wpAny_bind (wpAny_standAt (wpAny_bind (wpAny_holding (opt_e q1 fun c hc q1=>?_))))))
   exact Ld a.ao I1 (hx.le l1) hy ht1 hc fun t'' h''=>wpAny_bind (Lc (wpAny_bind (wpAny_holding (wpAny_truthy_bool ((ih q1 l1 I1 hy h'').1 k)))))
  ·show wpAny _ _ (do
    let rv ← holding [x] (eval ex env)
    standAt pos
    let c ← holding [x,rv] (compareOp op x rv)
    release [x,rv] [c]
    if ← holding [c,rv] (truthy c) then testChain pos rv (op2 :: ops) (evalEach exs env) else pure false) _ _ _
   refine wpAny_bind (wpAny_holding (H.ev h1 q a fun u σ1 π1 y h' t' q1 l1 I1 hy ht1=>wpAny_bind (wpAny_standAt (wpAny_bind (wpAny_holding (opt_e q1 fun c hc q1=>?_))))))
   exact Ld a.ao I1 (hx.le l1) hy ht1 hc fun t'' h''=>wpAny_bind (Lc (wpAny_bind (wpAny_holding (wpAny_truthy_bool ((ih q1 l1 I1 hy h'').2 k)))))
theorem R6 (H:SE n) {l:PySem.Expr} {ops:List CmpOp} {rs:List PySem.Expr} {pos:PySem.Pos} (h:trE (n+1) sc (.Compare l ops rs pos)=some e) (a:At wd sc env fr ob π σ X A s) :
  ((wP fr e).1 σ Q→KW wd ((env.locals,ob) :: X) s Q Qx π→wpAny (model wd.prog wd.w) A (eval (.Compare l ops rs pos) env) Qx Er s) ∧
  ((wP fr e).2 σ Qb→KWb wd ((env.locals,ob) :: X) s Qb Qy π→wpAny (model wd.prog wd.w) A (isTrue (.Compare l ops rs pos) env (eval (.Compare l ops rs pos) env)) Qy Er s):=by
 refine An (M:=fun e=>((wP fr e).1 σ Q→_)∧((wP fr e).2 σ Qb→_)) h (fun e1 es1 h1 h2=>⟨fun q k=>?_,fun q k=>?_⟩)
 ·show wpAny _ _ (do compareChain pos (← eval l env) ops (markedEach ops rs (evalEach rs env))) _ _ _
  rw [Nc h2]
  exact wpAny_bind (H.ev h1 q a fun u σ1 π1 y h' t' q1 l1 I1 hy ht1=>(Lf H h2 q1 hy (a.next l1 I1 ht1)).1 fun v σ2 π2 x h'' t'' q2 l2 I2 hv ht2=>by
   (refine Aa q2 ?_;try clear q2;intro b z_1 q2;obtain rfl:=z_1)
   exact k _ σ2 π2 x h'' t'' q2 (l1.trans l2) I2 hv ht2)
 ·show wpAny _ _ (do testChain pos (← eval l env) ops (markedEach ops rs (evalEach rs env))) _ _ _
  rw [Nc h2]
  exact wpAny_bind (H.ev h1 q a fun u σ1 π1 y h' t' q1 l1 I1 hy ht1=>(Lf H h2 q1 hy (a.next l1 I1 ht1)).2 (k.le l1))
theorem Z5 (H:SE n) {t b o:PySem.Expr} {pos:PySem.Pos} (h:trE (n+1) sc (.IfExp t b o pos)=some e) (q:(wP fr e).1 σ Q) (a:At wd sc env fr ob π σ X A s) (k:KW wd ((env.locals,ob) :: X) s Q Qx π) :
  wpAny (model wd.prog wd.w) A (eval (.IfExp t b o pos) env) Qx Er s:=by
 refine F0 (M:=fun e=>(wP fr e).1 σ Q→_) h (fun e1 e2 e3 h1 h2 h3 q=>?_) q
 rw [arm_eval_IfExp]
 refine wpAny_bind (H.bo h1 q a fun c σ1 π1 h' t' q1 l1 I1 ht1=>?_)
 induction c with
 | true=>exact H.ev h2 q1 (a.next l1 I1 ht1) (k.le l1)
 | false=>exact H.ev h3 q1 (a.next l1 I1 ht1) (k.le l1)
theorem R7 {vs:List V} {xs:List Value} (hx:VRels π vs xs) (h:vs.length≤lim):xs.toArray.size≤sizeLine:=by
 rw [List.size_toArray,hx.len]
 exact Fv h
theorem Lg {c:Prop} [Decidable c] {P R:Prop} (h:if c then P else False) (k:c→P→R):R:=by
 by_cases hc:c
 ·rw [if_pos hc] at h;exact k hc h
 ·rw [if_neg hc] at h;exact h.elim
theorem Z6 (H:SE n) {es:List PySem.Expr} {kk:Nat} {pos:PySem.Pos} (h:trE (n+1) sc (.Tuple es kk pos)=some e) (q:(wP fr e).1 σ Q) (a:At wd sc env fr ob π σ X A s) (k:KW wd ((env.locals,ob) :: X) s Q Qx π) :
  wpAny (model wd.prog wd.w) A (eval (.Tuple es kk pos) env) Qx Er s:=by
 refine o1_e (M:=fun e=>(wP fr e).1 σ Q→_) h (fun e1 h1 q=>?_) q
 rw [arm_eval_Tuple]
 refine wpAny_bind (wpAny_standAt (wpAny_bind (La H h1 q a fun vs σ1 π1 xs h' t' q1 l1 I1 hx1 ht1=>opt_e q1 fun p hp q1=>Bl hp fun hz hp=>?_)))
 obtain rfl:=Option.some.inj hp
 exact wpAny_newObj_type (Kv.pushed (s:=⟨h',s.gens,s.drawn,t',s.os⟩) (Q:=fun v s'=>0 < s'.toks→Qx v s') I1 (KW.kv (KW.le k l1) q1) (.ofTuple (hx1.mono _) rfl _ (Nat.le_succ_of_le hz)) ht1) (R7 hx1 hz)
theorem Z7 (H:SE n) {es:List PySem.Expr} {pos:PySem.Pos} (h:trE (n+1) sc (.List es pos)=some e) (q:(wP fr e).1 σ Q) (a:At wd sc env fr ob π σ X A s) (k:KW wd ((env.locals,ob) :: X) s Q Qx π) :
  wpAny (model wd.prog wd.w) A (eval (.List es pos) env) Qx Er s:=by
 refine o1_e (M:=fun e=>(wP fr e).1 σ Q→_) h (fun e1 h1 q=>?_) q
 rw [arm_eval_List]
 refine wpAny_bind (wpAny_standAt (wpAny_bind (La H h1 q a fun vs σ1 π1 xs h' t' q1 l1 I1 hx1 ht1=>opt_e q1 fun p hp q1=>Bl hp fun hz hp=>?_)))
 obtain rfl:=Option.some.inj hp
 exact wpAny_newObj_type (Kv.pushed (s:=⟨h',s.gens,s.drawn,t',s.os⟩) (Q:=fun v s'=>0 < s'.toks→Qx v s') I1 (KW.kv (KW.le k l1) q1) (.ofList (hx1.mono _) rfl _ (Nat.le_succ_of_le hz)) ht1) (R7 hx1 hz)
end
open Mine.Y
section
variable {wd:Wd} {π π':List Addr} {σ σ':H} {X:List (Addr×Obj)} {A:Around} {Er:Value→Shared→Prop} {s:Shared} {sc:Sc} {env:Env} {fr:Fr} {ob:Obj} {e:E} {n:Nat}
variable {Q:V→H→Prop} {Qx:Value→Shared→Prop}
noncomputable def Nf (π:List Addr):List V→List V→List (Value×Value)→Prop
 | k :: ks,v :: vs,l=>∃ x y xs,l=(x,y) :: xs∧Ah π k x∧Ah π v y∧Nf π ks vs xs
 | [],[],l=>l=[]
 | _,_,_=>False
theorem R8 {k:E} {ks:List E} {kv:List V} (h:B5 fr (k :: ks)=some kv):∃ v vs,kv=v :: vs∧B5 fr ks=some vs∧∀ (σ:Mine.H) (Q:V→Mine.H→Prop),Q v σ→(wP fr k).1 σ Q:=by
 cases k with
 | cst v =>
  (refine Aa (Option.map_eq_some_iff.mp h) ?_;intro vs h1 z_2;obtain rfl:=z_2)
  exact ⟨v,vs,rfl,h1,fun _ _ q=>q⟩
 | loc i =>
  haveI h':(match (fr.ρ[i]?).join,B5 fr ks with
   | some v,some vs=>some (v :: vs)
   | _,_=>none)=some kv:=h
  cases h1:(fr.ρ[i]?).join with
  | none=>rw [h1] at h';exact nn h'
  | some v =>
   cases h2:B5 fr ks with
   | none=>rw [h1,h2] at h';exact nn h'
   | some vs =>
    rw [h1,h2] at h'
    refine ⟨v,vs,(Option.some.inj h').symm,rfl,fun σ Q q=>?_⟩
    show opt (fr.ρ[i]?).join _
    rw [h1]
    exact q
 | _=>exact nn h
theorem R9 (H:SE n) {pos:PySem.Pos}:∀ {kx:List (Option PySem.Expr)} {vx:List PySem.Expr} {ks es:List E} {kv:List V} {σ:Mine.H} {π:List Addr} {s:Shared} {Q:List V→Mine.H→Prop} {Qx:List (Value×Value)→Shared→Prop},
  F1 (trE n sc) kx=some ks→A9 (trE n sc) vx=some es→B5 fr ks=some kv→ks.length=es.length→wEs fr es σ Q→At wd sc env fr ob π σ X A s →
  (∀ vs σ' π' xs h' t',Q vs σ'→Le π π'→Inv wd π' σ' ((env.locals,ob) :: X) h'→Nf π' kv vs xs→0 < t'→Qx xs ⟨h',s.gens,s.drawn,t',s.os⟩) →
  wpAny (model wd.prog wd.w) A (evalPairs (pairTrees kx vx env pos)) Qx Er s
 | [],vx,ks,es,kv,σ,π,s,Q,Qx,hk,hv,hkv,hl,q,a,k=>by
  obtain rfl:=Option.some.inj hk
  induction es with
  | cons _ _=>cases hl
  | nil =>
   obtain rfl:=Option.some.inj hkv
   haveI:pairTrees [] vx env pos=[]:=by cases vx<;>rfl
   rw [this]
   exact wpAny_pure (k [] σ π [] s.heap s.toks q (Le.refl π) a.inv rfl a.tk)
 | k0 :: kx,[],ks,es,kv,σ,π,s,Q,Qx,hk,hv,hkv,hl,q,a,k=>by
  obtain rfl:=Option.some.inj hv
  refine An (f:=List.cons) (M:=fun ks=>ks.length=([]:List E).length→_) hk (fun k1 ks1 h1 h2 hl=>?_) hl
  cases hl
 | none :: kx,_ :: _,ks,es,kv,σ,π,s,Q,Qx,hk,hv,hkv,hl,q,a,k=>nn hk
 | some kx1 :: kx,vx1 :: vx,ks,es,kv,σ,π,s,Q,Qx,hk,hv,hkv,hl,q,a,k=>by
  refine An (M:=fun ks=>B5 fr ks=some kv→ks.length=es.length→_) hk (fun k1 ks1 h1 h2 hkv hl=>?_) hkv hl
  refine An (M:=fun es=>(k1 :: ks1).length=es.length→wEs fr es σ Q→_) hv (fun e1 es1 h3 h4 hl q=>?_) hl q
  (refine Ai (R8 hkv) ?_;intro v0 vs0 z_2 hkv' hq;obtain rfl:=z_2)
  show wpAny _ _ (do
   let kv ← eval kx1 env
   let vv ← holding [kv] (do let x ← eval vx1 env;standAt pos;pure x)
   return (kv,vv) :: (← holding [kv,vv] (evalPairs (pairTrees kx vx env pos)))) _ _ _
  refine wpAny_bind (H.ev (Q:=fun v σ'=>v=v0∧σ'=σ) h1 (hq _ _ ⟨rfl,rfl⟩) a fun v σ1 π1 x h' t' q1 l1 I1 hx ht1=>?_)
  (refine Ac q1 ?_;try clear q1;intro z_0 z_1;obtain rfl:=z_0;obtain rfl:=z_1)
  refine wpAny_bind (wpAny_holding (wpAny_bind (H.ev h3 q (a.next l1 I1 ht1) fun u σ2 π2 y h'' t'' q2 l2 I2 hy ht2=>wpAny_bind (wpAny_standAt (wpAny_pure ?_)))))
  refine wpAny_bind (wpAny_holding (R9 H h2 h4 hkv' (Nat.succ.inj hl) q2 (a.next (l1.trans l2) I2 ht2) fun vs σ3 π3 xs h3' t3 q3 l3 I3 hxs ht3=>wpAny_pure ?_))
  exact k _ σ3 π3 _ h3' t3 q3 ((l1.trans l2).trans l3) I3 ⟨x,y,xs,rfl,(hx.le l2).le l3,hy.le l3,hxs⟩ ht3
theorem Sa {k:Str} {v:V}:∀ es:List (Str×V),(Ct es k v).length≤es.length+1
 | []=>Nat.le_refl _
 | (x,u) :: es=>by
  rw [Rm]
  split
  ·exact Nat.le_succ _
  ·exact Nat.succ_le_succ (Sa es)
theorem Sb {d:Addr}:∀ {kv vs:List V} {xs:List (Value×Value)} {es es':List (Str×V)} {kvs:List (Str×Value)} {od:Obj} {s:Shared} {Q:PUnit→Shared→Prop},
  Et (kv.zip vs) es=some es'→Nf π kv vs xs→Inv wd π σ ((d,od) :: X) s.heap→s.heap.DictOf (strKind wd.prog wd.w) d kvs→Bq π es kvs→es.length+kv.length≤1000→0 < s.toks →
  (∀ kvs' od' h' t',h'.DictOf (strKind wd.prog wd.w) d kvs'→Bq π es' kvs'→Inv wd π σ ((d,od') :: X) h'→0 < t'→Q ⟨⟩ ⟨h',s.gens,s.drawn,t',s.os⟩) →
  wpAny (model wd.prog wd.w) A (storeAll d xs) Q Er s
 | [],[],xs,es,es',kvs,od,s,Q,h,hx,I,hD,hr,hl,ht,k=>by
  subst hx;obtain rfl:=Option.some.inj h
  exact wpAny_pure (k kvs od s.heap s.toks hD hr I ht)
 | [],_ :: _,xs,es,es',kvs,od,s,Q,h,hx,I,hD,hr,hl,ht,k=>hx.elim
 | _ :: _,[],xs,es,es',kvs,od,s,Q,h,hx,I,hD,hr,hl,ht,k=>hx.elim
 | kk :: kv,v :: vs,xs,es,es',kvs,od,s,Q,h,hx,I,hD,hr,hl,ht,k=>by
  (refine Hn hx ?_;try clear hx;intro x y xs z_3 h1 h2 h3;obtain rfl:=z_3)
  induction kk with
  | str z =>
   (refine Ad h1 ?_;try clear h1;intro t z_1;obtain rfl:=z_1)
   unfold storeAll
   rw [List.forIn_cons]
   haveI hl':es.length+1+kv.length≤1000:=by rw [Nat.add_assoc,Nat.add_comm 1];exact hl
   refine wpAny_bind (wpAny_bind (wpAny_dictSet_pairs (strKind_is wd.prog wd.w z t) hD (fun h' hD' hs=>?_) (by rw [hr.len,sizeLine_eq];exact o_1 ‹_› (by exact rfl))))
   rw [M1 (DictOf.nodup hD)] at hD'
   (refine Aa (DictOf.orel (π:=π) hD' (K6 h2 hr)) ?_;intro ob' e1 r1)
   exact wpAny_pure (Sb (kv:=kv) (vs:=vs) (es:=Ct es z v) (s:=⟨h',s.gens,s.drawn,s.toks+1,s.os⟩) h h3 (I.turnE (fun b o hb' e'=>hs.extBut b o hb' e') e1) hD' (K6 h2 hr) (Nat.le_trans (Nat.add_le_add_right (Sa es) _) hl') (Nat.succ_pos _) k)
  | _=>exact nn h
theorem Ng {f:PySem.Expr→Option E}:∀ {kx:List (Option PySem.Expr)} {ks:List E},F1 f kx=some ks→kx.all (·.isSome)=true∧kx.length=ks.length
 | [],ks,h=>by obtain rfl:=Option.some.inj h;exact ⟨rfl,rfl⟩
 | none :: _,_,h=>nn h
 | some x :: kx,ks,h=>An (M:=fun ks=>(some x :: kx).all (·.isSome)=true∧(some x :: kx).length=ks.length) h fun _ _ _ h2=>⟨(Ng h2).1,congrArg (·+1) (Ng h2).2⟩
theorem Sd {f:PySem.Expr→Option E}:∀ {kx:List PySem.Expr} {ks:List E},A9 f kx=some ks→kx.length=ks.length
 | [],ks,h=>by obtain rfl:=Option.some.inj h;rfl
 | x :: kx,ks,h=>An (M:=fun ks=>(x :: kx).length=ks.length) h fun _ _ _ h2=>congrArg (·+1) (Sd h2)
theorem Se:∀ {ks:List E} {kv:List V},B5 fr ks=some kv→kv.length=ks.length
 | [],_,h=>by obtain rfl:=Option.some.inj h;rfl
 | k :: ks,_,h=>by
  (refine Ai (R8 h) ?_;intro v0 vs0 z_2 hkv' _;obtain rfl:=z_2)
  exact congrArg (·+1) (Se hkv')
theorem Sf (I:Inv wd π σ X s.heap):Inv wd π σ ((s.heap.objs.size,{cls:=.type "dict",data:=.dict #[]}) :: X) (s.heap.push {cls:=.type "dict",data:=.dict #[]}) :=
 I.hold (fun _ _ e=>Heap.get?_push_of_some _ e) (Nat.le_refl _) (Heap.get?_push_size _ rfl)
theorem Inv.admit0 {h:Heap} {a:Addr} {o:O} {ob:Obj} (I:Inv wd π σ ((a,ob) :: X) h) (r:Bb wd (π++[a]) o ob):Inv wd (π++[a]) (σ++[o]) X h :=
 I.admit (Heap.SameBut.refl _ _) (I.ext _ (.head _)) r
theorem Inv.at_end {h:Heap} (I:Inv wd π σ X h) (a:Addr):(π++[a])[σ.length]?=some a:=by
 rw [← I.len,List.getElem?_append_right (Nat.le_refl _),Nat.sub_self];rfl
theorem Z8 (H:SE n) {kx:List (Option PySem.Expr)} {vx:List PySem.Expr} {ks es:List E} {pos:PySem.Pos} (hk:F1 (trE n sc) kx=some ks) (hv:A9 (trE n sc) vx=some es) (q:(wP fr (.dct ks es)).1 σ Q)
  (a:At wd sc env fr ob π σ X A s) (k:KW wd ((env.locals,ob) :: X) s Q Qx π):wpAny (model wd.prog wd.w) A (eval (.Dict kx vx pos) env) Qx Er s:=by
 refine Lg q fun hlen q=>opt_e q fun kv hkv q=>?_
 have fin:∀ (v:V) (σ1:Mine.H) (es':List (Str×V)) (π1:List Addr) (h':Heap) (t':Nat) (d:Addr) (od:Obj) (kvs:List (Str×Value)),Q (.ref σ1.length) (σ1++[.dict es'])→Le π π1→Inv wd π1 σ1 ((d,od) :: (env.locals,ob) :: X) h'→h'.DictOf (strKind wd.prog wd.w) d kvs→Bq π1 es' kvs→0 < t' →
   Qx (.ref d) ⟨h',s.gens,s.drawn,t',s.os⟩:=fun v σ1 es' π1 h' t' d od kvs q1 l1 I1 hD hr ht1=>by
  (refine Aa (DictOf.orel (π:=π1) hD hr) ?_;intro ob' e1 r1)
  have e2:h'.get? d=some od:=I1.ext _ (.head _)
  rw [e2] at e1
  obtain rfl:=Option.some.inj e1
  exact k _ _ (π1++[d]) (.ref d) h' t' q1 (l1.trans (Le.app _ _)) (I1.admit0 (r1.mono _)) ⟨d,I1.at_end d,rfl⟩ ht1
 (refine Ac (Ng hk) ?_;intro q1 q2)
 haveI q3:=Sd hv
 induction kx with
 | nil =>
  obtain rfl:=Option.some.inj hk
  induction es with
  | cons _ _=>exact absurd hlen.2 (nomatch ·)
  | nil=>induction vx with
   | cons _ _=>cases q3
   | nil =>
    obtain rfl:=Option.some.inj hkv
    haveI e0:dictDisplay ((evalEachOpt [] env).zip ((evalEach [] env).map fun v=>do let x ← v;standAt pos;pure x))=newDict:=by
     unfold dictDisplay
     rfl
    rw [arm_eval_Dict,e0]
    exact wpAny_bind (wpAny_standAt (wpAny_newObj_type (fin .none _ _ π _ s.toks _ _ [] q (Le.refl π) (Sf a.inv) (Heap.DictOf.new _) rfl a.tk)))
 | cons k0 kx =>
  haveI st1:At wd sc env fr ob π σ ((s.heap.objs.size,{cls:=.type "dict",data:=.dict #[]}) :: X) A {s with heap:=s.heap.push {cls:=.type "dict",data:=.dict #[]}} :=
   ⟨a.wk,a.ok,a.fo,a.ce,a.ao,a.tk,(Sf a.inv).swap,a.bb⟩
  refine wpAny_Dict_any q1 (by rw [q2,q3,hlen.2]) (by simp) (by rw [q2];exact hlen.1) ?_
  refine R9 H hk hv hkv hlen.2 q st1 fun vs σ1 π1 xs h' t' qq l1 I1 hxs ht1=>opt_e qq fun es' hput qq=>?_
  haveI hD:h'.DictOf (strKind wd.prog wd.w) s.heap.objs.size []:=by
   haveI e1:=I1.ext (s.heap.objs.size,{cls:=.type "dict",data:=.dict #[]}) (.tail _ (.head _))
   (refine Mp (Heap.DictOf.new (knd:=strKind wd.prog wd.w) s.heap) ?_;intro o es0 ep g1 g2)
   rw [Heap.get?_push_size _ rfl] at g1
   cases g1
   exact ⟨_,es0,ep,e1,g2⟩
  exact Sb (es:=[]) (kvs:=[]) (s:=⟨h',s.gens,s.drawn,t',s.os⟩) hput hxs I1.swap hD rfl (by rw [Se hkv];have:=hlen.1;simp;exact o_0 ‹_› (by exact rfl)) ht1 fun kvs' od' h'' t'' b1 b2 b3 b4=>fin .none σ1 es' π1 h'' t'' _ od' kvs' qq l1 b3 b1 b2 b4
end
open Mine.Y
section
variable {M:Model} {A:Around} {E:Value→Shared→Prop} {s:Shared} {env:Env}
theorem Sg {pos:PySem.Pos} {f:Value} {first:List Value} {args:List (Bool×Sem Value)} {Q:Value→Shared→Prop} (hplain:args.any (·.1)=false)
  (h:wpAny M A (evalArgs f true args []) (fun a s₁=>wpAny M A (keeperOf f) (fun _ s₂=>wpAny M A (call f (first++a.pos) a.kw) Q E s₂) E s₁) E s) :
  wpAny M A (callWith pos f first args []) Q E s:=by
 unfold callWith
 refine wpAny_bind (wpAny_holding (wpAny_mono h (fun a s₁ h₁=>wpAny_bind (wpAny_standAt ?_)) fun _ _ x=>x))
 rw [hplain]
 refine wpAny_bind (wpAny_mono h₁ (fun kp s₂ h₂=>?_) fun _ _ x=>x)
 have tail:∀ {t:Sem Value},wpAny M A t Q E s₂→wpAny M A (t >>= fun r=>holding [r] point >>= fun _=>pure r) Q E s₂ :=
  fun ht=>wpAny_bind (wpAny_mono ht (fun r s₃ hr=>wpAny_bind (wpAny_holding (wpAny_point (wpAny_pure hr)))) fun _ _ x=>x)
 have mk:∀ {m:Value},wpAny M A (callMarked m f (first++a.pos) a.kw >>= fun r=>holding [r] point >>= fun _=>pure r) Q E s₂:=tail (by unfold callMarked;exact Calls.wpAny_keep h₂)
 have two:∀ {x y:Sem Value},wpAny M A x Q E s₂→wpAny M A y Q E s₂→wpAny M A (if args.length+2*([]:List (Option Str×Sem Value)).length > 30 then x else y) Q E s₂:=by
  intro x y hx hy
  by_cases hc:args.length+2*([]:List (Option Str×Sem Value)).length > 30
  ·rw [if_pos hc];exact hx
  ·rw [if_neg hc];exact hy
 cases kp
 ·exact two (tail h₂) mk
 ·exact two (tail h₂) mk
 ·exact tail h₂
 ·exact tail (wpAny_operating h₂)
theorem Sh {f:Value} {Q:Args→Shared→Prop}:∀ {args:List (Bool×Sem Value)},args.any (·.1)=false→wpAny M A (spliced args) (fun vs s'=>Q ⟨vs,[]⟩ s') E s→wpAny M A (evalArgs f true args []) Q E s
 | []=>@fun _ h=>fun Γ p hΓ=>PyProof.Rows.evalArgs_none (Q:=Q) (h Γ p hΓ) Γ p hΓ
 | (true,x) :: r=>@fun hp _=>by simp at hp
 | (false,x) :: r=>@fun _ h=>Calls.evalArgs_plain h
end
section
variable {wd:Wd} {π π':List Addr} {σ σ':H} {X:List (Addr×Obj)} {A:Around} {Er:Value→Shared→Prop} {s:Shared} {sc:Sc} {env:Env} {fr:Fr} {ob:Obj} {e:E} {n:Nat}
variable {Q:V→H→Prop} {Qx:Value→Shared→Prop}
theorem Lh (H:SE n) {pos:PySem.Pos} {f:Value} {first:List Value} {as:List PySem.Expr} {es:List E} {Qs:List V→Mine.H→Prop} (h2:A9 (trE n sc) as=some es) (q:wEs fr es σ Qs) (a:At wd sc env fr ob π σ X A s)
  (k:∀ vs σ' π' xs h' t',Qs vs σ'→Le π π'→Inv wd π' σ' ((env.locals,ob) :: X) h'→VRels π' vs xs→0 < t' →
   wpAny (model wd.prog wd.w) A (keeperOf f) (fun _ s₂=>wpAny (model wd.prog wd.w) A (call f (first++xs) []) Qx Er s₂) Er ⟨h',s.gens,s.drawn,t',s.os⟩) :
  wpAny (model wd.prog wd.w) A (callWith pos f first (backTo pos (starEach as env)) []) Qx Er s :=
 Sg (Lb h2) (Sh (Lb h2) (La H h2 q a k))
theorem Si {M:Model} {fx:Addr} {xs:List Value} (h:codeAny M A (.call (.ref fx) ⟨xs,[]⟩) (RetR Qx) s):wpAny M A (call (.ref fx) xs []) Qx Er s :=
 wpAny_call (codeAny_mono h fun rr s' hr=>by
  induction rr with
  | error e=>exact hr.elim
  | ok f=>induction f with
   | ret x=>exact hr
   | _=>exact hr.elim)
theorem Sj {d:Nat} {v:V} {vs:List V} {fx:Value} {xs:List Value} (q:wC d v vs σ Q) (wk:wd.Ok) (hv:Ah π v fx) (hx:VRels π vs xs) (hA:AOk d A) (ht:0 < s.toks) (hB:BOk π) (I:Inv wd π σ X s.heap) (k:KW wd X s Q Qx π) :
  wpAny (model wd.prog wd.w) A (keeperOf fx) (fun _ s₂=>wpAny (model wd.prog wd.w) A (call fx xs []) Qx Er s₂) Er s:=by
 induction v with
 | con c =>
  subst hv
  induction fx with
  | ref i =>
   (refine Aa (Ca.ev q) ?_;intro _ e hh)
   cases e
   (refine Ac (hh wd π X A s xs wk hx hA hB I) ?_;intro h1 h2)
   exact h1 _ _ fun _=>Si (h2 Qx ht k)
  | builtin id=>exact opt_e q fun p hp q=>wpAny_pure (tok_up ht (Q9 hA I hx hp (KW.kv k q)))
  | type id=>exact opt_e q fun p hp q=>wpAny_pure (tok_up ht (Q9 hA I hx hp (KW.kv k q)))
  | _=>exact q.elim
 | _=>exact q.elim
theorem Z9 {f o:PySem.Expr} {a:Str} {p:PySem.Pos} (h:atK f=some (o,a,p)):f=.Attribute o a p:=by
 cases f with
 | Attribute o' a' p'=>cases h;rfl
 | _=>exact nn h
theorem Sk {f:PySem.Expr} {as:List PySem.Expr} {pos:PySem.Pos} (hf:atK f=none):eval (.Call f as [] pos) env=(do callWith pos (← eval f env) [] (backTo pos (starEach as env)) (backToKw pos (keywordEach [] env))):=by
 cases f with
 | Attribute o' a' p'=>exact nn hf.symm
 | _=>rfl
theorem ab {args:List (Bool×Sem Value)} (h:args.any (·.1)=false):args.all (fun x=>!x.1)=true:=by
 rw [List.all_eq_not_any_not,Bool.not_eq_true']
 simpa using h
theorem Sl {o:PySem.Expr} {name:Str} {apos pos:PySem.Pos} {as:List PySem.Expr} (hbare:G0 o=false):eval (.Call (.Attribute o name apos) as [] pos) env=(do
  let ov ← eval o env
  standAt apos.atName
  methodCall o name apos pos env ov (as.length+0) (backTo pos (starEach as env)) (backToKw pos (keywordEach [] env))):=by
 rw [arm_eval_Call,Ry hbare]
 rfl
theorem ac (H:SE n) {f:PySem.Expr} {as:List PySem.Expr} {pos:PySem.Pos} {ef:E} {es:List E} (hf:atK f=none) (h1:trE n sc f=some ef) (h2:A9 (trE n sc) as=some es) (q:(wP fr (.call ef es)).1 σ Q)
  (a:At wd sc env fr ob π σ X A s) (k:KW wd ((env.locals,ob) :: X) s Q Qx π):wpAny (model wd.prog wd.w) A (eval (.Call f as [] pos) env) Qx Er s:=by
 rw [Sk hf]
 refine wpAny_bind (H.ev h1 q a fun v σ1 π1 x h' t' q1 l1 I1 hx1 ht1=>?_)
 exact Lh H h2 q1 (a.next l1 I1 ht1) fun vs σ2 π2 xs h'' t'' q2 l2 I2 hxs ht2=>Sj q2 a.wk (hx1.le l2) hxs a.ao ht2 (a.bb.le (l1.trans l2)) I2 (KW.le k (l1.trans l2))
theorem ae {v:V} {kk:Nat} {f:Addr} (h:Am σ v kk=.own f):∃ C d es,Cx σ v=some (C,d,es)∧(es.lookup kk).isSome=false∧tb.mt C kk=some f:=by
 unfold Am at h
 cases h1:Cx σ v with
 | none =>
  rw [h1] at h
  cases h2:Hi kk with
  | none=>rw [h2] at h;cases h
  | some m =>
   rw [h2] at h
   dsimp only at h
   cases h3:Hh σ v m<;>(rw [h3] at h;cases h)
 | some t =>
  rcases t with ⟨C,d,es⟩
  rw [h1] at h
  dsimp only at h
  cases h2:(es.lookup kk).isSome with
  | true=>rw [h2] at h;cases h
  | false =>
   rw [h2,if_neg Bool.false_ne_true] at h
   cases h3:tb.mt C kk with
   | none=>rw [h3] at h;cases h
   | some g=>rw [h3] at h;cases h;exact ⟨C,d,es,rfl,h2,h3⟩
theorem af {v:V} {kk:Nat} {m:BM} (h:Am σ v kk=.blt m):Hi kk=some m∧Hh σ v m=true:=by
 unfold Am at h
 cases h1:Cx σ v with
 | none =>
  rw [h1] at h
  cases h2:Hi kk with
  | none=>rw [h2] at h;cases h
  | some m' =>
   rw [h2] at h
   dsimp only at h
   cases h3:Hh σ v m' with
   | false=>rw [h3] at h;cases h
   | true=>rw [h3] at h;cases h;exact ⟨rfl,h3⟩
 | some t =>
  rcases t with ⟨C,d,es⟩
  rw [h1] at h
  dsimp only at h
  cases h2:(es.lookup kk).isSome with
  | true=>rw [h2] at h;cases h
  | false =>
   rw [h2,if_neg Bool.false_ne_true] at h
   cases h3:tb.mt C kk<;>(rw [h3] at h;cases h)
theorem ag (H:SE n) {o:PySem.Expr} {name:Str} {as:List PySem.Expr} {kk:Nat} {apos pos:PySem.Pos} {eo:E} {es:List E} (hbare:G0 o=false) (hline:(apos.endLine==pos.line)=true) (hfew:as.length < 20)
  (h1:trE n sc o=some eo) (ha:an name=some kk) (h2:A9 (trE n sc) as=some es) (q:(wP fr (.meth eo kk es)).1 σ Q) (a:At wd sc env fr ob π σ X A s) (k:KW wd ((env.locals,ob) :: X) s Q Qx π) :
  wpAny (model wd.prog wd.w) A (eval (.Call (.Attribute o name apos) as [] pos) env) Qx Er s:=by
 haveI hp:=Lb (pos:=pos) (env:=env) h2
 haveI hform:methodCallForm (as.length+0) (backTo pos (starEach as env)) (backToKw pos (keywordEach [] env))=true:=by
  unfold methodCallForm
  rw [ab hp]
  show (true&&true&&decide (as.length+0+0 < 30))=true
  rw [decide_eq_true (p:=as.length+0+0 < 30) (Nat.lt_trans hfew (by decide))]
  rfl
 have hpos:methodCallPos true o env apos pos=pure pos:=by unfold methodCallPos;rw [hline];rfl
 rw [Sl hbare]
 refine wpAny_bind (H.ev h1 q a fun v σ1 π1 x h' t' q1 l1 I1 hx1 ht1=>wpAny_bind (wpAny_standAt ?_))
 unfold methodCall
 rw [hform]
 show wpAny _ _ (holding [x] (getMethod x name _) >>= _) _ _ _
 refine wpAny_bind (wpAny_holding ?_)
 rw [← M6 _ _ ha]
 cases hm:Am σ1 v kk with
 | no=>rw [hm] at q1;exact q1.elim
 | own f =>
  rw [hm] at q1
  (refine Gq (ae hm) ?_;intro C d es0 hi hno hmt)
  (refine As (a.wk.mt _ _ _ hmt) ?_;intro m1 m2 m3)
  refine Zg a.wk.KI m3 m1 m2 I1 hx1 hi hno ?_
  dsimp only
  rw [hpos]
  refine wpAny_bind (wpAny_pure ?_)
  exact Lh H h2 q1 (a.next l1 I1 ht1) fun vs σ2 π2 xs h'' t'' q2 l2 I2 hxs ht2=>Sj (v:=.con (.ref f)) q2 a.wk rfl (VRels.cons (hx1.le l2) hxs) a.ao ht2 (a.bb.le (l1.trans l2)) I2 (KW.le k (l1.trans l2))
 | blt bm =>
  rw [hm] at q1
  (refine Ac (af hm) ?_;intro hbm hrec)
  rw [Zu _ _ hbm]
  refine Yz I1 hx1 hrec ?_
  dsimp only
  rw [hpos]
  refine wpAny_bind (wpAny_pure ?_)
  exact Lh H h2 q1 (a.next l1 I1 ht1) fun vs σ2 π2 xs h'' t'' q2 l2 I2 hxs ht2=>wpAny_pure (opt_e q2 fun p hpp q2=>tok_up ht2 (methB_sound I2 (hx1.le l2) hxs hpp (KW.kv (KW.le k (l1.trans l2)) q2)))
theorem ah (H:SE n) {o:PySem.Expr} {k1 k2:Nat} {apos pos p1 p2:PySem.Pos} {eo:E} {x1 x2:Str} (hbare:G0 o=false) (hline:(apos.endLine==pos.line)=true)
  (h1:trE n sc o=some eo) (q:(wP fr (.repl eo x1 x2)).1 σ Q) (a:At wd sc env fr ob π σ X A s) (k:KW wd ((env.locals,ob) :: X) s Q Qx π) :
  wpAny (model wd.prog wd.w) A (eval (.Call (.Attribute o ("replace":Str) apos) [.Constant (.str x1) k1 p1,.Constant (.str x2) k2 p2] [] pos) env) Qx Er s:=by
 haveI hpos:methodCallPos true o env apos pos=pure pos:=by unfold methodCallPos;rw [hline];rfl
 rw [Sl hbare]
 refine wpAny_bind (H.ev h1 q a fun v σ1 π1 x h' t' q1 l1 I1 hx1 ht1=>wpAny_bind (wpAny_standAt ?_))
 induction v with
 | str z =>
  refine Lg q1 fun hz q1=>?_
  (refine Ad hx1 ?_;try clear hx1;intro t z_1;obtain rfl:=z_1)
  unfold methodCall
  show wpAny _ _ (holding [Value.str z t] (getMethod (Value.str z t) ("replace":Str) _) >>= _) _ _ _
  refine wpAny_bind (wpAny_holding (GM.replace ?_))
  dsimp only
  rw [show methodCallForm ([Expr.Constant (Const.str x1) k1 p1,Expr.Constant (Const.str x2) k2 p2].length+0) (backTo pos (starEach [Expr.Constant (Const.str x1) k1 p1,Expr.Constant (Const.str x2) k2 p2] env)) (backToKw pos (keywordEach [] env))=true from rfl,hpos]
  refine wpAny_bind (wpAny_pure ?_)
  refine Sg rfl (Sh rfl ?_)
  refine args_cons (Constant_str ?_) rfl
  refine args_cons (Constant_str ?_) rfl
  refine args_nil ?_
  refine wpAny_pure ?_
  (refine As hz ?_;try clear hz;intro z1 z2 z3)
  exact tok_up (Nat.succ_pos _) (SC.replaceW (Nat.ne_of_gt ht1) (Nat.succ_ne_zero _) (Nat.ne_of_lt (Nat.lt_succ_self _)) z3 (Nat.le_trans z1 (by decide)) z2 fun t3 k3 ht3=>k _ σ1 π1 _ h' k3 q1 l1 I1 ⟨_,rfl⟩ ht3)
 | _=>exact q1.elim
theorem Li {e:PySem.Expr} {x:Str} (h:G1 e=some x):∃ k p,e=.Constant (.str x) k p:=by
 cases e with
 | Constant c k p=>induction c with
  | str y=>obtain rfl:=Option.some.inj h;exact ⟨_,_,rfl⟩
  | _=>exact nn h
 | _=>exact nn h
theorem ai {as:List PySem.Expr} {p:Str×Str} (h:Rt as=some p):∃ k1 p1 k2 p2,as=[.Constant (.str p.1) k1 p1,.Constant (.str p.2) k2 p2]:=by
 match as,h with
 | [a,b],h =>
  refine An (f:=Prod.mk) (M:=fun p=>∃ k1 p1 k2 p2,[a,b]=[.Constant (.str p.1) k1 p1,.Constant (.str p.2) k2 p2]) h fun x y hx hy=>?_
  (refine A3 (Li hx) ?_;intro k1 p1 z_2;obtain rfl:=z_2)
  (refine A3 (Li hy) ?_;intro k2 p2 z_2;obtain rfl:=z_2)
  exact ⟨_,_,_,_,rfl⟩
theorem ak (H:SE n) {f:PySem.Expr} {as:List PySem.Expr} {kws:List Keyword} {pos:PySem.Pos} (h:trE (n+1) sc (.Call f as kws pos)=some e) (q:(wP fr e).1 σ Q) (a:At wd sc env fr ob π σ X A s) (k:KW wd ((env.locals,ob) :: X) s Q Qx π) :
  wpAny (model wd.prog wd.w) A (eval (.Call f as kws pos) env) Qx Er s:=by
 have hk:=Cp h
 haveI h1:=Br h
 induction kws with
 | cons _ _=>exact nf hk
 | nil =>
  cases hf:atK f with
  | none =>
   rw [hf] at h1
   exact An (M:=fun e=>(wP fr e).1 σ Q→_) h1 (fun e1 es1 h1 h2 q=>ac H hf h1 h2 q a k) q
  | some t =>
   rcases t with ⟨o,name,apos⟩
   rw [hf] at h1
   cases Z9 hf
   haveI hb:=Cp h1
   haveI h2:=Br h1
   rw [Bool.and_eq_true,Bool.and_eq_true] at hb
   (refine As hb ?_;try clear hb;intro hb1 hb2 hb3)
   cases hr:(name==("replace":Str)) with
   | true =>
    rw [hr] at h2
    cases eq_of_beq hr
    refine An (M:=fun e=>(wP fr e).1 σ Q→_) h2 (fun e1 p g1 g2 q=>?_) q
    (refine Qo (ai g2) ?_;intro k1 p1 k2 p2 z_4;obtain rfl:=z_4)
    exact ah H (H7 hb1) hb2 g1 q a k
   | false =>
    rw [hr] at h2
    exact F0 (M:=fun e=>(wP fr e).1 σ Q→_) h2 (fun e1 kk es1 h1 h2 h3 q=>ag H (H7 hb1) hb2 (Nat.le_of_ble_eq_true hb3) h1 h2 h3 q a k) q
end
open Mine.Y
section
variable {wd:Wd} {π π':List Addr} {σ σ':H} {X:List (Addr×Obj)} {A:Around} {Er:Value→Shared→Prop} {s:Shared} {sc:Sc} {env:Env} {fr:Fr} {ob:Obj} {e:E} {n:Nat} {v:V}
variable {Qt:List (Option V)→H→Prop} {Qu:Unit→Shared→Prop}
theorem FOb.set {loc:List Str} {ρ:List (Option V)} {m:Str→Option Value} (hf:∀ (i:Nat) (n:Str) (v:V),loc[i]?=some n→ρ[i]?=some (some v)→∃ x,m n=some x∧Ah π v x) (nd:loc.Nodup) {i:Nat} {x:Str}
  {xv:Value} (hi:loc[i]?=some x) (hv:Ah π v xv) {ob':Obj} (hn:NsO ob' (fun y=>if y=x then some xv else m y)):FOb π loc (ρ.set i (some v)) ob':=by
 refine ⟨_,hn,fun j n u hj hu=>?_⟩
 by_cases q:j=i
 ·subst q
  rw [hi] at hj;obtain rfl:=Option.some.inj hj
  rw [List.getElem?_set] at hu
  split at hu
  ·split at hu
   ·cases hu;exact ⟨xv,by simp,hv⟩
   ·exact nn hu
  ·exact absurd rfl ‹_›
 ·rw [List.getElem?_set_ne (Ne.symm q)] at hu
  (refine Aa (hf j n u hj hu) ?_;intro y e1 e2)
  have hne:n≠x:=fun z=>q (Hu nd hj (z▸hi))
  exact ⟨y,by simp [hne,e1],e2⟩
theorem storeL {x:Str} {i:Nat} {xv:Value} (a:At wd sc env fr ob π σ X A s) (hl:sc.ko.lookup x=some .local) (hi:place? x sc.loc=some i) (hv:Ah π v xv)
  (q:Qt (fr.ρ.set i (some v)) σ) (k:KWt wd env X s Qt Qu π sc.loc):wpAny (model wd.prog wd.w) A (bindName env x xv) Qu Er s:=by
 (refine Aa a.fo ?_;intro mm hn hf)
 refine wpAny_bindName (wpAny_storeName_local ((a.ok.ko x).trans hl) (hn.ns (a.inv.ext _ (.head _))) (fun h' hn' hs=>?_) a.ok.notcls)
 (refine Aa (M2 hn') ?_;intro ob' e1 e2)
 exact k _ σ π h' (s.toks+1) ob' q (Le.refl π) (a.inv.turnE (fun b o hb' e=>hs.extBut b o hb' e) e1) (FOb.set hf a.ok.nodup (Cl hi) hv e2) (Nat.succ_pos _)
theorem G4 {e:PySem.Expr} {x:Str×PySem.Pos} (h:nmK e=some x):e=.Name x.1 x.2:=by
 cases e with
 | Name y p=>obtain rfl:=Option.some.inj h;rfl
 | _=>exact nn h
theorem Nh {ex:PySem.Expr} {i:Nat} (h:((nmK ex).bind fun x=>gd (sc.ko.lookup x.1==some .local) (place? x.1 sc.loc))=some i):∃ x p,ex=.Name x p∧sc.ko.lookup x=some .local∧place? x sc.loc=some i:=by
 cases hx:nmK ex with
 | none=>rw [hx] at h;exact nn h
 | some x =>
  rw [hx] at h
  exact ⟨x.1,x.2,G4 hx,eq_of_beq (Cp h),Br h⟩
theorem Sm:∀ {is:List Nat} {vs:List V} {ρ ρ1:List (Option V)},Cj is vs ρ=some ρ1→vs.length=is.length
 | [],[],_,_,_=>rfl
 | [],_ :: _,_,_,h=>nn h
 | _ :: _,[],_,_,h=>nn h
 | i :: is,v :: vs,ρ,_,h=>congrArg (·+1) (Sm (is:=is) (ρ:=ρ.set i (some v)) h)
theorem Sn:∀ {es:List PySem.Expr} {is:List Nat} {vs:List V} {xs:List Value} {fr:Fr} {ob:Obj} {π:List Addr} {s:Shared} {ρ1:List (Option V)},At wd sc env fr ob π σ X A s→Dq sc.loc sc.ko es=some is→VRels π vs xs→Cj is vs fr.ρ=some ρ1 →
  Qt ρ1 σ→KWt wd env X s Qt Qu π sc.loc→wpAny (model wd.prog wd.w) A (assignInOrder ((assignEach es env).map (·.2)) xs) Qu Er s
 | [],is,[],xs,fr,ob,π,s,ρ1,a,hn,hx,hl,q,k=>by
  obtain rfl:=Option.some.inj hn
  obtain rfl:=Option.some.inj hl
  subst hx
  exact wpAny_pure (k _ σ π s.heap s.toks ob q (Le.refl π) a.inv a.fo a.tk)
 | [],is,_ :: _,xs,fr,ob,π,s,ρ1,a,hn,hx,hl,q,k=>by obtain rfl:=Option.some.inj hn;exact nn hl
 | ex :: es,is,vs,xs,fr,ob,π,s,ρ1,a,hn,hx,hl,q,k=>by
  refine An (M:=fun (is:List Nat)=>Cj is vs fr.ρ=some ρ1→_) hn (fun i is h1 h2 hl=>?_) hl
  (refine Ai (Nh h1) ?_;intro x p z_2 hloc hi;obtain rfl:=z_2)
  cases vs with
  | nil=>exact nn hl
  | cons v vs =>
   (refine Ai hx ?_;try clear hx;intro y ys z_2 hy hys;obtain rfl:=z_2)
   show wpAny _ _ (do holding ys ((do standAt p;bindName env x y));assignInOrder ((assignEach es env).map (·.2)) ys) _ _ _
   refine wpAny_bind (wpAny_holding (wpAny_bind (wpAny_standAt (storeL (Qt:=fun ρ σ'=>fr.ρ.set i (some v)=ρ∧σ=σ') a hloc hi hy ⟨rfl,rfl⟩ fun ρ' σ' π' h' t' ob' q1 l I fo ht=>?_))))
   (refine Ac q1 ?_;try clear q1;intro z_0 z_1;obtain rfl:=z_0;obtain rfl:=z_1)
   exact Sn (a.step l I fo ht) h2 (hys.le l) hl q (k.le l)
theorem So (env:Env):∀ {es:List PySem.Expr} {is:List Nat},Dq sc.loc sc.ko es=some is→(assignEach es env).length=is.length∧(assignEach es env).findIdx? (·.1)=none
 | [],is,h=>by obtain rfl:=Option.some.inj h;exact ⟨rfl,rfl⟩
 | ex :: es,is,h=>by
  refine An (f:=List.cons) (M:=fun is=>(assignEach (ex :: es) env).length=is.length∧(assignEach (ex :: es) env).findIdx? (·.1)=none) h fun i is h1 h2=>?_
  (refine Ai (Nh h1) ?_;intro x p z_2 hloc hi;obtain rfl:=z_2)
  (refine Ac (So env h2) ?_;intro q1 q2)
  haveI e:assignEach (.Name x p :: es) env=(false,assign (.Name x p) env) :: assignEach es env:=rfl
  rw [e]
  refine ⟨congrArg (·+1) q1,?_⟩
  rw [List.findIdx?_cons,q2];rfl
theorem asg_sound (H:SE n) {tx:PySem.Expr} {t:T} {xv:Value} (ht:trT n sc tx=some t) (a:At wd sc env fr ob π σ X A s) (hv:Ah π v xv)
  (q:wT fr t v σ Qt) (k:KWt wd env X s Qt Qu π sc.loc):wpAny (model wd.prog wd.w) A (assign tx env xv) Qu Er s:=by
 cases tx with
 | Name x p =>
  rw [arm_assign_Name]
  refine wpAny_bind (wpAny_standAt ?_)
  haveI ht':(match sc.ko.lookup x with
   | some .local=>(place? x sc.loc).map .nm
   | some .cell=>(place? x sc.cel).map .cl
   | _=>none)=some t:=ht
  cases hl:sc.ko.lookup x with
  | none=>rw [hl] at ht';exact nn ht'
  | some kd =>
   rw [hl] at ht'
   induction kd with
   | «local»=>exact o1_e (M:=fun t=>wT fr t v σ Qt→_) ht' (fun i hi q=>storeL a hl hi hv q k) q
   | cell =>
    refine o1_e (M:=fun t=>wT fr t v σ Qt→_) ht' (fun i hi q=>opt_e q fun kk hk q=>opt_e q fun _ ho q=>Lg q fun hfz q=>?_) q
    (refine Ad (M9 ho) ?_;intro cv ho)
    (refine Aa (a.ce i x kk (Cl hi) hk) ?_;intro c e1 e2)
    rcases a.inv.at e2 ho with ⟨obc,e3,xo,e5,e6⟩
    refine wpAny_bindName (wpAny_storeName_cell a.ok.kind ((a.ok.ko x).trans hl) e1 ⟨obc,e3,e5⟩ fun h' hc hs=>?_)
    (refine Aa hc ?_;try clear hc;intro ob2 g1 g2)
    exact k _ _ π h' s.toks ob q (Le.refl π) (a.inv.turn e2 hfz hs g1 ⟨some xv,g2,hv⟩) a.fo a.tk
   | _=>exact nn ht'
 | Tuple es kk p =>
  refine o1_e (M:=fun t=>wT fr t v σ Qt→_) ht (fun is h1 q=>?_) q
  induction v with
  | ref i =>
   refine opt_e q fun vs ho q=>opt_e q fun ρ1 hz q=>?_
   (refine Aa hv ?_;try clear hv;intro l hl z_2;obtain rfl:=z_2)
   (refine Ai (Ex a.inv hl (Na ho)) ?_;intro xs c hL rr _)
   (refine Ac (So env h1) ?_;intro q1 q2)
   haveI l1:=rr.len
   rw [Array.length_toList] at l1
   refine assign_Tuple_tuple a.ao.handled ⟨_,hL,rfl,_,rfl⟩ (by rw [q1,l1,Sm hz]) q2 fun h' he=>?_
   exact Sn (a.next (Le.refl π) (a.inv.keep (h':=h') fun b o e=>he b o (Nat.ne_of_lt (Heap.lt_size e)) e) a.tk) h1 rr hz q (k.le (Le.refl π))
  | _=>exact q.elim
 | Attribute o at' p =>
  refine An (M:=fun t=>wT fr t v σ Qt→_) ht (fun e' kk h1 h2 q=>?_) q
  rw [arm_assign_Attribute]
  refine wpAny_bind (wpAny_holding (H.ev h1 q a fun ov σ1 π1 x h' t' q1 l1 I1 hx1 ht1=>wpAny_bind (wpAny_standAt (wpAny_bind (wpAny_holding (opt_e q1 fun σ2 hs q1=>?_))))))
  rw [← M6 _ _ h2]
  refine tok_up ht1 (Zk a.wk.KI a.wk.da I1 hx1 (hv.le l1) hs fun ρ2 h'' t'' I2 ht2=>Lc ?_)
  haveI l2:=l1.trans (Le.app _ ρ2)
  exact k _ σ2 (π1++ρ2) h'' t'' ob q1 l2 I2 (a.fo.le l2) ht2
 | Subscript o i p =>
  haveI ht':(match slK i with
   | .plain=>o2 .ix (trE n sc o) (trE n sc i)
   | _=>none)=some t:=ht
  cases hi:slK i with
  | plain =>
   rw [hi] at ht'
   refine An (M:=fun t=>wT fr t v σ Qt→_) ht' (fun e1 e2 h1 h2 q=>?_) q
   rw [arm_assign_Subscript]
   refine wpAny_bind (wpAny_holding (H.ev h1 q a fun ov σ1 π1 x h' t' q1 l1 I1 hx1 ht1=>wpAny_bind (wpAny_holding (H.ev h2 q1 (a.next l1 I1 ht1) fun iv σ2 π2 y h'' t'' q2 l2 I2 hx2 ht2=>wpAny_bind (wpAny_standAt (wpAny_bind (wpAny_holding (opt_e q2 fun σ3 hs q2=>?_))))))))
   haveI l12:=l1.trans l2
   refine tok_up ht2 (Zn I2 (hx1.le l2) hx2 (hv.le l12) hs fun ρ2 h3 t3 I3 ht3=>Lc ?_)
   haveI l3:=l12.trans (Le.app _ ρ2)
   exact k _ σ3 (π2++ρ2) h3 t3 ob q2 l3 I3 (a.fo.le l3) ht3
  | _=>rw [hi] at ht';exact nn ht'
 | _=>exact nn ht
end
open Mine.Y
section
variable {wd:Wd} {π π':List Addr} {σ σ':H} {X:List (Addr×Obj)} {A:Around} {Er:Value→Shared→Prop} {s:Shared} {sc:Sc} {env:Env} {fr:Fr} {ob:Obj} {e:E} {n:Nat} {v:V}
variable {Q:V→H→Prop} {Qx:Value→Shared→Prop}
theorem al {it:It} {ia:Addr} {ob:Obj} {Q:Value→Shared→Prop} (hI:ItO π it ob) (hn:∀ z k,it≠.st z k) (e:s.heap.get? ia=some ob) (k:Q (.ref ia) s):wpAny (model wd.prog wd.w) A (pyIter (.ref ia)) Q Er s:=by
 induction it with
 | li i j=>(refine Au hI ?_;try clear hI;intro l hl hc hd);exact wpAny_pyIter_listiter (l:=l) (i:=j) ⟨ob,e,hc,hd⟩ k
 | tu i j=>(refine Au hI ?_;try clear hI;intro l hl hc hd);exact wpAny_pyIter_tupleiter (t:=l) (i:=j) ⟨ob,e,hc,hd⟩ k
 | rg x n=>subst hI;exact wpAny_pyIter_rangeiter e k
 | st z j=>exact absurd rfl (hn z j)
noncomputable def Sp:List String:=["enumerate","zip","dict_itemiterator","dict_reverseitemiterator","odict_iterator","itertools.zip_longest","itertools.pairwise"]
theorem owned_sound {it:It} {ia:Addr} {ob:Obj} {tx:PySem.Expr} {x:Value} {Q:Unit→Shared→Prop} (hI:ItO π it ob) (e:s.heap.get? ia=some ob) (k:Q () s):wpAny (model wd.prog wd.w) A (letOwnedTupleGo tx (.ref ia) x) Q Er s:=by
 haveI cls:∃ n,ob.cls=.type n∧Sp.contains n=false:=by
  induction it with
  | li i j=>(refine Au hI ?_;try clear hI;intro l hl hc hd);exact ⟨_,hc,by decide⟩
  | tu i j=>(refine Au hI ?_;try clear hI;intro l hl hc hd);exact ⟨_,hc,by decide⟩
  | rg x n=>subst hI;exact ⟨_,rfl,by decide⟩
  | st z j =>
   (refine Aa hI ?_;try clear hI;intro t hc hd)
   refine ⟨_,hc,?_⟩
   unfold strIterType
   split<;>decide
 (refine Aa cls ?_;try clear cls;intro n hc hn)
 have go:∀ a:Addr,wpAny (model wd.prog wd.w) A (do
   let o ← load ia
   match o.cls,o.data with
   | .type n,.fields vs =>
    if (Sp.contains n&&vs[0]?==some (rawInt a))=true then do
     rule "for.unpacks-the-owned-tuple"
     updateField ia 0 .none
    else pure ()
   | _,_=>pure ()) Q Er s:=fun a=>by
  refine wpAny_bind (wpAny_load e ?_)
  rw [hc]
  cases hd:ob.data with
  | fields vs =>
   dsimp only
   rw [hn,Bool.false_and,if_neg Bool.false_ne_true]
   exact wpAny_pure k
  | _=>exact wpAny_pure k
 have tup:∀ es kk p,wpAny (model wd.prog wd.w) A (letOwnedTupleGo (.Tuple es kk p) (.ref ia) x) Q Er s:=fun es kk p=>by
  induction x with
  | ref a=>exact go a
  | _=>exact wpAny_pure k
 cases tx with
 | Tuple es kk p=>exact tup es kk p
 | List es p=>exact tup es 0 p
 | _=>exact wpAny_pure k
noncomputable def Dt (env:Env) (n:Str):Addr:=(env.cells.lookup n).getD 0
theorem Ni (env:Env):∀ (names:List (Str×NameKind)) (acc:List (Str×Addr)),(∀ p∈names,p.2=.free→(env.cells.lookup p.1).isSome=true) →
  (forIn names acc fun (x:Str×NameKind) (cs:List (Str×Addr))=>(do
   if (x.2==.free)=true then do
    let c ← cellOf env x.1
    pure (ForInStep.yield ((x.1,c) :: cs))
   else pure (ForInStep.yield cs):Sem (ForInStep (List (Str×Addr)))))=pure (((names.filter fun p=>p.2=.free).map fun p=>(p.1,Dt env p.1)).reverse++acc)
 | [],acc,_=>by simp
 | (n,kd) :: r,acc,h=>by
  rw [List.forIn_cons]
  by_cases q:kd=.free
  ·subst q
   (refine Ad (Option.isSome_iff_exists.mp (h (n,.free) (.head _) rfl)) ?_;intro c hc)
   haveI e1:cellOf env n=pure c:=by unfold cellOf;rw [hc]
   haveI e2:Dt env n=c:=by unfold Dt;rw [hc];rfl
   simp only [beq_self_eq_true,if_true,e1,pure_bind]
   rw [Ni env r ((n,c) :: acc) fun p hp=>h p (.tail _ hp)]
   simp [e2]
  ·have q':(kd==NameKind.free)=false:=by simpa using q
   simp only [q',Bool.false_eq_true,if_false,pure_bind]
   rw [Ni env r acc fun p hp=>h p (.tail _ hp)]
   simp [q]
theorem am {scope:Scope} {env:Env} (h:∀ p∈scope.names,p.2=.free→(env.cells.lookup p.1).isSome=true) :
  closureFor scope env=pure ((scope.names.filter fun p=>p.2=.free).map fun p=>(p.1,Dt env p.1)).reverse:=by
 haveI:=Ni env scope.names [] h
 rw [List.append_nil] at this
 rw [← this]
 unfold closureFor
 simp only [bind_pure]
theorem Sq {env:Env} {n:Str}:∀ {l:List (Str×Addr)},(∀ p∈l,p.2=Dt env p.1)→(∃ p∈l,p.1=n)→l.lookup n=some (Dt env n)
 | [],_,h=>by (refine Aa h ?_;try clear h;intro p hp _);cases hp
 | (k,a) :: r,h1,h2=>by
  by_cases q:n=k
  ·subst q
   rw [List.lookup_cons,beq_self_eq_true]
   exact congrArg some (h1 (n,a) (.head _))
  ·rw [List.lookup_cons,show (n==k)=false by simpa using q]
   refine Sq (fun p hp=>h1 p (.tail _ hp)) ?_
   (refine Aa h2 ?_;try clear h2;intro p hp e)
   focus (refine oe (List.mem_cons.mp hp) ?_ ?_;rotate_left;(intro hp);rotate_right;(intro z_o;obtain rfl:=z_o))
   ·exact absurd e.symm q
   ·exact ⟨p,hp,e⟩
theorem ap {cl:List Nat} {j:Nat} {js cs:List Nat} {P:Prop} (h:C9 cl (j :: js)=some cs) (k:∀ a b,cl[j]?=some a→C9 cl js=some b→cs=a :: b→P):P:=by
 haveI h':(match cl[j]?,C9 cl js with
  | some a,some b=>some (a :: b)
  | _,_=>none)=some cs:=h
 cases h1:cl[j]? with
 | none=>rw [h1] at h';exact nn h'
 | some a =>
  cases h2:C9 cl js with
  | none=>rw [h1,h2] at h';exact nn h'
  | some b=>rw [h1,h2] at h';exact k a b h1 h2 (Option.some.inj h').symm
theorem Sr {cl:List Nat}:∀ {js cs:List Nat},C9 cl js=some cs→∀ (i j:Nat),js[i]?=some j→∃ k,cs[i]?=some k∧cl[j]?=some k
 | [],cs,h,i,j,a=>by exact nn a
 | j0 :: js,cs,h,i,j,a=>by
  refine ap h fun c0 cs' h1 h2 e=>?_
  subst e
  induction i with
  | zero=>cases a;exact ⟨c0,rfl,h1⟩
  | succ i=>exact Sr h2 i j a
theorem Ss {cel:List Str}:∀ {ns:List Str} {js:List Nat},Hz cel ns=some js→∀ (i:Nat) (n:Str),ns[i]?=some n→∃ j,js[i]?=some j∧cel[j]?=some n
 | [],js,h,i,n,a=>by exact nn a
 | n0 :: ns,js,h,i,n,a=>by
  refine An (f:=List.cons) (M:=fun (js:List Nat)=>∃ j,js[i]?=some j∧cel[j]?=some n) h fun j0 js' h1 h2=>?_
  induction i with
  | zero=>cases a;exact ⟨j0,rfl,Cl h1⟩
  | succ i=>exact Ss h2 i n a
theorem aq {h h':Heap} {a:Addr} (hn:h'.Ns a fun x=>([]:List (Str×Value)).reverse.lookup x):∃ ob,h'.get? a=some ob∧∀ (π:List Addr) (loc:List Str) (n:Nat),FOb π loc (List.replicate n none) ob:=by
 (refine Aa (M2 hn) ?_;intro ob e1 e2)
 refine ⟨ob,e1,fun π loc n=>⟨_,e2,fun i x v _ hv=>?_⟩⟩
 rw [List.getElem?_replicate] at hv
 split at hv
 ·cases hv
 ·exact nn hv
theorem au {sc:Sc} {env:Env} {scope:Scope} (ok:EnvOk sc env) (h:F2 sc scope=true):(relabel scope env).names=C0 scope.names:=by
 unfold relabel C0
 refine List.map_congr_left fun p hp=>?_
 rcases p with ⟨n,kd⟩
 unfold F2 at h
 simp only [Bool.and_eq_true,List.all_eq_true] at h
 haveI hh:=h.2 (n,kd) hp
 simp only [Bool.or_eq_true,bne_iff_ne,ne_eq] at hh
 by_cases q:kd=.free
 ·subst q
  haveI h2:=hh.1.2
  simp only [not_true_eq_false,false_or] at h2
  haveI h3:env.kindOf n=some .cell:=(ok.ko n).trans (by simpa using h2)
  simp [ok.kind,h3]
 ·haveI q':(kd==NameKind.free)=false:=by simpa using q
  simp [q,q']
theorem Su:∀ {names:List (Str×NameKind)} {x:Str},names.lookup x=some .local→(C0 names).lookup x=some .local
 | [],_,h=>by exact nn h
 | (n,k) :: r,x,h=>by
  haveI ih:=@Su r x
  show List.lookup x ((n,if k=.free then .cell else k) :: C0 r)=_
  rw [List.lookup_cons] at h ⊢
  split at h
  ·obtain rfl:=Option.some.inj h;rfl
  ·exact ih h
theorem Nj {loc:List Str} {names:List (Str×NameKind)}:∀ {es:List PySem.Expr} {l:List Nat},Dq loc names es=some l→Dq loc (C0 names) es=some l
 | [],l,h=>h
 | ex :: es,l,h=>by
  refine An (f:=List.cons) (M:=fun l=>Dq loc (C0 names) (ex :: es)=some l) h fun i is h1 h2=>?_
  (refine Ai (Nh (sc:=⟨names,loc,[]⟩) h1) ?_;intro x p z_2 hl hi;obtain rfl:=z_2)
  show o2 List.cons (gd ((C0 names).lookup x==some .local) (place? x loc)) (Dq loc (C0 names) es)=_
  rw [Su hl,Nj h2,show place? x loc=some i from hi]
  rfl
theorem av {loc:List Str} {names:List (Str×NameKind)} {tx:PySem.Expr} {p:Bool×List Nat} (h:tgtL loc names tx=some p):tgtL loc (C0 names) tx=some p:=by
 cases tx with
 | Name x p =>
  refine o1_e (M:=fun p=>_=some p) h fun l hl=>?_
  exact congrArg (Option.map _) (Nj hl)
 | Tuple es k p =>
  refine o1_e (M:=fun p=>_=some p) h fun l hl=>?_
  exact congrArg (Option.map _) (Nj hl)
 | _=>exact nn h
theorem aw {scope:Scope} (hok:F2 sc scope=true):scope.kind=.function∧(Ef scope.names).Nodup∧(∀ p∈scope.names,p.2=.free→sc.ko.lookup p.1=some .cell)∧(∀ p∈scope.names,p.2≠.cell)∧∀ p∈scope.names,p.2=.local→scope.names.lookup p.1=some .local:=by
 unfold F2 at hok
 simp only [Bool.and_eq_true,List.all_eq_true,decide_eq_true_eq,Bool.or_eq_true,bne_iff_ne,ne_eq,beq_iff_eq] at hok
 (refine Ac hok ?_;try clear hok;intro z_0 hall;refine Ac z_0 ?_;intro z_0 nd2;refine Ac z_0 ?_;intro hk nd1)
 exact ⟨hk,nd1,fun p hp q=>(hall p hp).1.2.resolve_left (fun z=>z q),fun p hp=>(hall p hp).1.1,fun p hp q=>(hall p hp).2.resolve_left (fun z=>z q)⟩
theorem Sv (H:SE n) {elt tgt iter:PySem.Expr} {ifs:List PySem.Expr} {scope:Scope} {pos cpos:PySem.Pos} {ns:Nat} {cl tg:List Nat} {one:Bool} {src:E} {cond:Option E} {el:E} {use:Option (Value→Sem Unit)}
  (hok:F2 sc scope=true) (h1:tgtL (Ef scope.names) scope.names tgt=some (one,tg)) (h2:Hz sc.cel (E0 scope.names)=some cl)
  (h3:trE n sc iter=some src) (h4:trC n (G3 scope) ifs=some cond) (h5:trE n (G3 scope) elt=some el) (q:(wP fr (.comp ns cl tg one src cond el)).1 σ Q)
  (a:At wd sc env fr ob π σ X A s)
  (k:∀ v σ' π' d C obc h' t',Q v σ'→Le π π'→Inv wd π' σ' ((C,obc) :: (env.locals,ob) :: X) h'→(∃ m,NsO obc m)→Ah π' v (.ref d)→0 < t'→compPost (model wd.prog wd.w) A Er use Qx (.ref d) C (.ok .next) ⟨h',s.gens,s.drawn,t',s.os⟩) :
  wpAny (model wd.prog wd.w) A (comprehension (.ListComp elt [⟨tgt,iter,ifs,0⟩] scope pos) scope env cpos (newList []) false (eval iter env) use) Qx Er s:=by
 (refine Qm (aw hok) ?_;intro hkind nd1 hfree hcellno hloc)
 refine opt_e q fun cs hcs q=>?_
 have inCel:∀ (j:Nat) (nn:Str),(E0 scope.names)[j]?=some nn→∃ kk c,cs[j]?=some kk∧env.cells.lookup nn=some c∧π[kk]?=some c:=fun j nn e1=>by
  (refine Aa (Ss h2 j nn e1) ?_;intro jj f1 f2)
  (refine Aa (Sr hcs j jj f1) ?_;intro kk g1 g2)
  (refine Aa (a.ce jj nn kk f2 g2) ?_;intro c f3 f4)
  exact ⟨kk,c,g1,f3,f4⟩
 haveI hcell:∀ p∈scope.names,p.2=.free→(env.cells.lookup p.1).isSome=true:=fun p hp q=>by
  (refine Ad (List.mem_iff_getElem?.mp (show p.1∈E0 scope.names from List.mem_map.mpr ⟨p,List.mem_filter.mpr ⟨hp,decide_eq_true q⟩,rfl⟩)) ?_;intro j hj)
  (refine Ai (inCel j p.1 hj) ?_;intro kk c _ e6 _)
  rw [e6];rfl
 refine wpAny_comprehension_free rfl ((K9 h3).2.1 env) (am hcell) hkind hloc ?_
 refine H.ev h3 q a fun v σ1 π1 x h' t' q1 l1 I1 hx1 ht1=>opt_e q1 fun it hit q1=>?_
 (refine Ac (Zw hit) ?_;intro hit hnst)
 refine Rq I1 hx1 hit fun ia iob h2' hIt I2=>?_
 refine wpAny_newObj_type ?_
 haveI I3:=I2.push (o:=.list []) (ob:={cls:=.type "list",dict:=none,data:=.seq ([]:List Value).toArray,slots:=#[]}) ⟨_,_,rfl,rfl,Nat.zero_le _⟩
 refine wpAny_newFunctionEnv (s:=⟨_,s.gens,s.drawn,t',s.os⟩) hcellno (by intro y hy;simp at hy) (fun h4' hns hsb=>?_) hkind
 (refine Aa (aq (h:=h4') hns) ?_;intro cob g1 g2)
 dsimp only at g1 hsb
 haveI hx0:=Nat.le_refl (h2'.push {cls:=.type "list",dict:=none,data:=.seq ([]:List Value).toArray,slots:=#[]}).objs.size
 have I4:=I3.hold (h':=h4') (fun b o e=>hsb.extBut b o (Nat.ne_of_lt (Heap.lt_size e)) (Heap.get?_push_of_some _ e)) hx0 g1
 haveI lD:Le π1 (π1++[h2'.objs.size]):=Le.app _ _
 haveI hD:=I2.at_end h2'.objs.size
 haveI hat:At wd ⟨C0 scope.names,Ef scope.names,E0 scope.names⟩
   (compEnvC scope ((scope.names.filter fun p=>p.2=.free).map fun p=>(p.1,Dt env p.1)).reverse (h2'.push {cls:=.type "list",dict:=none,data:=.seq ([]:List Value).toArray,slots:=#[]}).objs.size env)
   ⟨fr.dp,List.replicate ns none,cs⟩ cob (π1++[h2'.objs.size]) (σ1++[.list []]) ((ia,iob) :: (env.locals,ob) :: X) A ⟨h4',s.gens,s.drawn,t'+0,s.os⟩:=by
  refine ⟨a.wk,⟨hkind,a.ok.glob,a.ok.bui,fun x=>?_,nd1⟩,g2 _ _ _,fun j nn kk e1 e2=>?_,a.ao,ht1,I4,a.bb.le (l1.trans lD)⟩
  ·show (relabel scope env).names.lookup x=_
   rw [au a.ok hok]
  ·(refine Ai (inCel j nn e1) ?_;intro kk' c f1 f3 f4)
   rw [e2] at f1;cases f1
   refine ⟨c,?_,get_le (l1.trans lD) f4⟩
   have:Dt env nn=c:=by unfold Dt;rw [f3];rfl
   rw [← this]
   refine Sq (fun p hp=>?_) ?_
   ·(refine Aa (List.mem_map.mp (List.mem_reverse.mp hp)) ?_;intro q _ z_2;obtain rfl:=z_2);rfl
   ·haveI:=List.mem_of_getElem? e1
    (refine Aa (List.mem_map.mp this) ?_;intro p hp z_2;obtain rfl:=z_2)
    exact ⟨_,List.mem_reverse.mpr (List.mem_map.mpr ⟨p,hp,rfl⟩),rfl⟩
 haveI hfz:fz≤σ1.length:=I1.lenf
 haveI h1':tgtL (Ef scope.names) (C0 scope.names) tgt=some (one,tg):=av h1
 haveI loop:codeAny (model wd.prog wd.w) A (.compLoop (.ListComp elt [⟨tgt,iter,ifs,0⟩] scope pos) 0 (.ref ia) (.ref h2'.objs.size)
   (compEnvC scope ((scope.names.filter fun p=>p.2=.free).map fun p=>(p.1,Dt env p.1)).reverse (h2'.push {cls:=.type "list",dict:=none,data:=.seq ([]:List Value).toArray,slots:=#[]}).objs.size env))
   (compPost (model wd.prog wd.w) A Er use Qx (.ref h2'.objs.size) (h2'.push {cls:=.type "list",dict:=none,data:=.seq ([]:List Value).toArray,slots:=#[]}).objs.size) ⟨h4',s.gens,s.drawn,t'+0,s.os⟩:=by
  refine codeAny_mono (q1.ev wd n _ _ elt tgt iter ifs scope pos _ ia h2'.objs.size iob _ cob A _ (fun f s'=>f=.next∧compPost (model wd.prog wd.w) A Er use Qx (.ref h2'.objs.size) (h2'.push {cls:=.type "list",dict:=none,data:=.seq ([]:List Value).toArray,slots:=#[]}).objs.size (.ok .next) s') h1' h4 h5 (hIt.le lD) hD hfz hat fun σ3 π3 h5' t5 ob5 q3 l5 hm I5 ht5=>?_) fun rr s' hr=>?_
  ·exact ⟨rfl,k _ σ3 π3 _ _ ob5 h5' t5 q3 ((l1.trans lD).trans l5) I5 hm ⟨_,get_le l5 hD,rfl⟩ ht5⟩
  ·induction rr with
   | ok f=>(refine Ac hr ?_;try clear hr;intro z_0 hr;obtain rfl:=z_0);exact hr
   | error e=>exact hr.elim
 refine codeAny_compStart_list loop (al (hIt.le lD) (fun z kk=>hnst z kk) (I4.ext _ (.tail _ (.head _))) loop)
end
open Mine.Y
section
variable {wd:Wd} {π π':List Addr} {σ σ':H} {X:List (Addr×Obj)} {A:Around} {Er:Value→Shared→Prop} {s:Shared} {sc:Sc} {env:Env} {fr:Fr} {ob:Obj} {e:E} {n:Nat}
variable {Q:V→H→Prop} {Qx:Value→Shared→Prop} {Qb:Bool→H→Prop} {Qy:Bool→Shared→Prop}
theorem ax {gens:List PySem.Comprehension} {t:PySem.Expr×PySem.Expr×List PySem.Expr} (h:M3 gens=some t):gens=[⟨t.1,t.2.1,t.2.2,0⟩]:=by
 cases gens with
 | nil=>exact nn h
 | cons g r =>
  obtain ⟨a,b,c,d⟩:=g
  cases d with
  | ofNat d=>cases d with
   | zero=>cases r with
    | nil=>obtain rfl:=Option.some.inj h;rfl
    | cons _ _=>exact nn h
   | succ d=>cases r with
    | nil=>exact nn h
    | cons _ _=>exact nn h
  | negSucc d=>cases r with
   | nil=>exact nn h
   | cons _ _=>exact nn h
theorem Nk {elt:PySem.Expr} {gens:List PySem.Comprehension} {scope:Scope} {pos:PySem.Pos} {M:List PySem.Comprehension→E→Prop} (h:trE (n+1) sc (.ListComp elt gens scope pos)=some e)
  (k:∀ tgt iter ifs ns cl tg one src cond el,F2 sc scope=true→tgtL (Ef scope.names) scope.names tgt=some (one,tg)→Hz sc.cel (E0 scope.names)=some cl→trE n sc iter=some src→trC n (G3 scope) ifs=some cond→trE n (G3 scope) elt=some el →
   M [⟨tgt,iter,ifs,0⟩] (.comp ns cl tg one src cond el)):M gens e:=by
 have hb:=Cp h
 have h1:=Br h
 cases hg:M3 gens with
 | none=>rw [hg] at h1;exact nn h1
 | some t =>
  rcases t with ⟨tgt,iter,ifs⟩
  rw [hg] at h1
  rw [ax hg]
  exact Zs (M:=fun e=>M [⟨tgt,iter,ifs,0⟩] e) h1 fun t cl src cond el g1 g2 g3 g4 g5=>k tgt iter ifs _ cl t.2 t.1 src cond el hb g1 g2 g3 g4 g5
theorem ay (H:SE n) {elt:PySem.Expr} {gens:List PySem.Comprehension} {scope:Scope} {pos:PySem.Pos} (h:trE (n+1) sc (.ListComp elt gens scope pos)=some e) (q:(wP fr e).1 σ Q) (a:At wd sc env fr ob π σ X A s)
  (k:KW wd ((env.locals,ob) :: X) s Q Qx π):wpAny (model wd.prog wd.w) A (eval (.ListComp elt gens scope pos) env) Qx Er s:=by
 refine Nk (M:=fun gens e=>(wP fr e).1 σ Q→wpAny (model wd.prog wd.w) A (eval (.ListComp elt gens scope pos) env) Qx Er s) h (fun tgt iter ifs ns cl tg one src cond el hok h1 h2 h3 h4 h5 q=>?_) q
 refine Sv (use:=none) H hok h1 h2 h3 h4 h5 q a fun v σ' π1 d C obc h' t' q1 l1 I1 hm hv ht1=>?_
 (refine Ad hm ?_;try clear hm;intro mm hn)
 exact ⟨mm,hn.ns (I1.ext _ (.head _)),fun h'' hs=>k v σ' π1 _ h'' t' q1 l1 (I1.dropE fun b o hb' e'=>hs.extBut b o hb' e') hv ht1⟩
theorem az (H:SE n) {ex:PySem.Expr} {Qu:Unit→Shared→Prop} {u:Value→Sem Unit} (h:trE (n+1) sc ex=some e) (hc:Fz ex=true) (q:(wP fr e).1 σ Q) (a:At wd sc env fr ob π σ X A s)
  (k:∀ v σ' π' d C obc h' t',Q v σ'→Le π π'→Inv wd π' σ' ((C,obc) :: (env.locals,ob) :: X) h'→(∃ m,NsO obc m)→Ah π' v (.ref d)→0 < t' →
   wpAny (model wd.prog wd.w) A (u (.ref d)) (fun _ s''=>∃ m,s''.heap.Ns C m∧∀ h'',Heap.SameBut C s''.heap h''→Qu () {s'' with heap:=h''}) Er ⟨h',s.gens,s.drawn,t',s.os⟩) :
  wpAny (model wd.prog wd.w) A (evalThenUse ex env u) Qu Er s:=by
 cases ex with
 | ListComp elt gens scope pos =>
  refine Nk (M:=fun gens e=>(wP fr e).1 σ Q→wpAny (model wd.prog wd.w) A (evalThenUse (.ListComp elt gens scope pos) env u) Qu Er s) h (fun tgt iter ifs ns cl tg one src cond el hok h1 h2 h3 h4 h5 q=>?_) q
  show wpAny _ _ (do let _ ← comprehension (.ListComp elt [⟨tgt,iter,ifs,0⟩] scope pos) scope env (firstIterPos [⟨tgt,iter,ifs,0⟩] pos) (newList []) false (eval iter env) (some u)) _ _ _
  refine wpAny_bind (wpAny_mono (Sv (use:=some u) (Qx:=fun _ s'=>Qu () s') (Er:=Er) H hok h1 h2 h3 h4 h5 q a fun v σ' π1 d C obc h' t' q1 l1 I1 hm hv ht1=>?_) (fun _ _ q=>wpAny_pure q) fun _ _ q=>q)
  exact k v σ' π1 d C obc h' t' q1 l1 I1 hm hv ht1
 | SetComp elt gens scope pos=>exact nn h
 | DictComp k v gens scope pos=>exact nn h
 | _=>exact nf hc
end
end Z
end
section
open PySem PySem.W PyProof.Rows PySem.Calls
open Sem (wp)
namespace Z
section
variable {wd:Wd} {A:Around} {E:Value→Shared→Prop} {s:Shared}
theorem a7 {d:Addr} {kvs:List (Str×Value)} {k:Str} {key v:Value} {Q:Unit→Shared→Prop} (hkey:(strKind wd.prog wd.w).is k key=true) (hm:s.heap.DictOf (strKind wd.prog wd.w) d kvs) (hnew:k ∉ kvs.map (·.1))
  (hQ:∀ h',h'.DictOf (strKind wd.prog wd.w) d (kvs++[(k,v)])→Heap.SameBut d s.heap h'→Q () {s with heap:=h'}) (hsz:kvs.length≤sizeLine) :
  wpAny (model wd.prog wd.w) A (dictPut d ((strKind wd.prog wd.w).hash k) key v) Q E s:=by
 (refine Ev hm ?_;try clear hm;intro o es ep ho hc hd hk hp hn)
 have hes:es.size≤sizeLine:=by
  haveI e1:=hp.length
  rw [← Array.length_toList];exact e1▸hsz
 unfold dictPut
 refine wpAny_bind (wpAny_dictFind_of hkey ho hd hk ?_)
 have hidx:(es.findIdx? fun e=>(strKind wd.prog wd.w).is k e.key)=kvs.findIdx? fun kv=>decide (kv.1=k):=by
  rw [← hp.findIdx k];obtain ⟨l⟩:=es;simp
 have hnone:(es.findIdx? fun e=>(strKind wd.prog wd.w).is k e.key)=none:=by
  rw [hidx,List.findIdx?_eq_none_iff]
  intro x hx
  rw [decide_eq_false_iff_not]
  exact fun q=>hnew (List.mem_map.mpr ⟨x,hx,q⟩)
 rw [hnone]
 refine wpAny_updateDictKeys (hz:=hes) ho hd (hQ _ ⟨_,_,ep+1,Heap.get?_update_self _ ho (Obj.isFreed_of_dict (Obj.data_mapDictKeys hd _)),
   hc.mapDictKeys _,Obj.data_mapDictKeys hd _,hk.push hkey _,?_,?_⟩ (Heap.SameBut.update ..))
 ·haveI:=hp.append hkey ((strKind wd.prog wd.w).hash k) v
  obtain ⟨l⟩:=es
  simpa using this
 ·rw [List.map_append,List.nodup_append]
  refine ⟨hn,by simp,?_⟩
  intro a ha b hb
  simp only [List.map_cons,List.map_nil,List.mem_singleton] at hb
  subst hb
  exact fun e=>hnew (e▸ha)
theorem ifn {α:Type} {M:Model} {A:Around} {Er:Value→Shared→Prop} {s:Shared} {c:Prop} [Decidable c] {t e:Sem α} {Q:α→Shared→Prop} (h:¬ c) (k:wpAny M A e Q Er s):wpAny M A (if c then t else e) Q Er s:=by rw [if_neg h];exact k
theorem ifp {α:Type} {M:Model} {A:Around} {Er:Value→Shared→Prop} {s:Shared} {c:Prop} [Decidable c] {t e:Sem α} {Q:α→Shared→Prop} (h:c) (k:wpAny M A t Q Er s):wpAny M A (if c then t else e) Q Er s:=by rw [if_pos h];exact k
theorem a8 {d o:Addr} {kvs more:List (Str×Value)} {Q:Unit→Shared→Prop} (hdo:d≠o) (hoS:(o==sysModules)=false)
  (hd:s.heap.DictOf (strKind wd.prog wd.w) d kvs) (ho:s.heap.DictOf (strKind wd.prog wd.w) o more) (hne:kvs≠[]) (hnd:((kvs++more).map (·.1)).Nodup)
  (hQ:∀ h',h'.DictOf (strKind wd.prog wd.w) d (kvs++more)→Heap.SameBut d s.heap h'→Q () {s with heap:=h'}) (hsz:kvs.length+more.length≤sizeLine) :
  wpAny (model wd.prog wd.w) A (mergeMapping d (.ref o) false) Q E s:=by
 (refine Ev (id hd) ?_;intro od esd epd hod hcd hdd hkd hpd hnd')
 (refine Ev (id ho) ?_;intro oo eso epo hoo hco hdo' hko hpo hno)
 haveI hT:s.TypeIs (.ref o) "dict":=⟨oo,hoo,hco.1⟩
 unfold mergeMapping
 refine wpAny_bind (m:=isInstance (.ref o) (.type "dict")) (wpAny_isInstance (T:="dict") (U:="dict") (b:=true) hT (by rw [isSubtype_type];kernel_rfl) (ifp rfl (wpAny_bind (wpAny_specialOf hT PySem.F.slot_dict_iter.lookup (wpAny_bind (wpAny_pure ?_))))))
 rw [show (some (Value.builtin "dict.__iter__")==some (Value.builtin "dict.__iter__"))=true from by decide]
 dsimp only
 have hemp:¬ esd.isEmpty=true:=fun q=>by
  haveI h0:esd=#[]:=Array.isEmpty_iff.mp q
  haveI:=hpd.length
  rw [h0] at this
  exact hne (List.length_eq_zero_iff.mp (by simpa using this.symm))
 refine ifn (by rw [hoS];exact Bool.false_ne_true) (wpAny_bind (wpAny_dictEntries hod hdd (ifn hemp (wpAny_bind (wpAny_dictEntries hoo hdo' (wpAny_bind (wpAny_dictEpoch hoo hdo' ?_)))))))
 have hlen:more.length=eso.size:=by rw [← hpo.length];simp
 refine wpAny_bind (wpAny_forIn_list _
   (fun rest _ s'=>∃ h' i,s'={s with heap:=h'}∧rest=List.range' i (eso.size-i)∧i≤eso.size∧h'.DictOf (strKind wd.prog wd.w) d (kvs++more.take i)∧h'.get? o=some oo∧Heap.SameBut d s.heap h')
   _ ?_ ?_ _ _ ⟨s.heap,0,rfl,by simp [List.range_eq_range'],Nat.zero_le _,by simpa using hd,hoo,Heap.SameBut.refl _ _⟩)
 ·intro x rest b s' hh
  refine Qn hh ?_;clear hh;intro h' i hh hr hi hd' hoo' hs'
  subst hh
  have hlt:i < eso.size:=by
   refine oe (Nat.lt_or_ge i eso.size) (fun h=>?_) (fun h=>?_)
   ·exact h
   ·rw [Nat.sub_eq_zero_of_le h] at hr;simp at hr
  obtain ⟨rfl,hrest⟩:x=i∧rest=List.range' (i+1) (eso.size-(i+1)):=by
   haveI e:eso.size-i=(eso.size-(i+1))+1:=Qj ‹_›
   rw [e,List.range'_succ] at hr
   injection hr with h1 h2
   exact ⟨h1,h2⟩
  refine wpAny_bind (wpAny_dictEntries hoo' hdo' ?_)
  rw [Array.getElem?_eq_getElem hlt]
  obtain ⟨kv,hkv⟩:∃ kv,more[x]?=some kv:=⟨more[x]'(by rw [hlen];exact hlt),List.getElem?_eq_getElem _⟩
  rcases kv with ⟨k,v⟩
  (refine Ac (hpo.get? (e:=eso[x]) (by simp [hlt]) hkv) ?_;intro hkey hval)
  (refine Aa (hko eso[x] (Array.getElem_mem hlt)) ?_;intro k' hkey' hhash)
  obtain rfl:k'=k:=(strKind wd.prog wd.w).inj _ _ _ hkey' hkey
  show wpAny _ _ (holding [eso[x].key,eso[x].val] (if false=true then _ else dictPut d eso[x].hash eso[x].key eso[x].val) >>= _) _ _ _
  rw [if_neg Bool.false_ne_true,hhash,hval]
  haveI htk:kvs++more.take (x+1)=(kvs++more.take x)++[(k',v)]:=by
   rw [List.take_add_one,hkv,← List.append_assoc];rfl
  haveI hnew:k' ∉ (kvs++more.take x).map (·.1):=by
   haveI h1:((kvs++more.take (x+1)).map (·.1)).Nodup:=by
    refine hnd.sublist (List.Sublist.map _ (List.Sublist.append_left (List.take_sublist _ _) _))
   rw [htk,List.map_append,List.nodup_append] at h1
   exact fun q=>h1.2.2 k' q k' (by simp) rfl
  refine wpAny_bind (wpAny_holding (a7 hkey hd' hnew (fun h'' hd'' hs''=>?_) ?_))
  ·haveI hoo'':h''.get? o=some oo:=(hs''.2 o (Ne.symm hdo)).trans hoo'
   refine wpAny_bind (wpAny_dictEpoch hoo'' hdo' ?_)
   refine ifn (by simp) (wpAny_pure ⟨h'',x+1,rfl,hrest,hlt,by rw [htk];exact hd'',hoo'',hs'.trans hs''⟩)
  ·rw [List.length_append,List.length_take];exact Nat.le_trans (Nat.add_le_add_left (Nat.min_le_right _ _) _) hsz
 ·intro b s' hh
  refine Qn hh ?_;clear hh;intro h' i hh hr hi hd' hoo' hs'
  subst hh
  haveI hin:i=eso.size:=by
   refine oe (Nat.lt_or_ge i eso.size) (fun h=>?_) (fun h=>?_)
   ·haveI e:eso.size-i=(eso.size-(i+1))+1:=Qj ‹_›
    rw [e,List.range'_succ] at hr;exact nomatch hr
   ·exact Nat.le_antisymm hi h
  refine wpAny_pure (hQ h' ?_ hs')
  rw [hin,← hlen,List.take_length] at hd';exact hd'
noncomputable def Bt (env:Env) (pos:PySem.Pos) (ps:List ((Str×Nat×PySem.Pos)×(Str×Nat×PySem.Pos))):List (Sem Value×Sem Value) :=
 ps.map fun p=>(eval (.Constant (.str p.1.1) p.1.2.1 p.1.2.2) env,do let x ← eval (.Constant (.str p.2.1) p.2.2.1 p.2.2.2) env;standAt pos;pure x)
noncomputable def H8 (ps:List (Str×Str)) (kvs:List (Str×Value)):Prop:=kvs.map (·.1)=ps.map (·.1)∧kvs.length=ps.length∧∀ (i:Nat) (p:Str×Str) (q:Str×Value),ps[i]?=some p→kvs[i]?=some q→∃ t,q.2=.str p.2 t
theorem Sw {env:Env} {pos:PySem.Pos} {d:Addr}:∀ {ps:List ((Str×Nat×PySem.Pos)×(Str×Nat×PySem.Pos))} {done:List (Str×Str)} {kvs:List (Str×Value)} {s:Shared} {Q:PUnit→Shared→Prop},
  s.heap.DictOf (strKind wd.prog wd.w) d kvs→H8 done kvs→((done.map (·.1))++ps.map (·.1.1)).Nodup→done.length+ps.length≤1000 →
  (∀ h' t' kvs',h'.DictOf (strKind wd.prog wd.w) d kvs'→H8 (done++ps.map fun p=>(p.1.1,p.2.1)) kvs'→Heap.SameBut d s.heap h'→s.toks≤t'→Q ⟨⟩ {s with heap:=h',toks:=t'}) →
  wpAny (model wd.prog wd.w) A (forIn (Bt env pos ps) PUnit.unit fun (x:Sem Value×Sem Value) (_:PUnit)=>(do
   let kv ← x.1
   let vv ← holding [kv] x.2
   holding [kv,vv] (dictSet d kv vv)
   pure (ForInStep.yield PUnit.unit):Sem (ForInStep PUnit))) Q E s
 | [],done,kvs,s,Q,hD,hr,hn,hl,k=>by
  unfold Bt
  rw [List.map_nil,List.forIn_nil]
  exact wpAny_pure (k s.heap s.toks kvs hD (by simpa using hr) (Heap.SameBut.refl _ _) (Nat.le_refl _))
 | p :: ps,done,kvs,s,Q,hD,hr,hn,hl,k=>by
  unfold Bt
  rw [List.map_cons,List.forIn_cons]
  refine wpAny_bind (wpAny_bind (Constant_str (env:=env) (k:=p.1.2.1) (pos:=p.1.2.2) (wpAny_bind (wpAny_holding (wpAny_bind (Constant_str (env:=env) (k:=p.2.2.1) (pos:=p.2.2.2) (wpAny_bind (wpAny_standAt (wpAny_pure (wpAny_bind (wpAny_holding ?_)))))))))))
  have hnew:p.1.1 ∉ kvs.map (·.1):=by
   rw [hr.1]
   rw [List.map_cons,List.nodup_append] at hn
   exact fun q=>hn.2.2 _ q _ (.head _) rfl
  haveI hst:stored kvs p.1.1 (.str p.2.1 (s.toks+1))=kvs++[(p.1.1,.str p.2.1 (s.toks+1))]:=by
   unfold stored
   rw [if_neg]
   rw [List.any_eq_true]
   rintro ⟨x,hx,he⟩
   exact hnew (List.mem_map.mpr ⟨x,hx,of_decide_eq_true he⟩)
  refine wpAny_dictSet_pairs (strKind_is wd.prog wd.w p.1.1 _) hD (fun h' hD' hs=>wpAny_pure ?_) ?_
  ·rw [hst] at hD'
   refine Sw (ps:=ps) (done:=done++[(p.1.1,p.2.1)]) hD' ⟨?_,?_,?_⟩ (by simpa using hn) (by simp at hl ⊢;exact o_7 ‹_› (by exact rfl)) fun h'' t'' kvs' a b c e=>?_
   ·simp [hr.1]
   ·simp [hr.2.1]
   ·intro i a b h1 h2
    by_cases hi:i < done.length
    ·rw [List.getElem?_append_left hi] at h1
     rw [List.getElem?_append_left (by rw [hr.2.1];exact hi)] at h2
     exact hr.2.2 i a b h1 h2
    ·rw [List.getElem?_append_right (Nat.not_lt.mp hi)] at h1
     rw [List.getElem?_append_right (by rw [hr.2.1];exact Nat.not_lt.mp hi),hr.2.1] at h2
     have h0:i-done.length=0:=by
      haveI:=(List.getElem?_eq_some_iff.mp h1).1
      simpa using this
     rw [h0] at h1 h2
     obtain rfl:=Option.some.inj h1;obtain rfl:=Option.some.inj h2
     exact ⟨_,rfl⟩
   ·refine k h'' t'' kvs' a (by simpa using b) (hs.trans c) ?_
    dsimp only at e ⊢
    exact Nat.le_trans (Nat.le_succ_of_le (Nat.le_succ_of_le (Nat.le_succ _))) e
  ·have:=hr.2.1
   rw [sizeLine_eq]
   simp at hl
   exact o_5 ‹_› ‹_› (by exact rfl)
end
open Mine.Y
theorem Nl {main:Option Addr} (f:(Option (Sem Value)×Sem Value)→(Option Addr×List (Sem Value×Sem Value))→Sem (ForInStep (Option Addr×List (Sem Value×Sem Value))))
  (hf:∀ (p:Sem Value×Sem Value) (run:List (Sem Value×Sem Value)),run.length+1 < 17→f (some p.1,p.2) (main,run)=pure (.yield (main,run++[p]))) (tail:List (Option (Sem Value)×Sem Value)) :
  ∀ (items run:List (Sem Value×Sem Value)),run.length+items.length < 17→forIn (items.map (fun p=>(some p.1,p.2))++tail) (main,run) f=forIn tail (main,run++items) f
 | []=>@fun run _=>by simp
 | p :: rest=>@fun run h=>by
  rw [List.map_cons,List.cons_append,List.forIn_cons,hf p run (Nat.lt_of_le_of_lt (Nat.add_le_add_left (Nat.succ_le_succ (Nat.zero_le _)) _) h),pure_bind]
  haveI:=Nl f hf tail rest (run++[p]) (by rw [List.length_append,Nat.add_assoc,Nat.add_comm [p].length];exact h)
  simpa using this
theorem a9 (a b:List (Sem Value×Sem Value)) (p:Sem Value×Sem Value) (ha:a.length=16) (hb:b.length < 17) (hb0:b≠[]) :
  dictDisplay ((a++p :: b).map fun p=>(some p.1,p.2))=(do
   let d ← subDict (a++[p])
   let sub ← holding [.ref d] (subDict b)
   (holding [.ref d,.ref sub] (mergeMapping d (.ref sub) false)).onRaise fun x=>do let _ ← holding [.ref d,x] (runValue (.builtin "proto.let_go" {}))
   pure (.ref d)):=by
 unfold dictDisplay
 dsimp only
 haveI hne:∀ (p:Sem Value×Sem Value) (run:List (Sem Value×Sem Value)),run.length+1 < 17→((run++[p]).length==17)=false:=fun p run h=>by
  rw [List.length_append,beq_eq_false_iff_ne];exact Nat.ne_of_lt h
 rw [List.map_append,List.map_cons,Nl _ (fun p run h=>by simp only [hne p run h,Bool.false_eq_true,if_false]) _ a [] (by rw [ha];decide)]
 rw [List.nil_append,List.forIn_cons]
 haveI h17:((a++[(p.1,p.2)]).length==17)=true:=by simp [ha]
 haveI hemp:(a++[(p.1,p.2)]).isEmpty=false:=by simp
 dsimp only
 rw [h17,if_pos rfl,hemp,if_neg Bool.false_ne_true]
 simp only [bind_assoc,pure_bind]
 congr 1
 funext d
 rw [← List.append_nil (b.map fun p=>(some p.1,p.2)),Nl (main:=some d) _ (fun p run h=>by simp only [hne p run h,Bool.false_eq_true,if_false]) [] b [] (by simpa using hb)]
 rw [List.forIn_nil,pure_bind,List.nil_append]
 simp only [List.isEmpty_iff,hb0,if_false,bind_assoc,pure_bind]
theorem ba {k:Option PySem.Expr} {x:Str} (h:k.bind G1=some x):∃ n p,k=some (.Constant (.str x) n p):=by
 induction k with
 | none=>exact nn h
 | some e =>
  (refine A3 (Li h) ?_;intro n p z_2;obtain rfl:=z_2)
  exact ⟨n,p,rfl⟩
theorem Sx (env:Env) (pos:PySem.Pos):∀ {ks:List (Option PySem.Expr)} {vs:List PySem.Expr} {ps:List (Str×Str)},G2 ks vs=some ps→∃ cps,pairTrees ks vs env pos=Bt env pos cps∧cps.map (fun p=>(p.1.1,p.2.1))=ps∧ks.all (·.isSome)=true∧ks.length=vs.length
 | [],[],ps,h=>by obtain rfl:=Option.some.inj h;exact ⟨[],rfl,rfl,rfl,rfl⟩
 | [],_ :: _,ps,h=>nn h
 | _ :: _,[],ps,h=>nn h
 | kx :: ks,vx :: vs,ps,h=>by
  refine An (f:=List.cons) (M:=fun ps=>∃ cps,pairTrees (kx :: ks) (vx :: vs) env pos=Bt env pos cps∧cps.map (fun p=>(p.1.1,p.2.1))=ps∧(kx :: ks).all (·.isSome)=true∧(kx :: ks).length=(vx :: vs).length) h fun p ps' h1 h2=>?_
  refine An (f:=Prod.mk) (M:=fun p=>∃ cps,pairTrees (kx :: ks) (vx :: vs) env pos=Bt env pos cps∧cps.map (fun p=>(p.1.1,p.2.1))=p :: ps'∧(kx :: ks).all (·.isSome)=true∧(kx :: ks).length=(vx :: vs).length) h1 fun x y hx hy=>?_
  (refine A3 (ba hx) ?_;intro kn kp z_2;obtain rfl:=z_2)
  (refine A3 (Li hy) ?_;intro vn vp z_2;obtain rfl:=z_2)
  (refine Ck (Sx env pos h2) ?_;intro cps e1 e2 e3 e4)
  exact ⟨((x,kn,kp),(y,vn,vp)) :: cps,congrArg (List.cons _) e1,congrArg (List.cons _) e2,e3,congrArg (·+1) e4⟩
section
variable {wd:Wd} {A:Around} {E:Value→Shared→Prop} {s:Shared}
theorem Sy {env:Env} {pos:PySem.Pos}:∀ {cps:List ((Str×Nat×PySem.Pos)×(Str×Nat×PySem.Pos))} {s:Shared} {Q:List (Value×Value)→Shared→Prop},
  (∀ t' vs kvs,Carries (strKind wd.prog wd.w) vs kvs→H8 (cps.map fun p=>(p.1.1,p.2.1)) kvs→Q vs {s with toks:=t'})→wpAny (model wd.prog wd.w) A (evalPairs (Bt env pos cps)) Q E s
 | [],s,Q,k=>wpAny_pure (k s.toks [] [] trivial ⟨rfl,rfl,fun i p q h=>by simp at h⟩)
 | p :: cps,s,Q,k=>by
  refine evalPairs_cons (Constant_str (env:=env) (k:=p.1.2.1) (pos:=p.1.2.2) (wpAny_bind (Constant_str (env:=env) (k:=p.2.2.1) (pos:=p.2.2.2) (wpAny_bind (wpAny_standAt (wpAny_pure ?_))))))
  refine Sy (cps:=cps) fun t' vs kvs hc hr=>?_
  refine k t' _ ((p.1.1,.str p.2.1 (s.toks+1)) :: kvs) ⟨strKind_is wd.prog wd.w p.1.1 _,rfl,hc⟩ ⟨?_,?_,?_⟩
  ·rw [List.map_cons,List.map_cons,List.map_cons,hr.1]
  ·rw [List.length_cons,List.map_cons,List.length_cons,hr.2.1]
  ·intro i a b h1 h2
   induction i with
   | zero=>obtain rfl:=Option.some.inj h1;obtain rfl:=Option.some.inj h2;exact ⟨_,rfl⟩
   | succ i=>exact hr.2.2 i a b (by simpa using h1) (by simpa using h2)
theorem S0 {π:List Addr}:∀ {ps:List (Str×Str)} {kvs:List (Str×Value)},H8 ps kvs→Bq π (ps.map fun p=>(p.1,V.str p.2)) kvs
 | [],[]=>@fun _=>rfl
 | [],_ :: _=>@fun h=>by have:=h.2.1;simp at this
 | _ :: _,[]=>@fun h=>by have:=h.2.1;simp at this
 | (a,b) :: ps,(c,d) :: kvs=>@fun h=>by
  (refine As h ?_;try clear h;intro h1 h2 h3)
  haveI e0:c=a:=by simpa using congrArg List.head? h1
  subst e0
  (refine Ad (h3 0 (c,b) (c,d) rfl rfl) ?_;intro t ht)
  refine ⟨d,kvs,rfl,⟨t,ht⟩,S0 ⟨?_,by simpa using h2,fun i p q x y=>h3 (i+1) p q (by simpa using x) (by simpa using y)⟩⟩
  simpa using h1
end
section
variable {wd:Wd}
variable {π π':List Addr} {σ σ':H} {X:List (Addr×Obj)} {A:Around} {Er:Value→Shared→Prop} {s:Shared} {sc:Sc} {env:Env} {fr:Fr} {ob:Obj} {Q:V→H→Prop} {Qx:Value→Shared→Prop}
theorem bc {ks:List (Option PySem.Expr)} {vs:List PySem.Expr} {ps:List (Str×Str)} {pos:PySem.Pos} (hs:G2 ks vs=some ps) (q:(wP fr (.dcl ps)).1 σ Q)
  (a:At wd sc env fr ob π σ X A s) (k:KW wd ((env.locals,ob) :: X) s Q Qx π):wpAny (model wd.prog wd.w) A (eval (.Dict ks vs pos) env) Qx Er s:=by
 refine Lg q fun hz q=>?_
 (refine As hz ?_;try clear hz;intro z1 z2 z3)
 (refine Ck (Sx env pos hs) ?_;intro cps e1 e2 e3 e4)
 have hl:cps.length=ps.length:=by rw [← e2,List.length_map]
 rw [arm_eval_Dict,zip_pairTrees ks vs env pos e3 e4,e1]
 obtain ⟨c1,c,c2,rfl,h1⟩:∃ c1 c c2,cps=c1++c :: c2∧c1.length=16:=by
  refine ⟨cps.take 16,cps[16]'(hl▸Nat.lt_of_succ_lt z1),cps.drop 17,?_,by rw [List.length_take];exact Nat.min_eq_left (hl▸Nat.le_of_lt (Nat.lt_of_succ_lt z1))⟩
  rw [← List.drop_eq_getElem_cons,List.take_append_drop]
 rw [List.length_append,List.length_cons,h1] at hl
 have hcl:c2.length+17=ps.length:=(Nat.add_comm (c2.length+1) 16).trans hl
 have h13:c2.length≤13:=Nat.le_of_add_le_add_right (b:=17) (hcl▸z2)
 have esplit:Bt env pos (c1++c :: c2)=Bt env pos c1++(eval (.Constant (.str c.1.1) c.1.2.1 c.1.2.2) env,do let x ← eval (.Constant (.str c.2.1) c.2.2.1 c.2.2.2) env;standAt pos;pure x) :: Bt env pos c2:=by
  unfold Bt;rw [List.map_append,List.map_cons]
 rw [esplit,a9 _ _ _ (by unfold Bt;rw [List.length_map,h1]) (by unfold Bt;rw [List.length_map];exact Nat.lt_of_le_of_lt h13 (by decide)) (fun e=>absurd z1 (by rw [← hcl,List.map_eq_nil_iff.mp e];exact Nat.lt_irrefl 17))]
 haveI ejoin:Bt env pos c1++[(eval (.Constant (.str c.1.1) c.1.2.1 c.1.2.2) env,do let x ← eval (.Constant (.str c.2.1) c.2.2.1 c.2.2.2) env;standAt pos;pure x)]=Bt env pos (c1++[c]):=by
  unfold Bt;rw [List.map_append];rfl
 rw [ejoin]
 have hkeys:ps.map (·.1)=(c1++[c]).map (·.1.1)++c2.map (·.1.1):=by rw [← e2];simp [Function.comp_def]
 rw [hkeys] at z3
 refine tok_up a.tk ?_
 refine wpAny_bind (wpAny_standAt (wpAny_bind ?_))
 unfold subDict
 refine wpAny_bind (wpAny_alloc (wpAny_bind (wpAny_holding ?_)))
 rw [if_neg (by unfold Bt;rw [List.length_map,List.length_append,h1];simp)]
 refine wpAny_bind (wpAny_rule ?_)
 refine wpAny_bind (Sw (done:=[]) (kvs:=[]) (Heap.DictOf.new _) ⟨rfl,rfl,fun i p q h=>by simp at h⟩ (by simpa using (List.nodup_append.mp z3).1) (by simp [h1]) fun h2 t2 kvs1 hD1 hr1 hs1 ht1=>wpAny_pure (wpAny_pure ?_))
 dsimp only at hs1
 rw [List.nil_append] at hr1
 haveI hd0:s.heap.objs.size≤s.heap.objs.size:=Nat.le_refl _
 haveI keep1:∀ b o,s.heap.get? b=some o→h2.get? b=some o:=fun b o e=>hs1.extBut b o (Nat.ne_of_lt (Heap.lt_size e)) (Heap.get?_push_of_some _ e)
 have hsz2:h2.objs.size=s.heap.objs.size+1:=by rw [hs1.1,Heap.size_push]
 refine wpAny_bind (wpAny_holding (wpAny_subDict (knd:=strKind wd.prog wd.w) (by unfold Bt;rw [List.length_map];exact Nat.le_trans h13 (by decide)) (Sy fun t3 vs3 kvs2 hc hr2=>⟨kvs2,hc,Heap.DictOf.new _,fun h3 hD2 hs3=>?_⟩)))
 dsimp only at hs3 hD2 ⊢
 haveI nd2:(kvs2.map (·.1)).Nodup:=by
  rw [hr2.1]
  haveI:=(List.nodup_append.mp z3).2.1
  simpa [Function.comp_def] using this
 rw [merged_nil_of_nodup kvs2 nd2] at hD2
 have hD1':h3.DictOf (strKind wd.prog wd.w) s.heap.objs.size kvs1:=by
  (refine Mp hD1 ?_;try clear hD1;intro o es ep g1 g2)
  refine ⟨o,es,ep,?_,g2⟩
  exact hs3.extBut _ _ (by rw [hsz2];exact Nat.ne_of_lt (Nat.lt_succ_self _)) (Heap.get?_push_of_some _ g1)
 have keep3:∀ b o,h2.get? b=some o→h3.get? b=some o:=fun b o e=>hs3.extBut b o (Nat.ne_of_lt (Heap.lt_size e)) (Heap.get?_push_of_some _ e)
 have hsys:(h2.objs.size==sysModules)=false:=(a.inv.past (a:=h2.objs.size) (by rw [hsz2];exact Nat.le_succ _)).1.2
 have l1:kvs1.length=17:=by rw [hr1.2.1];simp [h1]
 have l2:kvs2.length=c2.length:=by rw [hr2.2.1,List.length_map]
 refine wpAny_bind (wpAny_onRaise (wpAny_holding (a8 (s:=⟨h3,s.gens,s.drawn,t3+vs3.length,s.os⟩) (by rw [hsz2];exact Nat.ne_of_lt (Nat.lt_succ_self _)) hsys hD1' hD2 (fun q=>by rw [q] at l1;cases l1) ?_ (fun h4 hD4 hs4=>?_) (by rw [l1,l2,sizeLine_eq,Nat.add_comm];exact Nat.le_trans (Nat.add_le_add_right h13 17) (by decide)))))
 ·rw [List.map_append,hr1.1,hr2.1]
  haveI:=z3
  simpa [Function.comp_def] using this
 ·dsimp only at hs4 ⊢
  refine wpAny_pure ?_
  haveI hrr:H8 ps (kvs1++kvs2):=by
   haveI hl1:(List.map (fun p:(Str×Nat×PySem.Pos)×Str×Nat×PySem.Pos=>(p.1.1,p.2.1)) (c1++[c])).length=kvs1.length:=hr1.2.1.symm
   haveI eps:ps=(c1++[c]).map (fun p=>(p.1.1,p.2.1))++c2.map (fun p=>(p.1.1,p.2.1)):=by rw [← e2];simp
   rw [eps]
   refine ⟨?_,?_,?_⟩
   ·rw [List.map_append,List.map_append,hr1.1,hr2.1]
   ·rw [List.length_append,List.length_append,hr1.2.1,hr2.2.1]
   ·intro i p q x y
    by_cases hi:i < kvs1.length
    ·rw [List.getElem?_append_left (by rw [hl1];exact hi)] at x
     rw [List.getElem?_append_left hi] at y
     exact hr1.2.2 i p q x y
    ·rw [List.getElem?_append_right (by rw [hl1];exact Nat.not_lt.mp hi),hl1] at x
     rw [List.getElem?_append_right (Nat.not_lt.mp hi)] at y
     exact hr2.2.2 _ p q x y
  intro htk
  (refine Aa (DictOf.orel (π:=π++[s.heap.objs.size]) hD4 (S0 hrr)) ?_;intro ob4 g1 g2)
  refine k _ _ (π++[s.heap.objs.size]) _ h4 _ q (Le.app _ _) (a.inv.add (fun b o e=>?_) hd0 g1 g2) ⟨s.heap.objs.size,?_,rfl⟩ ?_
  ·exact hs4.extBut b o (Nat.ne_of_lt (Heap.lt_size e)) (keep3 b o (keep1 b o e))
  ·rw [← a.inv.len,List.getElem?_append_right (Nat.le_refl _),Nat.sub_self];rfl
  ·exact htk
end
end Z
end
section
open PySem PySem.W PyProof.Rows PySem.Calls
namespace Z
open Mine.Y
section
variable {wd:Wd} {π π':List Addr} {σ σ':H} {X:List (Addr×Obj)} {A:Around} {Er:Value→Shared→Prop} {s:Shared} {sc:Sc} {env:Env} {fr:Fr} {ob:Obj} {e:E} {n:Nat}
variable {Q:V→H→Prop} {Qx:Value→Shared→Prop} {Qb:Bool→H→Prop} {Qy:Bool→Shared→Prop}
theorem bd (H:SE n) {ks:List (Option PySem.Expr)} {vs:List PySem.Expr} {pos:PySem.Pos} (h:trE (n+1) sc (.Dict ks vs pos)=some e) (q:(wP fr e).1 σ Q) (a:At wd sc env fr ob π σ X A s) (k:KW wd ((env.locals,ob) :: X) s Q Qx π) :
  wpAny (model wd.prog wd.w) A (eval (.Dict ks vs pos) env) Qx Er s:=by
 have h':cond (Nat.ble ks.length 15) (o2 .dct (F1 (trE n sc) ks) (A9 (trE n sc) vs)) ((G2 ks vs).map .dcl)=some e:=h
 cases hb:Nat.ble ks.length 15 with
 | true =>
  rw [hb] at h'
  exact An (M:=fun e=>(wP fr e).1 σ Q→_) h' (fun a1 b1 h1 h2 q=>Z8 H h1 h2 q a k) q
 | false =>
  rw [hb] at h'
  exact o1_e (M:=fun e=>(wP fr e).1 σ Q→_) h' (fun ps h1 q=>bc h1 q a k) q
theorem S1 (H:SE n) {ex:PySem.Expr} (h:trE (n+1) sc ex=some e) (q:(wP fr e).1 σ Q) (a:At wd sc env fr ob π σ X A s) (k:KW wd ((env.locals,ob) :: X) s Q Qx π):wpAny (model wd.prog wd.w) A (eval ex env) Qx Er s:=by
 cases ex with
 | Constant c kk p=>exact Zy h q a k
 | Name x p=>exact Zx h q a k
 | Attribute o at' p=>exact Zz H h q a k
 | Subscript o i p=>exact Z2 H h q a k
 | Call f as kws p=>exact ak H h q a k
 | BinOp l op rr p=>exact Z3 H h q a k
 | UnaryOp op x p=>exact Z4 H h q a k
 | BoolOp op es p=>exact o1_e (M:=fun e=>(wP fr e).1 σ Q→_) h (fun es1 h1 q=>Rz H h1 q a k) q
 | Compare l ops rs p=>exact (R6 (Qb:=fun _ _=>True) (Qy:=fun _ _=>True) H h a).1 q k
 | IfExp t b o p=>exact Z5 H h q a k
 | Tuple es kk p=>exact Z6 H h q a k
 | List es p=>exact Z7 H h q a k
 | Dict ks vs p=>exact bd H h q a k
 | ListComp elt gens scope p=>exact ay H h q a k
 | _=>exact nn h
theorem Dd (H:SE n) {ex:PySem.Expr} (he:isTrue ex env (eval ex env)=(do let v ← eval ex env;standAt ex.pos;holding [v] (truthy v))) (h:trE (n+1) sc ex=some e) (hp:(wP fr e).2 σ Qb=(wP fr e).1 σ fun v σ=>opt (Az σ v) fun b=>Qb b σ)
  (q:(wP fr e).2 σ Qb) (a:At wd sc env fr ob π σ X A s) (k:KWb wd ((env.locals,ob) :: X) s Qb Qy π):wpAny (model wd.prog wd.w) A (isTrue ex env (eval ex env)) Qy Er s:=by
 rw [he]
 rw [hp] at q
 exact wpAny_bind (S1 H h q a fun v σ1 π1 x h' t' q1 l1 I1 hx ht1=>wpAny_bind (wpAny_standAt (wpAny_holding (opt_e q1 fun b hb q1=>Nb I1 hx ht1 hb fun t2 ht2=>k b σ1 π1 h' t2 q1 l1 I1 ht2))))
theorem E3 {α:Type} {f:α→E} {x:Option α} (hf:∀ a,(wP fr (f a)).2 σ Qb=(wP fr (f a)).1 σ fun v σ=>opt (Az σ v) fun b=>Qb b σ) (h:x.map f=some e):(wP fr e).2 σ Qb=(wP fr e).1 σ fun v σ=>opt (Az σ v) fun b=>Qb b σ :=
 o1_e (M:=fun e=>(wP fr e).2 σ Qb=(wP fr e).1 σ fun v σ=>opt (Az σ v) fun b=>Qb b σ) h fun a _=>hf a
theorem F3 {α β:Type} {f:α→β→E} {x:Option α} {y:Option β} (hf:∀ a b,(wP fr (f a b)).2 σ Qb=(wP fr (f a b)).1 σ fun v σ=>opt (Az σ v) fun b=>Qb b σ) (h:o2 f x y=some e):(wP fr e).2 σ Qb=(wP fr e).1 σ fun v σ=>opt (Az σ v) fun b=>Qb b σ :=
 An (M:=fun e=>(wP fr e).2 σ Qb=(wP fr e).1 σ fun v σ=>opt (Az σ v) fun b=>Qb b σ) h fun a b _ _=>hf a b
theorem be {x:Str} {p:PySem.Pos} (h:trE (n+1) sc (.Name x p)=some e):(wP fr e).2 σ Qb=(wP fr e).1 σ fun v σ=>opt (Az σ v) fun b=>Qb b σ:=by
 have h1:=Br h
 cases hko:sc.ko.lookup x with
 | none=>rw [hko] at h1;exact nn h1
 | some kd =>
  rw [hko] at h1
  induction kd with
  | «local»=>exact E3 (fun _=>rfl) h1
  | cell=>exact E3 (fun _=>rfl) h1
  | globalImplicit=>exact E3 (f:=fun v=>.cst (.con v)) (fun _=>rfl) h1
  | _=>exact nn h1
theorem bf {o i:PySem.Expr} {p:PySem.Pos} (h:trE (n+1) sc (.Subscript o i p)=some e):(wP fr e).2 σ Qb=(wP fr e).1 σ fun v σ=>opt (Az σ v) fun b=>Qb b σ:=by
 have h':(match slK i with
   | .up u=>o2 .slc (trE n sc o) (trE n sc u)
   | .no=>none
   | .plain=>o2 .idx (trE n sc o) (trE n sc i))=some e:=h
 cases hi:slK i with
 | no=>rw [hi] at h';exact nn h'
 | plain=>rw [hi] at h';exact F3 (fun _ _=>rfl) h'
 | up u=>rw [hi] at h';exact F3 (fun _ _=>rfl) h'
theorem bg {f:PySem.Expr} {as:List PySem.Expr} {kws:List Keyword} {p:PySem.Pos} (h:trE (n+1) sc (.Call f as kws p)=some e):(wP fr e).2 σ Qb=(wP fr e).1 σ fun v σ=>opt (Az σ v) fun b=>Qb b σ:=by
 have h1:=Br h
 cases hf:atK f with
 | none=>rw [hf] at h1;exact F3 (fun _ _=>rfl) h1
 | some t =>
  rw [hf] at h1
  have h2:=Br h1
  cases hr:(t.2.1==("replace":Str)) with
  | true=>rw [hr] at h2;exact F3 (f:=fun (e:E) (p:Str×Str)=>.repl e p.1 p.2) (fun _ _=>rfl) h2
  | false=>rw [hr] at h2;exact F0 (M:=fun e=>(wP fr e).2 σ Qb=(wP fr e).1 σ fun v σ=>opt (Az σ v) fun b=>Qb b σ) h2 fun _ _ _ _ _ _=>rfl
theorem bh {ks:List (Option PySem.Expr)} {vs:List PySem.Expr} {p:PySem.Pos} (h:trE (n+1) sc (.Dict ks vs p)=some e):(wP fr e).2 σ Qb=(wP fr e).1 σ fun v σ=>opt (Az σ v) fun b=>Qb b σ:=by
 have h':cond (Nat.ble ks.length 15) (o2 .dct (F1 (trE n sc) ks) (A9 (trE n sc) vs)) ((G2 ks vs).map .dcl)=some e:=h
 cases hb:Nat.ble ks.length 15 with
 | true=>rw [hb] at h';exact F3 (fun _ _=>rfl) h'
 | false=>rw [hb] at h';exact E3 (fun _=>rfl) h'
theorem bi (H:SE n) {ex:PySem.Expr} (h:trE (n+1) sc ex=some e) (q:(wP fr e).2 σ Qb) (a:At wd sc env fr ob π σ X A s) (k:KWb wd ((env.locals,ob) :: X) s Qb Qy π):wpAny (model wd.prog wd.w) A (isTrue ex env (eval ex env)) Qy Er s:=by
 cases ex with
 | Constant c kk p=>exact Dd H rfl h (E3 (fun _=>rfl) h) q a k
 | Name x p=>exact Dd H rfl h (be h) q a k
 | Attribute o at' p=>exact Dd H rfl h (F3 (fun _ _=>rfl) (Br h)) q a k
 | Subscript o i p=>exact Dd H rfl h (bf h) q a k
 | Call f as kws p=>exact Dd H rfl h (bg h) q a k
 | BinOp l op rr p=>exact Dd H rfl h (F3 (fun _ _=>rfl) h) q a k
 | UnaryOp op x p =>
  induction op with
  | Not =>
   refine o1_e (M:=fun e=>(wP fr e).2 σ Qb→_) h (fun e1 h1 q=>?_) q
   show wpAny _ _ (do return !(← isTrue x env (eval x env))) _ _ _
   exact wpAny_bind (H.bo h1 q a fun b σ1 π1 h' t' q1 l1 I1 ht1=>wpAny_pure (k _ σ1 π1 h' t' q1 l1 I1 ht1))
  | USub=>exact Dd H rfl h (E3 (fun _=>rfl) h) q a k
  | _=>exact nn h
 | BoolOp op es p=>exact o1_e (M:=fun e=>(wP fr e).2 σ Qb→_) h (fun es1 h1 q=>R5 H h1 q a k) q
 | Compare l ops rs p=>exact (R6 (Q:=fun _ _=>True) (Qx:=fun _ _=>True) H h a).2 q k
 | IfExp t b o p =>
  refine F0 (M:=fun e=>(wP fr e).2 σ Qb→_) h (fun e1 e2 e3 h1 h2 h3 q=>?_) q
  show wpAny _ _ (do if ← isTrue t env (eval t env) then isTrue b env (eval b env) else isTrue o env (eval o env)) _ _ _
  refine wpAny_bind (H.bo h1 q a fun c σ1 π1 h' t' q1 l1 I1 ht1=>?_)
  induction c with
  | true=>exact H.bo h2 q1 (a.next l1 I1 ht1) (k.le l1)
  | false=>exact H.bo h3 q1 (a.next l1 I1 ht1) (k.le l1)
 | Tuple es kk p=>exact Dd H rfl h (E3 (fun _=>rfl) h) q a k
 | List es p=>exact Dd H rfl h (E3 (fun _=>rfl) h) q a k
 | Dict ks vs p=>exact Dd H rfl h (bh h) q a k
 | ListComp elt gens scope p=>exact Dd H rfl h (Nk (M:=fun _ e=>(wP fr e).2 σ Qb=(wP fr e).1 σ fun v σ=>opt (Az σ v) fun b=>Qb b σ) h fun _ _ _ _ _ _ _ _ _ _ _ _ _ _ _ _=>rfl) q a k
 | _=>exact nn h
end
theorem Cc:∀ n:Nat,SE n
 | 0=>⟨fun h=>nn h,fun h=>nn h⟩
 | n+1=>⟨fun h q a k=>S1 (Cc n) h q a k,fun h q a k=>bi (Cc n) h q a k⟩
open Mine.Y
section
variable {wd:Wd} {A:Around} {R:Result→Shared→Prop} {s:Shared}
abbrev NB (wd:Wd) (A:Around) (env:Env) (R:Result→Shared→Prop):Value→Shared→Prop:=notedBy (model wd.prog wd.w) A env fun e s'=>R (.error e) s'
theorem Nm {elt target iter:Expr} {ifs:List Expr} {scope:Scope} {pos:Pos} {it acc:Value} {env:Env}
  (h:wpAny (model wd.prog wd.w) A (pyNext it) (fun r s₁=>match r with
   | none=>R (.ok .next) s₁
   | some v=>wpAny (model wd.prog wd.w) A (letOwnedTupleGo target it v) (fun _ s₁'=>wpAny (model wd.prog wd.w) A (assign target env v) (fun _ s₂ =>
     wpAny (model wd.prog wd.w) A (forIn ifs true fun c r=>if r=true then do let ok ← isTrue c env (eval c env);pure (ForInStep.yield ok) else pure (ForInStep.yield r)) (fun ok s₃ =>
      if ok=true then wpAny (model wd.prog wd.w) A (eval elt env) (fun x s₄ =>
       wpAny (model wd.prog wd.w) A (call (.builtin "list.append") [acc,x]) (fun _ s₅=>codeAny (model wd.prog wd.w) A (.compLoop (.ListComp elt [⟨target,iter,ifs,0⟩] scope pos) 0 it acc env) R s₅) (NB wd A env R) s₄) (NB wd A env R) s₃
      else codeAny (model wd.prog wd.w) A (.compLoop (.ListComp elt [⟨target,iter,ifs,0⟩] scope pos) 0 it acc env) R s₃) (NB wd A env R) s₂) (NB wd A env R) s₁') (NB wd A env R) s₁) (NB wd A env R) s) :
  codeAny (model wd.prog wd.w) A (.compLoop (.ListComp elt [⟨target,iter,ifs,0⟩] scope pos) 0 it acc env) R s:=by
 refine codeAny_of_tree ?_
 show wpAny _ A ((compTurn (.ListComp elt [⟨target,iter,ifs,0⟩] scope pos) 0 it acc env).onRaise (fun x=>do noteFrame x env;theTreesLotGoes x)) _ _ s
 refine wpAny_noted ?_
 rw [compTurn_list]
 refine wpAny_bind (wpAny_standAt (wpAny_bind (wpAny_mono h (fun r s₁ h₁=>?_) fun _ _ h'=>h')))
 induction r with
 | none=>exact wpAny_pure h₁
 | some v =>
  refine wpAny_bind (wpAny_mono h₁ (fun _ s₁' h₁'=>?_) fun _ _ h'=>h')
  refine wpAny_bind (wpAny_mono h₁' (fun _ s₂ h₂=>wpAny_bind (wpAny_mono h₂ (fun ok s₃ h₃=>?_) fun _ _ h'=>h')) fun _ _ h'=>h')
  induction ok with
  | false=>exact wpAny_pure ⟨rfl,h₃⟩
  | true =>
   exact wpAny_bind (wpAny_bind (wpAny_mono h₃ (fun x s₄ h₄=>wpAny_bind (wpAny_mono h₄ (fun _ s₅ h₅=>wpAny_pure (wpAny_pure ⟨rfl,h₅⟩)) fun _ _ h'=>h')) fun _ _ h'=>h'))
theorem H9 {target:Expr} {it:Value} {body:List Stmt} {env:Env}
  (h:wpAny (model wd.prog wd.w) A (pyNext it) (fun r s₁=>match r with
   | none=>R (.ok .next) s₁
   | some v=>wpAny (model wd.prog wd.w) A (letOwnedTupleGo target it v) (fun _ s₁' =>
     wpAny (model wd.prog wd.w) A (assign target env v) (fun _ s₂=>wpAny (model wd.prog wd.w) A (execs body env) (fun f s₃=>match f with
      | .next | .cont=>codeAny (model wd.prog wd.w) A (.forLoop target it body [] env) R s₃
      | .brk=>R (.ok .next) s₃
      | .ret v=>R (.ok (.ret v)) s₃) (NB wd A env R) s₂) (NB wd A env R) s₁') (NB wd A env R) s₁) (NB wd A env R) s):codeAny (model wd.prog wd.w) A (.forLoop target it body [] env) R s:=by
 refine codeAny_of_tree ?_
 show wpAny _ A ((forTurn target it body [] env).onRaise (fun x=>do noteFrame x env;theTreesLotGoes x)) _ _ s
 refine wpAny_noted ?_
 simp only [forTurn]
 refine wpAny_bind (wpAny_standAt (wpAny_bind (wpAny_onRaise (wpAny_mono h (fun r s₁ h₁=>?_) fun _ _ h'=>wpAny_standAt h'))))
 induction r with
 | none=>exact wpAny_pure ⟨rfl,codeAny_block (wpAny_execs_nil h₁)⟩
 | some v =>
  refine wpAny_bind (wpAny_mono h₁ (fun _ s₁' h₁'=>?_) fun _ _ h'=>h')
  refine wpAny_bind (wpAny_mono h₁' (fun _ s₂ h₂=>wpAny_bind (wpAny_mono h₂ (fun f s₃ h₃=>?_) fun _ _ h'=>h')) fun _ _ h'=>h')
  induction f with
  | next=>exact wpAny_pure ⟨rfl,h₃⟩
  | cont=>exact wpAny_pure ⟨rfl,h₃⟩
  | brk=>exact wpAny_pure h₃
  | ret v=>exact wpAny_pure h₃
theorem S2 {test:Expr} {body:List Stmt} {env:Env}
  (h:wpAny (model wd.prog wd.w) A (isTrue test env (eval test env)) (fun b s₁=>if b=true then wpAny (model wd.prog wd.w) A (execs body env) (fun f s₃=>match f with
      | .next | .cont=>codeAny (model wd.prog wd.w) A (.whileLoop test body [] env) R s₃
      | .brk=>R (.ok .next) s₃
      | .ret v=>R (.ok (.ret v)) s₃) (NB wd A env R) s₁ else R (.ok .next) s₁) (NB wd A env R) s):codeAny (model wd.prog wd.w) A (.whileLoop test body [] env) R s:=by
 refine codeAny_of_tree ?_
 show wpAny _ A ((whileTurn test body [] env).onRaise (fun x=>do noteFrame x env;theTreesLotGoes x)) _ _ s
 refine wpAny_noted ?_
 simp only [whileTurn]
 refine wpAny_bind (wpAny_mono h (fun b s₁ h₁=>?_) fun _ _ h'=>h')
 induction b with
 | false=>exact wpAny_bind (wpAny_execs_nil (wpAny_pure h₁))
 | true =>
  refine wpAny_bind (wpAny_mono h₁ (fun f s₃ h₃=>?_) fun _ _ h'=>h')
  induction f with
  | next=>exact wpAny_pure ⟨rfl,h₃⟩
  | cont=>exact wpAny_pure ⟨rfl,h₃⟩
  | brk=>exact wpAny_pure h₃
  | ret v=>exact wpAny_pure h₃
end
section
variable {wd:Wd} {π π':List Addr} {σ σ':H} {X:List (Addr×Obj)} {A:Around} {Er:Value→Shared→Prop} {s:Shared} {sc:Sc} {env:Env} {fr:Fr} {ob:Obj} {n:Nat}
variable {Q:KS} {Qx:Flow→Shared→Prop}
structure SS (n:Nat):Prop where
 ex:∀ {wd:Wd} {sc:Sc} {env:Env} {fr:Fr} {ob:Obj} {π:List Addr} {σ:H} {X:List (Addr×Obj)} {A:Around} {s:Shared} {sx:PySem.Stmt} {e:S} {Q:KS} {Qx:Flow→Shared→Prop} {Er:Value→Shared→Prop},
  trS n sc sx=some e→wS e fr σ Q→At wd sc env fr ob π σ X A s→KWf wd env X s Q Qx π sc.loc→wpAny (model wd.prog wd.w) A (exec sx env) Qx Er s
theorem E4 (H:SS n):∀ {sx:List PySem.Stmt} {ss:List S} {fr:Fr} {ob:Obj} {σ:Mine.H} {π:List Addr} {s:Shared} {Q:KS},
  stmtsL (trS n sc) sx=some ss→wSs ss fr σ Q→At wd sc env fr ob π σ X A s→KWf wd env X s Q Qx π sc.loc→wpAny (model wd.prog wd.w) A (execs sx env) Qx Er s
 | [],ss,fr,ob,σ,π,s,Q,ht,q,a,k=>by
  obtain rfl:=Option.some.inj ht
  exact wpAny_execs_nil (k _ _ σ π .next s.heap s.toks ob q (Le.refl π) a.inv rfl a.fo a.tk)
 | sx1 :: sx,ss,fr,ob,σ,π,s,Q,ht,q,a,k=>by
  refine An (M:=fun ss=>wSs ss fr σ Q→_) ht (fun s1 ss1 h1 h2 q=>?_) q
  refine wpAny_execs_cons (H.ex h1 q.ev a fun fl ρ1 σ1 π1 f h' t' ob' q1 l1 I1 hf fo ht1=>?_)
  induction fl with
  | next=>subst hf;exact E4 H h2 q1 (a.step l1 I1 fo ht1) (k.le l1)
  | brk=>subst hf;exact k _ _ σ1 π1 _ h' t' ob' q1 l1 I1 rfl fo ht1
  | ret v=>(refine Aa hf ?_;try clear hf;intro x z_1 hx;obtain rfl:=z_1);exact k _ _ σ1 π1 _ h' t' ob' q1 l1 I1 ⟨x,rfl,hx⟩ fo ht1
theorem S3 {ex:PySem.Expr} (h:Fz ex=false) (t:Option PySem.Expr) (l:Nat) (env:Env):swapsWith ex t l env=pure false:=by
 cases ex<;>first | rfl | cases h
theorem bk {t v:PySem.Expr} (h:(Ez t&&Ez v)=false) (hl:∀ es p,t≠.List es p) (env:Env):swappedStores [t] v env=pure none:=by
 cases t with
 | List es p=>exact absurd rfl (hl _ _)
 | Tuple es k p=>cases v<;>first | rfl | cases h
 | _=>rfl
theorem Nn {c:Code} (h:codeAny (model wd.prog wd.w) A c (OkR Qx) s):codeAny (model wd.prog wd.w) A c (fun r s'=>match r with | .ok f=>Qx f s' | .error e=>cameBackBy (model wd.prog wd.w) A env Er e s') s :=
 codeAny_mono h fun r s' hr=>by cases r with
  | ok f=>exact hr
  | error e=>exact hr.elim
theorem bl {t:PySem.Expr} {t':T} (h:trT n sc t=some t'):(assignEach [t] env).map (·.2)=[assign t env]∧∀ es p,t≠.List es p:=by
 cases t with
 | Name x p=>exact ⟨rfl,fun _ _ q=>nomatch q⟩
 | Tuple es k p=>exact ⟨rfl,fun _ _ q=>nomatch q⟩
 | Attribute o a p=>exact ⟨rfl,fun _ _ q=>nomatch q⟩
 | Subscript o i p=>exact ⟨rfl,fun _ _ q=>nomatch q⟩
 | _=>exact nn h
theorem bn {x:Str} {p:PySem.Pos} {ex:PySem.Expr} (ok:EnvOk sc env) (h:H0 x p ex=true) (hl:sc.ko.lookup x=some .local) (l:Nat):swapsWith ex (some (.Name x p)) l env=pure true:=by
 cases ex with
 | ListComp elt gens s q =>
  haveI h1:(p.line==q.line)=true:=(Bool.and_eq_true_iff.mp h).1
  haveI h2:(s.names.any fun z=>z.1==x&&(z.2==.local||z.2==.cell))=false:=Bool.not_eq_true' _▸(Bool.and_eq_true_iff.mp h).2
  unfold swapsWith
  dsimp only
  haveI hb:env.blockKind=.function:=by unfold Env.blockKind;rw [ok.kind];rfl
  rw [hb,(ok.ko x).trans hl,h2]
  show pure ((ScopeKind.function==ScopeKind.function)&&(some NameKind.local==some NameKind.local)&&(p.line==q.line)&&!false)=_
  rw [h1]
  rfl
 | _=>exact nomatch h
theorem S4 {ts:List PySem.Expr} {t:PySem.Expr} (h:H2 ts=some t):ts=[t]:=by
 induction ts with
 | nil=>exact nn h
 | cons a ts=>induction ts with
  | nil=>obtain rfl:=Option.some.inj h;rfl
  | cons _ _=>exact nn h
theorem bp {ts:List PySem.Expr} {t:Str×Str} (h:Ru ts=some t):∃ px py,ts=[.Name t.1 px,.Name t.2 py]:=by
 cases ts with
 | nil=>exact nn h
 | cons a ts=>cases ts with
  | nil=>exact nn h
  | cons b ts=>induction ts with
   | cons _ _=>exact nn h
   | nil =>
    refine An (f:=fun (x y:Str×PySem.Pos)=>(x.1,y.1)) (M:=fun t=>∃ px py,[a,b]=[.Name t.1 px,.Name t.2 py]) h fun x y h1 h2=>?_
    rw [G4 h1,G4 h2]
    exact ⟨_,_,rfl⟩
theorem bq {t:PySem.Expr} {p:Str×Str} (h:M4 t=some p):∃ px py k q,t=.Tuple [.Name p.1 px,.Name p.2 py] k q:=by
 cases t with
 | Tuple es k q =>
  (refine A3 (bp h) ?_;intro px py z_2;obtain rfl:=z_2)
  exact ⟨_,_,_,_,rfl⟩
 | _=>exact nn h
theorem bt {t:PySem.Expr} {p:Str×PySem.Expr} (h:M5 t=some p):∃ pf q,t=.Call (.Name p.1 pf) [p.2] [] q:=by
 cases t with
 | Call f as kws q =>
  induction kws with
  | cons _ _=>exact nn h
  | nil =>
   refine An (f:=fun (x:Str×PySem.Pos) (a:PySem.Expr)=>(x.1,a)) (M:=fun p=>∃ pf q',PySem.Expr.Call f as [] q=.Call (.Name p.1 pf) [p.2] [] q') h fun x y h1 h2=>?_
   rw [G4 h1,S4 h2]
   exact ⟨_,_,rfl⟩
 | _=>exact nn h
theorem bu (H:SE n) {ts:List PySem.Expr} {val:PySem.Expr} {p:PySem.Pos} {e:S} (h:trS (n+1) sc (.Assign ts val p)=some e) (q:wS e fr σ Q) (a:At wd sc env fr ob π σ X A s) (k:KWf wd env X s Q Qx π sc.loc)
  (H1:∀ m,n=m+1→SE m):wpAny (model wd.prog wd.w) A (exec (.Assign ts val p) env) Qx Er s:=by
 haveI h1:(match H2 ts with
   | some t=>cond (Fz val) (match nmK t with
     | some (x,p)=>gd (H0 x p val&&sc.ko.lookup x==some .local) (o2 .asc (place? x sc.loc) (trE n sc val))
     | none=>none)
    (gd (!(Ez t&&Ez val)) (o2 .asg (trT n sc t) (trE n sc val)))
   | none=>none)=some e:=h
 cases h0:H2 ts with
 | none=>rw [h0] at h1;exact nn h1
 | some t =>
  rw [h0] at h1
  cases S4 h0
  haveI h2:cond (Fz val) (match nmK t with
     | some (x,p)=>gd (H0 x p val&&sc.ko.lookup x==some .local) (o2 .asc (place? x sc.loc) (trE n sc val))
     | none=>none)
    (gd (!(Ez t&&Ez val)) (o2 .asg (trT n sc t) (trE n sc val)))=some e:=h1
  cases hc:Fz val with
  | true =>
   rw [hc] at h2
   have h2:(match nmK t with
     | some (x,p)=>gd (H0 x p val&&sc.ko.lookup x==some .local) (o2 .asc (place? x sc.loc) (trE n sc val))
     | none=>none)=some e:=h2
   cases hn:nmK t with
   | none=>rw [hn] at h2;exact nn h2
   | some x =>
    rcases x with ⟨x,px⟩
    rw [hn] at h2
    cases G4 hn
    haveI hb:=Cp h2
    rw [Bool.and_eq_true] at hb
    (refine Ac hb ?_;try clear hb;intro hb1 hb2)
    haveI hl:=eq_of_beq hb2
    refine An (M:=fun e=>wS e fr σ Q→_) (Br h2) (fun i e1 hi g1 q=>?_) q
    induction n with
    | zero=>exact nn g1
    | succ m =>
     rw [exec_Assign_Name_used _ _ _ _ (bn a.ok hb1 hl _)]
     refine wpAny_bind (wpAny_standAt (wpAny_bind (az (H1 m rfl) g1 hc q a fun v σ1 π1 d C obc h2 t' q1 l1 I1 hm hvd ht1=>?_)))
     haveI a1:At wd sc env fr ob π1 σ1 ((C,obc) :: X) A ⟨h2,s.gens,s.drawn,t',s.os⟩:=⟨a.wk,a.ok,a.fo.le l1,a.ce.le l1,a.ao,ht1,I1.swap,a.bb.le l1⟩
     rw [arm_assign_Name]
     refine wpAny_bind (wpAny_standAt (storeL (Qt:=fun ρ σ=>Q .next ρ σ) a1 hl hi hvd q1 fun ρ2 σ2 π2 h3 t3 ob2 q2 l2 I2 fo2 ht2=>?_))
     (refine Ad hm ?_;try clear hm;intro mm hn)
     refine ⟨mm,hn.ns (I2.ext _ (.tail _ (.head _))),fun h'' hs=>wpAny_pure ?_⟩
     exact k _ _ σ2 π2 .next h'' t3 ob2 q2 (l1.trans l2) (I2.swap.dropE fun b o hb' e'=>hs.extBut b o hb' e') rfl fo2 ht2
  | false =>
   rw [hc] at h2
   refine An (M:=fun e=>wS e fr σ Q→_) (Br h2) (fun t1 e1 g1 g2 q=>?_) q
   (refine Ac (bl (env:=env) g1) ?_;intro z1 z2)
   rw [arm_exec_Assign]
   haveI e3:swapsWithSole [t] val p.line env=pure false:=S3 hc _ _ _
   rw [e3,bk (H7 (Cp h2)) z2,z1]
   refine wpAny_bind (wpAny_standAt (wpAny_bind (wpAny_pure ?_)))
   rw [if_neg Bool.false_ne_true]
   refine wpAny_bind (H.ev g2 q a fun v σ1 π1 x h3 t' q1 l1 I1 hx ht1=>wpAny_bind (wpAny_pure ?_))
   show wpAny _ _ (do assign t env x;pure Flow.next) _ _ _
   exact wpAny_bind (asg_sound H g1 (a.next l1 I1 ht1) hx q1 fun ρ2 σ2 π2 h4 t4 ob2 q2 l2 I2 fo2 ht2=>wpAny_pure (k _ _ σ2 π2 .next h4 t4 ob2 q2 (l1.trans l2) I2 rfl fo2 ht2))
theorem bv (H:SE n) {t val:PySem.Expr} {op:Operator} {p:PySem.Pos} {e:S} (h:trS (n+1) sc (.AugAssign t op val p)=some e) (q:wS e fr σ Q) (a:At wd sc env fr ob π σ X A s) (k:KWf wd env X s Q Qx π sc.loc) :
  wpAny (model wd.prog wd.w) A (exec (.AugAssign t op val p) env) Qx Er s:=by
 haveI h1:(match nmK t with
   | some (x,_)=>gd (sc.ko.lookup x==some .local) (o2 (fun i e=>.aug i op e) (place? x sc.loc) (trE n sc val))
   | none=>none)=some e:=h
 cases hn:nmK t with
 | none=>rw [hn] at h1;exact nn h1
 | some x =>
  rcases x with ⟨x,px⟩
  rw [hn] at h1
  cases G4 hn
  have hl:=eq_of_beq (Cp h1)
  refine An (f:=fun i e=>S.aug i op e) (M:=fun e=>wS e fr σ Q→_) (Br h1) (fun i e1 hi g1 q=>opt_e q fun u hu q=>?_) q
  induction u with
  | int xi =>
   (refine Aa (id a.fo) ?_;intro mm hn hf)
   rcases hf i x (.int xi) (Cl hi) (join_some hu) with ⟨xv,q1,t1,rfl⟩
   rw [exec_AugAssign_Name]
   refine wpAny_bind (wpAny_standAt (wpAny_bind (wpAny_loadName_local a.ok.kind ((a.ok.ko x).trans hl) (hn.ns (a.inv.ext _ (.head _))) q1 ?_)))
   refine wpAny_bind (wpAny_holding (H.ev g1 q a fun v σ1 π1 yv h2 t' q2 l1 I1 hy ht1=>wpAny_bind (wpAny_standAt (wpAny_bind (wpAny_operating ?_)))))
   induction v with
   | int y =>
    (refine Ad hy ?_;try clear hy;intro t2 z_1;obtain rfl:=z_1)
    haveI fin:∀ z:Int,Q .next (fr.ρ.set i (some (.int z))) σ1→wpAny (model wd.prog wd.w) A (standAt px >>= fun _=>bindName env x (.int z t') >>= fun _=>pure Flow.next) Qx Er ⟨h2,s.gens,s.drawn,t'+1,s.os⟩:=fun z qz =>
     wpAny_bind (wpAny_standAt (wpAny_bind (storeL (v:=.int z) (Qt:=fun ρ σ=>Q .next ρ σ) (a.next (t':=t'+1) l1 I1 (Nat.succ_pos _)) hl hi ⟨_,rfl⟩ qz fun ρ2 σ2 π2 h4 t4 ob2 q3 l2 I2 fo2 ht2=>wpAny_pure
      (k _ _ σ2 π2 .next h4 t4 ob2 q3 (l1.trans l2) I2 rfl fo2 ht2))))
    induction op with
    | Add=>exact wpAny_iadd_int (fin _ q2)
    | Sub=>exact PyProof.Rows.isub_int (fin _ q2)
    | _=>exact q2.elim
   | _=>exact q2.elim
  | _=>exact q.elim
theorem bw (H:SE n) {t it:PySem.Expr} {b els:List PySem.Stmt} {p:PySem.Pos} {e:S} (h:trS (n+1) sc (.For t it b els p)=some e) (q:wS e fr σ Q) (a:At wd sc env fr ob π σ X A s) (k:KWf wd env X s Q Qx π sc.loc) :
  wpAny (model wd.prog wd.w) A (exec (.For t it b els p) env) Qx Er s:=by
 have hb:=Cp h
 haveI h1:=Br h
 induction els with
 | cons _ _=>exact nf hb
 | nil =>
  have gen:o3 .for (trT n sc t) (trE n sc it) (stmtsL (trS n sc) b)=some e→wpAny (model wd.prog wd.w) A (exec (.For t it b [] p) env) Qx Er s:=fun h1=>by
   refine F0 (M:=fun e=>wS e fr σ Q→_) h1 (fun t1 e1 b1 g1 g2 g3 q=>?_) q
   refine wpAny_For ?_ ((K9 g2).2.1 env)
   refine H.ev g2 q a fun v σ1 π1 x hp t' q1 l1 I1 hx ht1=>opt_e q1 fun it1 hit q1=>?_
   refine Rq I1 hx hit fun ia iob hp2 hIt I2=>?_
   exact Nn (q1.ev wd n sc env t b π1 ia iob X ob A _ Qx g1 g3 hIt ⟨a.wk,a.ok,a.fo.le l1,a.ce.le l1,a.ao,ht1,I2.swap,a.bb.le l1⟩ (k.le l1))
  cases hp:M4 t with
  | none=>rw [hp] at h1;exact gen h1
  | some xy =>
   cases he:M5 it with
   | none=>rw [hp,he] at h1;exact gen h1
   | some fs =>
    rcases xy with ⟨x,y⟩
    rcases fs with ⟨f,src⟩
    rw [hp,he] at h1
    (refine Qo (bq hp) ?_;intro px py kt pt z_4;obtain rfl:=z_4)
    (refine A3 (bt he) ?_;intro pf pc z_2;obtain rfl:=z_2)
    haveI hb:=Cp h1
    simp only [Bool.and_eq_true,beq_iff_eq] at hb
    (refine As hb ?_;try clear hb;intro z_0 hx hy;refine As z_0 ?_;intro hf1 hf2 hf3)
    refine Rs (M:=fun e=>wS e fr σ Q→_) (Br h1) (fun i j e1 b1 hi hj g1 g2 q=>?_) q
    haveI htL:A9 (trE n sc) [src]=some [e1]:=by
     show o2 List.cons (trE n sc src) (some [])=_
     rw [g1];rfl
    (refine Ai (a.wk.glob f _ hf3) ?_;intro mg mb z1 z2 z3)
    haveI z1':s.heap.Ns env.globals mg:=a.ok.glob▸z1.keeps a.inv.base
    have rest:wpAny (model wd.prog wd.w) A (callWith pc (.type "enumerate") [] (backTo pc (starEach [src] env)) (backToKw pc (keywordEach [] env))) (fun xx s₁=>wpAny (model wd.prog wd.w) A (pyIter xx) (fun it s₂ =>
      codeAny (model wd.prog wd.w) A (.forLoop (.Tuple [.Name x px,.Name y py] kt pt) it b [] env) (fun r s'=>match r with | .ok f=>Qx f s' | .error e=>cameBackBy (model wd.prog wd.w) A env Er e s') s₂) Er s₁) Er s:=by
     refine Lh H (Qs:=fun vs σ=>match vs with
      | [v]=>(match v with
       | .ref l=>opt (H4 σ[l]?) fun _=>Fe fr i j l 0 b1 σ Q
       | _=>False)
      | _=>False) htL q a fun vs σ2 π2 xs h'' t'' q2 l2 I2 hxs ht2=>wpAny_pure ?_
     cases vs with
     | nil=>exact q2.elim
     | cons v vs=>induction vs with
      | cons _ _=>exact q2.elim
      | nil=>induction v with
       | ref l =>
        refine opt_e q2 fun _ ho q2=>?_
        (refine Ad (M8 ho) ?_;intro vs ho)
        (refine Ai hxs ?_;try clear hxs;intro _ _ z_2 z_3 z_4;obtain rfl:=z_2;refine Aa z_3 ?_;intro la hla z_2;obtain rfl:=z_2;obtain rfl:=z_4)
        (refine Ai (list_at (s:=⟨h'',s.gens,s.drawn,t'',s.os⟩) I2 hla ho) ?_;intro xs c hL rr _)
        refine call_enumerate_list (IsL.isList hL) fun h3 he hit hsz hk=>?_
        dsimp only at he hit hsz hk ⊢
        refine wpAny_pyIter_enum he ?_
        (refine Au hit ?_;try clear hit;intro iob e1 e2 e3)
        (refine As (I2.past (a:=h''.objs.size) (Nat.le_refl _)) ?_;intro p1 p2 p3)
        (refine As (I2.past (a:=h''.objs.size+1) (Nat.le_succ _)) ?_;intro q1 q4 q3)
        haveI I3:=(I2.keep hk).takeX p1 p2 p3 e1
        haveI I4:=I3.takeX q1 q4 (by
         rw [List.map_cons,List.mem_cons]
         rintro (z | z)
         ·exact absurd z (Nat.succ_ne_self _)
         ·exact q3 z) he
        exact Nn (q2.ev wd n sc env x y px py pt kt b π2 _ _ _ _ X ob A _ Qx hx hy hi hj g2 ⟨la,.none,hla,rfl,e2,e3⟩ ⟨a.wk,a.ok,a.fo.le l2,a.ce.le l2,a.ao,ht2,I4.rot',a.bb.le l2⟩ (k.le l2))
       | _=>exact q2.elim
    refine wpAny_For ?_
    rw [Sk (by rfl)]
    refine wpAny_bind (Name_function_global a.ok.kind ((a.ok.ko f).trans hf2) ?_ (show (f==("__debug__":Str))=false by rw [hf1];decide))
    focus (refine oe z3 ?_ ?_;rotate_left;(try clear z3;intro z_o;refine Ac z_o ?_;intro z3 z4);rotate_right;(try clear z3;intro z3))
    ·exact loadGlobal_global z1' z3 rest
    ·exact loadGlobal_builtin z1' z3 (a.ok.bui▸z2.keeps a.inv.base) z4 rest
end
end Z
end
section
open PySem PySem.W PyProof.Rows PySem.Calls
namespace Z
open Mine.Y
section
variable {wd:Wd} {π π':List Addr} {σ σ':H} {X:List (Addr×Obj)} {A:Around} {Er:Value→Shared→Prop} {s:Shared} {sc:Sc} {env:Env} {fr:Fr} {ob:Obj} {n:Nat}
variable {Q:KS} {Qx:Flow→Shared→Prop}
theorem bz (H:SS n) {sx:PySem.Stmt} {e:S} (h:trS (n+1) sc sx=some e) (q:wS e fr σ Q) (a:At wd sc env fr ob π σ X A s) (k:KWf wd env X s Q Qx π sc.loc) :
  wpAny (model wd.prog wd.w) A (exec sx env) Qx Er s:=by
 cases sx with
 | Expr x p =>
  refine o1_e (M:=fun e=>wS e fr σ Q→_) (Br h) (fun e1 h1 q=>?_) q
  refine wpAny_Expr_any ((Cc n).ev h1 q a fun v σ1 π1 x h2 t' q1 l1 I1 hx ht1=>?_) a.ok.inter (S3 (H7 (Cp h)) _ _ _)
  induction v with
  | none=>exact k _ _ σ1 π1 .next h2 t' ob q1 l1 I1 rfl (a.fo.le l1) ht1
  | int i=>exact k _ _ σ1 π1 .next h2 t' ob q1 l1 I1 rfl (a.fo.le l1) ht1
  | _=>exact q1.elim
 | Break p =>
  obtain rfl:=Option.some.inj h
  exact wpAny_bind (wpAny_standAt (wpAny_pure (k _ _ σ π .brk s.heap s.toks ob q (Le.refl π) a.inv rfl a.fo a.tk)))
 | Raise e c p=>obtain rfl:=Option.some.inj h;exact q.elim
 | Return val p =>
  induction val with
  | none=>obtain rfl:=Option.some.inj h;exact wpAny_Return_none (k _ _ σ π _ s.heap s.toks ob q (Le.refl π) a.inv ⟨_,rfl,rfl⟩ a.fo a.tk)
  | some x =>
   refine o1_e (M:=fun e=>wS e fr σ Q→_) h (fun e1 h1 q=>?_) q
   exact wpAny_Return_some ((Cc n).ev h1 q a fun v σ1 π1 x h2 t' q1 l1 I1 hx ht1=>k _ _ σ1 π1 (.ret x) h2 t' ob q1 l1 I1 ⟨x,rfl,hx⟩ (a.fo.le l1) ht1)
 | Assign ts val p=>exact bu (Cc n) h q a k fun m _=>Cc m
 | AugAssign t op val p=>exact bv (Cc n) h q a k
 | If t b o p =>
  refine F0 (M:=fun e=>wS e fr σ Q→_) h (fun e1 b1 o1 h1 h2 h3 q=>?_) q
  refine wpAny_If ((Cc n).bo h1 q a fun c σ1 π1 hp t' q1 l1 I1 ht1=>?_)
  induction c with
  | true=>exact E4 H h2 q1 (a.next l1 I1 ht1) (k.le l1)
  | false=>exact E4 H h3 q1 (a.next l1 I1 ht1) (k.le l1)
 | While t b els p =>
  have hb:=Cp h
  have h0:=Br h
  induction els with
  | cons _ _=>exact nf hb
  | nil =>
   refine An (M:=fun e=>wS e fr σ Q→_) h0 (fun e1 b1 h1 h2 q=>?_) q
   exact wpAny_While (Nn ((show Wl fr e1 b1 σ Q from q).ev wd n sc env t b π X ob A s Qx h1 h2 a k))
 | For t it b els p=>exact bw (Cc n) h q a k
 | _=>exact nn h
theorem F4:∀ n:Nat,SS n
 | 0=>⟨fun h=>nn h⟩
 | n+1=>⟨fun h q a k=>bz (F4 n) h q a k⟩
theorem Lj {again:List (Option V)→Mine.H→Prop} {R:Result→Shared→Prop} {fl:Fl} {ρ:List (Option V)} {f:Flow} {C:Shared→Prop} {s1:Shared} (q:lk Q again fl ρ σ) (hf:Rw π fl f)
  (h1:again ρ σ→C s1) (h2:Q .next ρ σ→R (.ok .next) s1) (h3:∀ v x,Q (.ret v) ρ σ→Ah π v x→R (.ok (.ret x)) s1) :
  match (generalizing:=false) f with
   | .next | .cont=>C s1
   | .brk=>R (.ok .next) s1
   | .ret v=>R (.ok (.ret v)) s1:=by
 induction fl with
 | next=>subst hf;exact h1 q
 | brk=>subst hf;exact h2 q
 | ret v=>(refine Aa hf ?_;try clear hf;intro x z_1 hx;obtain rfl:=z_1);exact h3 v x q hx
end
end Z
namespace Y
open Mine.Z (Cc F4 Lj S2 H9 E4)
theorem S5 {fr:Fr} {t:E} {b:List S} {σ:H} {Q:KS} (h:(wP fr t).2 σ fun c σ=>cond c (wSs b fr σ (lk Q fun ρ σ=>Wl ⟨fr.dp,ρ,fr.cl⟩ t b σ Q)) (Q .next fr.ρ σ)):Wl fr t b σ Q:=by
 refine Wl.mk fun wd m sc env tx bx π X ob A s Qx h1 h2 a k=>S2 ((Cc m).bo h1 h a fun c σ1 π1 h' t' q1 l1 I1 ht1=>?_)
 induction c with
 | false=>exact k _ _ σ1 π1 .next h' t' ob q1 l1 I1 rfl (a.fo.le l1) ht1
 | true =>
  have a1:=a.next (g:=s.gens) (d:=s.drawn) (o:=s.os) l1 I1 ht1
  refine E4 (F4 m) h2 q1 a1 fun fl ρ2 σ2 π2 f hp2 t2 ob2 q2 l2 I2 hf fo ht2=>?_
  exact Lj (R:=Z.OkR Qx) q2 hf (fun q=>q.ev wd m sc env tx bx π2 X ob2 A _ Qx h1 h2 (a1.step l2 I2 fo ht2) (k.le (l1.trans l2))) (fun q=>k _ _ σ2 π2 .next hp2 t2 ob2 q (l1.trans l2) I2 rfl fo ht2) fun v x q hx=>k _ _ σ2 π2 (.ret x) hp2 t2 ob2 q (l1.trans l2) I2 ⟨x,rfl,hx⟩ fo ht2
theorem Eg {fr:Fr} {t:T} {it:It} {b:List S} {σ:H} {Q:KS} (hn:Bz σ it=some none) (h:Q .next fr.ρ σ):Fo fr t it b σ Q :=
 Fo.mk fun wd m sc env tx bx π ia iob X ob A s Qx h1 h2 hIt a k=>H9 (Z.next_sound a.ao hIt a.inv.swap hn (fun hp I1=>k _ _ σ π .next hp s.toks ob h (Z.Le.refl π) I1 rfl a.fo a.tk))
theorem S6 {fr:Fr} {t:T} {it it':It} {v:V} {b:List S} {σ:H} {Q:KS} (hn:Bz σ it=some (some (v,it'))) (h:wT fr t v σ fun ρ σ=>wSs b ⟨fr.dp,ρ,fr.cl⟩ σ (lk Q fun ρ σ=>Fo ⟨fr.dp,ρ,fr.cl⟩ t it' b σ Q)):Fo fr t it b σ Q:=by
 refine Fo.mk fun wd m sc env tx bx π ia iob X ob A s Qx h1 h2 hIt a k=>H9 (Z.tok_up a.tk (Z.next_sound a.ao hIt a.inv.swap hn fun y iob1 hp t1 hy hIt1 I1=>?_))
 intro ht1
 dsimp only at ht1 ⊢
 refine Z.owned_sound hIt1 (I1.ext _ (.head _)) ?_
 have a1:Z.At wd sc env fr ob π σ ((ia,iob1) :: X) A ⟨hp,s.gens,s.drawn,t1,s.os⟩:=⟨a.wk,a.ok,a.fo,a.ce,a.ao,ht1,I1.swap,a.bb⟩
 refine Z.asg_sound (Cc m) h1 a1 hy h fun ρ2 σ2 π2 hp2 t2 ob2 q2 l2 I2 fo2 ht2=>?_
 have a2:=a1.step (g:=s.gens) (d:=s.drawn) (o:=s.os) l2 I2 fo2 ht2
 refine E4 (F4 m) h2 q2 a2 fun fl ρ3 σ3 π3 f hp3 t3 ob3 q3 l3 I3 hf fo3 ht3=>?_
 have l4:=l2.trans l3
 exact Lj (R:=Z.OkR Qx) q3 hf (fun q=>q.ev wd m sc env tx bx π3 ia iob1 X ob3 A _ Qx h1 h2 (hIt1.le l4) (a2.step l3 I3 fo3 ht3) (k.le l4)) (fun q=>k _ _ σ3 π3 .next hp3 t3 ob3 q l4 I3.swap.drop rfl fo3 ht3) fun v x q hx=>k _ _ σ3 π3 (.ret x) hp3 t3 ob3 q l4 I3.swap.drop ⟨x,rfl,hx⟩ fo3 ht3
theorem b0 {fr:Fr} {i j l k:Nat} {b:List S} {σ:H} {vs:List V} {Q:KS} (hl:σ[l]?=some (.list vs)) (hk:vs[k]?=none) (h:Q .next fr.ρ σ):Fe fr i j l k b σ Q:=by
 refine Fe.mk fun wd m sc env x y px py pt kt bx π ea ia eob iob X ob A s Qx hx hy hi hj h2 hen a kk=>H9 ?_
 (refine Dp hen ?_;try clear hen;intro la old hla z_3 hc hd;obtain rfl:=z_3)
 have I0:=a.inv.rot
 (refine Ai (Z.list_at I0 hla hl) ?_;intro xs c hL rr _)
 have hlen:=rr.len
 refine wpAny_pyNext_enum_end a.ao.handled (I0.ext _ (.head _):IsEnum s.heap ea ia (k:Int) old) ⟨iob,I0.ext _ (.tail _ (.head _)),hc,hd⟩ (IsL.isList hL) (by rw [← Array.getElem?_toList,List.getElem?_eq_none_iff];rw [List.getElem?_eq_none_iff] at hk;exact Nat.le_trans (Nat.le_of_eq hlen) hk) fun h1 hs=>?_
 exact kk _ _ σ π .next h1 s.toks ob h (Z.Le.refl π) (I0.swap.dropE (h':=h1) fun b o hb' e'=>hs b o hb' e').drop rfl a.fo a.tk
theorem b5 {fr:Fr} {i j l k:Nat} {v:V} {b:List S} {σ:H} {vs:List V} {Q:KS} (hl:σ[l]?=some (.list vs)) (hk:vs[k]?=some v)
  (h:wSs b ⟨fr.dp,(fr.ρ.set i (some (.int k))).set j (some v),fr.cl⟩ σ (lk Q fun ρ σ=>Fe ⟨fr.dp,ρ,fr.cl⟩ i j l (k+1) b σ Q)):Fe fr i j l k b σ Q:=by
 refine Fe.mk fun wd m sc env x y px py pt kt bx π ea ia eob iob X ob A s Qx hx hy hi hj h2 hen a kk=>H9 ?_
 (refine Dp hen ?_;try clear hen;intro la old hla z_3 hc hd;obtain rfl:=z_3)
 have I0:=a.inv.rot
 (refine Ai (Z.list_at I0 hla hl) ?_;intro xs c hL rr _)
 have he:IsEnum s.heap ea ia (k:Int) old:=I0.ext _ (.head _)
 have hne:ea≠ia:=by
  have nd:=I0.nd
  rw [List.nodup_append,List.map_cons,List.map_cons,List.nodup_cons] at nd
  exact fun z=>nd.2.1.1 (by rw [z];exact .head _)
 (refine Aa (rr.get hk) ?_;intro z hz hvz)
 rw [Array.getElem?_toList] at hz
 refine wpAny_pyNext_enum_item he ⟨iob,I0.ext _ (.tail _ (.head _)),hc,hd⟩ (IsL.isList hL) hz hne fun h1 heo hit1 ht1 hz1 hk1=>?_
 refine wpAny_letOwnedTupleGo_enum heo fun h3 he3 hs3=>?_
 dsimp only at hs3
 (refine Au hit1 ?_;try clear hit1;intro iob1 e1 e2 e3)
 have eiob:h3.get? ia=some iob1:=hs3.extBut _ _ (Ne.symm hne) e1
 have I3:Z.Inv wd π σ ((ea,_) :: (ia,iob1) :: (env.locals,ob) :: X) h3:=I0.turnP (fun c o c1 c2 e'=>hs3.extBut c o c1 (hk1 c o c1 c2 e')) he3 eiob
 have ea_lt:ea < s.heap.objs.size:=Heap.lt_size he
 have ht3:h3.IsTuple s.heap.objs.size #[.int k s.toks,z]:=⟨_,(hs3.2 _ (Nat.ne_of_gt ea_lt)).trans ht1,rfl,_,rfl⟩
 refine assign_Tuple_tuple a.ao.handled ht3 rfl rfl fun h4 hx4=>?_
 dsimp only at hx4
 have I4:Z.Inv wd π σ ((env.locals,ob) :: (ea,_) :: (ia,iob1) :: X) h4:=(I3.keep (h':=h4) fun b o e=>hx4 b o (Nat.ne_of_lt (Heap.lt_size e)) e).rot'
 have a4:Z.At wd sc env fr ob π σ ((ea,_) :: (ia,iob1) :: X) A ⟨h4,s.gens,s.drawn,s.toks+1,s.os⟩:=⟨a.wk,a.ok,a.fo,a.ce,a.ao,Nat.succ_pos _,I4,a.bb⟩
 have hk':((k+1:Nat):Int)=(k:Int)+1:=rfl
 show wpAny _ A (do holding [z] (do standAt px;bindName env x (.int k s.toks));do holding [] (do standAt py;bindName env y z);pure ()) _ _ _
 refine wpAny_bind (wpAny_holding (wpAny_bind (wpAny_standAt (Z.storeL (v:=.int k) (Qt:=fun ρ τ=>fr.ρ.set i (some (.int k))=ρ∧σ=τ) a4 hx hi ⟨_,rfl⟩ ⟨rfl,rfl⟩ fun ρ5 σ5 π5 h5 t5 ob5 q5 l5 I5 fo5 ht5=>?_))))
 (refine Ac q5 ?_;try clear q5;intro z_0 z_1;obtain rfl:=z_0;obtain rfl:=z_1)
 have a5:=a4.step (g:=s.gens) (d:=s.drawn) (o:=s.os) l5 I5 fo5 ht5
 refine wpAny_bind (wpAny_holding (wpAny_bind (wpAny_standAt (Z.storeL (Qt:=fun ρ τ=>(fr.ρ.set i (some (.int k))).set j (some v)=ρ∧σ=τ) a5 hy hj (hvz.le l5) ⟨rfl,rfl⟩ fun ρ6 σ6 π6 h6 t6 ob6 q6 l6 I6 fo6 ht6=>wpAny_pure ?_))))
 (refine Ac q6 ?_;try clear q6;intro z_0 z_1;obtain rfl:=z_0;obtain rfl:=z_1)
 have a6:=a5.step (g:=s.gens) (d:=s.drawn) (o:=s.os) l6 I6 fo6 ht6
 refine E4 (F4 m) h2 h a6 fun fl ρ7 σ7 π7 f h7 t7 ob7 q7 l7 I7 hf fo7 ht7=>?_
 have l8:=(l5.trans l6).trans l7
 exact Lj (R:=Z.OkR Qx) q7 hf (fun q=>q.ev wd m sc env x y px py pt kt bx π7 ea ia _ iob1 X ob7 A _ Qx hx hy hi hj h2 ⟨la,z,Z.get_le l8 hla,by rw [hk'],e2,e3⟩ (a6.step l7 I7 fo7 ht7) (kk.le l8))
  (fun q=>kk _ _ σ7 π7 .next h7 t7 ob7 q l8 I7.rot.drop.drop rfl fo7 ht7) fun v x q hx=>kk _ _ σ7 π7 (.ret x) h7 t7 ob7 q l8 I7.rot.drop.drop ⟨x,rfl,hx⟩ fo7 ht7
end Y

end
section
open PySem PySem.W PyProof.Rows PySem.Calls
namespace Z
open Mine.Y
theorem tgt_run {n:Nat} {sc:Sc} {tx:PySem.Expr} {one:Bool} {tg:List Nat} {fr:Fr} {v:V} {σ:H} {ρ:List (Option V)} (h1:tgtL sc.loc sc.ko tx=some (one,tg)) (h2:Fp fr tg one v σ=some ρ) :
  ∃ t,trT n sc tx=some t∧wT fr t v σ fun ρ' σ'=>ρ=ρ'∧σ=σ':=by
 cases tx with
 | Name x p =>
  refine o1_e (f:=fun l=>(true,l)) (M:=fun t=>Fp fr t.2 t.1 v σ=some ρ→_) h1 (fun l hl h2=>?_) h2
  refine An (f:=List.cons) (M:=fun l=>Fp fr l true v σ=some ρ→_) hl (fun i is g1 g2 h2=>?_) h2
  cases g2
  obtain rfl:=Option.some.inj h2
  refine ⟨.nm i,?_,rfl,rfl⟩
  haveI hl:=eq_of_beq (Cp (b:=sc.ko.lookup x==some .local) g1)
  show (match sc.ko.lookup x with
   | some .local=>(place? x sc.loc).map T.nm
   | some .cell=>(place? x sc.cel).map T.cl
   | _=>none)=_
  rw [hl,Br (b:=sc.ko.lookup x==some .local) g1]
  rfl
 | Tuple es kk p =>
  refine o1_e (f:=fun l=>(false,l)) (M:=fun t=>Fp fr t.2 t.1 v σ=some ρ→_) h1 (fun l hl h2=>?_) h2
  refine ⟨.tp l,congrArg (Option.map T.tp) hl,?_⟩
  induction v with
  | ref i =>
   haveI h3:(match σ[i]? with
    | some (.tuple vs)=>Cj l vs fr.ρ
    | _=>none)=some ρ:=h2
   show opt (H6 σ[i]?) _
   cases ho:σ[i]? with
   | none=>rw [ho] at h3;exact nn h3
   | some o =>
    rw [ho] at h3
    induction o with
    | tuple vs =>
     haveI h4:Cj l vs fr.ρ=some ρ:=h3
     show opt (Cj l vs fr.ρ) _
     rw [h4]
     exact ⟨rfl,rfl⟩
    | _=>exact nn h3
  | _=>exact nn h2
 | _=>exact nn h1
end Z
namespace Y
open Mine.Z (Cc F4 Nm)
theorem E5 {fr:Fr} {tgt:List Nat} {one:Bool} {it:It} {cond:Option E} {elt:E} {acc:Nat} {σ:H} {Q:H→Prop} (hn:Bz σ it=some none) (h:Q σ):Co fr tgt one it cond elt acc σ Q :=
 Co.mk fun wd m sc env eltx tx itx ifs scx px π ia aa iob X ob A s Qx h1 h2 h3 hIt hacc hfz a k=>Nm (Z.next_sound a.ao hIt a.inv.swap hn fun hp I1=>k σ π hp s.toks ob h (Z.Le.refl π) (let ⟨m,q,_⟩:=a.fo;⟨m,q⟩) I1 a.tk)
theorem E6 {fr:Fr} {tgt:List Nat} {one:Bool} {it it':It} {v:V} {cond:Option E} {elt:E} {acc:Nat} {σ:H} {ρ:List (Option V)} {Q:H→Prop} (hn:Bz σ it=some (some (v,it'))) (ht:Fp fr tgt one v σ=some ρ)
  (h:Dc ⟨fr.dp,ρ,fr.cl⟩ cond σ fun c σ=>_root_.cond c ((wP ⟨fr.dp,ρ,fr.cl⟩ elt).1 σ fun x σ=>opt (A4 σ (.ref acc) .append [x]) fun p=>Co ⟨fr.dp,ρ,fr.cl⟩ tgt one it' cond elt acc p.2 Q) (Co ⟨fr.dp,ρ,fr.cl⟩ tgt one it' cond elt acc σ Q)):Co fr tgt one it cond elt acc σ Q:=by
 refine Co.mk fun wd m sc env eltx tx itx ifs scx px π ia aa iob X ob A s Qx h1 h2 h3 hIt hacc hfz a k=>Nm (Z.tok_up a.tk (Z.next_sound a.ao hIt a.inv.swap hn fun y iob1 hp t1 hy hIt1 I1=>?_))
 intro ht1
 dsimp only at ht1 ⊢
 refine Z.owned_sound hIt1 (I1.ext _ (.head _)) ?_
 have a1:Z.At wd sc env fr ob π σ ((ia,iob1) :: X) A ⟨hp,s.gens,s.drawn,t1,s.os⟩:=⟨a.wk,a.ok,a.fo,a.ce,a.ao,ht1,I1.swap,a.bb⟩
 (refine Aa (Z.tgt_run (n:=m) h1 ht) ?_;intro t g1 g2)
 refine Z.asg_sound (Cc m) g1 a1 hy g2 fun ρ2 σ2 π2 hp2 t2 ob2 q2 l2 I2 fo2 ht2=>?_
 (refine Ac q2 ?_;try clear q2;intro z_0 z_1;obtain rfl:=z_0;obtain rfl:=z_1)
 have a2:=a1.step (g:=s.gens) (d:=s.drawn) (o:=s.os) l2 I2 fo2 ht2
 have go:∀ {σ3:H} {π3:List Addr} {h3':Heap} {t3:Nat},Co ⟨fr.dp,ρ,fr.cl⟩ tgt one it' cond elt acc σ3 Q→Z.Le π2 π3→Z.Inv wd π3 σ3 ((env.locals,ob2) :: (ia,iob1) :: X) h3'→0 < t3 →
   codeAny (model wd.prog wd.w) A (.compLoop (.ListComp eltx [⟨tx,itx,ifs,0⟩] scx px) 0 (.ref ia) (.ref aa) env) (Z.OkR Qx) ⟨h3',s.gens,s.drawn,t3,s.os⟩:=fun {σ3 π3 h3' t3} q l3 I3 ht3 =>
  q.ev wd m sc env eltx tx itx ifs scx px π3 ia aa iob1 X ob2 A _ Qx h1 h2 h3 (hIt1.le (l2.trans l3)) (Z.get_le (l2.trans l3) hacc) hfz (a2.next l3 I3 ht3) fun σ' π' h' t' ob' q' l'=>k σ' π' h' t' ob' q' ((l2.trans l3).trans l')
 have yes:∀ {σ3:H} {π3:List Addr} {h3':Heap} {t3:Nat},((wP ⟨fr.dp,ρ,fr.cl⟩ elt).1 σ3 fun x σ=>opt (A4 σ (.ref acc) .append [x]) fun p=>Co ⟨fr.dp,ρ,fr.cl⟩ tgt one it' cond elt acc p.2 Q)→Z.Le π2 π3→Z.Inv wd π3 σ3 ((env.locals,ob2) :: (ia,iob1) :: X) h3'→0 < t3 →
   wpAny (model wd.prog wd.w) A (eval eltx env) (fun x s₄ =>
       wpAny (model wd.prog wd.w) A (call (.builtin "list.append") [.ref aa,x]) (fun _ s₅=>codeAny (model wd.prog wd.w) A (.compLoop (.ListComp eltx [⟨tx,itx,ifs,0⟩] scx px) 0 (.ref ia) (.ref aa) env) (Z.OkR Qx) s₅) (Z.NB wd A env (Z.OkR Qx)) s₄) (Z.NB wd A env (Z.OkR Qx)) ⟨h3',s.gens,s.drawn,t3,s.os⟩:=fun {σ3 π3 h3' t3} q l3 I3 ht3=>by
  refine (Cc m).ev h3 q (a2.next l3 I3 ht3) fun xv σ4 π4 xx hp4 t4 q4 l4 I4 hxx ht4=>?_
  haveI haa:π4[acc]?=some aa:=Z.get_le ((l2.trans l3).trans l4) hacc
  refine Z.opt_e q4 fun p hm q4=>?_
  exact Z.tok_up ht4 (Z.methB_sound (s:=⟨hp4,s.gens,s.drawn,t4,s.os⟩) (m:=.append) (o:=.ref acc) I4 ⟨aa,haa,rfl⟩ (Z.VRels.single hxx) hm fun ρ5 xx5 hp5 t5 I5 hx5 ht5=>go q4 ((l3.trans l4).trans (Z.Le.app _ _)) I5 ht5)
 haveI h2':(match Z.ifs? ifs with
  | some none=>some none
  | some (some c)=>(Z.trE m sc c).map some
  | none=>none)=some cond:=h2
 have tail:∀ {σ3:H} {π3:List Addr} {h3':Heap} {t3:Nat} {c:Bool},(_root_.cond c ((wP ⟨fr.dp,ρ,fr.cl⟩ elt).1 σ3 fun x σ=>opt (A4 σ (.ref acc) .append [x]) fun p=>Co ⟨fr.dp,ρ,fr.cl⟩ tgt one it' cond elt acc p.2 Q) (Co ⟨fr.dp,ρ,fr.cl⟩ tgt one it' cond elt acc σ3 Q))→Z.Le π2 π3→Z.Inv wd π3 σ3 ((env.locals,ob2) :: (ia,iob1) :: X) h3'→0 < t3 →
   (if c=true then wpAny (model wd.prog wd.w) A (eval eltx env) (fun x s₄ =>
       wpAny (model wd.prog wd.w) A (call (.builtin "list.append") [.ref aa,x]) (fun _ s₅=>codeAny (model wd.prog wd.w) A (.compLoop (.ListComp eltx [⟨tx,itx,ifs,0⟩] scx px) 0 (.ref ia) (.ref aa) env) (Z.OkR Qx) s₅) (Z.NB wd A env (Z.OkR Qx)) s₄) (Z.NB wd A env (Z.OkR Qx)) ⟨h3',s.gens,s.drawn,t3,s.os⟩
      else codeAny (model wd.prog wd.w) A (.compLoop (.ListComp eltx [⟨tx,itx,ifs,0⟩] scx px) 0 (.ref ia) (.ref aa) env) (Z.OkR Qx) ⟨h3',s.gens,s.drawn,t3,s.os⟩):=fun {σ3 π3 h3' t3 c} q l3 I3 ht3=>by
  induction c with
  | true=>exact yes q l3 I3 ht3
  | false=>exact go q l3 I3 ht3
 cases ifs with
 | nil =>
  cases h2'
  exact wpAny_tests_nil (tail (c:=true) h (Z.Le.refl _) I2 ht2)
 | cons c ifs=>induction ifs with
  | cons _ _=>exact Z.nn h2'
  | nil =>
   refine Z.o1_e (f:=some) (M:=fun cond=>Dc ⟨fr.dp,ρ,fr.cl⟩ cond _ _→_) h2' (fun c1 hc1 h=>?_) h
   exact wpAny_tests_one ((Cc m).bo hc1 h a2 fun b σ3 π3 h3' t3 q3 l3 I3 ht3=>tail q3 l3 I3 ht3)
end Y

end
section
open PySem PySem.W PyProof.Rows PySem.Calls
namespace Z
theorem No {ns:List Str} (nd:ns.Nodup):∀ {xs:List Value} {i:Nat} {n:Str} {x:Value},ns[i]?=some n→xs[i]?=some x→(ns.zip xs).lookup n=some x:=by
 induction ns with
 | nil=>intro xs i n x h;simp at h
 | cons m ms ih =>
  intro xs i n x h hx
  rw [List.nodup_cons] at nd
  cases xs with
  | nil=>simp at hx
  | cons y ys =>
   rw [List.zip_cons_cons,List.lookup_cons]
   cases i with
   | zero=>obtain rfl:=Option.some.inj h;obtain rfl:=Option.some.inj hx;rw [beq_self_eq_true]
   | succ i =>
    haveI h':ms[i]?=some n:=by simpa using h
    have hne:(n==m)=false:=by
     rw [beq_eq_false_iff_ne]
     rintro rfl
     exact nd.1 (List.mem_of_getElem? h')
    rw [hne]
    exact ih nd.2 h' (by simpa using hx)
theorem S7 {ns:List Str} (nd:ns.Nodup):∀ {xs:List Value} {i:Nat} {n:Str},ns[i]?=some n→xs.length≤i→(ns.zip xs).lookup n=none:=by
 induction ns with
 | nil=>intro xs i n h;simp at h
 | cons m ms ih =>
  intro xs i n h hx
  rw [List.nodup_cons] at nd
  cases xs with
  | nil=>rfl
  | cons y ys =>
   rw [List.zip_cons_cons,List.lookup_cons]
   cases i with
   | zero=>simp at hx
   | succ i =>
    haveI h':ms[i]?=some n:=by simpa using h
    haveI hne:(n==m)=false:=by
     rw [beq_eq_false_iff_ne]
     rintro rfl
     exact nd.1 (List.mem_of_getElem? h')
    rw [hne]
    exact ih nd.2 h' (by simpa using hx)
theorem Np {p:Str→Bool} {k:Str} (hp:p k=true):∀ l:List (Str×Value),(l.filter fun z=>p z.1).lookup k=l.lookup k
 | []=>rfl
 | (a,b) :: r=>by
  by_cases q:k=a
  ·subst q
   rw [List.filter_cons_of_pos (by exact hp),List.lookup_cons,List.lookup_cons,beq_self_eq_true]
  ·haveI q':(k==a)=false:=by simpa using q
   by_cases h:p a=true
   ·rw [List.filter_cons_of_pos (by exact h),List.lookup_cons,List.lookup_cons,q',Np hp r]
   ·rw [List.filter_cons_of_neg (by exact h),List.lookup_cons,q',Np hp r]
theorem Nq:∀ (rest acc:List (Str×Value)),(rest.map (·.1)).Nodup →
  (forIn rest acc fun (x:Str×Value) (t:List (Str×Value))=>(if (List.lookup x.fst t).isNone=true then pure (ForInStep.yield (t++[(x.fst,x.snd)])) else pure (ForInStep.yield t):Sem (ForInStep (List (Str×Value)))))=pure (acc++rest.filter fun p=>(acc.lookup p.1).isNone)
 | []=>@fun acc _=>by simp
 | (n,d) :: r=>@fun acc nd=>by
  rw [List.map_cons,List.nodup_cons] at nd
  rw [List.forIn_cons]
  dsimp only
  by_cases h:(acc.lookup n).isNone=true
  ·rw [if_pos h,pure_bind]
   dsimp only
   rw [Nq r _ nd.2,List.filter_cons_of_pos (by exact h)]
   congr 1
   rw [List.append_assoc]
   congr 1
   rw [List.singleton_append]
   congr 1
   refine List.filter_congr fun p hp=>?_
   rw [List.lookup_append]
   haveI:(p.1==n)=false:=by
    rw [beq_eq_false_iff_ne]
    exact fun z=>nd.1 (List.mem_map.mpr ⟨p,hp,z⟩)
   rw [List.lookup_cons,this]
   simp
  ·rw [if_neg h,pure_bind]
   dsimp only
   rw [Nq r _ nd.2,List.filter_cons_of_neg (by exact h)]
theorem S8 {S:List (Str×Value)}:∀ {ns:List Str} {ys:List Value},ns.length=ys.length→(∀ (i:Nat) (n:Str) (y:Value),ns[i]?=some n→ys[i]?=some y→S.lookup n=some y) →
  ns.filterMap (fun n=>(S.lookup n).map fun x=>(n,x))=ns.zip ys
 | [],ys=>@fun _ _=>by simp
 | n :: ns,[]=>@fun h _=>by simp at h
 | n :: ns,y :: ys=>@fun h hs=>by
  have h0:=hs 0 n y rfl rfl
  rw [List.filterMap_cons,h0]
  dsimp only [Option.map_some]
  rw [List.zip_cons_cons,S8 (by simpa using h) fun i n y a b=>hs (i+1) n y (by simpa using a) (by simpa using b)]
section
variable {M:Model} {A:Around} {Er:Value→Shared→Prop} {s:Shared}
theorem eqn {α:Type} {t t':Sem α} {Q:α→Shared→Prop} (h:t=t') (k:wpAny M A t' Q Er s):wpAny M A t Q Er s:=h▸k
theorem b6 {N:List Str} {xs ds:List Value} (nd:N.Nodup) (h2:N.length≤xs.length+ds.length):(!((N.take (N.length-ds.length)).filter fun n=>(List.lookup n (N.zip xs)).isNone).isEmpty)=false:=by
 have e2:((N.take (N.length-ds.length)).filter fun n=>(List.lookup n (N.zip xs)).isNone)=[]:=by
  rw [List.filter_eq_nil_iff]
  intro n hn
  refine Ad (List.mem_iff_getElem?.mp hn) ?_;intro i hi
  rw [List.getElem?_take] at hi
  by_cases h:i < N.length-ds.length
  ·rw [if_pos h] at hi
   rw [No nd hi (List.getElem?_eq_getElem (Nat.lt_of_lt_of_le h (Nat.sub_le_of_le_add h2)))]
   exact Bool.false_ne_true
  ·rw [if_neg h] at hi;exact nn hi
 rw [e2];rfl
theorem b7 {N:List Str} {xs ds:List Value} (nd:N.Nodup) (h1:xs.length≤N.length) (h2:N.length≤xs.length+ds.length) (h3:ds.length≤N.length) :
  N.filterMap (fun n=>(List.lookup n (N.zip xs++((N.drop (N.length-ds.length)).zip ds).filter fun p=>(List.lookup p.1 (N.zip xs)).isNone)).map fun x=>(n,x))=N.zip (xs++ds.drop (xs.length+ds.length-N.length)):=by
 have ha:N.length-ds.length≤xs.length:=Nat.sub_le_of_le_add h2
 refine S8 (by rw [List.length_append,List.length_drop,Nat.add_comm xs.length ds.length,← Nat.sub_sub_right ds.length h1,Nat.sub_sub_self (Nat.sub_le_of_le_add (Nat.add_comm xs.length ds.length▸h2)),Nat.add_sub_cancel' h1]) fun i n y hn hy=>?_
 rw [List.lookup_append]
 by_cases hi:i < xs.length
 ·rw [List.getElem?_append_left hi] at hy
  rw [No nd hn hy];rfl
 ·have hni:=Nat.not_lt.mp hi
  rw [List.getElem?_append_right hni,List.getElem?_drop] at hy
  rw [S7 nd hn hni,Option.none_or,Np (p:=fun z=>(List.lookup z (N.zip xs)).isNone) (by rw [S7 nd hn hni];rfl)]
  refine No (i:=i-(N.length-ds.length)) (nd.sublist (List.drop_sublist _ _)) ?_ ?_
  ·rw [List.getElem?_drop,Nat.add_sub_cancel' (Nat.le_trans ha hni)];exact hn
  ·rw [← hy,← Nat.sub_add_sub_cancel hni ha,Nat.sub_sub_right xs.length h3,Nat.add_comm]
theorem b8 {fd:FuncData} {ps:List Arg} {kd:List (Option PySem.Expr)} {df:List PySem.Expr} {xs ds:List Value} {Q:List (Str×Value)→Shared→Prop}
  (nd:(ps.map (·.arg)).Nodup) (h1:xs.length≤ps.length) (h2:ps.length≤xs.length+ds.length) (h3:ds.length≤ps.length)
  (hd:∀ {Q':Option (Array Value)→Shared→Prop},(∀ o:Option (Array Value),(o.getD #[]).toList=ds→Q' o s)→wpAny M A (seqItems? fd.defaults) Q' Er s)
  (k:Q ((ps.map (·.arg)).zip (xs++ds.drop (xs.length+ds.length-ps.length))) s):wpAny M A (bindArgs {fd with params:=⟨[],ps,none,[],kd,none,df⟩} ⟨xs,[]⟩) Q Er s:=by
 have hl:(ps.map (·.arg)).length=ps.length:=List.length_map _
 have e1:List.drop (ds.length-(ps.map (·.arg)).length) ds=ds:=by rw [hl,Nat.sub_eq_zero_of_le h3,List.drop_zero]
 have nd2:(((ps.map (·.arg)).drop ((ps.map (·.arg)).length-ds.length)).zip ds).map (·.1)=(ps.map (·.arg)).drop ((ps.map (·.arg)).length-ds.length) :=
  List.map_fst_zip (by rw [List.length_drop,hl,Nat.sub_sub_self h3];exact Nat.le_refl _)
 unfold bindArgs
 dsimp only [List.map_nil,List.nil_append,List.forIn_nil]
 refine wpAny_bind (wpAny_pure (wpAny_bind (hd fun o ho=>ifn (fun q=>absurd (of_decide_eq_true (Bool.and_eq_true_iff.mp q).1) (Nat.not_lt.mpr (hl.symm▸h1))) (ifn (c:=(!List.isEmpty _)=true) ?_ (wpAny_bind (eqn (t':=pure ((ps.map (·.arg)).zip xs++(((ps.map (·.arg)).drop ((ps.map (·.arg)).length-ds.length)).zip ds).filter fun p=>(List.lookup p.1 ((ps.map (·.arg)).zip xs)).isNone)) ?_ (wpAny_pure (wpAny_bind (eqn (t':=pure (_,[])) rfl (wpAny_pure (ifn Bool.false_ne_true (wpAny_pure ?_))))))))))))
 ·rw [ho]
  show ¬ (!(List.filter _ (List.take ((ps.map (·.arg)).length-(List.drop (ds.length-(ps.map (·.arg)).length) ds).length) (ps.map (·.arg)))).isEmpty)=true
  rw [e1]
  exact fun q=>Bool.false_ne_true ((b6 nd (hl.symm▸h2)).symm.trans q)
 ·rw [ho]
  show forIn (List.zip (List.drop ((ps.map (·.arg)).length-(List.drop (ds.length-(ps.map (·.arg)).length) ds).length) (ps.map (·.arg))) (List.drop (ds.length-(ps.map (·.arg)).length) ds)) ((ps.map (·.arg)).zip xs) _=_
  rw [e1]
  exact Nq _ _ (by rw [nd2];exact nd.sublist (List.drop_sublist _ _))
 ·have e:=b7 (N:=ps.map (·.arg)) (xs:=xs) (ds:=ds) nd (hl.symm▸h1) (hl.symm▸h2) (hl.symm▸h3)
  rw [← hl] at k
  show Q (List.filterMap _ (ps.map (·.arg)++[])) s
  rw [List.append_nil]
  exact Eq.mpr (congrArg (fun z=>Q z s) e) k
theorem b9 {fd:FuncData} {ps:List Arg} {kd:List (Option PySem.Expr)} {df:List PySem.Expr} {xs ds:List Value} {Q:List (Str×Value)→Shared→Prop} (hp:fd.params=⟨[],ps,none,[],kd,none,df⟩)
  (nd:(ps.map (·.arg)).Nodup) (h1:xs.length≤ps.length) (h2:ps.length≤xs.length+ds.length) (h3:ds.length≤ps.length)
  (hd:∀ {Q':Option (Array Value)→Shared→Prop},(∀ o:Option (Array Value),(o.getD #[]).toList=ds→Q' o s)→wpAny M A (seqItems? fd.defaults) Q' Er s)
  (k:Q ((ps.map (·.arg)).zip (xs++ds.drop (xs.length+ds.length-ps.length))) s):wpAny M A (bindArgs fd ⟨xs,[]⟩) Q Er s:=by
 have e:fd={fd with params:=⟨[],ps,none,[],kd,none,df⟩}:=hp▸rfl
 rw [e]
 exact b8 nd h1 h2 h3 hd k
end
theorem S9 (x y:Str) (r:List Str):place? x (y :: r)=if y=x then some 0 else (place? x r).map (·+1):=rfl
theorem Ta {x:Str}:∀ {l:List Str} {i:Nat},l.Nodup→l[i]?=some x→place? x l=some i
 | [],i=>@fun _ h=>by simp at h
 | y :: r,0=>@fun nd h=>by obtain rfl:=Option.some.inj h;unfold place?;rw [if_pos rfl]
 | y :: r,i+1=>@fun nd h=>by
  rw [List.nodup_cons] at nd
  haveI h':r[i]?=some x:=by simpa using h
  rw [S9,if_neg (fun q:y=x=>nd.1 (q▸List.mem_of_getElem? h')),Ta nd.2 h']
  rfl
noncomputable def Bu (names:List (Str×NameKind)):List Str:=(names.filter fun p=>p.2=.cell).map (·.1)
noncomputable def Lk (names:List (Str×NameKind)):List Str:=(names.filter fun p=>p.2=.local).map (·.1)
theorem Ll:∀ (names:List (Str×NameKind)) (n:Nat) (acc:List (Str×Addr)) (x:Str),(Bu names).Nodup →
  (cellsFrom n names acc).lookup x=match place? x (Bu names) with | some j=>some (n+j) | none=>acc.lookup x
 | []=>@fun n acc x _=>rfl
 | (m,kd) :: r=>@fun n acc x nd=>by
  unfold cellsFrom
  by_cases q:kd=.cell
  ·subst q
   haveI e:Bu ((m,NameKind.cell) :: r)=m :: Bu r:=rfl
   rw [e] at nd ⊢
   rw [List.nodup_cons] at nd
   rw [if_pos (by rfl),Ll r (n+1) _ x nd.2]
   rw [S9]
   by_cases z:m=x
   ·subst z
    rw [if_pos rfl]
    cases hp:place? m (Bu r) with
    | some j=>exact absurd (List.mem_of_getElem? (Cl hp)) nd.1
    | none =>
     dsimp only
     rw [List.lookup_cons,beq_self_eq_true]
     rfl
   ·rw [if_neg z]
    cases hp:place? x (Bu r) with
    | some j =>
     show some (n+1+j)=some (n+(j+1))
     rw [Nat.add_assoc,Nat.add_comm 1 j]
    | none =>
     dsimp only [Option.map_none]
     rw [List.lookup_cons,show (x==m)=false by simpa using fun h:x=m=>z h.symm]
  ·have e:Bu ((m,kd) :: r)=Bu r:=by unfold Bu;rw [List.filter_cons_of_neg (by simpa using q)]
   rw [e] at nd ⊢
   rw [if_neg (by simpa using q),Ll r n acc x nd]
section
variable {wd:Wd}
variable {π π':List Addr} {σ σ':H} {X:List (Addr×Obj)} {A:Around} {Er:Value→Shared→Prop} {s:Shared} {v:V} {sc:Sc} {env:Env} {fr:Fr} {ob:Obj} {r:Rec} {m:Nat}
theorem Inv.take {h:Heap} {a:Addr} {o:O} {ob:Obj} (I:Inv wd π σ X h) (hn:Nw wd.hb a) (hπ:a ∉ π) (hX:a ∉ X.map (·.1)) (e:h.get? a=some ob) (r:Bb wd (π++[a]) o ob):Inv wd (π++[a]) (σ++[o]) X h :=
 (I.takeX hn hπ hX e).admit0 r
theorem Inv.takes {h:Heap}:∀ {as:List Addr} {os:List O} {π:List Addr} {σ:Mine.H},Inv wd π σ X h→as.length=os.length→as.Nodup→(∀ a∈as,Nw wd.hb a∧a ∉ π∧a ∉ X.map (·.1)) →
  (∀ (i:Nat) (a:Addr) (o:O),as[i]?=some a→os[i]?=some o→∃ ob,h.get? a=some ob∧Bb wd π o ob)→Inv wd (π++as) (σ++os) X h
 | [],[],π,σ,I,_,_,_,_=>by rw [List.append_nil,List.append_nil];exact I
 | [],_ :: _,_,_,_,h,_,_,_=>by simp at h
 | _ :: _,[],_,_,_,h,_,_,_=>by simp at h
 | a :: as,o :: os,π,σ,I,hl,nd,hno,hob=>by
  rw [List.nodup_cons] at nd
  (refine Aa (hob 0 a o rfl rfl) ?_;intro ob e rr)
  (refine As (hno a (.head _)) ?_;intro n1 n2 n3)
  haveI I1:=I.take n1 n2 n3 e (rr.mono _)
  haveI:=Inv.takes (as:=as) (os:=os) I1 (by simpa using hl) nd.2 (fun b hb'=>?_) (fun i b o' h1 h2=>?_)
  ·simpa using this
  ·(refine As (hno b (.tail _ hb')) ?_;intro m1 m2 m3)
   refine ⟨m1,fun q=>?_,m3⟩
   refine oe (List.mem_append.mp q) (fun q=>?_) (fun q=>?_)
   ·exact m2 q
   ·rw [List.mem_singleton] at q
    exact nd.1 (q▸hb')
  ·(refine Aa (hob (i+1) b o' (by simpa using h1) (by simpa using h2)) ?_;intro ob' e' r')
   exact ⟨ob',e',r'.mono _⟩
noncomputable def CV (π:List Addr) (cv:Option V) (x:Option Value):Prop:=match cv,x with | some v,some x=>Ah π v x | none,none=>True | _,_=>False
theorem Nr {loc cel:List Str} {ko:Str→Option NameKind} (ndl:loc.Nodup) (ndc:cel.Nodup) {base nc:Nat} (hnc:nc=cel.length):∀ {ns:List Str} {ps:List T} {vs:List V} {xs:List Value} {ρ ρ':List (Option V)} {σ σ1:Mine.H} {mm cm:Str→Option Value},
  Da ps vs ρ (List.range' base nc) σ=some (ρ',σ1)→VRels π vs xs→ns.length=ps.length →
  (∀ (i:Nat) (n:Str) (t:T),ns[i]?=some n→ps[i]?=some t→(ko n=some .local∧∃ j,t=.nm j∧place? n loc=some j)∨(ko n=some .cell∧∃ j,t=.cl j∧place? n cel=some j)) →
  (∀ (i:Nat) (n:Str) (v:V),loc[i]?=some n→ρ[i]?=some (some v)→∃ x,mm n=some x∧Ah π v x) →
  (∀ (j:Nat) (n:Str),cel[j]?=some n→∃ cv,σ[base+j]?=some (.cell cv)∧CV π cv (cm n))→σ.length=base+nc →
  (∀ (i:Nat) (n:Str) (v:V),loc[i]?=some n→ρ'[i]?=some (some v)→∃ x,bindL ko (ns.zip xs) mm n=some x∧Ah π v x) ∧
  (∀ (j:Nat) (n:Str),cel[j]?=some n→∃ cv,σ1[base+j]?=some (.cell cv)∧CV π cv (bindC ko (ns.zip xs) cm n))∧σ1.length=base+nc∧(∀ i,i < base→σ1[i]?=σ[i]?)
 | [],[],vs,xs,ρ,ρ',σ,σ1,mm,cm,h,hx,hl,hk,h1,h2,h3=>by
  induction vs with
  | nil =>
   cases h
   rw [List.zip_nil_left]
   exact ⟨h1,h2,h3,fun _ _=>rfl⟩
  | cons v vs=>exact nn h
 | [],_ :: _,_,_,_,_,_,_,_,_,_,_,hl,_,_,_,_=>by simp at hl
 | _ :: _,[],_,_,_,_,_,_,_,_,_,_,hl,_,_,_,_=>by simp at hl
 | n0 :: ns,t0 :: ps,vs,xs,ρ,ρ',σ,σ1,mm,cm,h,hx,hl,hk,h1,h2,h3=>by
  cases vs with
  | nil=>cases t0<;>exact nn h
  | cons v vs =>
   (refine Ai hx ?_;try clear hx;intro y ys z_2 hy hys;obtain rfl:=z_2)
   rw [List.zip_cons_cons]
   haveI hk':=fun i n t a b=>hk (i+1) n t (by simpa using a) (by simpa using b)
   focus (refine oe (hk 0 n0 t0 rfl rfl) ?_ ?_;rotate_left;(intro z_o;rcases z_o with ⟨k1,j,rfl,hj⟩);rotate_right;(intro z_o;rcases z_o with ⟨k1,j,rfl,hj⟩))
   ·have h:Da ps vs (ρ.set j (some v)) (List.range' base nc) σ=some (ρ',σ1):=h
    haveI e1:bindL ko ((n0,y) :: ns.zip ys) mm=bindL ko (ns.zip ys) (fun z=>if z=n0 then some y else mm z):=by rw [bindL,if_pos k1]
    haveI e2:bindC ko ((n0,y) :: ns.zip ys) cm=bindC ko (ns.zip ys) cm:=by rw [bindC,if_pos k1]
    rw [e1,e2]
    refine Nr ndl ndc hnc h hys (by simpa using hl) hk' (fun i n u hi hu=>?_) h2 h3
    by_cases q:i=j
    ·subst q
     rw [Cl hj] at hi
     obtain rfl:=Option.some.inj hi
     rw [List.getElem?_set] at hu
     split at hu
     ·split at hu
      ·cases hu;exact ⟨y,by simp,hy⟩
      ·exact nn hu
     ·exact absurd rfl ‹_›
    ·rw [List.getElem?_set_ne (Ne.symm q)] at hu
     (refine Aa (h1 i n u hi hu) ?_;intro z e1 e2)
     haveI hne:n≠n0:=fun w=>q (Hu ndl hi (w▸Cl hj))
     exact ⟨z,by simp [hne,e1],e2⟩
   ·have h:(match (List.range' base nc)[j]? with
     | some k=>Da ps vs ρ (List.range' base nc) (σ.set k (.cell (some v)))
     | none=>none)=some (ρ',σ1):=h
    haveI hjl:j < nc:=by rw [hnc];exact (List.getElem?_eq_some_iff.mp (Cl hj)).1
    haveI hcl:(List.range' base nc)[j]?=some (base+j):=by rw [List.getElem?_range' hjl,Nat.one_mul]
    rw [hcl] at h
    dsimp only at h
    haveI nl:¬ ko n0=some .local:=by rw [k1];decide
    haveI e1:bindL ko ((n0,y) :: ns.zip ys) mm=bindL ko (ns.zip ys) mm:=by rw [bindL,if_neg nl]
    haveI e2:bindC ko ((n0,y) :: ns.zip ys) cm=bindC ko (ns.zip ys) (fun z=>if z=n0 then some y else cm z):=by rw [bindC,if_neg nl]
    rw [e1,e2]
    haveI ih:=Nr ndl ndc hnc h hys (by simpa using hl) hk' h1 (cm:=fun z=>if z=n0 then some y else cm z) (fun i n hi=>?_) (by rw [List.length_set];exact h3)
    ·(refine Hm ih ?_;try clear ih;intro i1 i2 i3 i4)
     exact ⟨i1,i2,i3,fun i hi=>by rw [i4 i hi,List.getElem?_set_ne (Nat.ne_of_gt (Nat.lt_of_lt_of_le hi (Nat.le_add_right base j)))]⟩
    ·by_cases q:i=j
     ·subst q
      rw [Cl hj] at hi
      obtain rfl:=Option.some.inj hi
      refine ⟨some v,?_,?_⟩
      ·rw [List.getElem?_set_self (by rw [h3];exact Nat.add_lt_add_left hjl base)]
      ·rw [if_pos rfl];exact hy
     ·(refine Aa (h2 i n hi) ?_;intro cv c1 c2)
      haveI hne:n≠n0:=fun w=>q (Hu ndc hi (w▸Cl hj))
      refine ⟨cv,?_,?_⟩
      ·rw [List.getElem?_set_ne fun e=>q (Nat.add_left_cancel e).symm];exact c1
      ·rw [if_neg hne];exact c2
end
end Z
end
section
open PySem PySem.W PyProof.Rows PySem.Calls
open Sem (wp)
namespace Z
open Mine.Y
noncomputable def Up {α:Type} (t:Sem α):Prop:=∀ (M:Model) (Γ:Ctx) (Q:α→PySem.Pos→Shared→Prop) (E:Value→PySem.Pos→Shared→Prop) (p:PySem.Pos) (s:Shared),wp M Γ t (fun a p' s'=>0 < s'.toks→Q a p' s') E p s→wp M Γ t Q E p s
theorem Up.text {α:Type} {x:Str} {f:Value→Sem α}:Up (mkText x >>= f):=fun M Γ Q E p s h=>by
 rw [Sem.wp_bind'] at h ⊢
 haveI h':wp M Γ (f (.str x s.toks)) (fun a p' s'=>0 < s'.toks→Q a p' s') E p {s with toks:=s.toks+1}:=h
 show wp M Γ (f (.str x s.toks)) Q E p {s with toks:=s.toks+1}
 exact Mv (m:=1) (Nat.succ_le_succ (Nat.zero_le _)) h'
theorem Up.right {α β:Type} {m:Sem α} {f:α→Sem β} (h:∀ a,Up (f a)):Up (m >>= f):=fun M Γ Q E p s hh=>by
 rw [Sem.wp_bind'] at hh ⊢
 exact Sem.wp_mono M Γ m (fun a p' s' q=>h a M Γ Q E p' s' q) (fun _ _ _ q=>q) p s hh
theorem Up.left {α β:Type} {m:Sem α} {f:α→Sem β} (h:Up m):Up (m >>= f):=fun M Γ Q E p s hh=>by
 rw [Sem.wp_bind'] at hh ⊢
 refine h M Γ _ E p s (Sem.wp_mono M Γ m (fun a p' s' q ht=>?_) (fun _ _ _ q=>q) p s hh)
 exact Mv (m:=1) ht q
theorem Up.nsSet (a:Addr) (n:Str) (v:Value):Up (PySem.nsSet a n v):=by
 unfold PySem.nsSet
 exact Up.right fun h=>Up.text
theorem Up.env {scope:Scope} {globals:Addr} {n:Str} {v:Value} {rest:List (Str×Value)} {qual:Str} {func:Option Addr} {code:Value} {builtins:Addr} (hl:scope.names.lookup n=some .local) (hk:scope.kind=.function) :
  Up (newFunctionEnv scope globals [] ((n,v) :: rest) qual func code none builtins):=by
 unfold newFunctionEnv
 refine Up.right fun L=>Up.right fun cells=>?_
 dsimp only
 refine Up.left ?_
 rw [List.forIn_cons]
 refine Up.left (Up.left ?_)
 rw [storeName_local (by exact hl) (by show (scope.kind==.class||(scope.kind==.module&&_))=false;rw [hk];rfl)]
 exact Up.nsSet _ _ _
theorem cb {α:Type} {M:Model} {A:Around} {t:Sem α} {Q:α→Shared→Prop} {E:Value→Shared→Prop} {s:Shared} (hu:Up t) (h:wpAny M A t (fun v s'=>0 < s'.toks→Q v s') E s):wpAny M A t Q E s :=
 fun Γ p hΓ=>hu M Γ _ _ p s (h Γ p hΓ)
section
variable {wd:Wd} {π π':List Addr} {σ σ':H} {X:List (Addr×Obj)} {A:Around} {Er:Value→Shared→Prop} {s:Shared} {sc:Sc} {env:Env} {fr:Fr} {ob:Obj} {n:Nat}
variable {Q:V→H→Prop} {Qx:Value→Shared→Prop}
theorem ch {x:Value} {v:V} (hB:BOk π) (h:dfB x v=true):Ah π v x:=by
 induction v with
 | bool b=>induction x with
  | bool c=>cases eq_of_beq h;rfl
  | _=>exact nf h
 | int b=>induction x with
  | int c t=>cases eq_of_beq h;exact ⟨t,rfl⟩
  | _=>exact nf h
 | str b=>induction x with
  | str c t=>cases eq_of_beq h;exact ⟨t,rfl⟩
  | _=>exact nf h
 | ref j=>induction x with
  | ref c=>exact ⟨c,hB (j,c) (List.mem_of_elem_eq_true h),rfl⟩
  | _=>exact nf h
 | _=>exact nf h
theorem Tb (hB:BOk π):∀ {df:List V} {ds:List Value},ds.length=df.length→(ds.zip df).all (fun p=>dfB p.1 p.2)=true→VRels π df ds
 | [],[]=>@fun _ _=>rfl
 | [],_ :: _=>@fun h _=>nomatch h
 | _ :: _,[]=>@fun h _=>nomatch h
 | v :: df,x :: ds=>@fun h hd=>by
  rw [List.zip_cons_cons,List.all_cons,Bool.and_eq_true] at hd
  exact ⟨x,ds,rfl,ch hB hd.1,Tb hB (Nat.succ.inj h) hd.2⟩
theorem ci {dV:Value} {df:List V} {n:Nat} (h:Rv wd.K dV df n=true) (XK:wd.K.In s.heap) (hB:BOk π):∃ ds:List Value,ds.length=df.length∧ds.length≤n∧VRels π df ds ∧
  ∀ {Er':Value→Shared→Prop} {Q':Option (Array Value)→Shared→Prop},(∀ o:Option (Array Value),(o.getD #[]).toList=ds→Q' o s)→wpAny (model wd.prog wd.w) A (seqItems? dV) Q' Er' s:=by
 induction dV with
 | none =>
  induction df with
  | cons _ _=>exact nf h
  | nil=>exact ⟨[],rfl,Nat.zero_le _,rfl,fun kk=>wpAny_pure (kk none rfl)⟩
 | ref T =>
  haveI h':(match wd.K.lookup T with
   | some o=>(match o.data with
    | .seq xs _=>xs.size==df.length&&(Nat.ble df.length n&&(xs.toList.zip df).all fun p=>dfB p.1 p.2)
    | _=>false)
   | none=>false)=true:=h
  cases hT:wd.K.lookup T with
  | none=>rw [hT] at h';exact nf h'
  | some o =>
   rw [hT] at h'
   have h2:(match o.data with
    | .seq xs _=>xs.size==df.length&&(Nat.ble df.length n&&(xs.toList.zip df).all fun p=>dfB p.1 p.2)
    | _=>false)=true:=h'
   cases hod:o.data with
   | seq xs m =>
    rw [hod,Bool.and_eq_true,Bool.and_eq_true] at h2
    (refine As h2 ?_;try clear h2;intro k1 k2 k3)
    haveI k1:xs.toList.length=df.length:=eq_of_beq k1
    exact ⟨xs.toList,k1,Nat.le_trans (Nat.le_of_eq k1) (Nat.le_of_ble_eq_true k2),Tb hB k1 k3,fun kk=>wpAny_seqItems (XK _ _ hT) hod (kk (some xs) rfl)⟩
   | _=>rw [hod] at h2;exact nf h2
 | _=>exact nf h
theorem ck {names:List (Str×NameKind)} {n:Str} {t:T} (h:psB names (n,t)=true):(names.lookup n=some .local∧∃ j,t=.nm j∧place? n (Lk names)=some j)∨(names.lookup n=some .cell∧∃ j,t=.cl j∧place? n (Bu names)=some j):=by
 induction t with
 | nm j =>
  haveI h':=Bool.and_eq_true_iff.mp h
  exact .inl ⟨eq_of_beq h'.1,j,rfl,eq_of_beq h'.2⟩
 | cl j =>
  haveI h':=Bool.and_eq_true_iff.mp h
  exact .inr ⟨eq_of_beq h'.1,j,rfl,eq_of_beq h'.2⟩
 | _=>exact nf h
theorem B6 {a b:Bool} (h:(a&&b)=true):a=true:=(Bool.and_eq_true_iff.mp h).1
theorem Ab {a b:Bool} (h:(a&&b)=true):b=true:=(Bool.and_eq_true_iff.mp h).2
theorem Tc {a:Bool} (h:(!a)=true):a=false:=by cases a with
 | false=>rfl
 | true=>exact nf h
theorem cn {k:ScopeKind} (h:(k==.function)=true):k=.function:=eq_of_beq h
theorem co {p:PySem.Arguments} (h1:p.posonlyargs.isEmpty=true) (h2:p.vararg.isNone=true) (h3:p.kwonlyargs.isEmpty=true) (h4:p.kwarg.isNone=true):p=⟨[],p.args,none,[],p.kw_defaults,none,p.defaults⟩:=by
 rcases p with ⟨p1,p2,p3,p4,p5,p6,p7⟩
 cases List.isEmpty_iff.mp h1;cases Option.isNone_iff_eq_none.mp h2;cases List.isEmpty_iff.mp h3;cases Option.isNone_iff_eq_none.mp h4
 rfl
theorem fn_sd {d:Nat} {a:Addr} {fi:Fn} {as:List V} {xs:List Value} {ρ:List (Option V)} {σ1:Mine.H} (wk:wd.Ok) (hf:tb.fn a=some fi) (hlen:as.length≤fi.ps.length∧fi.ps.length≤as.length+fi.df.length)
  (hbind:Da fi.ps (as++fi.df.drop (as.length+fi.df.length-fi.ps.length)) (List.replicate fi.nl none) (List.range' σ.length fi.nc) (σ++List.replicate fi.nc (.cell none))=some (ρ,σ1))
  (q:wSs fi.body ⟨d,ρ,List.range' σ.length fi.nc⟩ σ1 (rk Q))
  (hx:VRels π as xs) (hA:AOk (d+1) A) (ht:0 < s.toks∨∃ j t,fi.ps=.nm j :: t) (hB:BOk π) (I:Inv wd π σ X s.heap) (k:KW wd X s Q Qx π):codeAny (model wd.prog wd.w) A (.call (.ref a) ⟨xs,[]⟩) (RetR Qx) s:=by
 (refine X0 (wk.fn a fi hf) ?_;intro oc od fd osl body hK hfb hbody hfd)
 have XK:wd.K.In s.heap:=wk.KI.keeps I.base
 haveI hglob:=eq_of_beq (B6 hfd)
 haveI hclo:=List.isEmpty_iff.mp (B6 (Ab hfd))
 haveI hbui:=eq_of_beq (B6 (Ab (Ab hfd)))
 haveI hcd:=(B6 (Ab (Ab (Ab hfd))))
 haveI hco:=Tc (B6 (Ab (Ab (Ab (Ab hfd)))))
 haveI hgen:=Tc (B6 (Ab (Ab (Ab (Ab (Ab hfd))))))
 have hkind:=cn (B6 (Ab (Ab (Ab (Ab (Ab (Ab hfd)))))))
 have ndl:=of_decide_eq_true (B6 (Ab (Ab (Ab (Ab (Ab (Ab (Ab hfd))))))))
 haveI ndc:=of_decide_eq_true (B6 (Ab (Ab (Ab (Ab (Ab (Ab (Ab (Ab hfd)))))))))
 have hnc:=eq_of_beq (B6 (Ab (Ab (Ab (Ab (Ab (Ab (Ab (Ab (Ab (Ab hfd)))))))))))
 haveI hnd:=of_decide_eq_true (B6 (Ab (Ab (Ab (Ab (Ab (Ab (Ab (Ab (Ab (Ab (Ab (Ab (Ab (Ab (Ab hfd))))))))))))))))
 have hpl:=eq_of_beq (B6 (Ab (Ab (Ab (Ab (Ab (Ab (Ab (Ab (Ab (Ab (Ab (Ab (Ab (Ab (Ab (Ab hfd)))))))))))))))))
 haveI hps':=(B6 (Ab (Ab (Ab (Ab (Ab (Ab (Ab (Ab (Ab (Ab (Ab (Ab (Ab (Ab (Ab (Ab (Ab hfd))))))))))))))))))
 haveI hdf:=Ab (Ab (Ab (Ab (Ab (Ab (Ab (Ab (Ab (Ab (Ab (Ab (Ab (Ab (Ab (Ab (Ab (Ab hfd)))))))))))))))))
 haveI hpar:=co (B6 (Ab (Ab (Ab (Ab (Ab (Ab (Ab (Ab (Ab (Ab (Ab hfd)))))))))))) (B6 (Ab (Ab (Ab (Ab (Ab (Ab (Ab (Ab (Ab (Ab (Ab (Ab hfd))))))))))))) (B6 (Ab (Ab (Ab (Ab (Ab (Ab (Ab (Ab (Ab (Ab (Ab (Ab (Ab hfd)))))))))))))) (B6 (Ab (Ab (Ab (Ab (Ab (Ab (Ab (Ab (Ab (Ab (Ab (Ab (Ab (Ab hfd)))))))))))))))
 have hps:∀ (i:Nat) (n:Str) (t:T),(fd.params.args.map (·.arg))[i]?=some n→fi.ps[i]?=some t→(fd.scope.names.lookup n=some .local∧∃ j,t=.nm j∧place? n (Lk fd.scope.names)=some j)∨(fd.scope.names.lookup n=some .cell∧∃ j,t=.cl j∧place? n (Bu fd.scope.names)=some j) :=
  fun i n t h1 h2=>ck (List.all_eq_true.mp hps' (n,t) (List.mem_of_getElem? (i:=i) (List.getElem?_zip_eq_some.mpr ⟨h1,h2⟩)))
 haveI hnc:fi.nc=(Bu fd.scope.names).length:=hnc
 haveI hxl:=hx.len
 (refine Ck (ci (A:=A.in1) hdf XK hB) ?_;intro ds hdl hdsl hdr hseq)
 refine codeAny_call_function (fd:=fd) (body:=body) hA.lim (XK _ _ hK) rfl hco hgen hfb (codeRec_of XK hcd) ?_
 refine b9 (ds:=ds) (fd:=fd) hpar hnd (Nat.le_trans (Nat.le_of_eq hxl) (Nat.le_trans hlen.1 (Nat.le_of_eq hpl))) (Nat.le_trans (Nat.le_of_eq hpl.symm) (Nat.le_trans hlen.2 (Nat.le_of_eq (by rw [hxl,hdl])))) (by exact Xv ‹_› ‹_›) hseq ?_
 rw [hglob,hclo,hbui]
 have hvs:VRels π (as++fi.df.drop (as.length+fi.df.length-fi.ps.length)) (xs++ds.drop (xs.length+ds.length-fd.params.args.length)):=by
  rw [hxl,hdl,hpl]
  exact hx.append (hdr.drop _)
 generalize hys:xs++ds.drop (xs.length+ds.length-fd.params.args.length)=ys at hvs
 generalize hvss:as++fi.df.drop (as.length+fi.df.length-fi.ps.length)=vs at hvs hbind
 haveI hπl:π.length=σ.length:=I.len
 haveI hcn:Bu fd.scope.names=(fd.scope.names.filter fun p=>p.2=.cell).map (·.1):=rfl
 haveI ndc':(Bu fd.scope.names).Nodup:=ndc
 haveI hup:∀ {E':Value→Shared→Prop} {Q':Env→Shared→Prop},wpAny (model wd.prog wd.w) A.in1 (newFunctionEnv fd.scope mainGlobals [] ((fd.params.args.map (·.arg)).zip ys) (fd.qualname++".<locals>.") (some a) fd.code none builtinsNs) (fun e s'=>0 < s'.toks→Q' e s') E' s →
   wpAny (model wd.prog wd.w) A.in1 (newFunctionEnv fd.scope mainGlobals [] ((fd.params.args.map (·.arg)).zip ys) (fd.qualname++".<locals>.") (some a) fd.code none builtinsNs) Q' E' s:=by
  intro E' Q' hh
  focus (refine oe ht ?_ ?_;rotate_left;(try clear ht;intro z_o;refine A3 z_o ?_;intro j0 t0 hps0);rotate_right;(try clear ht;intro ht))
  ·exact tok_up ht hh
  ·cases hpa:fd.params.args with
   | nil=>rw [hps0,hpa] at hpl;simp at hpl
   | cons p0 pr =>
    rw [hps0] at hbind
    cases vs with
    | nil=>exact nn hbind
    | cons v0 vr =>
     (refine Ai hvs ?_;try clear hvs;intro y0 yr z_2 hy0 hyr;obtain rfl:=z_2)
     rw [hpa] at hh
     rw [List.map_cons,List.zip_cons_cons] at hh ⊢
     refine cb (Up.env ?_ hkind) hh
     focus (refine oe (hps 0 p0.arg (.nm j0) (by rw [hpa];rfl) (by rw [hps0];rfl)) ?_ ?_;rotate_left;(intro z_o;rcases z_o with ⟨q,j,e,_⟩);rotate_right;(intro z_o;refine Ac z_o ?_;intro q _))
     ·exact q
     ·cases e
 refine hup (wpAny_newFunctionEnv_cells hkind (fun x hx'=>?_) fun env he s' x ht'=>?_)
 ·-- each parameter is a local or a cell
  (refine Ad (List.mem_iff_getElem?.mp hx') ?_;intro i hi)
  have hi1:(fd.params.args.map (·.arg))[i]?=some x.1:=by
   rw [List.getElem?_zip_eq_some] at hi
   exact hi.1
  haveI hlt:=(List.getElem?_eq_some_iff.mp hi1).1
  rw [List.length_map] at hlt
  have hti:i < fi.ps.length:=by exact Qh ‹_› ‹_›
  focus (refine oe (hps i x.1 fi.ps[i] hi1 (List.getElem?_eq_getElem hti)) ?_ ?_;rotate_left;(intro z_o;rcases z_o with ⟨q,j,_,hj⟩);rotate_right;(intro z_o;refine Ac z_o ?_;intro q _))
  ·exact .inl q
  ·refine .inr ⟨q,?_⟩
   rw [Ll fd.scope.names _ [] x.1 ndc',hj]
   rfl
 ·subst he
  refine ⟨(wk.lim.keeps I.base).keeps x.toInCall.keep,codeAny_func ?_⟩
  (refine Cu x.done ?_;intro h₁ tk z_2 _;obtain rfl:=z_2)
  dsimp only at ht'
  haveI hk:=x.toInCall.keep
  haveI hns:=x.toInCall.ns
  dsimp only [newEnv] at hns hk
  (refine Aa (M2 hns) ?_;intro ob hob hno)
  have hlook:∀ (j:Nat) (n:Str),(Bu fd.scope.names)[j]?=some n→(cellsFrom (s.heap.objs.size+1) fd.scope.names []).lookup n=some (s.heap.objs.size+1+j):=fun j n hj=>by
   rw [Ll fd.scope.names _ [] n ndc',Ta ndc' hj]
  have bs:=Nr (π:=π) (ko:=fun x=>fd.scope.names.lookup x) (loc:=Lk fd.scope.names) (cel:=Bu fd.scope.names) ndl ndc' (base:=σ.length) (nc:=fi.nc) hnc (ns:=fd.params.args.map (·.arg)) (mm:=fun _=>none) (cm:=fun _=>none)
   hbind hvs (by rw [List.length_map,hpl]) hps (fun i n v _ hu=>by
    rw [List.getElem?_replicate] at hu
    split at hu<;>cases hu) (fun j n hj=>by
    refine ⟨none,?_,trivial⟩
    have hlt:j < fi.nc:=by rw [hnc];exact (List.getElem?_eq_some_iff.mp hj).1
    rw [List.getElem?_append_right (Nat.le_add_right _ _),Nat.add_sub_cancel_left,List.getElem?_replicate,if_pos hlt]) (by rw [List.length_append,List.length_replicate])
  (refine Hm bs ?_;try clear bs;intro b1 b2 b3 b4)
  (refine As (I.past (a:=s.heap.objs.size) (Nat.le_refl _)) ?_;intro p1 p2 p3)
  have I1:=((I.keep (h':=h₁) hk).takeX p1 p2 p3 hob)
  have e1:σ1=σ++σ1.drop σ.length:=by
   have:σ1.take σ.length=σ:=by
    refine List.ext_getElem? fun i=>?_
    rw [List.getElem?_take]
    split
    ·rename_i hi
     rw [b4 i hi,List.getElem?_append_left hi]
    ·rename_i hi
     rw [List.getElem?_eq_none (Nat.not_lt.mp hi)]
   conv=>lhs;rw [← List.take_append_drop σ.length σ1,this]
  have I2:Inv wd (π++List.range' (s.heap.objs.size+1) fi.nc) σ1 ((s.heap.objs.size,ob) :: X) h₁:=by
   rw [e1]
   refine Inv.takes I1 (by rw [List.length_range',List.length_drop,b3,Nat.add_sub_cancel_left]) List.nodup_range' (fun a ha=>?_) (fun i a o ha ho=>?_)
   ·rw [List.mem_range'_1] at ha
    (refine As (I.past (a:=a) (Nat.le_of_succ_le ha.1)) ?_;intro q1 q2 q3)
    refine ⟨q1,q2,fun z=>?_⟩
    rw [List.map_cons,List.mem_cons] at z
    focus (refine oe z ?_ ?_;rotate_left;(try clear z;intro z);rotate_right;(try clear z;intro z))
    ·have:a=s.heap.objs.size:=z
     exact absurd ha.1 (by rw [this];exact Nat.not_succ_le_self _)
    ·exact q3 z
   ·have hi:i < fi.nc:=by
     have:=(List.getElem?_eq_some_iff.mp ha).1
     rwa [List.length_range'] at this
    rw [List.getElem?_range' hi] at ha
    obtain rfl:=Option.some.inj ha
    rw [List.getElem?_drop] at ho
    have hic:i < (Bu fd.scope.names).length:=by rw [← hnc];exact hi
    (refine Aa (b2 i _ (List.getElem?_eq_getElem hic)) ?_;intro cv c1 c2)
    rw [c1] at ho
    obtain rfl:=Option.some.inj ho
    (refine Aa (x.cell _ _ (hlook i _ (List.getElem?_eq_getElem hic))) ?_;intro oc' ho' hd')
    refine ⟨oc',by rw [Nat.one_mul];exact ho',_,hd',?_⟩
    exact c2
  have at0:At wd ⟨fd.scope.names,Lk fd.scope.names,Bu fd.scope.names⟩ (newEnv fd.scope s.heap.objs.size mainGlobals (cellsFrom (s.heap.objs.size+1) fd.scope.names []) (fd.qualname++".<locals>.") (some a) fd.code none builtinsNs)
    ⟨d,ρ,List.range' σ.length fi.nc⟩ ob (π++List.range' (s.heap.objs.size+1) fi.nc) σ1 X (A.deeper (newEnv fd.scope s.heap.objs.size mainGlobals (cellsFrom (s.heap.objs.size+1) fd.scope.names []) (fd.qualname++".<locals>.") (some a) fd.code none builtinsNs)) ⟨h₁,s.gens,s.drawn,tk,s.os⟩:=by
   refine ⟨wk,⟨hkind,rfl,rfl,fun _=>rfl,ndl⟩,⟨_,hno,fun i n v hi hu=>?_⟩,fun j n kk hj hkk=>?_,⟨hA.handled,?_,?_⟩,ht',I2,hB.le (Le.app _ _)⟩
   ·(refine Aa (b1 i n v hi hu) ?_;intro y y1 y2)
    exact ⟨y,y1,y2.mono _⟩
   ·refine ⟨_,hlook j n hj,?_⟩
    have hlt:j < fi.nc:=by rw [hnc];exact (List.getElem?_eq_some_iff.mp hj).1
    rw [List.getElem?_range' hlt] at hkk
    obtain rfl:=Option.some.inj hkk
    rw [List.getElem?_append_right (by rw [hπl];exact Ja),hπl,Nat.one_mul,Nat.add_sub_cancel_left,List.getElem?_range' hlt,Nat.one_mul]
   ·exact Nat.lt_of_le_of_lt (Nat.le_of_eq (show A.depth+1+d=A.depth+(d+1) by rw [Nat.add_assoc,Nat.add_comm 1 d])) hA.depth
   ·refine Nat.lt_of_le_of_lt (Nat.add_le_add_right (k:=60) (m:=A.units+10*(d+1)) ?_) hA.units
    show A.units+3+10*d≤A.units+(10*d+10)
    rw [Nat.add_assoc,Nat.add_comm 3]
    exact Nat.add_le_add_left (Nat.add_le_add_left (by decide) _) _
  refine E4 (F4 40) hbody q at0 fun fl ρ3 σ3 π3 f h3 t3 ob3 q3 l3 I3 hff fo3 ht3=>?_
  have l4:=(Le.app π (List.range' (s.heap.objs.size+1) fi.nc)).trans l3
  induction fl with
  | next=>subst hff;exact k _ σ3 π3 .none h3 t3 q3 l4 I3.drop rfl ht3
  | brk=>exact q3.elim
  | ret v=>(refine Aa hff ?_;try clear hff;intro x3 z_1 hx3;obtain rfl:=z_1);exact k _ σ3 π3 x3 h3 t3 q3 l4 I3.drop hx3 ht3
end
end Z
end
section
open PySem PySem.W PyProof.Rows PySem.Calls
namespace Y
theorem Td {d:Nat} {a:Addr} {fi:Fn} {as:List V} {σ:H} {Q:V→H→Prop} (ρ:List (Option V)) (σ':H) (hf:tb.fn a=some fi) (hl:as.length≤fi.ps.length∧fi.ps.length≤as.length+fi.df.length)
  (hb:Da fi.ps (as++fi.df.drop (as.length+fi.df.length-fi.ps.length)) (List.replicate fi.nl none) (List.range' σ.length fi.nc) (σ++List.replicate fi.nc (.cell none))=some (ρ,σ'))
  (h:wSs fi.body ⟨d,ρ,List.range' σ.length fi.nc⟩ σ' (rk Q)):Ca (d+1) (.con (.ref a)) as σ Q:=by
 refine Ca.mk ⟨a,rfl,fun wd π X A s xs wk hx hA hB I=>⟨fun Er Qk kk=>?_,fun Qx ht k=>Z.fn_sd wk hf hl hb h hx hA (.inl ht) hB I k⟩⟩
 (refine Xz (wk.fn a fi hf) ?_;intro oc od fd osl body hK hfb _)
 unfold keeperOf
 refine wpAny_bind (wpAny_load (wk.KI.keeps I.base _ _ hK) ?_)
 exact wpAny_pure (kk _)
theorem cp {d:Nat} {a i:Addr} {as:List V} {σ:H} {Q:V→H→Prop} (hi:tb.ini a=some i)
  (h:Ca d (.con (.ref i)) (.ref (σ.length+1) :: as) (σ++[.ns [],.inst a σ.length]) fun v σ'=>v=.none∧Q (.ref (σ.length+1)) σ'):Ca (d+1) (.con (.ref a)) as σ Q:=by
 refine Ca.mk ⟨a,rfl,fun wd π X A s xs wk hx hA hB I=>?_⟩
 (refine As (wk.ini _ _ hi) ?_;intro m1 m2 m3)
 haveI XK:wd.K.In s.heap:=wk.KI.keeps I.base
 refine ⟨fun Er Qk kk=>?_,fun Qx ht k=>?_⟩
 ·haveI Y:=makes_of (M:=model wd.prog wd.w) XK m1
  unfold keeperOf
  (refine Qp Y.obj ?_;intro oc od cd sl hC _)
  exact wpAny_bind (wpAny_load hC (wpAny_bind (Y.call.at (wpAny_pure (kk _)))))
 ·rcases s with ⟨hh,g,dr,t,os⟩
  refine make_core (makes_of XK m1) (looks_findIn XK m2) (fun self=>bind_fn XK self m3) (.inl rfl) ?_
  haveI e0:(hh.push emptyDict).objs.size=hh.objs.size+1:=Heap.size_push ..
  have I1:=I.push (o:=.ns []) (ob:=emptyDict) ⟨_,_,rfl,rfl⟩
  haveI I2:=I1.push (o:=.inst a σ.length) (ob:=instObj a hh.objs.size) ⟨hh.objs.size,Z.get_mono _ (I.at_end _),rfl⟩
  rw [e0] at I2
  have hl2:(π++[hh.objs.size]++[hh.objs.size+1])[σ.length+1]?=some (hh.objs.size+1):=by
   haveI:=I1.at_end (hh.objs.size+1)
   rwa [List.length_append] at this
  haveI lle:Z.Le π (π++[hh.objs.size]++[hh.objs.size+1]):=(Z.Le.app _ _).trans (Z.Le.app _ _)
  haveI hA2:Z.AOk d (A.under (.builtin "type.__call__" ⟨.ref a :: xs,[]⟩)):=by
   refine ⟨hA.handled,?_,?_⟩
   ·exact Nat.lt_of_le_of_lt (Nat.le_of_eq (show A.depth+1+d=A.depth+(d+1) by rw [Nat.add_assoc,Nat.add_comm 1 d])) hA.depth
   ·refine Nat.lt_of_le_of_lt (Nat.add_le_add_right (k:=60) (m:=A.units+10*(d+1)) ?_) hA.units
    show A.units+1+10*d≤A.units+(10*d+10)
    rw [Nat.add_assoc,Nat.add_comm 1]
    exact Nat.add_le_add_left (Nat.add_le_add_left (by decide) _) _
  rw [List.append_assoc] at I2
  (refine Aa h.ev ?_;intro _ e hh2)
  cases e
  have h3:=(hh2 wd _ X (A.under (.builtin "type.__call__" ⟨.ref a :: xs,[]⟩)) ⟨(hh.push emptyDict).push (instObj a hh.objs.size),g,dr,t,os⟩ (.ref (hh.objs.size+1) :: xs) wk (Z.VRels.cons (v:=.ref (σ.length+1)) ⟨_,hl2,rfl⟩ (hx.le lle)) hA2 (hB.le lle) (by rw [List.append_assoc] at *;exact I2)).2
  refine codeAny_mono (h3 (fun x s'=>x=.none∧Qx (.ref (hh.objs.size+1)) s') ht fun v σ3 π3 x3 hp3 t3 q3 l3 I3 hx3 ht3=>?_) fun rr s' hr=>?_
  ·(refine Ac q3 ?_;try clear q3;intro z_0 q3;obtain rfl:=z_0)
   subst hx3
   exact ⟨rfl,k _ σ3 π3 _ hp3 t3 q3 (lle.trans l3) I3 ⟨_,Z.get_le l3 hl2,rfl⟩ ht3⟩
  ·induction rr with
   | error e=>exact hr.elim
   | ok f=>induction f with
    | ret x=>exact hr
    | _=>exact hr.elim
end Y
end
section
open PySem
namespace Y
structure Bs where
 mode:Str
 l:List Int
 kinds:List V
 spaces:List V
 names:List V
 attrs:List V
 texts:List V
 parents:List V
 children:List V
 items:List V
 errors:List V
 kid:Nat→List V
 fok:Bool
 ack:Bool
 ctx:Int
structure Ds where
 stack:V
 notes:List V
 fok:Bool
 ack:Bool
 ekid:Nat→List V
 er:Nat→Nat
 path:Nat→List Nat
inductive VR where
 | imm (o:O)
 | kid (n:Nat)
 | ekid (n:Nat)
inductive FR where
 | scr | rul | bns | kinds | spaces | names | attrs | texts | parents | children | items | errs | notes | sdict
 | v (r:VR)
noncomputable def Eh (k e:Nat→List V):VR→O
 | .imm o=>o
 | .kid n=>.list (k n)
 | .ekid n=>.list (e n)
noncomputable def cont (B:Bs) (D:Ds):FR→O
 | .scr=>.list (B.l.map .int)
 | .rul=>.dict [(B.mode,.con (.ref 753))]
 | .bns=>.ns [(18,.ref 6),(16,.ref 10),(19,.ref 22),(20,.ref 25),(21,.str B.mode),(22,.str (s "")),(23,.ref 27),(24,.int (-1)),(25,.int (-1)),(26,.ref 28),(27,.bool B.fok),(28,.bool false),(29,.bool false),(30,.int B.ctx),(31,.str (s "no-quirks")),(32,.ref 29),(33,.ref 30),(34,.str (s "")),(35,.bool false),(36,.bool B.ack),(37,.bool false)]
 | .kinds=>.list B.kinds
 | .spaces=>.list B.spaces
 | .names=>.list B.names
 | .attrs=>.list B.attrs
 | .texts=>.list B.texts
 | .parents=>.list B.parents
 | .children=>.list B.children
 | .items=>.list B.items
 | .errs=>.list B.errors
 | .notes=>.list D.notes
 | .sdict=>.dict [(s "stack",D.stack),(s "notes",.ref 36),(s "mode",.str B.mode),(s "is_frameset_ok",.bool D.fok),(s "is_acknowledged",.bool D.ack)]
 | .v r=>Eh B.kid D.ekid r
noncomputable def cq:List (Nat×V):=[(8,.ref 11),(9,.ref 12),(10,.ref 13),(11,.ref 14),(12,.ref 15),(13,.ref 16),(14,.ref 17),(15,.ref 18)]
abbrev fi (o:O):FR:=.v (.imm o)
abbrev st (x:String):V:=.str (s x)
noncomputable def ct:List O:=[.list [],
 .tuple [],.tuple [st "svg",st "svg",.ref 41],.tuple [],.tuple [st "svg",st "g",.ref 43],.tuple [],.tuple [st "svg",st "foreignObject",.ref 45],.tuple [],.tuple [st "math",st "math",.ref 47],
 .list [.ref 42,.ref 44,.ref 46,.ref 48],
 .tuple [],.tuple [st "math",st "mi",.ref 50],.tuple [],.tuple [st "html",st "p",.ref 52],.tuple [],.tuple [st "svg",st "desc",.ref 54],.tuple [],.tuple [st "svg",st "title",.ref 56],
 .list [.ref 51,.ref 53,.ref 55,.ref 57],
 .list [.ref 42,.ref 44,.ref 46,.ref 48,.ref 51,.ref 53,.ref 55,.ref 57,.ref 64,.ref 68,.ref 72,.ref 76],
 .list [st "Text/HTML",st "application/XHTML+xml",st "text/htm",st ""],
 .tuple [st "id",st "text/html"],.tuple [st "encoding",st "Text/HTML"],.tuple [.ref 61,.ref 62],.tuple [st "math",st "annotation-xml",.ref 63],
 .tuple [st "id",st "text/html"],.tuple [st "encoding",st "application/XHTML+xml"],.tuple [.ref 65,.ref 66],.tuple [st "math",st "annotation-xml",.ref 67],
 .tuple [st "id",st "text/html"],.tuple [st "encoding",st "text/htm"],.tuple [.ref 69,.ref 70],.tuple [st "math",st "annotation-xml",.ref 71],
 .tuple [st "id",st "text/html"],.tuple [st "encoding",st ""],.tuple [.ref 73,.ref 74],.tuple [st "math",st "annotation-xml",.ref 75],
 .tuple [],.tuple [st "math",st "annotation-xml",.ref 77],.tuple [st "encoding",st "text/html"],.tuple [.ref 79],.tuple [st "svg",st "annotation-xml",.ref 80],
 .list [.ref 78,.ref 81],
 .list [.ref 42,.ref 44,.ref 46,.ref 48,.ref 51,.ref 53,.ref 55,.ref 57,.ref 64,.ref 68,.ref 72,.ref 76,.ref 78,.ref 81],
 .tuple [],.tuple [st "svg",st "script",.ref 84],.tuple [],.tuple [st "math",st "desc",.ref 86],.tuple [],.tuple [st "svg",st "mi",.ref 88],.tuple [],.tuple [st "math",st "mo",.ref 90],
 .list [.ref 85,.ref 87,.ref 89,.ref 91],
 .list [.ref 42,.ref 44,.ref 46,.ref 48,.ref 51,.ref 53,.ref 55,.ref 57,.ref 64,.ref 68,.ref 72,.ref 76,.ref 78,.ref 81,.ref 85,.ref 87,.ref 89,.ref 91],
 .tuple [],.tuple [st "math",st "mn",.ref 94],.tuple [],.tuple [st "math",st "ms",.ref 96],.tuple [],.tuple [st "math",st "mtext",.ref 98],.tuple [],.tuple [st "html",st "b",.ref 100],
 .list [.ref 95,.ref 97,.ref 99,.ref 101],
 .list [.ref 42,.ref 44,.ref 46,.ref 48,.ref 51,.ref 53,.ref 55,.ref 57,.ref 64,.ref 68,.ref 72,.ref 76,.ref 78,.ref 81,.ref 85,.ref 87,.ref 89,.ref 91,.ref 95,.ref 97,.ref 99,.ref 101],
 .tuple [],.tuple [st "math",st "mrow",.ref 104],.tuple [],.tuple [st "svg",st "clipPath",.ref 106],.tuple [],.tuple [st "math",st "foreignObject",.ref 108],.tuple [],.tuple [st "svg",st "a",.ref 110],
 .list [.ref 105,.ref 107,.ref 109,.ref 111],
 .list [.ref 42,.ref 44,.ref 46,.ref 48,.ref 51,.ref 53,.ref 55,.ref 57,.ref 64,.ref 68,.ref 72,.ref 76,.ref 78,.ref 81,.ref 85,.ref 87,.ref 89,.ref 91,.ref 95,.ref 97,.ref 99,.ref 101,.ref 105,.ref 107,.ref 109,.ref 111]]
noncomputable def C1:List FR:=[.scr,fi (.tuple []),fi (.tuple []),fi (.tuple []),fi (.cell (some (.ref 10))),fi (.list [st "in body",st "in cell"]),.rul,.bns,fi (.inst 662 7),fi (.ns cq),fi (.inst 584 9),
 .kinds,.spaces,.names,.attrs,.texts,.parents,.children,fi (.dict []),fi (.list []),fi (.list [.int 1]),fi (.ns [(16,.ref 10),(17,.ref 23)]),fi (.inst 467 21),.items,
 fi (.ns [(16,.ref 10),(17,.ref 26)]),fi (.inst 355 24),fi (.list []),fi (.list []),fi (.dict []),.errs,fi (.list []),fi (.list []),.v (.ekid 1),fi (.tuple [.int 0]),
 fi (.list [st "html",st "html",.ref 31,.ref 32,.ref 33]),fi (.list [.ref 34]),.notes,.sdict,fi (.list []),.v (.kid 1),fi (.list [])]++(ct.tail.map fi)
noncomputable def hp (B:Bs) (D:Ds) (Δ:List VR):H:=C1.map (cont B D)++Δ.map (Eh B.kid D.ekid)
theorem Nt:C1.length=114:=by decide
theorem Te {B:Bs} {D:Ds} {Δ:List VR}:(hp B D Δ)[0]?=some (.list (B.l.map .int)):=rfl
theorem cu {B:Bs} {D:Ds} {Δ:List VR}:(hp B D Δ)[1]?=some (.tuple []):=rfl
theorem cw {B:Bs} {D:Ds} {Δ:List VR}:(hp B D Δ)[2]?=some (.tuple []):=rfl
theorem cx {B:Bs} {D:Ds} {Δ:List VR}:(hp B D Δ)[3]?=some (.tuple []):=rfl
theorem cy {B:Bs} {D:Ds} {Δ:List VR}:(hp B D Δ)[4]?=some (.cell (some (.ref 10))):=rfl
theorem Tf {B:Bs} {D:Ds} {Δ:List VR}:(hp B D Δ)[6]?=some (.dict [(B.mode,.con (.ref 753))]):=rfl
theorem Tg {B:Bs} {D:Ds} {Δ:List VR}:(hp B D Δ)[11]?=some (.list B.kinds):=rfl
theorem Th {B:Bs} {D:Ds} {Δ:List VR}:(hp B D Δ)[12]?=some (.list B.spaces):=rfl
theorem Ti {B:Bs} {D:Ds} {Δ:List VR}:(hp B D Δ)[13]?=some (.list B.names):=rfl
theorem Tj {B:Bs} {D:Ds} {Δ:List VR}:(hp B D Δ)[14]?=some (.list B.attrs):=rfl
theorem Nu {B:Bs} {D:Ds} {Δ:List VR}:(hp B D Δ)[15]?=some (.list B.texts):=rfl
theorem Nv {B:Bs} {D:Ds} {Δ:List VR}:(hp B D Δ)[16]?=some (.list B.parents):=rfl
theorem F5 {B:Bs} {D:Ds} {Δ:List VR}:(hp B D Δ)[17]?=some (.list B.children):=rfl
theorem cz {B:Bs} {D:Ds} {Δ:List VR}:(hp B D Δ)[18]?=some (.dict []):=rfl
theorem Lm {B:Bs} {D:Ds} {Δ:List VR}:(hp B D Δ)[20]?=some (.list [.int 1]):=rfl
theorem Ln {B:Bs} {D:Ds} {Δ:List VR}:(hp B D Δ)[23]?=some (.list B.items):=rfl
theorem Tl {B:Bs} {D:Ds} {Δ:List VR}:(hp B D Δ)[26]?=some (.list []):=rfl
theorem Tm {B:Bs} {D:Ds} {Δ:List VR}:(hp B D Δ)[29]?=some (.list B.errors):=rfl
theorem Tn {B:Bs} {D:Ds} {Δ:List VR}:(hp B D Δ)[36]?=some (.list D.notes):=rfl
theorem c4 {B:Bs} {D:Ds} {Δ:List VR}:(hp B D Δ)[37]?=some (.dict [(s "stack",D.stack),(s "notes",.ref 36),(s "mode",.str B.mode),(s "is_frameset_ok",.bool D.fok),(s "is_acknowledged",.bool D.ack)]):=rfl
theorem c5 {B:Bs} {D:Ds} {Δ:List VR}:(hp B D Δ)[113]?=some (.list [.ref 42,.ref 44,.ref 46,.ref 48,.ref 51,.ref 53,.ref 55,.ref 57,.ref 64,.ref 68,.ref 72,.ref 76,.ref 78,.ref 81,.ref 85,.ref 87,.ref 89,.ref 91,.ref 95,.ref 97,.ref 99,.ref 101,.ref 105,.ref 107,.ref 109,.ref 111]):=rfl
theorem c7 {B:Bs} {D:Ds} {Δ:List VR} {xs:List V}:(hp B D Δ).set 11 (.list xs)=hp {B with kinds:=xs} D Δ:=rfl
theorem c8 {B:Bs} {D:Ds} {Δ:List VR} {xs:List V}:(hp B D Δ).set 12 (.list xs)=hp {B with spaces:=xs} D Δ:=rfl
theorem c9 {B:Bs} {D:Ds} {Δ:List VR} {xs:List V}:(hp B D Δ).set 13 (.list xs)=hp {B with names:=xs} D Δ:=rfl
theorem db {B:Bs} {D:Ds} {Δ:List VR} {xs:List V}:(hp B D Δ).set 14 (.list xs)=hp {B with attrs:=xs} D Δ:=rfl
theorem dc {B:Bs} {D:Ds} {Δ:List VR} {xs:List V}:(hp B D Δ).set 15 (.list xs)=hp {B with texts:=xs} D Δ:=rfl
theorem de {B:Bs} {D:Ds} {Δ:List VR} {xs:List V}:(hp B D Δ).set 16 (.list xs)=hp {B with parents:=xs} D Δ:=rfl
theorem dh {B:Bs} {D:Ds} {Δ:List VR} {xs:List V}:(hp B D Δ).set 17 (.list xs)=hp {B with children:=xs} D Δ:=rfl
theorem di {B:Bs} {D:Ds} {Δ:List VR} {xs:List V}:(hp B D Δ).set 23 (.list xs)=hp {B with items:=xs} D Δ:=rfl
theorem dj {B:Bs} {D:Ds} {Δ:List VR} {xs:List V}:(hp B D Δ).set 29 (.list xs)=hp {B with errors:=xs} D Δ:=rfl
theorem dm {B:Bs} {D:Ds} {Δ:List VR} {xs:List V}:(hp B D Δ).set 36 (.list xs)=hp B {D with notes:=xs} Δ:=rfl
theorem dn {B:Bs} {D:Ds} {Δ:List VR}:A8 tb (hp B D Δ) (.ref 8) 18=some (.ref 6):=rfl
theorem dq {B:Bs} {D:Ds} {Δ:List VR}:A8 tb (hp B D Δ) (.ref 8) 16=some (.ref 10):=rfl
theorem du {B:Bs} {D:Ds} {Δ:List VR}:A8 tb (hp B D Δ) (.ref 8) 19=some (.ref 22):=rfl
theorem dv {B:Bs} {D:Ds} {Δ:List VR}:A8 tb (hp B D Δ) (.ref 8) 20=some (.ref 25):=rfl
theorem dw {B:Bs} {D:Ds} {Δ:List VR}:A8 tb (hp B D Δ) (.ref 8) 21=some (.str B.mode):=rfl
theorem dy {B:Bs} {D:Ds} {Δ:List VR}:A8 tb (hp B D Δ) (.ref 8) 27=some (.bool B.fok):=rfl
theorem dz {B:Bs} {D:Ds} {Δ:List VR}:A8 tb (hp B D Δ) (.ref 8) 29=some (.bool false):=rfl
theorem d0 {B:Bs} {D:Ds} {Δ:List VR}:A8 tb (hp B D Δ) (.ref 8) 30=some (.int B.ctx):=rfl
theorem d3 {B:Bs} {D:Ds} {Δ:List VR}:A8 tb (hp B D Δ) (.ref 8) 32=some (.ref 29):=rfl
theorem d5 {B:Bs} {D:Ds} {Δ:List VR}:A8 tb (hp B D Δ) (.ref 8) 36=some (.bool B.ack):=rfl
theorem d6 {B:Bs} {D:Ds} {Δ:List VR}:A8 tb (hp B D Δ) (.ref 10) 8=some (.ref 11):=rfl
theorem d7 {B:Bs} {D:Ds} {Δ:List VR}:A8 tb (hp B D Δ) (.ref 10) 9=some (.ref 12):=rfl
theorem d8 {B:Bs} {D:Ds} {Δ:List VR}:A8 tb (hp B D Δ) (.ref 10) 10=some (.ref 13):=rfl
theorem d9 {B:Bs} {D:Ds} {Δ:List VR}:A8 tb (hp B D Δ) (.ref 10) 11=some (.ref 14):=rfl
theorem ed {B:Bs} {D:Ds} {Δ:List VR}:A8 tb (hp B D Δ) (.ref 10) 12=some (.ref 15):=rfl
theorem ee {B:Bs} {D:Ds} {Δ:List VR}:A8 tb (hp B D Δ) (.ref 10) 13=some (.ref 16):=rfl
theorem eu {B:Bs} {D:Ds} {Δ:List VR}:A8 tb (hp B D Δ) (.ref 10) 14=some (.ref 17):=rfl
theorem e7 {B:Bs} {D:Ds} {Δ:List VR}:A8 tb (hp B D Δ) (.ref 10) 15=some (.ref 18):=rfl
theorem e8 {B:Bs} {D:Ds} {Δ:List VR}:A8 tb (hp B D Δ) (.ref 22) 17=some (.ref 23):=rfl
theorem e9 {B:Bs} {D:Ds} {Δ:List VR}:A8 tb (hp B D Δ) (.ref 25) 17=some (.ref 26):=rfl
theorem fc {B:Bs} {D:Ds} {Δ:List VR} {x:Bool}:Fm tb (hp B D Δ) (.ref 8) 27 (.bool x)=some (hp {B with fok:=x} D Δ):=rfl
theorem fe {B:Bs} {D:Ds} {Δ:List VR} {x:Bool}:Fm tb (hp B D Δ) (.ref 8) 36 (.bool x)=some (hp {B with ack:=x} D Δ):=rfl
theorem ff {B:Bs} {D:Ds} {Δ:List VR} {x:Int}:Fm tb (hp B D Δ) (.ref 8) 30 (.int x)=some (hp {B with ctx:=x} D Δ):=rfl
theorem fg {B:Bs} {D:Ds} {Δ:List VR}:Am (hp B D Δ) (.ref 22) 38=.own 387:=rfl
theorem fh {B:Bs} {D:Ds} {Δ:List VR}:Am (hp B D Δ) (.ref 22) 1=.own 394:=rfl
theorem fj {B:Bs} {D:Ds} {Δ:List VR}:Am (hp B D Δ) (.ref 22) 39=.own 401:=rfl
theorem fk {B:Bs} {D:Ds} {Δ:List VR}:Am (hp B D Δ) (.ref 22) 40=.own 408:=rfl
theorem fp {B:Bs} {D:Ds} {Δ:List VR}:Am (hp B D Δ) (.ref 10) 41=.own 494:=rfl
theorem fq {B:Bs} {D:Ds} {Δ:List VR}:Am (hp B D Δ) (.ref 10) 42=.own 503:=rfl
theorem fu {B:Bs} {D:Ds} {Δ:List VR}:Am (hp B D Δ) (.ref 10) 43=.own 510:=rfl
theorem fv {B:Bs} {D:Ds} {Δ:List VR}:Am (hp B D Δ) (.ref 10) 44=.own 517:=rfl
theorem fw {B:Bs} {D:Ds} {Δ:List VR}:Am (hp B D Δ) (.ref 10) 2=.own 532:=rfl
theorem fy {B:Bs} {D:Ds} {Δ:List VR}:Am (hp B D Δ) (.ref 10) 0=.own 539:=rfl
theorem f6 {B:Bs} {D:Ds} {Δ:List VR}:Am (hp B D Δ) (.ref 10) 45=.own 546:=rfl
theorem f7 {B:Bs} {D:Ds} {Δ:List VR}:Am (hp B D Δ) (.ref 10) 46=.own 567:=rfl
theorem f8 {B:Bs} {D:Ds} {Δ:List VR}:Am (hp B D Δ) (.ref 10) 47=.own 574:=rfl
theorem f9 {B:Bs} {D:Ds} {Δ:List VR}:Am (hp B D Δ) (.ref 8) 48=.own 617:=rfl
theorem gb {B:Bs} {D:Ds} {Δ:List VR}:Am (hp B D Δ) (.ref 8) 49=.own 624:=rfl
theorem gc {B:Bs} {D:Ds} {Δ:List VR}:Am (hp B D Δ) (.ref 8) 50=.own 631:=rfl
theorem gf {B:Bs} {D:Ds} {Δ:List VR}:Am (hp B D Δ) (.ref 8) 51=.own 652:=rfl
theorem gg {B:Bs} {D:Ds} {Δ:List VR}:Am (hp B D Δ) (.ref 8) 52=.own 659:=rfl
theorem gh {B:Bs} {D:Ds} {Δ:List VR}:Am (hp B D Δ) (.ref 11) 0=.blt .append:=rfl
theorem gi {B:Bs} {D:Ds} {Δ:List VR}:Am (hp B D Δ) (.ref 12) 0=.blt .append:=rfl
theorem gj {B:Bs} {D:Ds} {Δ:List VR}:Am (hp B D Δ) (.ref 13) 0=.blt .append:=rfl
theorem gk {B:Bs} {D:Ds} {Δ:List VR}:Am (hp B D Δ) (.ref 14) 0=.blt .append:=rfl
theorem gn {B:Bs} {D:Ds} {Δ:List VR}:Am (hp B D Δ) (.ref 15) 0=.blt .append:=rfl
theorem gp {B:Bs} {D:Ds} {Δ:List VR}:Am (hp B D Δ) (.ref 16) 0=.blt .append:=rfl
theorem gq {B:Bs} {D:Ds} {Δ:List VR}:Am (hp B D Δ) (.ref 17) 0=.blt .append:=rfl
theorem gr {B:Bs} {D:Ds} {Δ:List VR}:Am (hp B D Δ) (.ref 23) 0=.blt .append:=rfl
theorem gs {B:Bs} {D:Ds} {Δ:List VR}:Am (hp B D Δ) (.ref 23) 1=.blt .pop:=rfl
theorem gu {B:Bs} {D:Ds} {Δ:List VR}:Am (hp B D Δ) (.ref 29) 0=.blt .append:=rfl
theorem gv {B:Bs} {D:Ds} {Δ:List VR}:Am (hp B D Δ) (.ref 36) 0=.blt .append:=rfl
theorem gw {B:Bs} {D:Ds} {Δ:List VR} {v:V}:Cy (hp B D Δ) (.ref 37) (.str (s "stack")) v=some (hp B {D with stack:=v} Δ):=rfl
theorem gx {B:Bs} {D:Ds} {Δ:List VR} {x:Bool}:Cy (hp B D Δ) (.ref 37) (.str (s "is_frameset_ok")) (.bool x)=some (hp B {D with fok:=x} Δ):=rfl
theorem gy {B:Bs} {D:Ds} {Δ:List VR} {x:Bool}:Cy (hp B D Δ) (.ref 37) (.str (s "is_acknowledged")) (.bool x)=some (hp B {D with ack:=x} Δ):=rfl
theorem gz {B:Bs} {D:Ds} {Δ:List VR}:Ao (hp B D Δ) (.ref 37) (.str (s "stack"))=some (D.stack):=rfl
theorem g0 {B:Bs} {D:Ds} {Δ:List VR}:Ao (hp B D Δ) (.ref 37) (.str (s "notes"))=some (.ref 36):=rfl
theorem g6 {B:Bs} {D:Ds} {Δ:List VR}:Ao (hp B D Δ) (.ref 37) (.str (s "mode"))=some (.str B.mode):=rfl
theorem g7 {B:Bs} {D:Ds} {Δ:List VR}:Ao (hp B D Δ) (.ref 37) (.str (s "is_frameset_ok"))=some (.bool D.fok):=rfl
theorem g8 {B:Bs} {D:Ds} {Δ:List VR}:Ao (hp B D Δ) (.ref 37) (.str (s "is_acknowledged"))=some (.bool D.ack):=rfl
noncomputable def sz (Δ:List VR):Nat:=114+Δ.length
noncomputable def ad (Δ:List VR) (J:List O):List VR:=Δ++J.map .imm
noncomputable def gm (Δ:List VR):List FR:=C1++Δ.map .v
noncomputable def At (Δ:List VR) (a:Nat) (r:VR):Prop:=(gm Δ)[a]?=some (.v r)
theorem G5 (B:Bs) (D:Ds) (Δ:List VR):hp B D Δ=(gm Δ).map (cont B D):=by
 show C1.map (cont B D)++Δ.map _=(C1++Δ.map FR.v).map (cont B D)
 rw [List.map_append,List.map_map]
 rfl
theorem Lo {B:Bs} {D:Ds} {Δ:List VR}:List.length (hp B D Δ)=sz Δ:=by
 unfold hp sz
 rw [List.length_append,List.length_map,List.length_map,Nt]
theorem Lp {Δ:List VR} {J:List O}:sz (ad Δ J)=sz Δ+J.length:=by
 simp [sz,ad,Nat.add_assoc]
theorem g9 {B:Bs} {D:Ds} {Δ:List VR} {J:List O}:List.length (hp B D (ad Δ J))=sz Δ+J.length:=by
 rw [Lo,Lp]
theorem Ny {B:Bs} {D:Ds} {Δ:List VR} {L:List O}:hp B D Δ++L=hp B D (ad Δ L):=by
 simp [hp,ad,Eh,Function.comp_def]
theorem To {B:Bs} {D:Ds} {Δ:List VR} {J L:List O}:hp B D (ad Δ J)++L=hp B D (ad Δ (J++L)):=by
 simp [hp,ad,Eh,Function.comp_def]
theorem Bc {Δ:List VR} {J K:List O}:ad (ad Δ J) K=ad Δ (J++K):=by simp [ad]
theorem Bm {Δ:List VR}:ad Δ []=Δ:=by simp [ad]
theorem E7 {Δ:List VR}:(gm Δ).length=sz Δ:=by simp [gm,sz,Nt]
theorem At.lt {Δ:List VR} {a:Nat} {r:VR} (h:At Δ a r):a < sz Δ:=by
 rw [← E7]
 exact (List.getElem?_eq_some_iff.mp h).1
theorem At.app {Δ:List VR} {a:Nat} {r:VR} (h:At Δ a r) (J:List VR):At (Δ++J) a r:=by
 unfold At gm at *
 rw [List.map_append,← List.append_assoc,List.getElem?_append_left (List.getElem?_eq_some_iff.mp h).1]
 exact h
theorem At.ad {Δ:List VR} {a:Nat} {r:VR} (h:At Δ a r) (J:List O):At (ad Δ J) a r:=h.app _
theorem Lq {B:Bs} {D:Ds} {Δ:List VR} {a:Nat} {r:VR} (h:At Δ a r):(hp B D Δ)[a]?=some (Eh B.kid D.ekid r):=by
 rw [G5,List.getElem?_map,h]
 rfl
theorem Nz {B:Bs} {D:Ds} {Δ:List VR} {J:List O} {a:Nat} {r:VR} (h:At Δ a r):(hp B D (ad Δ J))[a]?=some (Eh B.kid D.ekid r):=Lq (h.ad J)
theorem im {B:Bs} {D:Ds} {Δ:List VR} {a:Nat} {o:O} (h:At Δ a (.imm o)):(hp B D Δ)[a]?=some o:=Lq h
theorem ima {B:Bs} {D:Ds} {Δ:List VR} {J:List O} {a:Nat} {o:O} (h:At Δ a (.imm o)):(hp B D (ad Δ J))[a]?=some o:=Nz h
theorem Tp {Δ J:List VR} {k:Nat}:(gm (Δ++J))[sz Δ+k]?=(J[k]?).map .v:=by
 rw [← E7]
 have:gm (Δ++J)=gm Δ++J.map .v:=by simp [gm]
 rw [this,List.getElem?_append_right (Nat.le_add_right _ _),Nat.add_sub_cancel_left,List.getElem?_map]
theorem At.new {Δ J:List VR} {k:Nat} {r:VR} (h:J[k]?=some r):At (Δ++J) (sz Δ+k) r:=by
 unfold At
 rw [Tp,h]
 rfl
theorem At.new_ad {Δ:List VR} {J:List O} {k:Nat} {o:O} (h:J[k]?=some o):At (Mine.Y.ad Δ J) (sz Δ+k) (.imm o):=by
 refine At.new ?_
 rw [List.getElem?_map,h]
 rfl
theorem De {B:Bs} {D:Ds} {Δ:List VR} {J:List O} {k:Nat}:(hp B D (ad Δ J))[sz Δ+k]?=J[k]?:=by
 rw [G5,List.getElem?_map]
 unfold ad
 rw [Tp,List.getElem?_map]
 cases J[k]?<;>rfl
theorem Ia {B:Bs} {D:Ds} {Δ:List VR} {J:List O}:(hp B D (ad Δ J))[sz Δ]?=J[0]?:=De (k:=0)
theorem Tq {B:Bs} {D:Ds} {Δ:List VR} {J:List O} {k:Nat} {o:O}:(hp B D (ad Δ J)).set (sz Δ+k) o=hp B D (ad Δ (J.set k o)):=by
 unfold hp ad
 rw [List.map_append,← List.append_assoc,List.map_append,← List.append_assoc]
 have hl:(C1.map (cont B D)++Δ.map (Eh B.kid D.ekid)).length=sz Δ:=by simp [sz,Nt]
 rw [List.set_append,if_neg (by rw [hl];exact Nat.not_lt.mpr (Nat.le_add_right _ _)),hl,Nat.add_sub_cancel_left]
 simp [Function.comp_def,Eh,List.map_set]
theorem h9 {B:Bs} {D:Ds} {Δ:List VR} {J:List O} {o:O}:(hp B D (ad Δ J)).set (sz Δ) o=hp B D (ad Δ (J.set 0 o)):=Tq (k:=0)
theorem ib {Δ:List VR} {k:Nat}:fz≤sz Δ+k:=Nat.le_trans (by decide:4≤114) (Nat.le_trans (Nat.le_add_right 114 Δ.length) (Nat.le_add_right _ _))
theorem ic {Δ:List VR}:fz≤sz Δ:=Nat.le_trans (by decide:4≤114) (Nat.le_add_right 114 Δ.length)
theorem toNat_inj {a b:Char} (h:a.toNat=b.toNat):a=b:=by
 apply Char.ext
 exact UInt32.toNat_inj.mp h
theorem Tr {a b:String}:(Str.ofString a=Str.ofString b)=(a=b):=by
 apply propext
 constructor
 ·intro h
  rw [Str.ofString_eq_toList,Str.ofString_eq_toList,Str.mk.injEq] at h
  have h2:a.toList.map Char.toNat=b.toList.map Char.toNat:=by simpa using h
  have h3:a.toList=b.toList:=by
   have:∀ (x y:List Char),x.map Char.toNat=y.map Char.toNat→x=y:=by
    intro x
    induction x with
    | nil=>intro y e;cases y with
     | nil=>rfl
     | cons _ _=>cases e
    | cons c x ih=>intro y e;cases y with
     | nil=>cases e
     | cons d y =>
      simp only [List.map_cons,List.cons.injEq] at e
      rw [toNat_inj e.1,ih y e.2]
   exact this _ _ h2
  exact String.toList_inj.mp h3
 ·intro h;rw [h]
theorem ie {a b:String}:(Str.ofString a==Str.ofString b)=(a==b):=by
 rw [Bool.eq_iff_iff,beq_iff_eq,beq_iff_eq,Tr]
theorem Ap {x:String}:PyData.strOk (Str.ofString x)=true:=by
 rw [Str.ofString_eq_toList]
 unfold PyData.strOk
 simp only [Array.all_eq_true',List.mem_toArray,List.mem_map]
 rintro _ ⟨c,_,rfl⟩
 simp only [decide_eq_true_eq]
 have:=c.valid
 focus (refine oe this ?_ ?_;rotate_left;(try clear this;intro z_o;refine Ac z_o ?_;intro _ h);rotate_right;(try clear this;intro h))
 ·exact Nat.lt_trans h (by decide)
 ·exact h
section
variable {σ:H}
theorem ig {α:Type} {F:List V→Option α} {vs:List V}:onL (some (.list vs)) F=F vs:=rfl
theorem ij {α:Type} {F:List V→Option α} {vs:List V}:onT (some (.tuple vs)) F=F vs:=rfl
theorem N0 {n:Nat}:pd σ n .none=some .none:=Iz σ nofun
theorem Ts {n:Nat} {b:Bool}:pd σ n (.bool b)=some (.bool b):=Iz σ nofun
theorem N1 {n:Nat} {b:Int}:pd σ n (.int b)=some (.int b):=Iz σ nofun
theorem E8 {n:Nat} {x:Str} (h:PyData.strOk x=true):pd σ n (.str x)=some (.str x):=by rw [Iz σ (fun _ h=>by cases h)];exact if_pos (P2.trans h)
theorem Df {n:Nat}:pds σ n []=some []:=rfl
theorem Ei {n:Nat} {v:V} {vs:List V}:pds σ n (v :: vs)=match pd σ n v,pds σ n vs with
 | some d,some ds=>some (d :: ds)
 | _,_=>none:=rfl
theorem ik {x y:Str}:A6 σ .Eq (.str x) (.str y)=some (x==y):=rfl
theorem il {x y:Str}:A6 σ .NotEq (.str x) (.str y)=some (!(x==y)):=rfl
theorem io {y:Str} (hy:PyData.strOk y=true):A6 σ .Eq .none (.str y)=some false:=by
 show eqG σ .none (.str y) (fun c=>c)=_
 rw [eqG,N0,E8 hy];rfl
theorem ip {x y:Int}:A6 σ .Eq (.int x) (.int y)=some (x==y):=rfl
theorem iq {x y:Int}:A6 σ .NotEq (.int x) (.int y)=some (!(x==y)):=rfl
theorem ir {x y:Bool}:A6 σ .NotEq (.bool x) (.bool y)=some (!(x==y)):=rfl
theorem iu {x y:Int}:A6 σ .Lt (.int x) (.int y)=some (decide (x < y)):=rfl
theorem iw {x y:Int}:A6 σ .Gt (.int x) (.int y)=some (decide (x > y)):=rfl
theorem iy {x y:Int}:A6 σ .GtE (.int x) (.int y)=some (decide (x≥y)):=rfl
theorem iz {x y:Str}:A6 σ .LtE (.str x) (.str y)=some (Gn x y):=rfl
theorem i5 {x:Str}:A6 σ .Is (.str x) .none=some false:=rfl
theorem i7:A6 σ .Is .none .none=some true:=rfl
theorem i8 {x:Str}:A6 σ .IsNot (.str x) .none=some true:=rfl
theorem i9:A6 σ .IsNot .none .none=some false:=rfl
theorem ja {a b:V}:A6 σ .In a b=inA σ a b:=rfl
theorem jb {a b:V}:A6 σ .NotIn a b=(inA σ a b).map not:=rfl
theorem jc {x:V} {i:Nat}:inA σ x (.ref i)=inO σ x σ[i]?:=rfl
theorem jd {x:V} {vs:List V}:inO σ x (some (.list vs))=inS σ x vs:=rfl
theorem je {x:V} {vs:List V}:inO σ x (some (.tuple vs))=inS σ x vs:=rfl
theorem jf {x:V} {es:List (Str×V)}:inO σ x (some (.dict es))=inD x es:=rfl
theorem jg {x:Str} {es:List (Str×V)}:inD (.str x) es=some (es.lookup x).isSome:=rfl
theorem jh {x:Str} {vs:List V}:inS σ (.str x) vs=Dm x vs:=rfl
theorem ji {k:Int} {vs:List V}:inS σ (.int k) vs=(pds σ Ax vs).map fun ds=>ds.any fun y=>PyData.eqv y (.int k):=rfl
theorem jk {i:Nat} {vs:List V}:inS σ (.ref i) vs=(pd σ Ax (.ref i)).bind fun d=>(pds σ Ax vs).map fun ds=>ds.any fun y=>PyData.eqv y d:=rfl
theorem jl {x:Str}:Dm x []=some false:=rfl
theorem jm {x y:Str}:Dm x [.str y]=some (y==x):=rfl
theorem jn {x y:Str} {v:V} {vs:List V}:Dm x (.str y :: v :: vs)=(Dm x (v :: vs)).map fun b=>(y==x)||b:=rfl
theorem N2 {x:Str}:∀ {ws:List Str},Dm x (ws.map .str)=some (ws.any (·==x))
 | []=>rfl
 | [y]=>congrArg some (Bool.or_false _).symm
 | y :: z :: ws=>congrArg (Option.map fun b=>(y==x)||b) (N2 (ws:=z :: ws))
theorem Tt {es:List (Str×V)}:Et [] es=some es:=rfl
theorem Tu {k:Str} {v:V} {r:List (V×V)} {es:List (Str×V)}:Et ((.str k,v) :: r) es=Et r (Ct es k v):=rfl
theorem Lr {k:Str} {v:V}:Ct [] k v=[(k,v)]:=rfl
theorem Ls {es:List (Str×V)} {x k:Str} {u v:V}:Ct ((x,u) :: es) k v=if x=k then (x,v) :: es else (x,u) :: Ct es k v:=rfl
theorem Du {cl:List Nat}:C9 cl []=some []:=rfl
theorem Dv {cl:List Nat} {j:Nat} {r:List Nat}:C9 cl (j :: r)=match cl[j]?,C9 cl r with
  | some a,some b=>some (a :: b)
  | _,_=>none:=rfl
theorem jo {x y:Str}:PyData.eqv (.str x) (.str y)=(x==y):=rfl
theorem Tv {x y:Int}:PyData.eqv (.int x) (.int y)=(x==y):=rfl
theorem jp {x:Str}:PyData.eqv .none (.str x)=false:=rfl
theorem jq:Az σ .none=some false:=rfl
theorem jr {b:Bool}:Az σ (.bool b)=some b:=rfl
theorem jt {x y:Int}:Ce σ .Add (.int x) (.int y)=some (.int (x+y),σ):=rfl
theorem ju {x y:Int}:Ce σ .Sub (.int x) (.int y)=some (.int (x-y),σ):=rfl
theorem Tw {x y:Int}:Ce σ .Mod (.int x) (.int y)=if y=0 then none else some (.int (x.fmod y),σ):=rfl
theorem jv {k:Int}:Aw σ (.type "str") [.int k]=if 0≤k∧k < 10 then some (.str (Str.ofString (toString k)),σ) else none:=rfl
theorem Ib {k:Int}:Aw σ (.type "range") [.int k]=if k≤lim then Ay σ (.range 0 k) else none:=rfl
theorem Tx {a b:Int}:Aw σ (.type "range") [.int a,.int b]=if -lim≤a∧a≤lim∧b≤lim then Ay σ (.range a b) else none:=rfl
theorem jw {k:Int}:Aw σ (.builtin "chr") [.int k]=if 0≤k∧k≤1114111 then some (.str ⟨#[k.toNat]⟩,σ) else none:=rfl
theorem jx {b:Bool}:Aw σ (.builtin "isinstance") [.bool b,.con (.type "bool")]=some (.bool true,σ):=rfl
theorem jy {x:Str}:Aw σ (.builtin "isinstance") [.str x,.con (.type "str")]=some (.bool true,σ):=rfl
theorem jz {x:Str}:Am σ (.str x) 5=.blt .lower:=rfl
theorem j1 {x:Str}:Am σ (.str x) 6=.blt .split:=rfl
theorem j2 {x:Str}:Am σ (.str x) 7=.blt .join:=rfl
theorem Ty {d:Nat} {a:String} {as:List V} {Q:V→H→Prop}:wC d (.con (.builtin a)) as σ Q=opt (Aw σ (.builtin a) as) fun p=>Q p.1 p.2:=rfl
theorem j4 {i:Nat}:Ci σ (.ref i)=match σ[i]? with
  | some (.list _)=>some (.li i 0)
  | some (.tuple _)=>some (.tu i 0)
  | some (.range a b)=>if -(lim:Int)≤a∧a≤lim∧-(lim:Int)≤b∧b≤lim then some (.rg a (b-a).toNat) else none
  | _=>none:=rfl
theorem j5 {x:Str}:Ci σ (.str x)=some (.st x 0):=rfl
theorem j6 {Q:V→H→Prop} {v:V} {ρ:List (Option V)}:rk Q (.ret v) ρ σ=Q v σ:=rfl
theorem j7 {Q:V→H→Prop} {ρ:List (Option V)}:rk Q .next ρ σ=Q .none σ:=rfl
theorem j8 {Q:KS} {K:List (Option V)→H→Prop} {ρ:List (Option V)}:lk Q K .next ρ σ=K ρ σ:=rfl
theorem j9 {Q:KS} {K:List (Option V)→H→Prop} {ρ:List (Option V)}:lk Q K .brk ρ σ=Q .next ρ σ:=rfl
theorem ka {Q:KS} {K:List (Option V)→H→Prop} {v:V} {ρ:List (Option V)}:lk Q K (.ret v) ρ σ=Q (.ret v) ρ σ:=rfl
theorem Tz {B:Bs} {D:Ds} {Δ:List VR} {i:Nat}:Ci (hp B D Δ) (.ref i)=match (hp B D Δ)[i]? with
  | some (.list _)=>some (.li i 0)
  | some (.tuple _)=>some (.tu i 0)
  | some (.range a b)=>if -(lim:Int)≤a∧a≤lim∧-(lim:Int)≤b∧b≤lim then some (.rg a (b-a).toNat) else none
  | _=>none:=j4
theorem kc {B:Bs} {D:Ds} {Δ:List VR} {i:Nat}:Az (hp B D Δ) (.ref i)=onL (hp B D Δ)[i]? fun vs=>some (!vs.isEmpty):=rfl
theorem Lu {a:Nat} {k:Int}:Ao σ (.ref a) (.int k)=onS σ[a]? fun vs=>C8 vs k:=rfl
theorem ke {B:Bs} {D:Ds} {Δ:List VR} {a:Nat} {k:Int}:Ao (hp B D Δ) (.ref a) (.int k)=onS (hp B D Δ)[a]? fun vs=>C8 vs k:=rfl
theorem kf {B:Bs} {D:Ds} {Δ:List VR} {i j:Nat}:Ce (hp B D Δ) .Add (.ref i) (.ref j)=match (hp B D Δ)[i]? with
  | some (.list xs)=>onL (hp B D Δ)[j]? fun ys=>gd (Nat.ble (xs.length+ys.length) lim) (Ay (hp B D Δ) (.list (xs++ys)))
  | some (.tuple xs)=>onT (hp B D Δ)[j]? fun ys=>gd (Nat.ble (xs.length+ys.length) lim) (gd (!xs.isEmpty) (match ys.isEmpty with
   | true=>some (.ref i,(hp B D Δ))
   | false=>Ay (hp B D Δ) (.tuple (xs++ys))))
  | _=>none:=rfl
theorem T0 {i:Nat}:Aw σ (.builtin "len") [.ref i]=onS σ[i]? fun vs=>some (.int vs.length,σ):=rfl
theorem kg {B:Bs} {D:Ds} {Δ:List VR} {i:Nat}:Aw (hp B D Δ) (.builtin "len") [.ref i]=onS (hp B D Δ)[i]? fun vs=>some (.int vs.length,(hp B D Δ)):=rfl
theorem kh {B:Bs} {D:Ds} {Δ:List VR} {i:Nat}:Aw (hp B D Δ) (.builtin "max") [.ref i]=onL (hp B D Δ)[i]? fun vs=>(Cs vs).map fun m=>(.int m,(hp B D Δ)):=rfl
theorem ki {B:Bs} {D:Ds} {Δ:List VR} {i:Nat}:Aw (hp B D Δ) (.type "list") [.ref i]=onS (hp B D Δ)[i]? fun vs=>Ay (hp B D Δ) (.list vs):=rfl
theorem kj {B:Bs} {D:Ds} {Δ:List VR} {i:Nat}:Aw (hp B D Δ) (.type "tuple") [.ref i]=match (hp B D Δ)[i]? with
   | some (.list vs)=>Ay (hp B D Δ) (.tuple vs)
   | some (.tuple _)=>some (.ref i,(hp B D Δ))
   | _=>none:=rfl
theorem kl {B:Bs} {D:Ds} {Δ:List VR} {i:Nat}:Aw (hp B D Δ) (.builtin "isinstance") [.ref i,.con (.type "str")]=onS (hp B D Δ)[i]? fun _=>some (.bool false,(hp B D Δ)):=rfl
theorem km {B:Bs} {D:Ds} {Δ:List VR} {i:Nat} {v:V}:A4 (hp B D Δ) (.ref i) .append [v]=onL (hp B D Δ)[i]? fun vs=>gd (Nat.ble vs.length lim) (gd (Nat.ble fz i) (some (.none,(hp B D Δ).set i (.list (vs++[v]))))):=rfl
theorem kq {B:Bs} {D:Ds} {Δ:List VR} {i:Nat}:A4 (hp B D Δ) (.ref i) .pop []=onL (hp B D Δ)[i]? fun vs=>gd (Nat.ble fz i) ((vs.getLast?).map fun v=>(v,(hp B D Δ).set i (.list vs.dropLast))):=rfl
theorem kr {B:Bs} {D:Ds} {Δ:List VR} {i:Nat} {k:Int} {v:V}:A4 (hp B D Δ) (.ref i) .insert [.int k,v]=onL (hp B D Δ)[i]? fun vs=>gd (Nat.ble vs.length lim) (gd (Nat.ble fz i) (if k=vs.length then some (.none,(hp B D Δ).set i (.list (vs++[v]))) else none)):=rfl
theorem ku {B:Bs} {D:Ds} {Δ:List VR} {i:Nat} {k:Str} {d:V}:A4 (hp B D Δ) (.ref i) .get [.str k,d]=onD (hp B D Δ)[i]? fun es=>some ((es.lookup k).getD d,(hp B D Δ)):=rfl
theorem ky {B:Bs} {D:Ds} {Δ:List VR} {x:Str} {i:Nat}:A4 (hp B D Δ) (.str x) .join [.ref i]=onL (hp B D Δ)[i]? fun vs=>(Fj vs).bind fun ys=>if x.length≤16∧(ys.map (·.length)).sum+ys.length≤1048576 then some (.str (Txt.join x ys),(hp B D Δ)) else none:=rfl
theorem kz {x y:Str}:Ce σ .Add (.str x) (.str y)=gd (Nat.ble (x.length+y.length) lim) (some (.str (x++y),σ)):=rfl
theorem k5 {x:Str}:A4 σ (.str x) .lower []=gd (Nat.ble x.length lim) (some (.str (Txt.lower x),σ)):=rfl
theorem k9 {x:Str}:A4 σ (.str x) .split []=gd (Nat.ble x.length lim) (Ay σ (.list ((Txt.words x).map .str))):=rfl
theorem lb {k n:Nat} (h:k < n):C7 (k:Int) n=some k:=by
 rw [C7,if_pos (Int.natCast_nonneg k),if_pos (Int.ofNat_lt.mpr h)]
 rfl
theorem ld {n:Nat}:C7 (-1) (n+1)=some n:=by
 rw [C7,if_neg (by decide),if_pos (show 0≤-1+((n+1:Nat):Int) from Z.ns_nn (Nat.succ_pos n))]
 exact congrArg some (Z.ns_nat 0 (n+1))
theorem T2 {xs:List V} {v:V}:C8 (xs++[v]) (-1)=some v:=by
 show gd (Nat.blt 0 (xs++[v]).length) (xs++[v])[(xs++[v]).length-1]?=_
 rw [List.length_append]
 exact List.getElem?_concat_length
theorem N3 {a:Nat} {vs:List V} {k:Int} (h:σ[a]?=some (.list vs)):Ec σ (.ref a) (.int k)=Ay σ (.list (vs.take (if 0≤k then k.toNat else (k+vs.length).toNat))):=by
 show onL σ[a]? _=_
 rw [h]
 rfl
theorem lf {α:Type} {x:Option α}:gd true x=x:=rfl
theorem lg {vs:List V} {n:Nat}:C8 vs (n:Int)=vs[n]?:=rfl
theorem lh {vs:List V}:C8 vs 0=vs[0]?:=rfl
theorem lj {vs:List V}:C8 vs 1=vs[1]?:=rfl
theorem ll {vs:List V}:C8 vs 2=vs[2]?:=rfl
theorem lm {vs:List V}:C8 vs 3=vs[3]?:=rfl
theorem ln {vs:List V}:C8 vs 4=vs[4]?:=rfl
theorem lp {a:V} {as:List V}:C8 (a :: as) (-1)=(a :: as)[as.length]?:=rfl
theorem Lv {a b:Nat} (h:a≤b):Nat.ble a b=true:=Nat.ble_eq_true_of_le h
theorem lq {k:Nat}:Nat.ble 0 k=true:=rfl
theorem lr {k:Nat}:Nat.ble 1 (k+1)=true:=rfl
theorem lu {k:Nat}:Nat.ble 2 (k+2)=true:=rfl
theorem lv {k:Nat}:Nat.ble 3 (k+3)=true:=rfl
theorem lw {k:Nat}:Nat.ble 4 (k+4)=true:=rfl
theorem lx {k:Nat}:Nat.ble 5 (k+5)=true:=rfl
theorem ly {k:Nat}:Nat.ble 6 (k+6)=true:=rfl
theorem lz {k:Nat}:Nat.ble 7 (k+7)=true:=rfl
theorem l0 {k:Nat}:Nat.ble 8 (k+8)=true:=rfl
theorem l9 {k:Nat}:Nat.ble 9 (k+9)=true:=rfl
theorem ma {α:Type} {F:List V→Option α} {vs:List V}:onS (some (.list vs)) F=F vs:=rfl
theorem mc {α:Type} {F:List V→Option α} {vs:List V}:onS (some (.tuple vs)) F=F vs:=rfl
theorem me {α:Type} {F:List (Str×V)→Option α} {es:List (Str×V)}:onD (some (.dict es)) F=F es:=rfl
theorem T3 {B:Bs} {D:Ds} {Δ:List VR} {o:O}:Ay (hp B D Δ) o=some (.ref (sz Δ),hp B D (ad Δ [o])):=by rw [Ay,Lo,Ny]
theorem new_ad {B:Bs} {D:Ds} {Δ:List VR} {J:List O} {o:O}:Ay (hp B D (ad Δ J)) o=some (.ref (sz Δ+J.length),hp B D (ad Δ (J++[o]))):=by rw [Ay,g9,To]
end
noncomputable def ws (ss:List S) (fr:Fr) (σ:H) (Q:KS):Prop:=wSs ss fr σ Q
theorem T4 {ss:List S} {fr:Fr} {σ:H} {Q:KS}:wSs ss fr σ Q=ws ss fr σ Q:=rfl
noncomputable def sk (ss:List S) (fr:Fr) (Q:KS):KS:=fun f ρ σ=>match f with
 | .next=>ws ss ⟨fr.dp,ρ,fr.cl⟩ σ Q
 | .brk=>Q .brk ρ σ
 | .ret v=>Q (.ret v) ρ σ
theorem seq {s:S} {ss:List S} {fr:Fr} {σ:H} {Q:KS} (h:wS s fr σ (sk ss fr Q)):ws (s :: ss) fr σ Q:=.mk h
section
variable {ss:List S} {fr:Fr} {Q:KS} {ρ:List (Option V)} {σ:H} {v:V}
theorem mf:sk ss fr Q .brk ρ σ=Q .brk ρ σ:=rfl
theorem mh:sk ss fr Q (.ret v) ρ σ=Q (.ret v) ρ σ:=rfl
end
theorem Lw {d:Nat} {a:Addr} {fi:Fn} {as:List V} {σ σ':H} {Q:V→H→Prop} {ps:List T} {nl nc:Nat} {df:List V} {ρ:List (Option V)} {cl:List Nat} (hi:tb.ini a=none) (hf:tb.fn a=some fi) (h1:fi.ps=ps) (h2:fi.nl=nl) (h3:fi.nc=nc) (h4:fi.df=df)
  (hl:as.length≤ps.length∧ps.length≤as.length+df.length) (hcl:List.range' σ.length nc=cl)
  (hb:Da ps (as++df.drop (as.length+df.length-ps.length)) (List.replicate nl none) cl (σ++List.replicate nc (.cell none))=some (ρ,σ'))
  (h:ws fi.body ⟨d,ρ,cl⟩ σ' (rk Q)):Ca (d+1) (.con (.ref a)) as σ Q:=by
 subst h1 h2 h3 h4 hcl
 exact Td ρ σ' hf hl hb h
theorem Aj {d:Nat} {a:Addr} {fi:Fn} {as:List V} {σ:H} {Q:V→H→Prop} {ps:List T} {nl:Nat} {df:List V} {ρ:List (Option V)} (hi:tb.ini a=none) (hf:tb.fn a=some fi) (h1:fi.ps=ps) (h2:fi.nl=nl) (h3:fi.nc=0) (h4:fi.df=df)
  (hl:as.length≤ps.length∧ps.length≤as.length+df.length) (hb:Da ps (as++df.drop (as.length+df.length-ps.length)) (List.replicate nl none) [] σ=some (ρ,σ))
  (h:ws fi.body ⟨d,ρ,[]⟩ σ (rk Q)):Ca (d+1) (.con (.ref a)) as σ Q:=by
 refine Lw hi hf h1 h2 h3 h4 hl rfl (σ':=σ) ?_ h
 rw [show σ++List.replicate 0 (O.cell none)=σ by simp]
 exact hb
theorem mj {σ:H} {o:O} {L:List O} {x:O}:(σ++(o :: L)).set σ.length x=σ++(x :: L):=by simp
theorem mq:tb.fn 28=some Jd:=rfl
theorem mr {d:Nat} {σ:H} {Q:V→H→Prop} {x0:V} (h:ws Jd.body ⟨d,[some x0,none],[]⟩ σ (rk Q)):Ca (d+1) (.con (.ref 28)) [x0] σ Q :=
 Aj (fi:=Jd) (ps:=[(.nm 0)]) (nl:=2) (df:=[]) (ρ:=[some x0,none]) rfl mq rfl rfl rfl rfl ⟨Nat.le_of_ble_eq_true rfl,Nat.le_of_ble_eq_true rfl⟩ rfl h
theorem mu:tb.fn 35=some Je:=rfl
theorem mv {d:Nat} {σ:H} {Q:V→H→Prop} {x0:V} (h:ws Je.body ⟨d,[some x0,none],[]⟩ σ (rk Q)):Ca (d+1) (.con (.ref 35)) [x0] σ Q :=
 Aj (fi:=Je) (ps:=[(.nm 0)]) (nl:=2) (df:=[]) (ρ:=[some x0,none]) rfl mu rfl rfl rfl rfl ⟨Nat.le_of_ble_eq_true rfl,Nat.le_of_ble_eq_true rfl⟩ rfl h
theorem mw:tb.fn 42=some Jf:=rfl
theorem mx {d:Nat} {σ:H} {Q:V→H→Prop} {x0 x1:V} (h:ws Jf.body ⟨d,[some x0,some x1,none],[]⟩ σ (rk Q)):Ca (d+1) (.con (.ref 42)) [x0,x1] σ Q :=
 Aj (fi:=Jf) (ps:=[(.nm 0),(.nm 1)]) (nl:=3) (df:=[]) (ρ:=[some x0,some x1,none]) rfl mw rfl rfl rfl rfl ⟨Nat.le_of_ble_eq_true rfl,Nat.le_of_ble_eq_true rfl⟩ rfl h
theorem my:tb.fn 49=some Jg:=rfl
theorem mz {d:Nat} {σ:H} {Q:V→H→Prop} {x0:V} (h:ws Jg.body ⟨d,[some x0],[]⟩ σ (rk Q)):Ca (d+1) (.con (.ref 49)) [x0] σ Q :=
 Aj (fi:=Jg) (ps:=[(.nm 0)]) (nl:=1) (df:=[]) (ρ:=[some x0]) rfl my rfl rfl rfl rfl ⟨Nat.le_of_ble_eq_true rfl,Nat.le_of_ble_eq_true rfl⟩ rfl h
theorem m5:tb.fn 56=some Jh:=rfl
theorem m6 {d:Nat} {σ:H} {Q:V→H→Prop} {x0:V} (h:ws Jh.body ⟨d,[some x0],[]⟩ σ (rk Q)):Ca (d+1) (.con (.ref 56)) [x0] σ Q :=
 Aj (fi:=Jh) (ps:=[(.nm 0)]) (nl:=1) (df:=[]) (ρ:=[some x0]) rfl m5 rfl rfl rfl rfl ⟨Nat.le_of_ble_eq_true rfl,Nat.le_of_ble_eq_true rfl⟩ rfl h
theorem m7:tb.fn 63=some Ji:=rfl
theorem m8 {d:Nat} {σ:H} {Q:V→H→Prop} {x0:V} (h:ws Ji.body ⟨d,[some x0],[]⟩ σ (rk Q)):Ca (d+1) (.con (.ref 63)) [x0] σ Q :=
 Aj (fi:=Ji) (ps:=[(.nm 0)]) (nl:=1) (df:=[]) (ρ:=[some x0]) rfl m7 rfl rfl rfl rfl ⟨Nat.le_of_ble_eq_true rfl,Nat.le_of_ble_eq_true rfl⟩ rfl h
theorem m9:tb.fn 70=some Jj:=rfl
theorem na {d:Nat} {σ:H} {Q:V→H→Prop} {x0:V} (h:ws Jj.body ⟨d,[some x0,none],[]⟩ σ (rk Q)):Ca (d+1) (.con (.ref 70)) [x0] σ Q :=
 Aj (fi:=Jj) (ps:=[(.nm 0)]) (nl:=2) (df:=[]) (ρ:=[some x0,none]) rfl m9 rfl rfl rfl rfl ⟨Nat.le_of_ble_eq_true rfl,Nat.le_of_ble_eq_true rfl⟩ rfl h
theorem nb:tb.fn 77=some Gs:=rfl
theorem ng {d:Nat} {σ:H} {Q:V→H→Prop} {x0 x1:V} (h:ws Gs.body ⟨d,[some x0,some x1,none,none,none],[]⟩ σ (rk Q)):Ca (d+1) (.con (.ref 77)) [x0,x1] σ Q :=
 Aj (fi:=Gs) (ps:=[(.nm 0),(.nm 1)]) (nl:=5) (df:=[]) (ρ:=[some x0,some x1,none,none,none]) rfl nb rfl rfl rfl rfl ⟨Nat.le_of_ble_eq_true rfl,Nat.le_of_ble_eq_true rfl⟩ rfl h
theorem nh:tb.fn 84=some Jk:=rfl
theorem ni {d:Nat} {σ:H} {Q:V→H→Prop} {x0:V} (h:ws Jk.body ⟨d,[some x0,none],[]⟩ σ (rk Q)):Ca (d+1) (.con (.ref 84)) [x0] σ Q :=
 Aj (fi:=Jk) (ps:=[(.nm 0)]) (nl:=2) (df:=[]) (ρ:=[some x0,none]) rfl nh rfl rfl rfl rfl ⟨Nat.le_of_ble_eq_true rfl,Nat.le_of_ble_eq_true rfl⟩ rfl h
theorem nk:tb.fn 91=some Jl:=rfl
theorem nq {d:Nat} {σ:H} {Q:V→H→Prop} {x0:V} (h:ws Jl.body ⟨d,[some x0],[]⟩ σ (rk Q)):Ca (d+1) (.con (.ref 91)) [x0] σ Q :=
 Aj (fi:=Jl) (ps:=[(.nm 0)]) (nl:=1) (df:=[]) (ρ:=[some x0]) rfl nk rfl rfl rfl rfl ⟨Nat.le_of_ble_eq_true rfl,Nat.le_of_ble_eq_true rfl⟩ rfl h
theorem nt:tb.fn 98=some Jm:=rfl
theorem nu {d:Nat} {σ:H} {Q:V→H→Prop} {x0:V} (h:ws Jm.body ⟨d,[some x0],[]⟩ σ (rk Q)):Ca (d+1) (.con (.ref 98)) [x0] σ Q :=
 Aj (fi:=Jm) (ps:=[(.nm 0)]) (nl:=1) (df:=[]) (ρ:=[some x0]) rfl nt rfl rfl rfl rfl ⟨Nat.le_of_ble_eq_true rfl,Nat.le_of_ble_eq_true rfl⟩ rfl h
theorem nw:tb.fn 105=some Jn:=rfl
theorem nx {d:Nat} {σ:H} {Q:V→H→Prop} {x0:V} (h:ws Jn.body ⟨d,[some x0],[]⟩ σ (rk Q)):Ca (d+1) (.con (.ref 105)) [x0] σ Q :=
 Aj (fi:=Jn) (ps:=[(.nm 0)]) (nl:=1) (df:=[]) (ρ:=[some x0]) rfl nw rfl rfl rfl rfl ⟨Nat.le_of_ble_eq_true rfl,Nat.le_of_ble_eq_true rfl⟩ rfl h
theorem ny:tb.fn 112=some Ho:=rfl
theorem nz {d:Nat} {σ:H} {Q:V→H→Prop} {x0:V} (h:ws Ho.body ⟨d,[some x0,none,none],[]⟩ σ (rk Q)):Ca (d+1) (.con (.ref 112)) [x0] σ Q :=
 Aj (fi:=Ho) (ps:=[(.nm 0)]) (nl:=3) (df:=[]) (ρ:=[some x0,none,none]) rfl ny rfl rfl rfl rfl ⟨Nat.le_of_ble_eq_true rfl,Nat.le_of_ble_eq_true rfl⟩ rfl h
theorem n4:tb.fn 126=some Jo:=rfl
theorem n5 {d:Nat} {σ:H} {Q:V→H→Prop} {x0 x1:V} (h:ws Jo.body ⟨d,[some x0,some x1],[]⟩ σ (rk Q)):Ca (d+1) (.con (.ref 126)) [x0,x1] σ Q :=
 Aj (fi:=Jo) (ps:=[(.nm 0),(.nm 1)]) (nl:=2) (df:=[]) (ρ:=[some x0,some x1]) rfl n4 rfl rfl rfl rfl ⟨Nat.le_of_ble_eq_true rfl,Nat.le_of_ble_eq_true rfl⟩ rfl h
theorem n6:tb.fn 133=some Jp:=rfl
theorem n7 {d:Nat} {σ:H} {Q:V→H→Prop} {x0 x1:V} (h:ws Jp.body ⟨d,[some x0,some x1,none],[]⟩ σ (rk Q)):Ca (d+1) (.con (.ref 133)) [x0,x1] σ Q :=
 Aj (fi:=Jp) (ps:=[(.nm 0),(.nm 1)]) (nl:=3) (df:=[]) (ρ:=[some x0,some x1,none]) rfl n6 rfl rfl rfl rfl ⟨Nat.le_of_ble_eq_true rfl,Nat.le_of_ble_eq_true rfl⟩ rfl h
theorem n8:tb.fn 148=some Jq:=rfl
theorem n9 {d:Nat} {σ:H} {Q:V→H→Prop} {x0:V} (h:ws Jq.body ⟨d,[some x0,some (.int (-1)),none,none,none],[]⟩ σ (rk Q)):Ca (d+1) (.con (.ref 148)) [x0] σ Q :=
 Aj (fi:=Jq) (ps:=[(.nm 0),(.nm 1)]) (nl:=5) (df:=[(.int (-1))]) (ρ:=[some x0,some (.int (-1)),none,none,none]) rfl n8 rfl rfl rfl rfl ⟨Nat.le_of_ble_eq_true rfl,Nat.le_of_ble_eq_true rfl⟩ rfl h
theorem og:tb.fn 155=some Js:=rfl
theorem oh {d:Nat} {σ:H} {Q:V→H→Prop} {x0 x1:V} (h:ws Js.body ⟨d,[some x0,some x1,none,none,none,none,none],[]⟩ σ (rk Q)):Ca (d+1) (.con (.ref 155)) [x0,x1] σ Q :=
 Aj (fi:=Js) (ps:=[(.nm 0),(.nm 1)]) (nl:=7) (df:=[]) (ρ:=[some x0,some x1,none,none,none,none,none]) rfl og rfl rfl rfl rfl ⟨Nat.le_of_ble_eq_true rfl,Nat.le_of_ble_eq_true rfl⟩ rfl h
theorem oi:tb.fn 163=some Jt:=rfl
theorem oj {d:Nat} {σ:H} {Q:V→H→Prop} {x0 x1:V} (h:ws Jt.body ⟨d,[some x0,some x1,some (.int (-1)),none],[]⟩ σ (rk Q)):Ca (d+1) (.con (.ref 163)) [x0,x1] σ Q :=
 Aj (fi:=Jt) (ps:=[(.nm 0),(.nm 1),(.nm 2)]) (nl:=4) (df:=[(.int (-1))]) (ρ:=[some x0,some x1,some (.int (-1)),none]) rfl oi rfl rfl rfl rfl ⟨Nat.le_of_ble_eq_true rfl,Nat.le_of_ble_eq_true rfl⟩ rfl h
theorem oq:tb.fn 171=some Ju:=rfl
theorem ou {d:Nat} {σ:H} {Q:V→H→Prop} {x0 x1 x2 x3:V} (h:ws Ju.body ⟨d,[some x0,some x1,some x2,some x3],[]⟩ σ (rk Q)):Ca (d+1) (.con (.ref 171)) [x0,x1,x2,x3] σ Q :=
 Aj (fi:=Ju) (ps:=[(.nm 0),(.nm 1),(.nm 2),(.nm 3)]) (nl:=4) (df:=[(.str (s "html"))]) (ρ:=[some x0,some x1,some x2,some x3]) rfl oq rfl rfl rfl rfl ⟨Nat.le_of_ble_eq_true rfl,Nat.le_of_ble_eq_true rfl⟩ rfl h
theorem oy:tb.fn 180=some Jv:=rfl
theorem oz {d:Nat} {σ:H} {Q:V→H→Prop} {x0 x1 x2 x3:V} (h:ws Jv.body ⟨d,[some x0,some x1,some x2,some x3,none,none,none],[]⟩ σ (rk Q)):Ca (d+1) (.con (.ref 180)) [x0,x1,x2,x3] σ Q :=
 Aj (fi:=Jv) (ps:=[(.nm 0),(.nm 1),(.nm 2),(.nm 3)]) (nl:=7) (df:=[(.ref 1),(.str (s "html"))]) (ρ:=[some x0,some x1,some x2,some x3,none,none,none]) rfl oy rfl rfl rfl rfl ⟨Nat.le_of_ble_eq_true rfl,Nat.le_of_ble_eq_true rfl⟩ rfl h
theorem o7:tb.fn 187=some Hp:=rfl
theorem o8 {d:Nat} {σ:H} {Q:V→H→Prop} {x0 x1:V} (h:ws Hp.body ⟨d,[some x0,some x1,none],[]⟩ σ (rk Q)):Ca (d+1) (.con (.ref 187)) [x0,x1] σ Q :=
 Aj (fi:=Hp) (ps:=[(.nm 0),(.nm 1)]) (nl:=3) (df:=[]) (ρ:=[some x0,some x1,none]) rfl o7 rfl rfl rfl rfl ⟨Nat.le_of_ble_eq_true rfl,Nat.le_of_ble_eq_true rfl⟩ rfl h
theorem o9:tb.fn 194=some Jw:=rfl
theorem T5 {d:Nat} {σ:H} {Q:V→H→Prop} {x0:V} (h:ws Jw.body ⟨d,[some x0,none,none],[]⟩ σ (rk Q)):Ca (d+1) (.con (.ref 194)) [x0] σ Q :=
 Aj (fi:=Jw) (ps:=[(.nm 0)]) (nl:=3) (df:=[]) (ρ:=[some x0,none,none]) rfl o9 rfl rfl rfl rfl ⟨Nat.le_of_ble_eq_true rfl,Nat.le_of_ble_eq_true rfl⟩ rfl h
theorem pb:tb.fn 201=some Jx:=rfl
theorem pg {d:Nat} {σ:H} {Q:V→H→Prop} {x0 x1:V} (h:ws Jx.body ⟨d,[some x0,some x1],[]⟩ σ (rk Q)):Ca (d+1) (.con (.ref 201)) [x0,x1] σ Q :=
 Aj (fi:=Jx) (ps:=[(.nm 0),(.nm 1)]) (nl:=2) (df:=[]) (ρ:=[some x0,some x1]) rfl pb rfl rfl rfl rfl ⟨Nat.le_of_ble_eq_true rfl,Nat.le_of_ble_eq_true rfl⟩ rfl h
theorem ph:tb.fn 208=some Jy:=rfl
theorem pi {d:Nat} {σ:H} {Q:V→H→Prop} {x0 x1:V} (h:ws Jy.body ⟨d,[some x0,some x1],[]⟩ σ (rk Q)):Ca (d+1) (.con (.ref 208)) [x0,x1] σ Q :=
 Aj (fi:=Jy) (ps:=[(.nm 0),(.nm 1)]) (nl:=2) (df:=[]) (ρ:=[some x0,some x1]) rfl ph rfl rfl rfl rfl ⟨Nat.le_of_ble_eq_true rfl,Nat.le_of_ble_eq_true rfl⟩ rfl h
theorem pj:tb.fn 215=some Gu:=rfl
theorem pk {d:Nat} {σ:H} {Q:V→H→Prop} {x0 x1:V} (h:ws Gu.body ⟨d,[some x0,some x1,none],[]⟩ σ (rk Q)):Ca (d+1) (.con (.ref 215)) [x0,x1] σ Q :=
 Aj (fi:=Gu) (ps:=[(.nm 0),(.nm 1)]) (nl:=3) (df:=[]) (ρ:=[some x0,some x1,none]) rfl pj rfl rfl rfl rfl ⟨Nat.le_of_ble_eq_true rfl,Nat.le_of_ble_eq_true rfl⟩ rfl h
theorem pn:tb.fn 222=some Hq:=rfl
theorem pp {d:Nat} {σ:H} {Q:V→H→Prop} {x0 x1:V} (h:ws Hq.body ⟨d,[some x0,some x1,none,none],[]⟩ σ (rk Q)):Ca (d+1) (.con (.ref 222)) [x0,x1] σ Q :=
 Aj (fi:=Hq) (ps:=[(.nm 0),(.nm 1)]) (nl:=4) (df:=[]) (ρ:=[some x0,some x1,none,none]) rfl pn rfl rfl rfl rfl ⟨Nat.le_of_ble_eq_true rfl,Nat.le_of_ble_eq_true rfl⟩ rfl h
theorem pq:tb.fn 229=some Gv:=rfl
theorem pu {d:Nat} {σ:H} {Q:V→H→Prop} {x0 x1:V} (h:ws Gv.body ⟨d,[some x0,some x1,none,none,none,none],[]⟩ σ (rk Q)):Ca (d+1) (.con (.ref 229)) [x0,x1] σ Q :=
 Aj (fi:=Gv) (ps:=[(.nm 0),(.nm 1)]) (nl:=6) (df:=[]) (ρ:=[some x0,some x1,none,none,none,none]) rfl pq rfl rfl rfl rfl ⟨Nat.le_of_ble_eq_true rfl,Nat.le_of_ble_eq_true rfl⟩ rfl h
theorem pv:tb.fn 236=some Jz:=rfl
theorem pw {d:Nat} {σ:H} {Q:V→H→Prop} {x0 x1:V} (h:ws Jz.body ⟨d,[some x0,some x1,none],[]⟩ σ (rk Q)):Ca (d+1) (.con (.ref 236)) [x0,x1] σ Q :=
 Aj (fi:=Jz) (ps:=[(.nm 0),(.nm 1)]) (nl:=3) (df:=[]) (ρ:=[some x0,some x1,none]) rfl pv rfl rfl rfl rfl ⟨Nat.le_of_ble_eq_true rfl,Nat.le_of_ble_eq_true rfl⟩ rfl h
theorem pz:tb.fn 243=some J0:=rfl
theorem p8 {d:Nat} {σ:H} {Q:V→H→Prop} {x0 x1:V} (h:ws J0.body ⟨d,[some x0,some x1,none],[]⟩ σ (rk Q)):Ca (d+1) (.con (.ref 243)) [x0,x1] σ Q :=
 Aj (fi:=J0) (ps:=[(.nm 0),(.nm 1)]) (nl:=3) (df:=[]) (ρ:=[some x0,some x1,none]) rfl pz rfl rfl rfl rfl ⟨Nat.le_of_ble_eq_true rfl,Nat.le_of_ble_eq_true rfl⟩ rfl h
theorem p9:tb.fn 595=some Hr:=rfl
theorem qb {d:Nat} {σ:H} {Q:V→H→Prop} {x0 x1:V} (h:ws Hr.body ⟨d,[some x0,some x1,none,none],[]⟩ σ (rk Q)):Ca (d+1) (.con (.ref 595)) [x0,x1] σ Q :=
 Aj (fi:=Hr) (ps:=[(.nm 0),(.nm 1)]) (nl:=4) (df:=[]) (ρ:=[some x0,some x1,none,none]) rfl p9 rfl rfl rfl rfl ⟨Nat.le_of_ble_eq_true rfl,Nat.le_of_ble_eq_true rfl⟩ rfl h
theorem qc:tb.fn 673=some Gw:=rfl
theorem N4 {d:Nat} {σ:H} {Q:V→H→Prop} {x0 x1:V} (h:ws Gw.body ⟨d,[some x0,some x1,none,none],[]⟩ σ (rk Q)):Ca (d+1) (.con (.ref 673)) [x0,x1] σ Q :=
 Aj (fi:=Gw) (ps:=[(.nm 0),(.nm 1)]) (nl:=4) (df:=[]) (ρ:=[some x0,some x1,none,none]) rfl qc rfl rfl rfl rfl ⟨Nat.le_of_ble_eq_true rfl,Nat.le_of_ble_eq_true rfl⟩ rfl h
theorem qd:tb.fn 680=some J3:=rfl
theorem T6 {d:Nat} {σ:H} {Q:V→H→Prop} {x0 x1:V} (h:ws J3.body ⟨d,[some x0,some x1],[]⟩ σ (rk Q)):Ca (d+1) (.con (.ref 680)) [x0,x1] σ Q :=
 Aj (fi:=J3) (ps:=[(.nm 0),(.nm 1)]) (nl:=2) (df:=[]) (ρ:=[some x0,some x1]) rfl qd rfl rfl rfl rfl ⟨Nat.le_of_ble_eq_true rfl,Nat.le_of_ble_eq_true rfl⟩ rfl h
theorem qe:tb.fn 694=some J5:=rfl
theorem qf {d:Nat} {σ:H} {Q:V→H→Prop} (h:ws J5.body ⟨d,[none],[]⟩ σ (rk Q)):Ca (d+1) (.con (.ref 694)) [] σ Q :=
 Aj (fi:=J5) (ps:=[]) (nl:=1) (df:=[]) (ρ:=[none]) rfl qe rfl rfl rfl rfl ⟨Nat.le_of_ble_eq_true rfl,Nat.le_of_ble_eq_true rfl⟩ rfl h
theorem qg:tb.fn 701=some J6:=rfl
theorem qh {d:Nat} {σ:H} {Q:V→H→Prop} {x0 x1:V} (h:ws J6.body ⟨d,[some x0,some x1,none,none,none,none,none],[]⟩ σ (rk Q)):Ca (d+1) (.con (.ref 701)) [x0,x1] σ Q :=
 Aj (fi:=J6) (ps:=[(.nm 0),(.nm 1)]) (nl:=7) (df:=[]) (ρ:=[some x0,some x1,none,none,none,none,none]) rfl qg rfl rfl rfl rfl ⟨Nat.le_of_ble_eq_true rfl,Nat.le_of_ble_eq_true rfl⟩ rfl h
theorem qi:tb.fn 708=some J7:=rfl
theorem qj {d:Nat} {σ:H} {Q:V→H→Prop} {x0:V} (h:ws J7.body ⟨d,[some x0],[]⟩ σ (rk Q)):Ca (d+1) (.con (.ref 708)) [x0] σ Q :=
 Aj (fi:=J7) (ps:=[(.nm 0)]) (nl:=1) (df:=[]) (ρ:=[some x0]) rfl qi rfl rfl rfl rfl ⟨Nat.le_of_ble_eq_true rfl,Nat.le_of_ble_eq_true rfl⟩ rfl h
theorem qk:tb.fn 713=some J8:=rfl
theorem ql {d:Nat} {σ:H} {Q:V→H→Prop} {x0:V} (h:ws J8.body ⟨d,[some x0,none],[]⟩ σ (rk Q)):Ca (d+1) (.con (.ref 713)) [x0] σ Q :=
 Aj (fi:=J8) (ps:=[(.nm 0)]) (nl:=2) (df:=[]) (ρ:=[some x0,none]) rfl qk rfl rfl rfl rfl ⟨Nat.le_of_ble_eq_true rfl,Nat.le_of_ble_eq_true rfl⟩ rfl h
theorem qm:tb.fn 720=some J9:=rfl
theorem qn {d:Nat} {σ:H} {Q:V→H→Prop} {x0:V} (h:ws J9.body ⟨d,[some x0],[]⟩ σ (rk Q)):Ca (d+1) (.con (.ref 720)) [x0] σ Q :=
 Aj (fi:=J9) (ps:=[(.nm 0)]) (nl:=1) (df:=[]) (ρ:=[some x0]) rfl qm rfl rfl rfl rfl ⟨Nat.le_of_ble_eq_true rfl,Nat.le_of_ble_eq_true rfl⟩ rfl h
theorem qo:tb.fn 727=some Fs:=rfl
theorem qp {d:Nat} {σ:H} {Q:V→H→Prop} {x0 x1:V} (h:ws Fs.body ⟨d,[some x0,some x1,none],[]⟩ σ (rk Q)):Ca (d+1) (.con (.ref 727)) [x0,x1] σ Q :=
 Aj (fi:=Fs) (ps:=[(.nm 0),(.nm 1)]) (nl:=3) (df:=[]) (ρ:=[some x0,some x1,none]) rfl qo rfl rfl rfl rfl ⟨Nat.le_of_ble_eq_true rfl,Nat.le_of_ble_eq_true rfl⟩ rfl h
theorem qr:tb.fn 732=some Ka:=rfl
theorem T7 {d:Nat} {σ:H} {Q:V→H→Prop} {x0:V} (h:ws Ka.body ⟨d,[some x0],[]⟩ σ (rk Q)):Ca (d+1) (.con (.ref 732)) [x0] σ Q :=
 Aj (fi:=Ka) (ps:=[(.nm 0)]) (nl:=1) (df:=[]) (ρ:=[some x0]) rfl qr rfl rfl rfl rfl ⟨Nat.le_of_ble_eq_true rfl,Nat.le_of_ble_eq_true rfl⟩ rfl h
theorem qs:tb.fn 739=some Hs:=rfl
theorem qt {d:Nat} {σ:H} {Q:V→H→Prop} {x0 x1 x2 x3:V} (h:ws Hs.body ⟨d,[some x0,some x1,some x2,some x3,none,none],[]⟩ σ (rk Q)):Ca (d+1) (.con (.ref 739)) [x0,x1,x2,x3] σ Q :=
 Aj (fi:=Hs) (ps:=[(.nm 0),(.nm 1),(.nm 2),(.nm 3)]) (nl:=6) (df:=[]) (ρ:=[some x0,some x1,some x2,some x3,none,none]) rfl qs rfl rfl rfl rfl ⟨Nat.le_of_ble_eq_true rfl,Nat.le_of_ble_eq_true rfl⟩ rfl h
theorem qu:tb.fn 746=some Kc:=rfl
theorem qv {d:Nat} {σ:H} {Q:V→H→Prop} {x0:V} (h:ws Kc.body ⟨d,[some x0],[]⟩ σ (rk Q)):Ca (d+1) (.con (.ref 746)) [x0] σ Q :=
 Aj (fi:=Kc) (ps:=[(.nm 0)]) (nl:=1) (df:=[]) (ρ:=[some x0]) rfl qu rfl rfl rfl rfl ⟨Nat.le_of_ble_eq_true rfl,Nat.le_of_ble_eq_true rfl⟩ rfl h
theorem qw:tb.fn 753=some Kd:=rfl
theorem qx {d:Nat} {σ:H} {Q:V→H→Prop} {x0 x1:V} (h:ws Kd.body ⟨d,[some x0,some x1],[]⟩ σ (rk Q)):Ca (d+1) (.con (.ref 753)) [x0,x1] σ Q :=
 Aj (fi:=Kd) (ps:=[(.nm 0),(.nm 1)]) (nl:=2) (df:=[]) (ρ:=[some x0,some x1]) rfl qw rfl rfl rfl rfl ⟨Nat.le_of_ble_eq_true rfl,Nat.le_of_ble_eq_true rfl⟩ rfl h
theorem qy:tb.fn 760=some Ke:=rfl
theorem q9 {d:Nat} {σ:H} {Q:V→H→Prop} {x0 x1:V} (h:ws Ke.body ⟨d,[some x0,some x1,none],[]⟩ σ (rk Q)):Ca (d+1) (.con (.ref 760)) [x0,x1] σ Q :=
 Aj (fi:=Ke) (ps:=[(.nm 0),(.nm 1)]) (nl:=3) (df:=[]) (ρ:=[some x0,some x1,none]) rfl qy rfl rfl rfl rfl ⟨Nat.le_of_ble_eq_true rfl,Nat.le_of_ble_eq_true rfl⟩ rfl h
theorem rb:tb.fn 765=some Gx:=rfl
theorem rc {d:Nat} {σ:H} {Q:V→H→Prop} {x0 x1 x2:V} (h:ws Gx.body ⟨d,[some x0,some x1,some x2,none],[σ.length]⟩ (σ++[.cell none]) (rk Q)):Ca (d+1) (.con (.ref 765)) [x0,x1,x2] σ Q :=
 Lw (fi:=Gx) (ps:=[(.nm 0),(.nm 1),(.nm 2)]) (nl:=4) (nc:=1) (df:=[]) (ρ:=[some x0,some x1,some x2,none]) (cl:=[σ.length]) rfl rb rfl rfl rfl rfl ⟨Nat.le_of_ble_eq_true rfl,Nat.le_of_ble_eq_true rfl⟩ rfl rfl h
theorem rd:tb.fn 770=some Gy:=rfl
theorem re {d:Nat} {σ:H} {Q:V→H→Prop} {x0 x1:V} (h:ws Gy.body ⟨d,[some x0,none,none,none],[σ.length,σ.length+1]⟩ (σ++[.cell (some x1),.cell none]) (rk Q)):Ca (d+1) (.con (.ref 770)) [x0,x1] σ Q :=
 Lw (fi:=Gy) (ps:=[(.nm 0),(.cl 0)]) (nl:=4) (nc:=2) (df:=[]) (ρ:=[some x0,none,none,none]) (cl:=[σ.length,σ.length+1]) rfl rd rfl rfl rfl rfl ⟨Nat.le_of_ble_eq_true rfl,Nat.le_of_ble_eq_true rfl⟩ rfl (congrArg (fun z=>some ([some x0,none,none,none],z)) mj) h
theorem rf:tb.fn 775=some Kf:=rfl
theorem ri {d:Nat} {σ:H} {Q:V→H→Prop} {x0 x1 x2:V} (h:ws Kf.body ⟨d,[some x0,some x1,some x2,none,none,none,none],[σ.length]⟩ (σ++[.cell none]) (rk Q)):Ca (d+1) (.con (.ref 775)) [x0,x1,x2] σ Q :=
 Lw (fi:=Kf) (ps:=[(.nm 0),(.nm 1),(.nm 2)]) (nl:=7) (nc:=1) (df:=[]) (ρ:=[some x0,some x1,some x2,none,none,none,none]) (cl:=[σ.length]) rfl rf rfl rfl rfl rfl ⟨Nat.le_of_ble_eq_true rfl,Nat.le_of_ble_eq_true rfl⟩ rfl rfl h
theorem rj:tb.fn 782=some Ew:=rfl
theorem rl {d:Nat} {σ:H} {Q:V→H→Prop} {x0 x1:V} (h:ws Ew.body ⟨d,[some x0,some x1,none,none],[]⟩ σ (rk Q)):Ca (d+1) (.con (.ref 782)) [x0,x1] σ Q :=
 Aj (fi:=Ew) (ps:=[(.nm 0),(.nm 1)]) (nl:=4) (df:=[]) (ρ:=[some x0,some x1,none,none]) rfl rj rfl rfl rfl rfl ⟨Nat.le_of_ble_eq_true rfl,Nat.le_of_ble_eq_true rfl⟩ rfl h
theorem rm:tb.fn 787=some Gz:=rfl
theorem rn {d:Nat} {σ:H} {Q:V→H→Prop} {x0 x1 x2:V} (h:ws Gz.body ⟨d,[some x0,some x1,some x2,none,none,none,none],[]⟩ σ (rk Q)):Ca (d+1) (.con (.ref 787)) [x0,x1,x2] σ Q :=
 Aj (fi:=Gz) (ps:=[(.nm 0),(.nm 1),(.nm 2)]) (nl:=7) (df:=[]) (ρ:=[some x0,some x1,some x2,none,none,none,none]) rfl rm rfl rfl rfl rfl ⟨Nat.le_of_ble_eq_true rfl,Nat.le_of_ble_eq_true rfl⟩ rfl h
theorem ro:tb.fn 387=some Kg:=rfl
theorem rp {d:Nat} {σ:H} {Q:V→H→Prop} {x0 x1:V} (h:ws Kg.body ⟨d,[some x0,some x1],[]⟩ σ (rk Q)):Ca (d+1) (.con (.ref 387)) [x0,x1] σ Q :=
 Aj (fi:=Kg) (ps:=[(.nm 0),(.nm 1)]) (nl:=2) (df:=[]) (ρ:=[some x0,some x1]) rfl ro rfl rfl rfl rfl ⟨Nat.le_of_ble_eq_true rfl,Nat.le_of_ble_eq_true rfl⟩ rfl h
theorem rq:tb.fn 394=some Kh:=rfl
theorem rt {d:Nat} {σ:H} {Q:V→H→Prop} {x0:V} (h:ws Kh.body ⟨d,[some x0],[]⟩ σ (rk Q)):Ca (d+1) (.con (.ref 394)) [x0] σ Q :=
 Aj (fi:=Kh) (ps:=[(.nm 0)]) (nl:=1) (df:=[]) (ρ:=[some x0]) rfl rq rfl rfl rfl rfl ⟨Nat.le_of_ble_eq_true rfl,Nat.le_of_ble_eq_true rfl⟩ rfl h
theorem ru:tb.fn 401=some Ki:=rfl
theorem rx {d:Nat} {σ:H} {Q:V→H→Prop} {x0:V} (h:ws Ki.body ⟨d,[some x0],[]⟩ σ (rk Q)):Ca (d+1) (.con (.ref 401)) [x0] σ Q :=
 Aj (fi:=Ki) (ps:=[(.nm 0)]) (nl:=1) (df:=[]) (ρ:=[some x0]) rfl ru rfl rfl rfl rfl ⟨Nat.le_of_ble_eq_true rfl,Nat.le_of_ble_eq_true rfl⟩ rfl h
theorem ry:tb.fn 408=some Kj:=rfl
theorem rz {d:Nat} {σ:H} {Q:V→H→Prop} {x0:V} (h:ws Kj.body ⟨d,[some x0],[]⟩ σ (rk Q)):Ca (d+1) (.con (.ref 408)) [x0] σ Q :=
 Aj (fi:=Kj) (ps:=[(.nm 0)]) (nl:=1) (df:=[]) (ρ:=[some x0]) rfl ry rfl rfl rfl rfl ⟨Nat.le_of_ble_eq_true rfl,Nat.le_of_ble_eq_true rfl⟩ rfl h
theorem T8:tb.fn 494=some Ft:=rfl
theorem r7 {d:Nat} {σ:H} {Q:V→H→Prop} {x0 x1 x2 x3 x4:V} (h:ws Ft.body ⟨d,[some x0,some x1,some x2,some x3,some x4,some (.str (s ""))],[]⟩ σ (rk Q)):Ca (d+1) (.con (.ref 494)) [x0,x1,x2,x3,x4] σ Q :=
 Aj (fi:=Ft) (ps:=[(.nm 0),(.nm 1),(.nm 2),(.nm 3),(.nm 4),(.nm 5)]) (nl:=6) (df:=[(.str (s "")),(.str (s "")),(.ref 2),(.str (s ""))]) (ρ:=[some x0,some x1,some x2,some x3,some x4,some (.str (s ""))]) rfl T8 rfl rfl rfl rfl ⟨Nat.le_of_ble_eq_true rfl,Nat.le_of_ble_eq_true rfl⟩ rfl h
theorem r8 {d:Nat} {σ:H} {Q:V→H→Prop} {x0 x1 x2 x3 x4 x5:V} (h:ws Ft.body ⟨d,[some x0,some x1,some x2,some x3,some x4,some x5],[]⟩ σ (rk Q)):Ca (d+1) (.con (.ref 494)) [x0,x1,x2,x3,x4,x5] σ Q :=
 Aj (fi:=Ft) (ps:=[(.nm 0),(.nm 1),(.nm 2),(.nm 3),(.nm 4),(.nm 5)]) (nl:=6) (df:=[(.str (s "")),(.str (s "")),(.ref 2),(.str (s ""))]) (ρ:=[some x0,some x1,some x2,some x3,some x4,some x5]) rfl T8 rfl rfl rfl rfl ⟨Nat.le_of_ble_eq_true rfl,Nat.le_of_ble_eq_true rfl⟩ rfl h
theorem r9:tb.fn 503=some Kk:=rfl
theorem sb {d:Nat} {σ:H} {Q:V→H→Prop} {x0 x1 x2 x3:V} (h:ws Kk.body ⟨d,[some x0,some x1,some x2,some x3,none],[]⟩ σ (rk Q)):Ca (d+1) (.con (.ref 503)) [x0,x1,x2,x3] σ Q :=
 Aj (fi:=Kk) (ps:=[(.nm 0),(.nm 1),(.nm 2),(.nm 3)]) (nl:=5) (df:=[(.str (s "html")),(.ref 3)]) (ρ:=[some x0,some x1,some x2,some x3,none]) rfl r9 rfl rfl rfl rfl ⟨Nat.le_of_ble_eq_true rfl,Nat.le_of_ble_eq_true rfl⟩ rfl h
theorem sd:tb.fn 510=some Kl:=rfl
theorem se {d:Nat} {σ:H} {Q:V→H→Prop} {x0 x1:V} (h:ws Kl.body ⟨d,[some x0,some x1],[]⟩ σ (rk Q)):Ca (d+1) (.con (.ref 510)) [x0,x1] σ Q :=
 Aj (fi:=Kl) (ps:=[(.nm 0),(.nm 1)]) (nl:=2) (df:=[]) (ρ:=[some x0,some x1]) rfl sd rfl rfl rfl rfl ⟨Nat.le_of_ble_eq_true rfl,Nat.le_of_ble_eq_true rfl⟩ rfl h
theorem sf:tb.fn 517=some Km:=rfl
theorem sh {d:Nat} {σ:H} {Q:V→H→Prop} {x0 x1:V} (h:ws Km.body ⟨d,[some x0,some x1],[]⟩ σ (rk Q)):Ca (d+1) (.con (.ref 517)) [x0,x1] σ Q :=
 Aj (fi:=Km) (ps:=[(.nm 0),(.nm 1)]) (nl:=2) (df:=[]) (ρ:=[some x0,some x1]) rfl sf rfl rfl rfl rfl ⟨Nat.le_of_ble_eq_true rfl,Nat.le_of_ble_eq_true rfl⟩ rfl h
theorem T9:tb.fn 532=some Fu:=rfl
theorem si {d:Nat} {σ:H} {Q:V→H→Prop} {x0 x1 x2:V} (h:ws Fu.body ⟨d,[some x0,some x1,some x2,some (.int (-1)),none],[]⟩ σ (rk Q)):Ca (d+1) (.con (.ref 532)) [x0,x1,x2] σ Q :=
 Aj (fi:=Fu) (ps:=[(.nm 0),(.nm 1),(.nm 2),(.nm 3)]) (nl:=5) (df:=[(.int (-1))]) (ρ:=[some x0,some x1,some x2,some (.int (-1)),none]) rfl T9 rfl rfl rfl rfl ⟨Nat.le_of_ble_eq_true rfl,Nat.le_of_ble_eq_true rfl⟩ rfl h
theorem sm {d:Nat} {σ:H} {Q:V→H→Prop} {x0 x1 x2 x3:V} (h:ws Fu.body ⟨d,[some x0,some x1,some x2,some x3,none],[]⟩ σ (rk Q)):Ca (d+1) (.con (.ref 532)) [x0,x1,x2,x3] σ Q :=
 Aj (fi:=Fu) (ps:=[(.nm 0),(.nm 1),(.nm 2),(.nm 3)]) (nl:=5) (df:=[(.int (-1))]) (ρ:=[some x0,some x1,some x2,some x3,none]) rfl T9 rfl rfl rfl rfl ⟨Nat.le_of_ble_eq_true rfl,Nat.le_of_ble_eq_true rfl⟩ rfl h
theorem sn:tb.fn 539=some Kn:=rfl
theorem so {d:Nat} {σ:H} {Q:V→H→Prop} {x0 x1 x2:V} (h:ws Kn.body ⟨d,[some x0,some x1,some x2],[]⟩ σ (rk Q)):Ca (d+1) (.con (.ref 539)) [x0,x1,x2] σ Q :=
 Aj (fi:=Kn) (ps:=[(.nm 0),(.nm 1),(.nm 2)]) (nl:=3) (df:=[]) (ρ:=[some x0,some x1,some x2]) rfl sn rfl rfl rfl rfl ⟨Nat.le_of_ble_eq_true rfl,Nat.le_of_ble_eq_true rfl⟩ rfl h
theorem sq:tb.fn 546=some Ko:=rfl
theorem sr {d:Nat} {σ:H} {Q:V→H→Prop} {x0 x1:V} (h:ws Ko.body ⟨d,[some x0,some x1],[]⟩ σ (rk Q)):Ca (d+1) (.con (.ref 546)) [x0,x1] σ Q :=
 Aj (fi:=Ko) (ps:=[(.nm 0),(.nm 1)]) (nl:=2) (df:=[]) (ρ:=[some x0,some x1]) rfl sq rfl rfl rfl rfl ⟨Nat.le_of_ble_eq_true rfl,Nat.le_of_ble_eq_true rfl⟩ rfl h
theorem su:tb.fn 567=some Kp:=rfl
theorem sv {d:Nat} {σ:H} {Q:V→H→Prop} {x0 x1:V} (h:ws Kp.body ⟨d,[some x0,some x1],[]⟩ σ (rk Q)):Ca (d+1) (.con (.ref 567)) [x0,x1] σ Q :=
 Aj (fi:=Kp) (ps:=[(.nm 0),(.nm 1)]) (nl:=2) (df:=[]) (ρ:=[some x0,some x1]) rfl su rfl rfl rfl rfl ⟨Nat.le_of_ble_eq_true rfl,Nat.le_of_ble_eq_true rfl⟩ rfl h
theorem sw:tb.fn 574=some Ht:=rfl
theorem sy {d:Nat} {σ:H} {Q:V→H→Prop} {x0 x1 x2:V} (h:ws Ht.body ⟨d,[some x0,some x1,some x2,none],[]⟩ σ (rk Q)):Ca (d+1) (.con (.ref 574)) [x0,x1,x2] σ Q :=
 Aj (fi:=Ht) (ps:=[(.nm 0),(.nm 1),(.nm 2)]) (nl:=4) (df:=[]) (ρ:=[some x0,some x1,some x2,none]) rfl sw rfl rfl rfl rfl ⟨Nat.le_of_ble_eq_true rfl,Nat.le_of_ble_eq_true rfl⟩ rfl h
theorem s0:tb.fn 617=some Kq:=rfl
theorem s2 {d:Nat} {σ:H} {Q:V→H→Prop} {x0 x1:V} (h:ws Kq.body ⟨d,[some x0,some x1],[]⟩ σ (rk Q)):Ca (d+1) (.con (.ref 617)) [x0,x1] σ Q :=
 Aj (fi:=Kq) (ps:=[(.nm 0),(.nm 1)]) (nl:=2) (df:=[]) (ρ:=[some x0,some x1]) rfl s0 rfl rfl rfl rfl ⟨Nat.le_of_ble_eq_true rfl,Nat.le_of_ble_eq_true rfl⟩ rfl h
theorem s3:tb.fn 631=some Kr:=rfl
theorem s4 {d:Nat} {σ:H} {Q:V→H→Prop} {x0 x1 x2:V} (h:ws Kr.body ⟨d,[some x0,some x1,some x2,none],[]⟩ σ (rk Q)):Ca (d+1) (.con (.ref 631)) [x0,x1,x2] σ Q :=
 Aj (fi:=Kr) (ps:=[(.nm 0),(.nm 1),(.nm 2)]) (nl:=4) (df:=[]) (ρ:=[some x0,some x1,some x2,none]) rfl s3 rfl rfl rfl rfl ⟨Nat.le_of_ble_eq_true rfl,Nat.le_of_ble_eq_true rfl⟩ rfl h
theorem s5:tb.fn 652=some Ks:=rfl
theorem s6 {d:Nat} {σ:H} {Q:V→H→Prop} {x0:V} (h:ws Ks.body ⟨d,[some x0],[]⟩ σ (rk Q)):Ca (d+1) (.con (.ref 652)) [x0] σ Q :=
 Aj (fi:=Ks) (ps:=[(.nm 0)]) (nl:=1) (df:=[]) (ρ:=[some x0]) rfl s5 rfl rfl rfl rfl ⟨Nat.le_of_ble_eq_true rfl,Nat.le_of_ble_eq_true rfl⟩ rfl h
theorem s7:tb.fn 659=some Kt:=rfl
theorem s8 {d:Nat} {σ:H} {Q:V→H→Prop} {x0:V} (h:ws Kt.body ⟨d,[some x0,none],[]⟩ σ (rk Q)):Ca (d+1) (.con (.ref 659)) [x0] σ Q :=
 Aj (fi:=Kt) (ps:=[(.nm 0)]) (nl:=2) (df:=[]) (ρ:=[some x0,none]) rfl s7 rfl rfl rfl rfl ⟨Nat.le_of_ble_eq_true rfl,Nat.le_of_ble_eq_true rfl⟩ rfl h
theorem s9:(BoolOp.And==BoolOp.And)=true:=rfl
theorem ta:(BoolOp.And==BoolOp.Or)=false:=rfl
theorem tc:(BoolOp.Or==BoolOp.And)=false:=rfl
theorem td:(BoolOp.Or==BoolOp.Or)=true:=rfl
theorem fin {Q:V→H→Prop} {v v':V} {σ σ':H} (h:Q v σ) (e:v=v') (e2:σ=σ'):Q v' σ':=e▸e2▸h
theorem Dw {fr:Fr} {t:E} {b:List S} {σ:H} {Q:KS} (h:(wP fr t).2 σ fun c σ=>cond c (ws b fr σ (lk Q fun ρ σ=>Wl ⟨fr.dp,ρ,fr.cl⟩ t b σ Q)) (Q .next fr.ρ σ)):Wl fr t b σ Q:=S5 h
theorem Dx {fr:Fr} {t:T} {it it':It} {v:V} {b:List S} {σ:H} {Q:KS} (hn:Bz σ it=some (some (v,it'))) (h:wT fr t v σ fun ρ σ=>ws b ⟨fr.dp,ρ,fr.cl⟩ σ (lk Q fun ρ σ=>Fo ⟨fr.dp,ρ,fr.cl⟩ t it' b σ Q)):Fo fr t it b σ Q:=S6 hn h
theorem te {fr:Fr} {i j l k:Nat} {v:V} {b:List S} {σ:H} {vs:List V} {Q:KS} (hl:σ[l]?=some (.list vs)) (hk:vs[k]?=some v)
  (h:ws b ⟨fr.dp,(fr.ρ.set i (some (.int k))).set j (some v),fr.cl⟩ σ (lk Q fun ρ σ=>Fe ⟨fr.dp,ρ,fr.cl⟩ i j l (k+1) b σ Q)):Fe fr i j l k b σ Q:=b5 hl hk h
theorem F6 {σ:H} {i k:Nat} {vs:List V} {v:V} (h:σ[i]?=some (.list vs)) (hk:vs[k]?=some v):Bz σ (.li i k)=some (some (v,.li i (k+1))):=by
 show onL σ[i]? (fun vs=>some (vs[k]?.map fun v=>(v,It.li i (k+1))))=_
 rw [h]
 show some (vs[k]?.map fun v=>(v,It.li i (k+1)))=_
 rw [hk]
 rfl
theorem F7 {σ:H} {i k:Nat} {vs:List V} (h:σ[i]?=some (.list vs)) (hk:vs[k]?=none):Bz σ (.li i k)=some none:=by
 show onL σ[i]? (fun vs=>some (vs[k]?.map fun v=>(v,It.li i (k+1))))=_
 rw [h]
 show some (vs[k]?.map fun v=>(v,It.li i (k+1)))=_
 rw [hk]
 rfl
theorem F8 {σ:H} {i k:Nat} {vs:List V} {v:V} (h:σ[i]?=some (.tuple vs)) (hk:vs[k]?=some v):Bz σ (.tu i k)=some (some (v,.tu i (k+1))):=by
 show onT σ[i]? (fun vs=>some (vs[k]?.map fun v=>(v,It.tu i (k+1))))=_
 rw [h]
 show some (vs[k]?.map fun v=>(v,It.tu i (k+1)))=_
 rw [hk]
 rfl
theorem Ic {σ:H} {i k:Nat} {vs:List V} (h:σ[i]?=some (.tuple vs)) (hk:vs[k]?=none):Bz σ (.tu i k)=some none:=by
 show onT σ[i]? (fun vs=>some (vs[k]?.map fun v=>(v,It.tu i (k+1))))=_
 rw [h]
 show some (vs[k]?.map fun v=>(v,It.tu i (k+1)))=_
 rw [hk]
 rfl
theorem N5 {σ:H} {x:Int} {n:Nat}:Bz σ (.rg x (n+1))=some (some (.int x,.rg (x+1) n)):=rfl
theorem N6 {σ:H} {x:Int}:Bz σ (.rg x 0)=some none:=rfl
theorem tf {σ:H} {x:Str} {k c:Nat} (h:x.cps[k]?=some c):Bz σ (.st x k)=some (some (.str ⟨#[c]⟩,.st x (k+1))):=by
 show some (x.cps[k]?.map fun c=>(V.str ⟨#[c]⟩,It.st x (k+1)))=_
 rw [h]
 rfl
theorem th {σ:H} {x:Str} {k:Nat} (h:x.cps[k]?=none):Bz σ (.st x k)=some none:=by
 show some (x.cps[k]?.map fun c=>(V.str ⟨#[c]⟩,It.st x (k+1)))=_
 rw [h]
 rfl
noncomputable def Ua (σ:H) (v:V) (n:Nat):MK:=Am σ v n
noncomputable def G6 (n:Nat):MK:=match n with
 | 0=>.blt .append
 | 1=>.blt .pop
 | 2=>.blt .insert
 | 3=>.blt .index
 | _=>.no
noncomputable def Lx (n:Nat):MK:=match n with
 | 4=>.blt .get
 | _=>.no
theorem ti:G6 0=.blt .append:=rfl
theorem tj:G6 2=.blt .insert:=rfl
theorem tm:G6 3=.blt .index:=rfl
theorem tn:Lx 4=.blt .get:=rfl
theorem Ej {σ:H} {a n:Nat} {vs:List V} (h:σ[a]?=some (.list vs)):Am σ (.ref a) n=G6 n:=by
 have i:Cx σ (.ref a)=none:=by unfold Cx;dsimp only;rw [h]
 have l:Ed σ (.ref a)=true:=by unfold Ed;dsimp only;rw [h]
 have d:¬ Go σ (.ref a)=true:=by unfold Go;dsimp only;rw [h];exact Bool.false_ne_true
 unfold Am
 rw [i]
 match n with
 | 0=>exact if_pos l
 | 1=>exact if_pos l
 | 2=>exact if_pos l
 | 3=>exact if_pos l
 | 4=>exact if_neg d
 | 5=>rfl
 | 6=>rfl
 | 7=>rfl
 | n+8=>rfl
theorem tq {σ:H} {a n:Nat} {vs:List (Str×V)} (h:σ[a]?=some (.dict vs)):Am σ (.ref a) n=Lx n:=by
 have i:Cx σ (.ref a)=none:=by unfold Cx;dsimp only;rw [h]
 have l:¬ Ed σ (.ref a)=true:=by unfold Ed;dsimp only;rw [h];exact Bool.false_ne_true
 have d:Go σ (.ref a)=true:=by unfold Go;dsimp only;rw [h]
 unfold Am
 rw [i]
 match n with
 | 0=>exact if_neg l
 | 1=>exact if_neg l
 | 2=>exact if_neg l
 | 3=>exact if_neg l
 | 4=>exact if_pos d
 | 5=>rfl
 | 6=>rfl
 | 7=>rfl
 | n+8=>rfl
theorem Ub {B:Bs} {D:Ds} {Δ:List VR} {J:List O} {k n:Nat}:Am (hp B D (ad Δ J)) (.ref (sz Δ+k)) n=match J[k]? with
  | some (.list _)=>G6 n
  | some (.dict _)=>Lx n
  | _=>Ua (hp B D (ad Δ J)) (.ref (sz Δ+k)) n:=by
 cases h:J[k]? with
 | none=>rfl
 | some o=>cases o with
  | list vs=>exact Ej (De.trans h)
  | dict vs=>exact tq (De.trans h)
  | _=>rfl
theorem tv {B:Bs} {D:Ds} {Δ:List VR} {J:List O} {n:Nat}:Am (hp B D (ad Δ J)) (.ref (sz Δ)) n=match J[0]? with
  | some (.list _)=>G6 n
  | some (.dict _)=>Lx n
  | _=>Ua (hp B D (ad Δ J)) (.ref (sz Δ)) n:=Ub (k:=0)
theorem jl0 {α:Type} {J L:List α} {o:α}:(J++o :: L)[J.length]?=some o:=by simp
theorem jlk {α:Type} {J L:List α} {k:Nat}:(J++L)[J.length+k]?=L[k]?:=by
 rw [List.getElem?_append_right (Nat.le_add_right _ _),Nat.add_sub_cancel_left]
theorem js0 {α:Type} {J L:List α} {o x:α}:(J++o :: L).set J.length x=J++x :: L:=by simp
theorem jsk {α:Type} {J L:List α} {k:Nat} {x:α}:(J++L).set (J.length+k) x=J++L.set k x:=by
 rw [List.set_append,if_neg (Nat.not_lt.mpr (Nat.le_add_right _ _)),Nat.add_sub_cancel_left]
mutual
noncomputable def Rep (Δ:List VR):PyData→V→Prop
 | .none,v=>v=.none
 | .bool b,v=>v=.bool b
 | .int i,v=>v=.int i
 | .str x,v=>v=.str x∧PyData.strOk x=true
 | .tuple ds,v=>∃ a vs,v=.ref a∧At Δ a (.imm (.tuple vs))∧Ae Δ ds vs
 | .list ds,v=>∃ a vs,v=.ref a∧At Δ a (.imm (.list vs))∧Ae Δ ds vs
 | .dict _,_=>False
noncomputable def Ae (Δ:List VR):List PyData→List V→Prop
 | [],vs=>vs=[]
 | d :: ds,vs=>∃ v us,vs=v :: us∧Rep Δ d v∧Ae Δ ds us
end
mutual
theorem Rep.app {Δ:List VR} (J:List VR):∀ {d:PyData} {v:V},Rep Δ d v→Rep (Δ++J) d v
 | .none,_,h=>h
 | .bool _,_,h=>h
 | .int _,_,h=>h
 | .str _,_,h=>h
 | .tuple _,_,⟨a,vs,e,h,r⟩=>⟨a,vs,e,h.app J,Ae.app J r⟩
 | .list _,_,⟨a,vs,e,h,r⟩=>⟨a,vs,e,h.app J,Ae.app J r⟩
 | .dict _,_,h=>h.elim
theorem Ae.app {Δ:List VR} (J:List VR):∀ {ds:List PyData} {vs:List V},Ae Δ ds vs→Ae (Δ++J) ds vs
 | [],_,h=>h
 | _ :: _,_,⟨v,us,e,h,r⟩=>⟨v,us,e,h.app J,Ae.app J r⟩
end
theorem Rep.ad {Δ:List VR} {d:PyData} {v:V} (h:Rep Δ d v) (J:List O):Rep (Mine.Y.ad Δ J) d v:=h.app _
theorem Ae.ad {Δ:List VR} {d:List PyData} {v:List V} (h:Ae Δ d v) (J:List O):Ae (Mine.Y.ad Δ J) d v:=h.app _
theorem Ae.len {Δ:List VR}:∀ {ds:List PyData} {vs:List V},Ae Δ ds vs→vs.length=ds.length
 | [],_,h=>by cases h;rfl
 | _ :: _,_,⟨v,us,e,h,r⟩=>by subst e;simp [Ae.len r]
theorem Ae.get {Δ:List VR}:∀ {ds:List PyData} {vs:List V} {k:Nat} {d:PyData},Ae Δ ds vs→ds[k]?=some d→∃ v,vs[k]?=some v∧Rep Δ d v
 | [],_,_,_,_,hk=>by simp at hk
 | d :: ds,_,0,_,⟨v,us,e,h,r⟩,hk=>by subst e;obtain rfl:=Option.some.inj hk;exact ⟨v,rfl,h⟩
 | d :: ds,_,k+1,_,⟨v,us,e,h,r⟩,hk=>by subst e;exact Ae.get (k:=k) r (by simpa using hk)
theorem Ae.snoc {Δ:List VR} {d:PyData} {v:V} (h:Rep Δ d v):∀ {ds:List PyData} {vs:List V},Ae Δ ds vs→Ae Δ (ds++[d]) (vs++[v])
 | [],_,e=>by cases e;exact ⟨v,[],rfl,h,rfl⟩
 | _ :: _,_,⟨x,us,e,hx,r⟩=>by subst e;exact ⟨x,us++[v],rfl,hx,Ae.snoc h r⟩
mutual
noncomputable def dep:PyData→Nat
 | .tuple ds=>A7 ds+1
 | .list ds=>A7 ds+1
 | _=>0
noncomputable def A7:List PyData→Nat
 | []=>0
 | d :: ds=>max (dep d) (A7 ds)
end
theorem B7 {m:Nat}:A7 []≤m:=Nat.zero_le m
theorem Aq {d:PyData} {ds:List PyData} {m:Nat} (h:dep d≤m) (g:A7 ds≤m):A7 (d :: ds)≤m:=Nat.max_le.mpr ⟨h,g⟩
theorem Uc {d:PyData} {ds:List PyData} {m:Nat} (h:A7 (d :: ds)≤m):dep d≤m∧A7 ds≤m:=Nat.max_le.mp h
theorem Cf {ds:List PyData} {m:Nat} (h:A7 ds≤m):dep (.tuple ds)≤m+1:=Nat.succ_le_succ h
theorem N7 {ds:List PyData} {m:Nat} (h:A7 ds≤m):dep (.list ds)≤m+1:=Nat.succ_le_succ h
theorem Ba {x:Str} {m:Nat}:dep (.str x)≤m:=Nat.zero_le m
theorem N8 {x:Bool} {m:Nat}:dep (.bool x)≤m:=Nat.zero_le m
theorem Ud {m:Nat}:dep .none≤m:=Nat.zero_le m
theorem E9 {a b:Str}:dep (.tuple [.str a,.str b])≤10:=Cf (Aq Ba (Aq Ba B7))
mutual
theorem Rep.pd {Δ:List VR} {B:Bs} {D:Ds}:∀ {d:PyData} {v:V} {n:Nat},Rep Δ d v→dep d≤n→Mine.pd (hp B D Δ) n v=some d
 | .none,_,_,h,_=>by cases h;exact N0
 | .bool _,_,_,h,_=>by cases h;exact Ts
 | .int _,_,_,h,_=>by cases h;exact N1
 | .str _,_,_,h,_=>by (refine Ac h ?_;try clear h;intro z_0 h;obtain rfl:=z_0);exact E8 h
 | .tuple ds,_,n,⟨a,vs,e,h,r⟩,hn=>by
  subst e
  have hn:A7 ds+1≤n:=hn
  obtain ⟨m,rfl⟩:=Nat.exists_eq_succ_of_ne_zero (Nat.ne_of_gt (Nat.lt_of_lt_of_le (Nat.succ_pos _) hn))
  rw [Es,im h]
  dsimp only
  rw [Ae.pd r (Nat.le_of_succ_le_succ hn)]
  rfl
 | .list ds,_,n,⟨a,vs,e,h,r⟩,hn=>by
  subst e
  have hn:A7 ds+1≤n:=hn
  obtain ⟨m,rfl⟩:=Nat.exists_eq_succ_of_ne_zero (Nat.ne_of_gt (Nat.lt_of_lt_of_le (Nat.succ_pos _) hn))
  rw [Es,im h]
  dsimp only
  rw [Ae.pd r (Nat.le_of_succ_le_succ hn)]
  rfl
 | .dict _,_,_,h,_=>h.elim
theorem Ae.pd {Δ:List VR} {B:Bs} {D:Ds}:∀ {ds:List PyData} {vs:List V} {n:Nat},Ae Δ ds vs→A7 ds≤n→pds (hp B D Δ) n vs=some ds
 | [],_,n,h,_=>by cases h;exact Df
 | d :: ds,_,n,⟨v,us,e,h,r⟩,hn=>by
  subst e
  have hn:max (dep d) (A7 ds)≤n:=hn
  rw [Ei,Rep.pd h (Nat.max_le.mp hn).1,Ae.pd r (Nat.max_le.mp hn).2]
end
noncomputable def Ak (l:List (Str×Str)):List PyData:=l.map fun p=>.tuple [.str p.1,.str p.2]
theorem Ue {Δ:List VR} {x y:Str} {v:V} (h:Rep Δ (.tuple [.str x,.str y]) v):∃ a,v=.ref a∧At Δ a (.imm (.tuple [.str x,.str y]))∧PyData.strOk x=true∧PyData.strOk y=true:=by
 rcases h with ⟨a,vs,rfl,h,u,us,rfl,⟨rfl,h1⟩,w,us,rfl,⟨rfl,h2⟩,rfl⟩
 exact ⟨a,rfl,h,h1,h2⟩
theorem Fa {Δ:List VR} {l:List (Str×Str)} {vs:List V} (h:Ae Δ (Ak l) vs) {k:Nat} {p:Str×Str} (hk:l[k]?=some p):∃ a,vs[k]?=some (.ref a)∧At Δ a (.imm (.tuple [.str p.1,.str p.2]))∧PyData.strOk p.1=true∧PyData.strOk p.2=true:=by
 (refine Aa (h.get (k:=k) (d:=.tuple [.str p.1,.str p.2]) (by simp [Ak,hk])) ?_;intro v hv hr)
 (refine Ck (Ue hr) ?_;intro a z_1 h1 h2 h3;obtain rfl:=z_1)
 exact ⟨a,hv,h1,h2,h3⟩
theorem F9 {Δ:List VR} {l:List (Str×Str)} {vs:List V} (h:Ae Δ (Ak l) vs) {k:Nat} (hk:l[k]?=none):vs[k]?=none:=by
 haveI:=h.len
 simp [Ak] at this hk ⊢
 exact Mm ‹_› ‹_›
inductive Tok where
 | start (name:Str) (attrs:List (Str×Str)) (b:Bool)
 | fin (name:Str)
 | chr (x:Str)
 | com (x:Str)
 | dt
noncomputable def Tok.pd:Tok→PyData
 | .start n as b=>.tuple [.str (s "start"),.str n,.tuple (Ak as),.bool b]
 | .fin n=>.tuple [.str (s "end"),.str n,.tuple [],.bool false]
 | .chr x=>.tuple [.str (s "char"),.str x]
 | .com x=>.tuple [.str (s "comment"),.str x]
 | .dt=>.tuple [.str (s "doctype"),.str (s "html"),.none,.none,.bool false]
inductive TokAt (Δ:List VR) (a:Nat):Tok→Prop where
 | start {n:Str} {as:List (Str×Str)} {b:Bool} {aa:Nat} {vs:List V} (h:At Δ a (.imm (.tuple [.str (s "start"),.str n,.ref aa,.bool b]))) (ha:At Δ aa (.imm (.tuple vs))) (hr:Ae Δ (Ak as) vs) (on:PyData.strOk n=true):TokAt Δ a (.start n as b)
 | fin {n:Str} {aa:Nat} (h:At Δ a (.imm (.tuple [.str (s "end"),.str n,.ref aa,.bool false]))) (ha:At Δ aa (.imm (.tuple []))) (on:PyData.strOk n=true):TokAt Δ a (.fin n)
 | chr {x:Str} (h:At Δ a (.imm (.tuple [.str (s "char"),.str x]))) (on:PyData.strOk x=true):TokAt Δ a (.chr x)
 | com {x:Str} (h:At Δ a (.imm (.tuple [.str (s "comment"),.str x]))) (on:PyData.strOk x=true):TokAt Δ a (.com x)
 | dt (h:At Δ a (.imm (.tuple [.str (s "doctype"),.str (s "html"),.none,.none,.bool false]))):TokAt Δ a .dt
theorem TokAt.rep {Δ:List VR} {a:Nat} {t:Tok} (h:TokAt Δ a t):Rep Δ t.pd (.ref a):=by
 induction h with
 | start h ha hr on=>exact ⟨a,_,rfl,h,_,_,rfl,⟨rfl,Ap⟩,_,_,rfl,⟨rfl,on⟩,_,_,rfl,⟨_,_,rfl,ha,hr⟩,_,_,rfl,rfl,rfl⟩
 | fin h ha on=>exact ⟨a,_,rfl,h,_,_,rfl,⟨rfl,Ap⟩,_,_,rfl,⟨rfl,on⟩,_,_,rfl,⟨_,_,rfl,ha,rfl⟩,_,_,rfl,rfl,rfl⟩
 | chr h on=>exact ⟨a,_,rfl,h,_,_,rfl,⟨rfl,Ap⟩,_,_,rfl,⟨rfl,on⟩,rfl⟩
 | com h on=>exact ⟨a,_,rfl,h,_,_,rfl,⟨rfl,Ap⟩,_,_,rfl,⟨rfl,on⟩,rfl⟩
 | dt h=>exact ⟨a,_,rfl,h,_,_,rfl,⟨rfl,Ap⟩,_,_,rfl,⟨rfl,Ap⟩,_,_,rfl,rfl,_,_,rfl,rfl,_,_,rfl,rfl,rfl⟩
theorem TokAt.app {Δ:List VR} {a:Nat} {t:Tok} (h:TokAt Δ a t) (J:List VR):TokAt (Δ++J) a t:=by
 induction h with
 | start h ha hr on=>exact .start (h.app J) (ha.app J) (hr.app J) on
 | fin h ha on=>exact .fin (h.app J) (ha.app J) on
 | chr h on=>exact .chr (h.app J) on
 | com h on=>exact .com (h.app J) on
 | dt h=>exact .dt (h.app J)
theorem TokAt.ad {Δ:List VR} {a:Nat} {t:Tok} (h:TokAt Δ a t) (J:List O):TokAt (Mine.Y.ad Δ J) a t:=h.app _
class KP where p:Prop
class KA (α:Type) where k:α→Prop
class KQ where k:V→H→Prop
class KS1 where k:KS
class KH where k:H→Prop
noncomputable def Av {α:Type} (x:Option α) [K:KA α]:Prop:=opt x K.k
noncomputable def Ga (c:Prop) [Decidable c] [A:KP] [B:KP]:Prop:=if c then A.p else B.p
noncomputable def al' (x:Option (V×H)) [K:KQ]:Prop:=opt x fun p=>K.k p.1 p.2
noncomputable def it' (c:Bool) [A:KP] [B:KP]:Prop:=cond c A.p B.p
noncomputable def G7 (op:BoolOp) (c:Bool) [A:KP] [B:KP]:Prop:=sel op c A.p B.p
noncomputable def ws' (ss:List S) (fr:Fr) (σ:H) [K:KS1]:Prop:=ws ss fr σ K.k
noncomputable def Ca' (d:Nat) (f:V) (as:List V) (σ:H) [K:KQ]:Prop:=Ca d f as σ K.k
noncomputable def Wl' (fr:Fr) (t:E) (b:List S) (σ:H) [K:KS1]:Prop:=Wl fr t b σ K.k
noncomputable def Fo' (fr:Fr) (t:T) (it:It) (b:List S) (σ:H) [K:KS1]:Prop:=Fo fr t it b σ K.k
noncomputable def Fe' (fr:Fr) (i j l k:Nat) (b:List S) (σ:H) [K:KS1]:Prop:=Fe fr i j l k b σ K.k
noncomputable def Co' (fr:Fr) (tgt:List Nat) (one:Bool) (it:It) (cond:Option E) (elt:E) (acc:Nat) (σ:H) [K:KH]:Prop:=Co fr tgt one it cond elt acc σ K.k
noncomputable def wM (k:MK) (fr:Fr) (as:List E) (v:V) (σ:H) [K:KQ]:Prop:=match k with
 | .own f=>wEs fr as σ fun vs σ=>Ca fr.dp (.con (.ref f)) (v :: vs) σ K.k
 | .blt m=>wEs fr as σ fun vs σ=>opt (A4 σ v m vs) fun p=>K.k p.1 p.2
 | .no=>False
theorem tw {α:Type} {a:α} {f:α→Prop}:@Av α (some a) ⟨f⟩=f a:=rfl
theorem ty {A B:Prop} {i:Decidable True}:@Ga True i ⟨A⟩ ⟨B⟩=A:=by unfold Ga;simp
theorem tz {A B:Prop} {i:Decidable False}:@Ga False i ⟨A⟩ ⟨B⟩=B:=by unfold Ga;simp
theorem t8 {v:V} {σ:H} {Q:V→H→Prop}:@al' (some (v,σ)) ⟨Q⟩=Q v σ:=by unfold al';rfl
theorem t9 {A B:Prop}:@it' true ⟨A⟩ ⟨B⟩=A:=rfl
theorem ua {A B:Prop}:@it' false ⟨A⟩ ⟨B⟩=B:=rfl
theorem ub {A B:Prop}:@G7 .Or true ⟨A⟩ ⟨B⟩=A:=rfl
theorem uc {A B:Prop}:@G7 .Or false ⟨A⟩ ⟨B⟩=B:=rfl
theorem ud {A B:Prop}:@G7 .And true ⟨A⟩ ⟨B⟩=B:=rfl
theorem ue {A B:Prop}:@G7 .And false ⟨A⟩ ⟨B⟩=A:=rfl
theorem uf {f:Addr} {fr:Fr} {as:List E} {v:V} {σ:H} {Q:V→H→Prop}:@wM (.own f) fr as v σ ⟨Q⟩=wEs fr as σ fun vs σ=>@Ca' fr.dp (.con (.ref f)) (v :: vs) σ ⟨Q⟩:=rfl
theorem ug {m:BM} {fr:Fr} {as:List E} {v:V} {σ:H} {Q:V→H→Prop}:@wM (.blt m) fr as v σ ⟨Q⟩=wEs fr as σ fun vs σ=>@Av _ (A4 σ v m vs) ⟨fun p=>Q p.1 p.2⟩:=rfl
section
variable {fr:Fr} {σ:H} {Q:V→H→Prop} {QB:Bool→H→Prop}
theorem uh {v:V}:(wP fr (.cst v)).1 σ Q=Q v σ:=rfl
theorem ui {i:Nat}:(wP fr (.loc i)).1 σ Q=@Av _ (fr.ρ[i]?).join ⟨fun v=>Q v σ⟩:=rfl
theorem uj {i:Nat}:(wP fr (.cel i)).1 σ Q=@Av _ (fr.cl[i]?) ⟨fun k=>@Av _ (H3 σ[k]?) ⟨fun v=>Q v σ⟩⟩:=rfl
theorem uk {o:E} {n:Nat}:(wP fr (.attr o n)).1 σ Q=(wP fr o).1 σ fun v σ=>@Av _ (A8 tb σ v n) ⟨fun x=>Q x σ⟩:=rfl
theorem um {o i:E}:(wP fr (.idx o i)).1 σ Q=(wP fr o).1 σ fun v σ=>(wP fr i).1 σ fun k σ=>@Av _ (Ao σ v k) ⟨fun x=>Q x σ⟩:=rfl
theorem un {o i:E}:(wP fr (.slc o i)).1 σ Q=(wP fr o).1 σ fun v σ=>(wP fr i).1 σ fun k σ=>@Av _ (Ec σ v k) ⟨fun p=>Q p.1 p.2⟩:=rfl
theorem uo {o:E} {a b:Str}:(wP fr (.repl o a b)).1 σ Q=(wP fr o).1 σ fun v σ=>match v with
  | .str s=>if s.length≤lim∧b.length≤14∧(a==b)=false then Q (.str (Txt.replace s a b)) σ else False
  | _=>False:=rfl
theorem uq {f:E} {as:List E}:(wP fr (.call f as)).1 σ Q=(wP fr f).1 σ fun v σ=>wEs fr as σ fun vs σ=>wC fr.dp v vs σ Q:=rfl
theorem ur {o:E} {n:Nat} {as:List E}:(wP fr (.meth o n as)).1 σ Q=(wP fr o).1 σ fun v σ=>@wM (Am σ v n) fr as v σ ⟨Q⟩:=rfl
theorem ut {op:Operator} {a b:E}:(wP fr (.bin op a b)).1 σ Q=(wP fr a).1 σ fun x σ=>(wP fr b).1 σ fun y σ=>@Av _ (Ce σ op x y) ⟨fun p=>Q p.1 p.2⟩:=rfl
theorem uu {a:E}:(wP fr (.neg a)).1 σ Q=(wP fr a).1 σ fun v σ=>match v with
  | .int k=>Q (.int (-k)) σ
  | _=>False:=rfl
theorem uv {a:E}:(wP fr (.not a)).1 σ Q=(wP fr a).1 σ fun v σ=>@Av _ (Az σ v) ⟨fun b=>Q (.bool (!b)) σ⟩:=rfl
theorem uw {op:BoolOp} {es:List E}:(wP fr (.boo op es)).1 σ Q=wBo fr op es σ Q:=rfl
theorem ux {l:E} {ops:List CmpOp} {rs:List E}:(wP fr (.cmp l ops rs)).1 σ Q=(wP fr l).1 σ fun v σ=>wCh fr rs v ops σ fun c σ=>Q (.bool c) σ:=rfl
theorem uy {t b o:E}:(wP fr (.ite t b o)).1 σ Q=(wP fr t).2 σ fun c σ=>@it' c ⟨(wP fr b).1 σ Q⟩ ⟨(wP fr o).1 σ Q⟩:=rfl
theorem uz {es:List E}:(wP fr (.tup es)).1 σ Q=wEs fr es σ fun vs σ=>@al' (gd (Nat.ble vs.length lim) (Ay σ (.tuple vs))) ⟨Q⟩:=rfl
theorem u0 {es:List E}:(wP fr (.lst es)).1 σ Q=wEs fr es σ fun vs σ=>@al' (gd (Nat.ble vs.length lim) (Ay σ (.list vs))) ⟨Q⟩:=rfl
theorem u1 {ks es:List E}:(wP fr (.dct ks es)).1 σ Q=@Ga (ks.length≤15∧ks.length=es.length) _ ⟨@Av _ (B5 fr ks) ⟨fun kv=>wEs fr es σ fun vs σ=>@Av _ (Et (kv.zip vs) []) ⟨fun es=>@al' (Ay σ (.dict es)) ⟨Q⟩⟩⟩⟩ ⟨False⟩:=rfl
theorem u2 {ps:List (Str×Str)}:(wP fr (.dcl ps)).1 σ Q=@Ga (17 < ps.length∧ps.length≤30∧(ps.map (·.1)).Nodup) _ ⟨@al' (Ay σ (.dict (ps.map fun p=>(p.1,.str p.2)))) ⟨Q⟩⟩ ⟨False⟩:=rfl
theorem u3 {ns:Nat} {cl tgt:List Nat} {one:Bool} {src:E} {cond:Option E} {elt:E}:(wP fr (.comp ns cl tgt one src cond elt)).1 σ Q=@Av _ (C9 fr.cl cl) ⟨fun cs=>(wP fr src).1 σ fun v σ=>@Av _ (itV (Ci σ v)) ⟨fun it=>@Co' ⟨fr.dp,List.replicate ns none,cs⟩ tgt one it cond elt σ.length (σ++[.list []]) ⟨fun σ'=>Q (.ref σ.length) σ'⟩⟩⟩:=rfl
theorem u4 {v:V}:(wP fr (.cst v)).2 σ QB=@Av _ (Az σ v) ⟨fun b=>QB b σ⟩:=rfl
theorem u5 {i:Nat}:(wP fr (.loc i)).2 σ QB=(wP fr (.loc i)).1 σ fun v σ=>@Av _ (Az σ v) ⟨fun b=>QB b σ⟩:=rfl
theorem u6 {o:E} {n:Nat}:(wP fr (.attr o n)).2 σ QB=(wP fr (.attr o n)).1 σ fun v σ=>@Av _ (Az σ v) ⟨fun b=>QB b σ⟩:=rfl
theorem u7 {o i:E}:(wP fr (.idx o i)).2 σ QB=(wP fr (.idx o i)).1 σ fun v σ=>@Av _ (Az σ v) ⟨fun b=>QB b σ⟩:=rfl
theorem u8 {f:E} {as:List E}:(wP fr (.call f as)).2 σ QB=(wP fr (.call f as)).1 σ fun v σ=>@Av _ (Az σ v) ⟨fun b=>QB b σ⟩:=rfl
theorem va {o:E} {n:Nat} {as:List E}:(wP fr (.meth o n as)).2 σ QB=(wP fr (.meth o n as)).1 σ fun v σ=>@Av _ (Az σ v) ⟨fun b=>QB b σ⟩:=rfl
theorem vb {a:E}:(wP fr (.not a)).2 σ QB=(wP fr a).2 σ fun b σ=>QB (!b) σ:=rfl
theorem vc {op:BoolOp} {es:List E}:(wP fr (.boo op es)).2 σ QB=wBs fr op es σ QB:=rfl
theorem vd {l:E} {ops:List CmpOp} {rs:List E}:(wP fr (.cmp l ops rs)).2 σ QB=(wP fr l).1 σ fun v σ=>wCh fr rs v ops σ QB:=rfl
theorem ve {t b o:E}:(wP fr (.ite t b o)).2 σ QB=(wP fr t).2 σ fun c σ=>@it' c ⟨(wP fr b).2 σ QB⟩ ⟨(wP fr o).2 σ QB⟩:=rfl
theorem vf {Q:List V→H→Prop}:wEs fr [] σ Q=Q [] σ:=rfl
theorem vg {e:E} {es:List E} {Q:List V→H→Prop}:wEs fr (e :: es) σ Q=(wP fr e).1 σ fun v σ=>wEs fr es σ fun vs σ=>Q (v :: vs) σ:=rfl
theorem vh {op:BoolOp} {e:E}:wBo fr op [e] σ Q=(wP fr e).1 σ Q:=rfl
theorem vi {op:BoolOp} {e e2:E} {es:List E}:wBo fr op (e :: e2 :: es) σ Q=(wP fr e).1 σ fun v σ=>@Av _ (Az σ v) ⟨fun b=>@G7 op b ⟨Q v σ⟩ ⟨wBo fr op (e2 :: es) σ Q⟩⟩:=rfl
theorem vj {e:E} {a:V} {op:CmpOp}:wCh fr [e] a [op] σ QB=(wP fr e).1 σ fun b σ=>@Av _ (A6 σ op a b) ⟨fun c=>QB c σ⟩:=rfl
theorem vk {e e2:E} {es:List E} {a:V} {op op2:CmpOp} {ops:List CmpOp}:wCh fr (e :: e2 :: es) a (op :: op2 :: ops) σ QB=(wP fr e).1 σ fun b σ=>@Av _ (A6 σ op a b) ⟨fun c=>@it' c ⟨wCh fr (e2 :: es) b (op2 :: ops) σ QB⟩ ⟨QB false σ⟩⟩:=rfl
theorem vl {op:BoolOp}:wBs fr op [] σ QB=QB (op==.And) σ:=rfl
theorem vm {op:BoolOp} {e:E} {es:List E}:wBs fr op (e :: es) σ QB=(wP fr e).2 σ fun b σ=>@G7 op b ⟨QB b σ⟩ ⟨wBs fr op es σ QB⟩:=rfl
theorem vo {d:Nat} {a:Addr} {as:List V}:wC d (.con (.ref a)) as σ Q=@Ca' d (.con (.ref a)) as σ ⟨Q⟩:=rfl
theorem vq {d:Nat} {a:String} {as:List V}:wC d (.con (.builtin a)) as σ Q=@Av _ (Aw σ (.builtin a) as) ⟨fun p=>Q p.1 p.2⟩:=rfl
theorem vt {d:Nat} {a:String} {as:List V}:wC d (.con (.type a)) as σ Q=@Av _ (Aw σ (.type a) as) ⟨fun p=>Q p.1 p.2⟩:=rfl
end
section
variable {fr:Fr} {σ:H} {Q:KS} {QT:List (Option V)→H→Prop}
theorem vu {i:Nat} {v:V}:wT fr (.nm i) v σ QT=QT (fr.ρ.set i (some v)) σ:=rfl
theorem vw {j:Nat} {v:V}:wT fr (.cl j) v σ QT=@Av _ (fr.cl[j]?) ⟨fun k=>@Av _ (H5 σ[k]?) ⟨fun _=>@Ga (fz≤k) _ ⟨QT fr.ρ (σ.set k (.cell (some v)))⟩ ⟨False⟩⟩⟩:=rfl
theorem vy {is:List Nat} {i:Nat}:wT fr (.tp is) (.ref i) σ QT=@Av _ (H6 σ[i]?) ⟨fun vs=>@Av _ (Cj is vs fr.ρ) ⟨fun ρ=>QT ρ σ⟩⟩:=rfl
theorem vz {o:E} {n:Nat} {v:V}:wT fr (.at o n) v σ QT=(wP fr o).1 σ fun ov σ=>@Av _ (Fm tb σ ov n v) ⟨fun σ=>QT fr.ρ σ⟩:=rfl
theorem v1 {o i:E} {v:V}:wT fr (.ix o i) v σ QT=(wP fr o).1 σ fun ov σ=>(wP fr i).1 σ fun iv σ=>@Av _ (Cy σ ov iv v) ⟨fun σ=>QT fr.ρ σ⟩:=rfl
theorem v2 {t:T} {e:E}:wS (.asg t e) fr σ Q=(wP fr e).1 σ fun v σ=>wT fr t v σ fun ρ σ=>Q .next ρ σ:=rfl
theorem v3 {i:Nat} {e:E}:wS (.asc i e) fr σ Q=(wP fr e).1 σ fun v σ=>Q .next (fr.ρ.set i (some v)) σ:=rfl
theorem v4 {i:Nat} {op:Operator} {e:E}:wS (.aug i op e) fr σ Q=@Av _ (fr.ρ[i]?).join ⟨fun x=>match x with
  | .int x=>(wP fr e).1 σ fun v σ=>(match v,op with
   | .int y,.Add=>Q .next (fr.ρ.set i (some (.int (x+y)))) σ
   | .int y,.Sub=>Q .next (fr.ρ.set i (some (.int (x-y)))) σ
   | _,_=>False)
  | _=>False⟩:=rfl
theorem v5 {e:E}:wS (.ex e) fr σ Q=(wP fr e).1 σ fun v σ=>match v with
  | .none=>Q .next fr.ρ σ
  | .int _=>Q .next fr.ρ σ
  | _=>False:=rfl
theorem v6:wS (.ret none) fr σ Q=Q (.ret .none) fr.ρ σ:=rfl
theorem v7 {e:E}:wS (.ret (some e)) fr σ Q=(wP fr e).1 σ fun v σ=>Q (.ret v) fr.ρ σ:=rfl
theorem v8 {t:E} {b o:List S}:wS (.ite t b o) fr σ Q=(wP fr t).2 σ fun c σ=>@it' c ⟨@ws' b fr σ ⟨Q⟩⟩ ⟨@ws' o fr σ ⟨Q⟩⟩:=rfl
theorem v9 {t:E} {b:List S}:wS (.whl t b) fr σ Q=@Wl' fr t b σ ⟨Q⟩:=rfl
theorem wa {t:T} {it:E} {b:List S}:wS (.for t it b) fr σ Q=(wP fr it).1 σ fun v σ=>@Av _ (Ci σ v) ⟨fun k=>@Fo' fr t k b σ ⟨Q⟩⟩:=rfl
theorem wb {i j:Nat} {it:E} {b:List S}:wS (.fen i j it b) fr σ Q=(wP fr it).1 σ fun v σ=>match v with
  | .ref l=>@Av _ (H4 σ[l]?) ⟨fun _=>@Fe' fr i j l 0 b σ ⟨Q⟩⟩
  | _=>False:=rfl
theorem wc:wS .brk fr σ Q=Q .brk fr.ρ σ:=rfl
theorem we:wS .bad fr σ Q=False:=rfl
theorem wh {ss:List S} {ρ:List (Option V)}:sk ss fr Q .next ρ σ=@ws' ss ⟨fr.dp,ρ,fr.cl⟩ σ ⟨Q⟩:=rfl
theorem wi:@ws' [] fr σ ⟨Q⟩=Q .next fr.ρ σ:=rfl
theorem wj {ss:List S}:ws ss fr σ Q=@ws' ss fr σ ⟨Q⟩:=rfl
theorem wm {d:Nat} {f:V} {as:List V} {Q:V→H→Prop}:Ca d f as σ Q=@Ca' d f as σ ⟨Q⟩:=rfl
theorem wn {t:T} {it:It} {b:List S}:Fo fr t it b σ Q=@Fo' fr t it b σ ⟨Q⟩:=rfl
theorem wo {i j l k:Nat} {b:List S}:Fe fr i j l k b σ Q=@Fe' fr i j l k b σ ⟨Q⟩:=rfl
theorem wq {t:E} {b:List S}:Wl fr t b σ Q=@Wl' fr t b σ ⟨Q⟩:=rfl
theorem wr {tgt:List Nat} {one:Bool} {it:It} {cond:Option E} {elt:E} {acc:Nat} {Q:H→Prop}:Co fr tgt one it cond elt acc σ Q=@Co' fr tgt one it cond elt acc σ ⟨Q⟩:=rfl
theorem wt {s:S} {ss:List S} (h:wS s fr σ (sk ss fr Q)):@ws' (s :: ss) fr σ ⟨Q⟩:=seq h
end
theorem wu {ρ:List (Option V)}:Cj [] [] ρ=some ρ:=rfl
theorem wv {i:Nat} {is:List Nat} {v:V} {vs:List V} {ρ:List (Option V)}:Cj (i :: is) (v :: vs) ρ=Cj is vs (ρ.set i (some v)):=rfl
theorem M7 {v:V}:H3 (some (.cell (some v)))=some v:=rfl
theorem M8 {vs:List V}:H4 (some (.list vs))=some ():=rfl
theorem M9 {v:Option V}:H5 (some (.cell v))=some ():=rfl
theorem Na {vs:List V}:H6 (some (.tuple vs))=some vs:=rfl
theorem ww {i k:Nat}:itV (some (.li i k))=some (.li i k):=rfl
theorem wx {i k:Nat}:itV (some (.tu i k))=some (.tu i k):=rfl
theorem wy {x:Int} {n:Nat}:itV (some (.rg x n))=some (.rg x n):=rfl
theorem wz {fr:Fr}:B5 fr []=some []:=rfl
theorem w0 {fr:Fr} {v:V} {r:List E}:B5 fr (.cst v :: r)=(B5 fr r).map (v :: ·):=rfl
theorem w4 {fr:Fr} {i:Nat} {r:List E}:B5 fr (.loc i :: r)=match (fr.ρ[i]?).join,B5 fr r with
  | some v,some vs=>some (v :: vs)
  | _,_=>none:=rfl
open Lean in
local macro_rules | `(tactic| simp! [$ls,*]) => do
  let a ← ("uh ui uj uk um un uo uq ur ut uu uv uw ux uy uz u0 u1 u2 u3 u4 u5 u6 u7 u8 va vb vc vd ve vf vg vh vi vj vk vl vm vo vq vt vu vw vy vz v1 v2 v3 v4 v5 v6 v7 v8 v9 wa wb wc we wh wj wm wn wo wq wr".splitOn " ").toArray.mapM fun n => `(Parser.Tactic.simpLemma| ↓ $(mkIdent n.toName):ident)
  let b ← ("wi tw t8 t9 ua ub uc ud ue ty tz cond_true cond_false lf wu wv uf ug M7 M8 M9 Na ww wx wy mf mh wz w0 w4 Zv j6 j7 j8 j9 ka List.getElem?_cons_succ List.getElem?_cons_zero Option.join_some List.set_cons_succ List.set_cons_zero Te cu cw cx cy Tf Tg Th Ti Tj Nu Nv F5 cz Lm Ln Tl Tm Tn c4 c5 c7 c8 c9 db dc de dh di dj dm dn dq du dv dw dy dz d0 d3 d5 d6 d7 d8 d9 ed ee eu e7 e8 e9 fc fe ff fg fh fj fk fp fq fu fv fw fy f6 f7 f8 f9 gb gc gf gg gh gi gj gk gn gp gq gr gs gu gv gw gx gy gz g0 g6 g7 g8 Lo Lp Ny To Bc new_ad T3 De Ia Tq h9 List.nil_append jl0 jlk js0 jsk List.cons_append List.append_assoc Tr ie Ap N0 Ts N1 Df Ei ip iq ir iu iw iy iz i5 i7 i8 i9 ja jb ik il io E8 jc jd je jf jg jh ji jk jl jm jn jo Tv jp jq jr kc ke lg lh lj ll lm ln lp T2 lq lr lu lv lw lx ly lz l0 l9 Lv jt ju kz kf ig ij ma mc me kg kh ki kj jv Ib Tx jx jy kl km kq kr ku k5 k9 ky Ub tv ti tj tm tn jz j1 j2 Tz j5 List.any_cons List.any_nil List.isEmpty_cons List.isEmpty_nil Option.bind_some Option.map_some List.length_cons List.length_nil Nat.reduceAdd Nat.reduceLeDiff Nat.zero_add lim fz ib ic and_self if_true if_false ite_true ite_false reduceIte Bool.and_true Bool.true_and Bool.and_false Bool.false_and Bool.or_false Bool.or_true Bool.true_or Bool.false_or Bool.not_true Bool.not_false reduceCtorEq String.reduceEq String.reduceBEq String.reduceNe Int.reduceNeg beq_self_eq_true Bool.false_eq_true Bool.true_eq_false s9 ta tc td".splitOn " ").toArray.mapM fun n => `(Parser.Tactic.simpLemma| $(mkIdent n.toName):ident)
  let c : Array (TSyntax [`Lean.Parser.Tactic.simpStar, `Lean.Parser.Tactic.simpErase, `Lean.Parser.Tactic.simpLemma]) := a.map (⟨·.raw⟩) ++ b.map (⟨·.raw⟩) ++ ls.getElems
  `(tactic| try simp only [$c,*])
local macro_rules | `(tactic| dsimp! [$ls,*]) => `(tactic| ((first | refine wt ?_ | refine seq ?_); simp! [$ls,*]))
theorem A0 (l:List Char):Str.ofString (String.ofList l)=⟨(l.map Char.toNat).toArray⟩:=by
 rw [Str.ofString_eq_toList,String.toList_ofList]
noncomputable def Id:List (Str×Str):=[(s "a",s "altGlyph altGlyphDef altGlyphItem animateColor animateMotion animateTransform"),(s "c",s "clipPath"),(s "f",s "feBlend feColorMatrix feComponentTransfer feComposite feConvolveMatrix feDiffuseLighting feDisplacementMap feDistantLight feDropShadow feFlood feFuncA feFuncB feFuncG feFuncR feGaussianBlur feImage feMerge feMergeNode feMorphology feOffset fePointLight feSpecularLighting feSpotLight feTile feTurbulence foreignObject"),(s "g",s "glyphRef"),(s "l",s "linearGradient"),(s "r",s "radialGradient"),(s "t",s "textPath")]
noncomputable def N9:List (Str×List Str):=[(⟨#[97]⟩,[⟨#[97,108,116,71,108,121,112,104]⟩,⟨#[97,108,116,71,108,121,112,104,68,101,102]⟩,⟨#[97,108,116,71,108,121,112,104,73,116,101,109]⟩,⟨#[97,110,105,109,97,116,101,67,111,108,111,114]⟩,⟨#[97,110,105,109,97,116,101,77,111,116,105,111,110]⟩,⟨#[97,110,105,109,97,116,101,84,114,97,110,115,102,111,114,109]⟩]),(⟨#[99]⟩,[⟨#[99,108,105,112,80,97,116,104]⟩]),(⟨#[102]⟩,[⟨#[102,101,66,108,101,110,100]⟩,⟨#[102,101,67,111,108,111,114,77,97,116,114,105,120]⟩,⟨#[102,101,67,111,109,112,111,110,101,110,116,84,114,97,110,115,102,101,114]⟩,⟨#[102,101,67,111,109,112,111,115,105,116,101]⟩,⟨#[102,101,67,111,110,118,111,108,118,101,77,97,116,114,105,120]⟩,⟨#[102,101,68,105,102,102,117,115,101,76,105,103,104,116,105,110,103]⟩,⟨#[102,101,68,105,115,112,108,97,99,101,109,101,110,116,77,97,112]⟩,⟨#[102,101,68,105,115,116,97,110,116,76,105,103,104,116]⟩,⟨#[102,101,68,114,111,112,83,104,97,100,111,119]⟩,⟨#[102,101,70,108,111,111,100]⟩,⟨#[102,101,70,117,110,99,65]⟩,⟨#[102,101,70,117,110,99,66]⟩,⟨#[102,101,70,117,110,99,71]⟩,⟨#[102,101,70,117,110,99,82]⟩,⟨#[102,101,71,97,117,115,115,105,97,110,66,108,117,114]⟩,⟨#[102,101,73,109,97,103,101]⟩,⟨#[102,101,77,101,114,103,101]⟩,⟨#[102,101,77,101,114,103,101,78,111,100,101]⟩,⟨#[102,101,77,111,114,112,104,111,108,111,103,121]⟩,⟨#[102,101,79,102,102,115,101,116]⟩,⟨#[102,101,80,111,105,110,116,76,105,103,104,116]⟩,⟨#[102,101,83,112,101,99,117,108,97,114,76,105,103,104,116,105,110,103]⟩,⟨#[102,101,83,112,111,116,76,105,103,104,116]⟩,⟨#[102,101,84,105,108,101]⟩,⟨#[102,101,84,117,114,98,117,108,101,110,99,101]⟩,⟨#[102,111,114,101,105,103,110,79,98,106,101,99,116]⟩]),(⟨#[103]⟩,[⟨#[103,108,121,112,104,82,101,102]⟩]),(⟨#[108]⟩,[⟨#[108,105,110,101,97,114,71,114,97,100,105,101,110,116]⟩]),(⟨#[114]⟩,[⟨#[114,97,100,105,97,108,71,114,97,100,105,101,110,116]⟩]),(⟨#[116]⟩,[⟨#[116,101,120,116,80,97,116,104]⟩])]
theorem Uf:Str.ofString "altGlyph altGlyphDef altGlyphItem animateColor animateMotion animateTransform"=⟨#[97,108,116,71,108,121,112,104,32,97,108,116,71,108,121,112,104,68,101,102,32,97,108,116,71,108,121,112,104,73,116,101,109,32,97,110,105,109,97,116,101,67,111,108,111,114,32,97,110,105,109,97,116,101,77,111,116,105,111,110,32,97,110,105,109,97,116,101,84,114,97,110,115,102,111,114,109]⟩:=A0 ['a','l','t','G','l','y','p','h',' ','a','l','t','G','l','y','p','h','D','e','f',' ','a','l','t','G','l','y','p','h','I','t','e','m',' ','a','n','i','m','a','t','e','C','o','l','o','r',' ','a','n','i','m','a','t','e','M','o','t','i','o','n',' ','a','n','i','m','a','t','e','T','r','a','n','s','f','o','r','m']
theorem Ug:Str.ofString "clipPath"=⟨#[99,108,105,112,80,97,116,104]⟩:=A0 ['c','l','i','p','P','a','t','h']
theorem Uh:Str.ofString "feBlend feColorMatrix feComponentTransfer feComposite feConvolveMatrix feDiffuseLighting feDisplacementMap feDistantLight feDropShadow feFlood feFuncA feFuncB feFuncG feFuncR feGaussianBlur feImage feMerge feMergeNode feMorphology feOffset fePointLight feSpecularLighting feSpotLight feTile feTurbulence foreignObject"=⟨#[102,101,66,108,101,110,100,32,102,101,67,111,108,111,114,77,97,116,114,105,120,32,102,101,67,111,109,112,111,110,101,110,116,84,114,97,110,115,102,101,114,32,102,101,67,111,109,112,111,115,105,116,101,32,102,101,67,111,110,118,111,108,118,101,77,97,116,114,105,120,32,102,101,68,105,102,102,117,115,101,76,105,103,104,116,105,110,103,32,102,101,68,105,115,112,108,97,99,101,109,101,110,116,77,97,112,32,102,101,68,105,115,116,97,110,116,76,105,103,104,116,32,102,101,68,114,111,112,83,104,97,100,111,119,32,102,101,70,108,111,111,100,32,102,101,70,117,110,99,65,32,102,101,70,117,110,99,66,32,102,101,70,117,110,99,71,32,102,101,70,117,110,99,82,32,102,101,71,97,117,115,115,105,97,110,66,108,117,114,32,102,101,73,109,97,103,101,32,102,101,77,101,114,103,101,32,102,101,77,101,114,103,101,78,111,100,101,32,102,101,77,111,114,112,104,111,108,111,103,121,32,102,101,79,102,102,115,101,116,32,102,101,80,111,105,110,116,76,105,103,104,116,32,102,101,83,112,101,99,117,108,97,114,76,105,103,104,116,105,110,103,32,102,101,83,112,111,116,76,105,103,104,116,32,102,101,84,105,108,101,32,102,101,84,117,114,98,117,108,101,110,99,101,32,102,111,114,101,105,103,110,79,98,106,101,99,116]⟩:=A0 ['f','e','B','l','e','n','d',' ','f','e','C','o','l','o','r','M','a','t','r','i','x',' ','f','e','C','o','m','p','o','n','e','n','t','T','r','a','n','s','f','e','r',' ','f','e','C','o','m','p','o','s','i','t','e',' ','f','e','C','o','n','v','o','l','v','e','M','a','t','r','i','x',' ','f','e','D','i','f','f','u','s','e','L','i','g','h','t','i','n','g',' ','f','e','D','i','s','p','l','a','c','e','m','e','n','t','M','a','p',' ','f','e','D','i','s','t','a','n','t','L','i','g','h','t',' ','f','e','D','r','o','p','S','h','a','d','o','w',' ','f','e','F','l','o','o','d',' ','f','e','F','u','n','c','A',' ','f','e','F','u','n','c','B',' ','f','e','F','u','n','c','G',' ','f','e','F','u','n','c','R',' ','f','e','G','a','u','s','s','i','a','n','B','l','u','r',' ','f','e','I','m','a','g','e',' ','f','e','M','e','r','g','e',' ','f','e','M','e','r','g','e','N','o','d','e',' ','f','e','M','o','r','p','h','o','l','o','g','y',' ','f','e','O','f','f','s','e','t',' ','f','e','P','o','i','n','t','L','i','g','h','t',' ','f','e','S','p','e','c','u','l','a','r','L','i','g','h','t','i','n','g',' ','f','e','S','p','o','t','L','i','g','h','t',' ','f','e','T','i','l','e',' ','f','e','T','u','r','b','u','l','e','n','c','e',' ','f','o','r','e','i','g','n','O','b','j','e','c','t']
theorem Ui:Str.ofString "glyphRef"=⟨#[103,108,121,112,104,82,101,102]⟩:=A0 ['g','l','y','p','h','R','e','f']
theorem Uj:Str.ofString "linearGradient"=⟨#[108,105,110,101,97,114,71,114,97,100,105,101,110,116]⟩:=A0 ['l','i','n','e','a','r','G','r','a','d','i','e','n','t']
theorem Uk:Str.ofString "radialGradient"=⟨#[114,97,100,105,97,108,71,114,97,100,105,101,110,116]⟩:=A0 ['r','a','d','i','a','l','G','r','a','d','i','e','n','t']
theorem Ul:Str.ofString "textPath"=⟨#[116,101,120,116,80,97,116,104]⟩:=A0 ['t','e','x','t','P','a','t','h']
theorem w5:(Id.map fun p=>(p.1,Txt.words p.2))=N9:=by
 simp only [Id,List.map_cons,List.map_nil,s,Uf,Ug,Uh,Ui,Uj,Uk,Ul,KWd.words_scan]
 decide +kernel
theorem w6:∀ p∈Id,p.2.length≤100000:=by
 simp only [Id,s,Uf,Ug,Uh,Ui,Uj,Uk,Ul]
 decide +kernel
noncomputable def Dy:List (Str×Str):=[(s "a",s "attributeName attributeType"),(s "b",s "baseFrequency baseProfile"),(s "c",s "calcMode clipPathUnits"),(s "d",s "diffuseConstant"),(s "e",s "edgeMode"),(s "f",s "filterUnits"),(s "g",s "glyphRef gradientTransform gradientUnits"),(s "k",s "kernelMatrix kernelUnitLength keyPoints keySplines keyTimes"),(s "l",s "lengthAdjust limitingConeAngle"),(s "m",s "markerHeight markerUnits markerWidth maskContentUnits maskUnits"),(s "n",s "numOctaves"),(s "p",s "pathLength patternContentUnits patternTransform patternUnits pointsAtX pointsAtY pointsAtZ preserveAlpha preserveAspectRatio primitiveUnits"),(s "r",s "refX refY repeatCount repeatDur requiredExtensions requiredFeatures"),(s "s",s "specularConstant specularExponent spreadMethod startOffset stdDeviation stitchTiles surfaceScale systemLanguage"),(s "t",s "tableValues targetX targetY textLength"),(s "v",s "viewBox viewTarget"),(s "x",s "xChannelSelector"),(s "y",s "yChannelSelector"),(s "z",s "zoomAndPan")]
noncomputable def Oa:List (Str×List Str):=[(⟨#[97]⟩,[⟨#[97,116,116,114,105,98,117,116,101,78,97,109,101]⟩,⟨#[97,116,116,114,105,98,117,116,101,84,121,112,101]⟩]),(⟨#[98]⟩,[⟨#[98,97,115,101,70,114,101,113,117,101,110,99,121]⟩,⟨#[98,97,115,101,80,114,111,102,105,108,101]⟩]),(⟨#[99]⟩,[⟨#[99,97,108,99,77,111,100,101]⟩,⟨#[99,108,105,112,80,97,116,104,85,110,105,116,115]⟩]),(⟨#[100]⟩,[⟨#[100,105,102,102,117,115,101,67,111,110,115,116,97,110,116]⟩]),(⟨#[101]⟩,[⟨#[101,100,103,101,77,111,100,101]⟩]),(⟨#[102]⟩,[⟨#[102,105,108,116,101,114,85,110,105,116,115]⟩]),(⟨#[103]⟩,[⟨#[103,108,121,112,104,82,101,102]⟩,⟨#[103,114,97,100,105,101,110,116,84,114,97,110,115,102,111,114,109]⟩,⟨#[103,114,97,100,105,101,110,116,85,110,105,116,115]⟩]),(⟨#[107]⟩,[⟨#[107,101,114,110,101,108,77,97,116,114,105,120]⟩,⟨#[107,101,114,110,101,108,85,110,105,116,76,101,110,103,116,104]⟩,⟨#[107,101,121,80,111,105,110,116,115]⟩,⟨#[107,101,121,83,112,108,105,110,101,115]⟩,⟨#[107,101,121,84,105,109,101,115]⟩]),(⟨#[108]⟩,[⟨#[108,101,110,103,116,104,65,100,106,117,115,116]⟩,⟨#[108,105,109,105,116,105,110,103,67,111,110,101,65,110,103,108,101]⟩]),(⟨#[109]⟩,[⟨#[109,97,114,107,101,114,72,101,105,103,104,116]⟩,⟨#[109,97,114,107,101,114,85,110,105,116,115]⟩,⟨#[109,97,114,107,101,114,87,105,100,116,104]⟩,⟨#[109,97,115,107,67,111,110,116,101,110,116,85,110,105,116,115]⟩,⟨#[109,97,115,107,85,110,105,116,115]⟩]),(⟨#[110]⟩,[⟨#[110,117,109,79,99,116,97,118,101,115]⟩]),(⟨#[112]⟩,[⟨#[112,97,116,104,76,101,110,103,116,104]⟩,⟨#[112,97,116,116,101,114,110,67,111,110,116,101,110,116,85,110,105,116,115]⟩,⟨#[112,97,116,116,101,114,110,84,114,97,110,115,102,111,114,109]⟩,⟨#[112,97,116,116,101,114,110,85,110,105,116,115]⟩,⟨#[112,111,105,110,116,115,65,116,88]⟩,⟨#[112,111,105,110,116,115,65,116,89]⟩,⟨#[112,111,105,110,116,115,65,116,90]⟩,⟨#[112,114,101,115,101,114,118,101,65,108,112,104,97]⟩,⟨#[112,114,101,115,101,114,118,101,65,115,112,101,99,116,82,97,116,105,111]⟩,⟨#[112,114,105,109,105,116,105,118,101,85,110,105,116,115]⟩]),(⟨#[114]⟩,[⟨#[114,101,102,88]⟩,⟨#[114,101,102,89]⟩,⟨#[114,101,112,101,97,116,67,111,117,110,116]⟩,⟨#[114,101,112,101,97,116,68,117,114]⟩,⟨#[114,101,113,117,105,114,101,100,69,120,116,101,110,115,105,111,110,115]⟩,⟨#[114,101,113,117,105,114,101,100,70,101,97,116,117,114,101,115]⟩]),(⟨#[115]⟩,[⟨#[115,112,101,99,117,108,97,114,67,111,110,115,116,97,110,116]⟩,⟨#[115,112,101,99,117,108,97,114,69,120,112,111,110,101,110,116]⟩,⟨#[115,112,114,101,97,100,77,101,116,104,111,100]⟩,⟨#[115,116,97,114,116,79,102,102,115,101,116]⟩,⟨#[115,116,100,68,101,118,105,97,116,105,111,110]⟩,⟨#[115,116,105,116,99,104,84,105,108,101,115]⟩,⟨#[115,117,114,102,97,99,101,83,99,97,108,101]⟩,⟨#[115,121,115,116,101,109,76,97,110,103,117,97,103,101]⟩]),(⟨#[116]⟩,[⟨#[116,97,98,108,101,86,97,108,117,101,115]⟩,⟨#[116,97,114,103,101,116,88]⟩,⟨#[116,97,114,103,101,116,89]⟩,⟨#[116,101,120,116,76,101,110,103,116,104]⟩]),(⟨#[118]⟩,[⟨#[118,105,101,119,66,111,120]⟩,⟨#[118,105,101,119,84,97,114,103,101,116]⟩]),(⟨#[120]⟩,[⟨#[120,67,104,97,110,110,101,108,83,101,108,101,99,116,111,114]⟩]),(⟨#[121]⟩,[⟨#[121,67,104,97,110,110,101,108,83,101,108,101,99,116,111,114]⟩]),(⟨#[122]⟩,[⟨#[122,111,111,109,65,110,100,80,97,110]⟩])]
theorem Um:Str.ofString "attributeName attributeType"=⟨#[97,116,116,114,105,98,117,116,101,78,97,109,101,32,97,116,116,114,105,98,117,116,101,84,121,112,101]⟩:=A0 ['a','t','t','r','i','b','u','t','e','N','a','m','e',' ','a','t','t','r','i','b','u','t','e','T','y','p','e']
theorem Un:Str.ofString "baseFrequency baseProfile"=⟨#[98,97,115,101,70,114,101,113,117,101,110,99,121,32,98,97,115,101,80,114,111,102,105,108,101]⟩:=A0 ['b','a','s','e','F','r','e','q','u','e','n','c','y',' ','b','a','s','e','P','r','o','f','i','l','e']
theorem Uo:Str.ofString "calcMode clipPathUnits"=⟨#[99,97,108,99,77,111,100,101,32,99,108,105,112,80,97,116,104,85,110,105,116,115]⟩:=A0 ['c','a','l','c','M','o','d','e',' ','c','l','i','p','P','a','t','h','U','n','i','t','s']
theorem Uq:Str.ofString "diffuseConstant"=⟨#[100,105,102,102,117,115,101,67,111,110,115,116,97,110,116]⟩:=A0 ['d','i','f','f','u','s','e','C','o','n','s','t','a','n','t']
theorem Ur:Str.ofString "edgeMode"=⟨#[101,100,103,101,77,111,100,101]⟩:=A0 ['e','d','g','e','M','o','d','e']
theorem Us:Str.ofString "filterUnits"=⟨#[102,105,108,116,101,114,85,110,105,116,115]⟩:=A0 ['f','i','l','t','e','r','U','n','i','t','s']
theorem Ut:Str.ofString "glyphRef gradientTransform gradientUnits"=⟨#[103,108,121,112,104,82,101,102,32,103,114,97,100,105,101,110,116,84,114,97,110,115,102,111,114,109,32,103,114,97,100,105,101,110,116,85,110,105,116,115]⟩:=A0 ['g','l','y','p','h','R','e','f',' ','g','r','a','d','i','e','n','t','T','r','a','n','s','f','o','r','m',' ','g','r','a','d','i','e','n','t','U','n','i','t','s']
theorem Uu:Str.ofString "kernelMatrix kernelUnitLength keyPoints keySplines keyTimes"=⟨#[107,101,114,110,101,108,77,97,116,114,105,120,32,107,101,114,110,101,108,85,110,105,116,76,101,110,103,116,104,32,107,101,121,80,111,105,110,116,115,32,107,101,121,83,112,108,105,110,101,115,32,107,101,121,84,105,109,101,115]⟩:=A0 ['k','e','r','n','e','l','M','a','t','r','i','x',' ','k','e','r','n','e','l','U','n','i','t','L','e','n','g','t','h',' ','k','e','y','P','o','i','n','t','s',' ','k','e','y','S','p','l','i','n','e','s',' ','k','e','y','T','i','m','e','s']
theorem Uv:Str.ofString "lengthAdjust limitingConeAngle"=⟨#[108,101,110,103,116,104,65,100,106,117,115,116,32,108,105,109,105,116,105,110,103,67,111,110,101,65,110,103,108,101]⟩:=A0 ['l','e','n','g','t','h','A','d','j','u','s','t',' ','l','i','m','i','t','i','n','g','C','o','n','e','A','n','g','l','e']
theorem Uw:Str.ofString "markerHeight markerUnits markerWidth maskContentUnits maskUnits"=⟨#[109,97,114,107,101,114,72,101,105,103,104,116,32,109,97,114,107,101,114,85,110,105,116,115,32,109,97,114,107,101,114,87,105,100,116,104,32,109,97,115,107,67,111,110,116,101,110,116,85,110,105,116,115,32,109,97,115,107,85,110,105,116,115]⟩:=A0 ['m','a','r','k','e','r','H','e','i','g','h','t',' ','m','a','r','k','e','r','U','n','i','t','s',' ','m','a','r','k','e','r','W','i','d','t','h',' ','m','a','s','k','C','o','n','t','e','n','t','U','n','i','t','s',' ','m','a','s','k','U','n','i','t','s']
theorem Ux:Str.ofString "numOctaves"=⟨#[110,117,109,79,99,116,97,118,101,115]⟩:=A0 ['n','u','m','O','c','t','a','v','e','s']
theorem Uy:Str.ofString "pathLength patternContentUnits patternTransform patternUnits pointsAtX pointsAtY pointsAtZ preserveAlpha preserveAspectRatio primitiveUnits"=⟨#[112,97,116,104,76,101,110,103,116,104,32,112,97,116,116,101,114,110,67,111,110,116,101,110,116,85,110,105,116,115,32,112,97,116,116,101,114,110,84,114,97,110,115,102,111,114,109,32,112,97,116,116,101,114,110,85,110,105,116,115,32,112,111,105,110,116,115,65,116,88,32,112,111,105,110,116,115,65,116,89,32,112,111,105,110,116,115,65,116,90,32,112,114,101,115,101,114,118,101,65,108,112,104,97,32,112,114,101,115,101,114,118,101,65,115,112,101,99,116,82,97,116,105,111,32,112,114,105,109,105,116,105,118,101,85,110,105,116,115]⟩:=A0 ['p','a','t','h','L','e','n','g','t','h',' ','p','a','t','t','e','r','n','C','o','n','t','e','n','t','U','n','i','t','s',' ','p','a','t','t','e','r','n','T','r','a','n','s','f','o','r','m',' ','p','a','t','t','e','r','n','U','n','i','t','s',' ','p','o','i','n','t','s','A','t','X',' ','p','o','i','n','t','s','A','t','Y',' ','p','o','i','n','t','s','A','t','Z',' ','p','r','e','s','e','r','v','e','A','l','p','h','a',' ','p','r','e','s','e','r','v','e','A','s','p','e','c','t','R','a','t','i','o',' ','p','r','i','m','i','t','i','v','e','U','n','i','t','s']
theorem Uz:Str.ofString "refX refY repeatCount repeatDur requiredExtensions requiredFeatures"=⟨#[114,101,102,88,32,114,101,102,89,32,114,101,112,101,97,116,67,111,117,110,116,32,114,101,112,101,97,116,68,117,114,32,114,101,113,117,105,114,101,100,69,120,116,101,110,115,105,111,110,115,32,114,101,113,117,105,114,101,100,70,101,97,116,117,114,101,115]⟩:=A0 ['r','e','f','X',' ','r','e','f','Y',' ','r','e','p','e','a','t','C','o','u','n','t',' ','r','e','p','e','a','t','D','u','r',' ','r','e','q','u','i','r','e','d','E','x','t','e','n','s','i','o','n','s',' ','r','e','q','u','i','r','e','d','F','e','a','t','u','r','e','s']
theorem U0:Str.ofString "specularConstant specularExponent spreadMethod startOffset stdDeviation stitchTiles surfaceScale systemLanguage"=⟨#[115,112,101,99,117,108,97,114,67,111,110,115,116,97,110,116,32,115,112,101,99,117,108,97,114,69,120,112,111,110,101,110,116,32,115,112,114,101,97,100,77,101,116,104,111,100,32,115,116,97,114,116,79,102,102,115,101,116,32,115,116,100,68,101,118,105,97,116,105,111,110,32,115,116,105,116,99,104,84,105,108,101,115,32,115,117,114,102,97,99,101,83,99,97,108,101,32,115,121,115,116,101,109,76,97,110,103,117,97,103,101]⟩:=A0 ['s','p','e','c','u','l','a','r','C','o','n','s','t','a','n','t',' ','s','p','e','c','u','l','a','r','E','x','p','o','n','e','n','t',' ','s','p','r','e','a','d','M','e','t','h','o','d',' ','s','t','a','r','t','O','f','f','s','e','t',' ','s','t','d','D','e','v','i','a','t','i','o','n',' ','s','t','i','t','c','h','T','i','l','e','s',' ','s','u','r','f','a','c','e','S','c','a','l','e',' ','s','y','s','t','e','m','L','a','n','g','u','a','g','e']
theorem U1:Str.ofString "tableValues targetX targetY textLength"=⟨#[116,97,98,108,101,86,97,108,117,101,115,32,116,97,114,103,101,116,88,32,116,97,114,103,101,116,89,32,116,101,120,116,76,101,110,103,116,104]⟩:=A0 ['t','a','b','l','e','V','a','l','u','e','s',' ','t','a','r','g','e','t','X',' ','t','a','r','g','e','t','Y',' ','t','e','x','t','L','e','n','g','t','h']
theorem U2:Str.ofString "viewBox viewTarget"=⟨#[118,105,101,119,66,111,120,32,118,105,101,119,84,97,114,103,101,116]⟩:=A0 ['v','i','e','w','B','o','x',' ','v','i','e','w','T','a','r','g','e','t']
theorem U3:Str.ofString "xChannelSelector"=⟨#[120,67,104,97,110,110,101,108,83,101,108,101,99,116,111,114]⟩:=A0 ['x','C','h','a','n','n','e','l','S','e','l','e','c','t','o','r']
theorem U4:Str.ofString "yChannelSelector"=⟨#[121,67,104,97,110,110,101,108,83,101,108,101,99,116,111,114]⟩:=A0 ['y','C','h','a','n','n','e','l','S','e','l','e','c','t','o','r']
theorem U5:Str.ofString "zoomAndPan"=⟨#[122,111,111,109,65,110,100,80,97,110]⟩:=A0 ['z','o','o','m','A','n','d','P','a','n']
theorem w7:(Dy.map fun p=>(p.1,Txt.words p.2))=Oa:=by
 simp only [Dy,List.map_cons,List.map_nil,s,Um,Un,Uo,Uq,Ur,Us,Ut,Uu,Uv,Uw,Ux,Uy,Uz,U0,U1,U2,U3,U4,U5,KWd.words_scan]
 decide +kernel
theorem w8:∀ p∈Dy,p.2.length≤100000:=by
 simp only [Dy,s,Um,Un,Uo,Uq,Ur,Us,Ut,Uu,Uv,Uw,Ux,Uy,Uz,U0,U1,U2,U3,U4,U5]
 decide +kernel
theorem Ob:Str.ofString "xlink:actuate xlink:arcrole xlink:href xlink:role xlink:show xlink:title xlink:type"=⟨#[120,108,105,110,107,58,97,99,116,117,97,116,101,32,120,108,105,110,107,58,97,114,99,114,111,108,101,32,120,108,105,110,107,58,104,114,101,102,32,120,108,105,110,107,58,114,111,108,101,32,120,108,105,110,107,58,115,104,111,119,32,120,108,105,110,107,58,116,105,116,108,101,32,120,108,105,110,107,58,116,121,112,101]⟩:=A0 ['x','l','i','n','k',':','a','c','t','u','a','t','e',' ','x','l','i','n','k',':','a','r','c','r','o','l','e',' ','x','l','i','n','k',':','h','r','e','f',' ','x','l','i','n','k',':','r','o','l','e',' ','x','l','i','n','k',':','s','h','o','w',' ','x','l','i','n','k',':','t','i','t','l','e',' ','x','l','i','n','k',':','t','y','p','e']
theorem Oc:Str.ofString " xml:lang xml:space xmlns:xlink"=⟨#[32,120,109,108,58,108,97,110,103,32,120,109,108,58,115,112,97,99,101,32,120,109,108,110,115,58,120,108,105,110,107]⟩:=A0 [' ','x','m','l',':','l','a','n','g',' ','x','m','l',':','s','p','a','c','e',' ','x','m','l','n','s',':','x','l','i','n','k']
noncomputable def Od:List Str:=[⟨#[120,108,105,110,107,58,97,99,116,117,97,116,101]⟩,⟨#[120,108,105,110,107,58,97,114,99,114,111,108,101]⟩,⟨#[120,108,105,110,107,58,104,114,101,102]⟩,⟨#[120,108,105,110,107,58,114,111,108,101]⟩,⟨#[120,108,105,110,107,58,115,104,111,119]⟩,⟨#[120,108,105,110,107,58,116,105,116,108,101]⟩,⟨#[120,108,105,110,107,58,116,121,112,101]⟩,⟨#[120,109,108,58,108,97,110,103]⟩,⟨#[120,109,108,58,115,112,97,99,101]⟩,⟨#[120,109,108,110,115,58,120,108,105,110,107]⟩]
theorem w9:Txt.words (Str.ofString "xlink:actuate xlink:arcrole xlink:href xlink:role xlink:show xlink:title xlink:type"++Str.ofString " xml:lang xml:space xmlns:xlink")=Od:=by
 rw [Ob,Oc,KWd.words_scan]
 decide +kernel
theorem xa:(Str.ofString "xlink:actuate xlink:arcrole xlink:href xlink:role xlink:show xlink:title xlink:type").length+(Str.ofString " xml:lang xml:space xmlns:xlink").length≤100000:=by
 rw [Ob,Oc]
 decide +kernel
theorem xc:(Str.ofString "xlink:actuate xlink:arcrole xlink:href xlink:role xlink:show xlink:title xlink:type"++Str.ofString " xml:lang xml:space xmlns:xlink").length≤100000:=by
 rw [Ob,Oc]
 decide +kernel
theorem Oe:Str.ofString "b big blockquote body br center code dd div dl dt em embed h1 h2 h3 h4 h5 h6 head hr i img li"=⟨#[98,32,98,105,103,32,98,108,111,99,107,113,117,111,116,101,32,98,111,100,121,32,98,114,32,99,101,110,116,101,114,32,99,111,100,101,32,100,100,32,100,105,118,32,100,108,32,100,116,32,101,109,32,101,109,98,101,100,32,104,49,32,104,50,32,104,51,32,104,52,32,104,53,32,104,54,32,104,101,97,100,32,104,114,32,105,32,105,109,103,32,108,105]⟩:=A0 ['b',' ','b','i','g',' ','b','l','o','c','k','q','u','o','t','e',' ','b','o','d','y',' ','b','r',' ','c','e','n','t','e','r',' ','c','o','d','e',' ','d','d',' ','d','i','v',' ','d','l',' ','d','t',' ','e','m',' ','e','m','b','e','d',' ','h','1',' ','h','2',' ','h','3',' ','h','4',' ','h','5',' ','h','6',' ','h','e','a','d',' ','h','r',' ','i',' ','i','m','g',' ','l','i']
theorem Of:Str.ofString " listing menu meta nobr ol p pre ruby s small span strong strike sub sup table tt u ul var"=⟨#[32,108,105,115,116,105,110,103,32,109,101,110,117,32,109,101,116,97,32,110,111,98,114,32,111,108,32,112,32,112,114,101,32,114,117,98,121,32,115,32,115,109,97,108,108,32,115,112,97,110,32,115,116,114,111,110,103,32,115,116,114,105,107,101,32,115,117,98,32,115,117,112,32,116,97,98,108,101,32,116,116,32,117,32,117,108,32,118,97,114]⟩:=A0 [' ','l','i','s','t','i','n','g',' ','m','e','n','u',' ','m','e','t','a',' ','n','o','b','r',' ','o','l',' ','p',' ','p','r','e',' ','r','u','b','y',' ','s',' ','s','m','a','l','l',' ','s','p','a','n',' ','s','t','r','o','n','g',' ','s','t','r','i','k','e',' ','s','u','b',' ','s','u','p',' ','t','a','b','l','e',' ','t','t',' ','u',' ','u','l',' ','v','a','r']
noncomputable def Og:List Str:=[⟨#[98]⟩,⟨#[98,105,103]⟩,⟨#[98,108,111,99,107,113,117,111,116,101]⟩,⟨#[98,111,100,121]⟩,⟨#[98,114]⟩,⟨#[99,101,110,116,101,114]⟩,⟨#[99,111,100,101]⟩,⟨#[100,100]⟩,⟨#[100,105,118]⟩,⟨#[100,108]⟩,⟨#[100,116]⟩,⟨#[101,109]⟩,⟨#[101,109,98,101,100]⟩,⟨#[104,49]⟩,⟨#[104,50]⟩,⟨#[104,51]⟩,⟨#[104,52]⟩,⟨#[104,53]⟩,⟨#[104,54]⟩,⟨#[104,101,97,100]⟩,⟨#[104,114]⟩,⟨#[105]⟩,⟨#[105,109,103]⟩,⟨#[108,105]⟩,⟨#[108,105,115,116,105,110,103]⟩,⟨#[109,101,110,117]⟩,⟨#[109,101,116,97]⟩,⟨#[110,111,98,114]⟩,⟨#[111,108]⟩,⟨#[112]⟩,⟨#[112,114,101]⟩,⟨#[114,117,98,121]⟩,⟨#[115]⟩,⟨#[115,109,97,108,108]⟩,⟨#[115,112,97,110]⟩,⟨#[115,116,114,111,110,103]⟩,⟨#[115,116,114,105,107,101]⟩,⟨#[115,117,98]⟩,⟨#[115,117,112]⟩,⟨#[116,97,98,108,101]⟩,⟨#[116,116]⟩,⟨#[117]⟩,⟨#[117,108]⟩,⟨#[118,97,114]⟩]
theorem xe:Txt.words (Str.ofString "b big blockquote body br center code dd div dl dt em embed h1 h2 h3 h4 h5 h6 head hr i img li"++Str.ofString " listing menu meta nobr ol p pre ruby s small span strong strike sub sup table tt u ul var")=Og:=by
 rw [Oe,Of,KWd.words_scan]
 decide +kernel
theorem xf:(Str.ofString "b big blockquote body br center code dd div dl dt em embed h1 h2 h3 h4 h5 h6 head hr i img li").length+(Str.ofString " listing menu meta nobr ol p pre ruby s small span strong strike sub sup table tt u ul var").length≤100000:=by
 rw [Oe,Of]
 decide +kernel
theorem xg:(Str.ofString "b big blockquote body br center code dd div dl dt em embed h1 h2 h3 h4 h5 h6 head hr i img li"++Str.ofString " listing menu meta nobr ol p pre ruby s small span strong strike sub sup table tt u ul var").length≤100000:=by
 rw [Oe,Of]
 decide +kernel
section
variable {d:Nat} {B:Bs} {D:Ds} {Δ:List VR} {Q:V→H→Prop}
theorem Oh {x:Str}:∀ {l:List (Str×Str)},((l.map fun p=>(p.1,V.str p.2)).lookup x).getD (.str (s ""))=.str ((l.lookup x).getD (s ""))
 | []=>rfl
 | p :: l=>by
  rw [List.map_cons,List.lookup_cons,List.lookup_cons]
  cases x==p.1
  ·exact Oh
  ·rfl
theorem Oi {x:Str}:∀ {l:List (Str×Str)},(∀ p∈l,p.2.length≤100000)→((l.lookup x).getD (s "")).length≤100000
 | [],_=>by show (s "").length≤100000;decide +kernel
 | p :: l,h=>by
  rw [List.lookup_cons]
  cases x==p.1
  ·exact Oi fun q hq=>h q (.tail _ hq)
  ·exact h p (.head _)
noncomputable def Bd (x:Str):Bool:=x.cps.all (· < 128)
noncomputable def A5 (x:Str):Str:=⟨x.cps.map PyProof.Rows.lo1⟩
theorem Ie {x:Str} (h:Bd x=true):Txt.lower x=A5 x:=by
 refine PyProof.Rows.lower_ascii fun c hc=>?_
 unfold Bd at h
 rw [Array.all_eq_true'] at h
 simpa using h c (by simpa using hc)
theorem xh {x:Str} (h:Bd x=true):PyData.strOk (A5 x)=true:=by
 unfold Bd at h
 unfold PyData.strOk A5
 rw [Array.all_eq_true'] at h ⊢
 intro c hc
 (refine Aa (Array.mem_map.mp hc) ?_;intro b hb z_2;obtain rfl:=z_2)
 have:=h b hb
 unfold PyProof.Rows.lo1
 simp only [decide_eq_true_eq] at this ⊢
 by_cases q:65≤b∧b≤90
 ·rw [if_pos q];exact Nat.lt_of_le_of_lt (Nat.add_le_add_right q.2 32) (Nat.le_of_ble_eq_true rfl)
 ·rw [if_neg q];exact o_0 this rfl
noncomputable def Fb (ws:List Str) (name:Str):Str:=(ws.find? (fun w=>A5 w==name)).getD name
theorem U6 {a:Nat} {words:List Str} {name:Str} (ha:At Δ a (.imm (.list (words.map .str)))) (ok:∀ w∈words,w.length≤100000∧Bd w=true) (on:PyData.strOk name=true)
  (k:Q (.str (Fb words name)) (hp B D Δ)):Ca (d+1) (.con (.ref 42)) [.ref a,.str name] (hp B D Δ) Q:=by
 refine mx ?_
 dsimp! [im ha]
 haveI loop:∀ (us:List Str) (j:Nat) (x:Option V),words.drop j=us→Fb words name=Fb us name →
   Fo ⟨d,[some (.ref a),some (.str name),x],[]⟩ (.nm 2) (.li a j) [.ite (.cmp (.meth (.loc 2) 5 []) [.Eq] [.loc 1]) [.ret (some (.loc 2))] []] (hp B D Δ)
    (sk [.ret (some (.loc 1))] ⟨d,[some (.ref a),some (.str name),none],[]⟩ (rk Q)):=by
  intro us
  induction us with
  | nil =>
   intro j x hj he
   haveI:(words.map V.str)[j]?=none:=by
    haveI:=congrArg List.length hj
    simp at this ⊢
    with_reducible exact Dn ‹_›
   refine Eg (F7 (im ha) this) ?_
   simp! []
   dsimp! []
   rw [he] at k
   exact k
  | cons w us ih =>
   intro j x hj he
   have hw:words[j]?=some w:=by
    haveI:(words.drop j)[0]?=some w:=by rw [hj];rfl
    simpa using this
   haveI hm:(words.map V.str)[j]?=some (.str w):=by simp [hw]
   (refine Ac (ok w (List.mem_of_getElem? hw)) ?_;intro o1 o2)
   refine Dx (F6 (im ha) hm) ?_
   simp! []
   dsimp! [o1,Ie o2,xh o2,on]
   cases h:A5 w==name
   ·simp! []
    refine ih (j+1) _ ?_ ?_
    ·rw [← List.drop_drop,hj];rfl
    ·rw [he];simp [Fb,h]
   ·simp! []
    dsimp! []
    haveI e:Fb words name=w:=by rw [he];simp [Fb,h]
    rw [e] at k
    exact k
 exact loop words 0 none rfl rfl
theorem xj:Txt.words (s "")=[]:=by decide +kernel
theorem Oj {x:Str}:∀ {l:List (Str×Str)} {W:List (Str×List Str)},(l.map fun p=>(p.1,Txt.words p.2))=W→Txt.words ((l.lookup x).getD (s ""))=(W.lookup x).getD []
 | [],_,h=>by subst h;exact xj
 | p :: l,_,h=>by
  subst h
  rw [List.map_cons,List.lookup_cons,List.lookup_cons]
  cases x==p.1
  ·exact Oj rfl
  ·rfl
theorem Ol {α:Type} {P:α→Prop} {x:Str}:∀ {l:List (Str×List α)},(∀ p∈l,∀ w∈p.2,P w)→∀ w∈(l.lookup x).getD [],P w
 | [],_,w,hw=>by cases hw
 | p :: l,h,w,hw=>by
  rw [List.lookup_cons] at hw
  cases e:x==p.1
  ·rw [e] at hw;exact Ol (fun q hq=>h q (.tail _ hq)) w hw
  ·rw [e] at hw;exact h p (.head _) w hw
noncomputable def Om (x:Str):List Str:=(N9.lookup x).getD []
noncomputable def On (x:Str):List Str:=(Oa.lookup x).getD []
theorem xk {x:Str}:∀ w∈Om x,w.length≤100000∧Bd w=true:=Ol (l:=N9) (P:=fun w:Str=>w.length≤100000∧Bd w=true) (by decide +kernel)
theorem xl {x:Str}:∀ w∈On x,w.length≤100000∧Bd w=true:=Ol (l:=Oa) (P:=fun w:Str=>w.length≤100000∧Bd w=true) (by decide +kernel)
theorem xn {x:Str} (k:∀ o:O,Q (.ref (sz Δ+1)) (hp B D (ad Δ [o,.list ((Om x).map .str)]))):Ca (d+1) (.con (.ref 28)) [.str x] (hp B D Δ) Q:=by
 refine mr ?_
 dsimp! [List.zip_cons_cons,List.zip_nil_left,Tt,Tu,Lr,Ls]
 change ws _ _ (hp B D (ad Δ [.dict (Id.map fun p=>(p.1,.str p.2))])) _
 dsimp! [Oh,Oi w6,Oj w5]
 exact k _
theorem xp {x:Str} (k:∀ o:O,Q (.ref (sz Δ+1)) (hp B D (ad Δ [o,.list ((On x).map .str)]))):Ca (d+1) (.con (.ref 35)) [.str x] (hp B D Δ) Q:=by
 refine mv ?_
 refine seq ?_
 haveI e:∀ K:V→H→Prop,K (.ref (sz Δ)) (hp B D (ad Δ [.dict (Dy.map fun p=>(p.1,.str p.2))]))→∀ fr,(wP fr (.dcl Dy)).1 (hp B D Δ) K:=by
  intro K h fr
  haveI hc:17 < Dy.length∧Dy.length≤30∧(Dy.map (·.1)).Nodup:=by decide +kernel
  haveI h2:K (.ref (List.length (hp B D Δ))) (hp B D Δ++[.dict (Dy.map fun p=>(p.1,.str p.2))]):=by rw [Lo,Ny];exact h
  exact Eq.mpr (if_pos (e:=False) hc) h2
 refine e _ ?_ _
 simp! []
 dsimp! [Oh,Oi w8,Oj w7]
 exact k _
noncomputable def Ek (x:Str):Str:=Fb (Om (Txt.slice x none (some 1))) x
noncomputable def Dz (x:Str):Str:=Fb (On (Txt.slice x none (some 1))) x
theorem xq {x:Str} (ox:PyData.strOk x=true) (ol:x.length≤100000)
  (k:∀ J,Q (.str (Ek x)) (hp B D (ad Δ J))):Ca (d+2) (.con (.ref 49)) [.str x] (hp B D Δ) Q:=by
 refine mz ?_
 dsimp! [Ec,ol]
 refine xn fun o=>?_
 refine U6 (At.new_ad rfl) xk ox ?_
 exact k _
theorem xr {x:Str} (ox:PyData.strOk x=true) (ol:x.length≤100000)
  (k:∀ J,Q (.str (Dz x)) (hp B D (ad Δ J))):Ca (d+2) (.con (.ref 56)) [.str x] (hp B D Δ) Q:=by
 refine m6 ?_
 dsimp! [Ec,ol]
 refine xp fun o=>?_
 refine U6 (At.new_ad rfl) xl ox ?_
 exact k _
noncomputable def Dg (x:Str):Str:=if x==s "definitionurl" then s "definitionURL" else x
theorem xt {x:Str} (ox:PyData.strOk x=true) (k:Q (.str (Dg x)) (hp B D Δ)):Ca (d+1) (.con (.ref 63)) [.str x] (hp B D Δ) Q:=by
 refine m8 ?_
 dsimp! [ox]
 unfold Dg at k
 cases h:x==s "definitionurl"
 ·simp only [h] at k
  simp! []
  dsimp! []
  exact k
 ·simp only [h] at k
  simp! []
  dsimp! []
  exact k
end
section
variable {d:Nat} {B:Bs} {D:Ds} {Δ:List VR} {Q:V→H→Prop}
theorem Oo {σ:H} {n:Nat}:∀ {ws:List Str},(∀ w∈ws,PyData.strOk w=true)→pds σ n (ws.map .str)=some (ws.map .str)
 | [],_=>Df
 | w :: ws,h=>by
  rw [List.map_cons,Ei,E8 (h w (.head _)),Oo fun x hx=>h x (.tail _ hx)]
  rfl
noncomputable def C2 (x:Str):Str:=if Od.any (·==x) then Txt.replace x (s ":") (s " ") else x
theorem xu:(s " ").length≤14:=by decide +kernel
theorem U7 {x:Str} (ox:PyData.strOk x=true) (ol:x.length≤100000) (k:∀ J,Q (.str (C2 x)) (hp B D (ad Δ J))):Ca (d+1) (.con (.ref 70)) [.str x] (hp B D Δ) Q:=by
 refine na ?_
 dsimp! []
 dsimp! [xa]
 dsimp! [xc,w9,N2]
 unfold C2 at k
 cases h:Od.any (·==x)
 ·simp! []
  dsimp! []
  simp only [h] at k
  exact k _
 ·simp! []
  dsimp! [ol,xu]
  simp only [h] at k
  exact k _
theorem xw {x:Str} (ox:PyData.strOk x=true) (k:∀ J,Q (.bool (Og.any (·==x))) (hp B D (ad Δ J))):Ca (d+1) (.con (.ref 84)) [.str x] (hp B D Δ) Q:=by
 refine ni ?_
 dsimp! []
 dsimp! [xf]
 dsimp! [xg,xe,N2]
 exact k _
noncomputable def Fc:List Str:=[s "\t", s "\n", s "\u000c", s "\r", s " "]
theorem xz {x:Str} (ox:PyData.strOk x=true) (k:∀ J,Q (.bool (Fc.any (·==x))) (hp B D (ad Δ J))):Ca (d+1) (.con (.ref 91)) [.str x] (hp B D Δ) Q:=by
 refine nq ?_
 dsimp! [ox]
 simp only [Fc] at k
 simp! [] at k
 exact k _
end
section
variable {d:Nat} {B:Bs} {D:Ds} {Δ:List VR} {Q:V→H→Prop}
noncomputable def Cg (sp n:Str):Str:=if sp==s "svg" then C2 (Dz n) else if sp==s "math" then C2 (Dg n) else n
noncomputable def A2 (sp:Str) (as:List (Str×Str)):List (Str×Str):=as.map fun p=>(Cg sp p.1,p.2)
noncomputable def Op (sp:Str) (p:Str×Str):Prop:=p.1.length≤100000∧PyData.strOk (Dz p.1)=true∧(Dz p.1).length≤100000∧PyData.strOk (Dg p.1)=true∧(Dg p.1).length≤100000∧PyData.strOk (Cg sp p.1)=true
theorem Dh {α:Type} {l us:List α} {j:Nat} {x:α} (h:l.drop j=x :: us):l[j]?=some x∧l.drop (j+1)=us:=by
 refine ⟨?_,?_⟩
 ·haveI:(l.drop j)[0]?=some x:=by rw [h];rfl
  simpa using this
 ·rw [← List.drop_drop,h];rfl
theorem Di {α:Type} {l:List α} {j:Nat} (h:l.drop j=[]):l[j]?=none:=by
 haveI:=congrArg List.length h
 simp at this ⊢
 with_reducible exact Dn ‹_›
theorem Ig {Δ:List VR} {J K:List O} {x y:Str} (hx:PyData.strOk x=true) (hy:PyData.strOk y=true):Rep (ad Δ (J++.tuple [.str x,.str y] :: K)) (.tuple [.str x,.str y]) (.ref (sz Δ+J.length)) :=
 ⟨_,_,rfl,At.new_ad (by rw [List.getElem?_append_right (Nat.le_refl _),Nat.sub_self];rfl),_,_,rfl,⟨rfl,hx⟩,_,_,rfl,⟨rfl,hy⟩,rfl⟩
noncomputable def fb (fi:Fn) (i:Nat):List S:=match fi.body[i]? with
 | some (.for _ _ b)=>b
 | some (.whl _ b)=>b
 | some (.fen _ _ _ b)=>b
 | _=>[]
theorem x7 {sp:Str} {as:List (Str×Str)} {j:Nat} {p:Str×Str} (h:as[j]?=some p):Ak (A2 sp (as.take (j+1)))=Ak (A2 sp (as.take j))++[.tuple [.str (Cg sp p.1),.str p.2]]:=by
 rw [List.take_add_one,h]
 simp [Ak,A2]
theorem x8 {aa:Nat} {vs:List V} {as:List (Str×Str)} {sp:Str} (ha:At Δ aa (.imm (.tuple vs))) (hr:Ae Δ (Ak as) vs) (os:PyData.strOk sp=true) (ok:∀ p∈as,Op sp p) (hl:as.length≤1000) (K:KS)
  (k:∀ x y J us,us.length≤100000→(∀ o:O,Ae (ad Δ (o :: J)) (Ak (A2 sp as)) us)→K .next [some (.ref aa),some (.str sp),some (.ref (sz Δ)),x,y] (hp B D (ad Δ (.list us :: J)))) :
  ∀ (rest:List (Str×Str)) (j:Nat) (J:List O) (us:List V) (x y:Option V),as.drop j=rest→(∀ o:O,Ae (ad Δ (o :: J)) (Ak (A2 sp (as.take j))) us) →
   Fo ⟨d+3,[some (.ref aa),some (.str sp),some (.ref (sz Δ)),x,y],[]⟩ (.tp [3,4]) (.tu aa j) (fb Gs 1) (hp B D (ad Δ (.list us :: J))) K:=by
 intro rest
 induction rest with
 | nil =>
  intro j J us x y hj hu
  refine Eg (Ic (ima ha) (F9 hr (Di hj))) ?_
  haveI e:as.take j=as:=List.take_of_length_le (by have:=congrArg List.length hj;simp at this;with_reducible exact Dn ‹_›)
  rw [e] at hu
  refine k _ _ _ _ ?_ hu
  haveI:=(hu (.list [])).len
  simp [Ak,A2] at this
  exact o_4 ‹_› ‹_› (by exact rfl)
 | cons p rest ih =>
  intro j J us x y hj hu
  (refine Ac (Dh hj) ?_;intro hp' hd)
  (refine Ck (Fa hr hp') ?_;intro b hb hB o1 o2)
  have hul:us.length≤100000:=by
   haveI:=(hu (.list [])).len
   simp [Ak,A2] at this
   exact Mj ‹_› ‹_› (by exact rfl)
  (refine Xy (ok p (List.mem_of_getElem? hp')) ?_;intro q1 q2 q3 q4 q5 q6)
  refine Dx (F8 (ima ha) hb) ?_
  simp! [ima hB]
  have fin:∀ (J':List O) (v:V),(∀ o:O,Rep (ad Δ (o :: (J++J'))) (.tuple [.str (Cg sp p.1),.str p.2]) v) →
    Fo ⟨d+3,[some (.ref aa),some (.str sp),some (.ref (sz Δ)),some (.str p.1),some (.str p.2)],[]⟩ (.tp [3,4]) (.tu aa (j+1)) (fb Gs 1) (hp B D (ad Δ (.list (us++[v]) :: (J++J')))) K:=by
   intro J' v hv
   refine ih (j+1) _ _ _ _ hd fun o=>?_
   rw [x7 hp']
   refine Ae.snoc (hv o) ?_
   haveI:=(hu o).ad J'
   rw [Bc] at this
   exact this
  cases h1:sp==s "svg"
  ·cases h2:sp==s "math"
   ·dsimp! [os,h1]
    dsimp! [os,h2]
    dsimp! [hul]
    refine fin [_] _ fun o=>?_
    have e:Cg sp p.1=p.1:=by simp [Cg,h1,h2]
    rw [e]
    haveI:=Ig (Δ:=Δ) (J:=o :: J) (K:=[]) o1 o2
    simpa using this
   ·dsimp! [os,h1]
    dsimp! [os,h2]
    dsimp! []
    refine xt o1 ?_
    refine U7 q4 q5 fun J2=>?_
    simp! [hul]
    refine fin (J2++[_]) _ fun o=>?_
    haveI e:Cg sp p.1=C2 (Dg p.1):=by simp [Cg,h1,h2]
    rw [e] at q6 ⊢
    haveI:=Ig (Δ:=Δ) (J:=o :: (J++J2)) (K:=[]) q6 o2
    simpa using this
  ·dsimp! [os,h1]
   dsimp! []
   refine xr o1 q1 fun J1=>?_
   simp! []
   refine U7 q2 q3 fun J2=>?_
   simp! [hul]
   refine fin (J1++(J2++[_])) _ fun o=>?_
   have e:Cg sp p.1=C2 (Dz p.1):=by simp [Cg,h1]
   rw [e] at q6 ⊢
   have:=Ig (Δ:=Δ) (J:=o :: (J++(J1++J2))) (K:=[]) q6 o2
   simpa using this
theorem ya {aa:Nat} {vs:List V} {as:List (Str×Str)} {sp:Str} (ha:At Δ aa (.imm (.tuple vs))) (hr:Ae Δ (Ak as) vs) (os:PyData.strOk sp=true) (ok:∀ p∈as,Op sp p) (hl:as.length≤1000)
  (k:∀ J a us,At (ad Δ J) a (.imm (.tuple us))→Ae (ad Δ J) (Ak (A2 sp as)) us→Q (.ref a) (hp B D (ad Δ J))):Ca (d+4) (.con (.ref 77)) [.ref aa,.str sp] (hp B D Δ) Q:=by
 refine ng ?_
 dsimp! []
 dsimp! [ima ha]
 refine x8 ha hr os ok hl _ ?_ as 0 [] [] none none rfl fun o=>rfl
 intro x y J us hul hu
 simp! []
 dsimp! [hul]
 refine k (_ :: (J++[.tuple us])) _ us ?_ ?_
 ·exact At.new_ad (k:=J.length+1) (by simp)
 ·haveI:=(hu (.list us)).ad [.tuple us]
  rw [Bc] at this
  exact this
end
section
variable {d:Nat} {B:Bs} {D:Ds} {Δ:List VR} {Q:V→H→Prop}
theorem yb:(s "A").cps.toList=[65]:=by decide +kernel
theorem yc:(s "Z").cps.toList=[90]:=by decide +kernel
theorem Ly {c:Nat}:Gn (Str.ofString "A") ⟨#[c]⟩=decide (65≤c):=by
 unfold Gn
 rw [show (Str.ofString "A").cps.toList=[65] from yb]
 by_cases h:65≤c
 ·simp [h,List.cons_lt_cons_iff]
 ·simp [h,List.cons_lt_cons_iff]
  exact Nat.not_le.mp h
theorem Lz {c:Nat}:Gn ⟨#[c]⟩ (Str.ofString "Z")=decide (c≤90):=by
 unfold Gn
 rw [show (Str.ofString "Z").cps.toList=[90] from yc]
 by_cases h:c≤90
 ·simp [h,List.cons_lt_cons_iff]
 ·simp [h,List.cons_lt_cons_iff]
  exact Nat.not_le.mp h
theorem yd {σ:H} {c:Nat} (h:c≤90):Aw σ (.builtin "chr") [.int ((c:Int)+32)]=some (.str ⟨#[c+32]⟩,σ):=by
 rw [jw,if_pos ⟨Int.natCast_nonneg (c+32),Int.le_trans (Int.ofNat_le.mpr (Nat.add_le_add_right h 32)) (by decide)⟩]
 haveI e2:((c:Int)+32).toNat=c+32:=by exact rfl
 rw [e2]
theorem ye {σ:H} {c:Nat}:Aw σ (.builtin "ord") [.str ⟨#[c]⟩]=some (.int c,σ):=rfl
theorem yf {f g:Value} {σ:H} {x:Str} {c:Int} {v:V} {K:KS} {cl:List Nat} (hg:Aw σ g [.str x]=some (.int c,σ)) (hf:Aw σ f [.int (c+32)]=some (v,σ))
  (wf:∀ d as σ Q,wC d (.con f) as σ Q=opt (Aw σ f as) fun p=>Q p.1 p.2) (wg:∀ d as σ Q,wC d (.con g) as σ Q=opt (Aw σ g as) fun p=>Q p.1 p.2) (k:K (.ret v) [some (.str x)] σ) :
  wS (.ret (some (.call (.cst (.con f)) [(.bin .Add (.call (.cst (.con g)) [(.loc 0)]) (.cst (.int 32)))]))) ⟨d,[some (.str x)],cl⟩ σ K:=by
 simp! [wf,wg,hg,hf]
 exact k
theorem yg {c:Nat} (k:Q (.str ⟨#[PyProof.Rows.lo1 c]⟩) (hp B D Δ)):Ca (d+2) (.con (.ref 105)) [.str ⟨#[c]⟩] (hp B D Δ) Q:=by
 refine nx ?_
 dsimp! []
 refine nu ?_
 dsimp! [Ly,Lz,decide_eq_true_eq]
 by_cases h1:65≤c
 ·by_cases h2:c≤90
  ·simp! [Ly,Lz,decide_eq_true_eq,h1,h2,decide_true]
   haveI e:PyProof.Rows.lo1 c=c+32:=if_pos ⟨h1,h2⟩
   rw [e] at k
   refine seq ?_
   haveI hf:=yd (σ:=hp B D Δ) h2
   haveI hg:=ye (σ:=hp B D Δ) (c:=c)
   haveI wf:∀ d as σ Q,wC d (.con (.builtin "chr")) as σ Q=opt (Aw σ (.builtin "chr") as) fun p=>Q p.1 p.2:=fun _ _ _ _=>Ty
   haveI wg:∀ d as σ Q,wC d (.con (.builtin "ord")) as σ Q=opt (Aw σ (.builtin "ord") as) fun p=>Q p.1 p.2:=fun _ _ _ _=>Ty
   generalize Value.builtin "chr"=f at hf wf ⊢
   generalize Value.builtin "ord"=g at hg wg ⊢
   refine yf hg hf wf wg ?_
   simp! []
   exact k
  ·simp! [Ly,Lz,decide_eq_true_eq,h1,h2,decide_true,decide_false]
   dsimp! []
   haveI e:PyProof.Rows.lo1 c=c:=if_neg fun q=>h2 q.2
   rw [e] at k
   exact k
 ·simp! [Ly,Lz,decide_eq_true_eq,h1,decide_true,decide_false]
  dsimp! []
  haveI e:PyProof.Rows.lo1 c=c:=if_neg fun q=>h1 q.1
  rw [e] at k
  exact k
noncomputable def El (l:List Nat):List V:=l.map fun c=>.str ⟨#[PyProof.Rows.lo1 c]⟩
theorem yh {l:List Nat}:Fj (El l)=some (l.map fun c=>⟨#[PyProof.Rows.lo1 c]⟩):=by
 induction l with
 | nil=>rfl
 | cons c l ih =>
  show (Fj (El l)).map _=_
  rw [ih]
  rfl
theorem yi {x:Str}:Txt.join (Str.ofString "") (x.cps.toList.map fun c=>⟨#[PyProof.Rows.lo1 c]⟩)=A5 x:=by
 haveI e:(x.cps.toList.map fun c=>(⟨#[PyProof.Rows.lo1 c]⟩:Str))=PyProof.Rows.signs (A5 x):=by
  simp [PyProof.Rows.signs,A5]
 rw [e]
 show Builtin.Str.glued _ _=_
 rw [StrLaws.glued_eq_join,show Str.ofString ""=⟨#[]⟩ by decide +kernel,PyProof.Rows.join_nil_signs]
theorem yj {l:List Nat}:((l.map fun c=>(⟨#[PyProof.Rows.lo1 c]⟩:Str)).map (·.length)).sum=l.length:=by
 induction l with
 | nil=>rfl
 | cons c l ih=>exact (congrArg (1+·) ih).trans (Nat.add_comm 1 l.length)
theorem yk {x:Str} (hx:x.length≤1000) (K:KS) (k:∀ c,K .next [some (.str x),some (.ref (sz Δ)),c] (hp B D (ad Δ [.list (El x.cps.toList)]))) :
  ∀ (rest:List Nat) (j:Nat) (c:Option V),x.cps.toList.drop j=rest→Fo ⟨d+2,[some (.str x),some (.ref (sz Δ)),c],[]⟩ (.nm 2) (.st x j) (fb Ho 1) (hp B D (ad Δ [.list (El (x.cps.toList.take j))])) K:=by
 intro rest
 induction rest with
 | nil =>
  intro j c hj
  haveI e:=Di hj
  refine Eg (th (by simpa using e)) ?_
  haveI e2:x.cps.toList.take j=x.cps.toList:=List.take_of_length_le (by have:=congrArg List.length hj;simp at this ⊢;with_reducible exact Dn ‹_›)
  rw [e2]
  exact k c
 | cons b rest ih =>
  intro j c hj
  (refine Ac (Dh hj) ?_;intro hb hd)
  haveI hl:(El (x.cps.toList.take j)).length≤100000:=by
   unfold Str.length at hx
   simp [El]
   exact Nat.le_trans (Nat.min_le_right _ _) (o_0 hx rfl)
  refine Dx (tf (c:=b) (by simpa using hb)) ?_
  simp! []
  dsimp! []
  refine yg ?_
  simp! [hl]
  haveI e:El (x.cps.toList.take j)++[.str ⟨#[PyProof.Rows.lo1 b]⟩]=El (x.cps.toList.take (j+1)):=by
   rw [List.take_add_one,hb]
   simp [El]
  rw [e]
  exact ih (j+1) _ hd
theorem Oq {x:Str} (hx:x.length≤1000) (k:∀ J,Q (.str (A5 x)) (hp B D (ad Δ J))):Ca (d+3) (.con (.ref 112)) [.str x] (hp B D Δ) Q:=by
 refine nz ?_
 dsimp! []
 dsimp! []
 refine yk hx _ ?_ x.cps.toList 0 none rfl
 intro c
 simp! []
 haveI h1:(Str.ofString "").length≤16:=by decide +kernel
 haveI h2:((x.cps.toList.map fun c=>(⟨#[PyProof.Rows.lo1 c]⟩:Str)).map (·.length)).sum+(x.cps.toList.map fun c=>(⟨#[PyProof.Rows.lo1 c]⟩:Str)).length≤1048576:=by
  rw [yj]
  unfold Str.length at hx
  simp
  exact o_8 ‹_› ‹_› (by exact rfl)
 dsimp! [yh,h1,h2,yi]
 exact k _
noncomputable def Be (as:List (Str×Str)) (n:Str):Option Str:=(as.find? (fun p=>p.1==n)).map (·.2)
noncomputable def Ih:Option Str→V
 | some x=>.str x
 | none=>.none
theorem U8 {p:Str×Str} {as:List (Str×Str)} {n:Str}:Be (p :: as) n=if p.1==n then some p.2 else Be as n:=by
 unfold Be
 rw [List.find?_cons]
 cases p.1==n<;>rfl
theorem Os {a aa:Nat} {vs:List V} {as:List (Str×Str)} {x y z:V} {n:Str} (h:At Δ a (.imm (.tuple [x,y,.ref aa,z]))) (ha:At Δ aa (.imm (.tuple vs))) (hr:Ae Δ (Ak as) vs) (on:PyData.strOk n=true)
  (k:Q (Ih (Be as n)) (hp B D Δ)):Ca (d+1) (.con (.ref 187)) [.ref a,.str n] (hp B D Δ) Q:=by
 refine o8 ?_
 dsimp! [im h,im ha]
 haveI loop:∀ (rest:List (Str×Str)) (j:Nat) (q:Option V),as.drop j=rest→Be as n=Be rest n→Fo ⟨d,[some (.ref a),some (.str n),q],[]⟩ (.nm 2) (.tu aa j) (fb Hp 0) (hp B D Δ) (sk [.ret (some (.cst .none))] ⟨d,[some (.ref a),some (.str n),none],[]⟩ (rk Q)):=by
  intro rest
  induction rest with
  | nil =>
   intro j q hj he
   refine Eg (Ic (im ha) (F9 hr (Di hj))) ?_
   simp! []
   dsimp! []
   rw [he] at k
   exact k
  | cons p rest ih =>
   intro j q hj he
   (refine Ac (Dh hj) ?_;intro hp' hd)
   (refine Ck (Fa hr hp') ?_;intro b hb hB o1 o2)
   refine Dx (F8 (im ha) hb) ?_
   simp! []
   rw [U8] at he
   cases e:p.1==n
   ·dsimp! [im hB,o1,on,e]
    rw [e] at he
    exact ih (j+1) _ hd he
   ·dsimp! [im hB,o1,on,e]
    dsimp! [im hB]
    rw [e] at he
    rw [he] at k
    exact k
 exact loop as 0 none rfl rfl
theorem yl {n:Nat} {aa:Nat} {vs:List V} {as:List (Str×Str)} {w:Str} (h:∀ {D Δ},Ao (hp B D Δ) (.ref 14) (.int n)=some (.ref aa)) (ha:At Δ aa (.imm (.list vs))) (hr:Ae Δ (Ak as) vs) (on:PyData.strOk w=true)
  (k:Q (Ih (Be as w)) (hp B D Δ)):Ca (d+1) (.con (.ref 574)) [.ref 10,.int n,.str w] (hp B D Δ) Q:=by
 refine sy ?_
 dsimp! [h,im ha]
 haveI loop:∀ (rest:List (Str×Str)) (j:Nat) (q:Option V),as.drop j=rest→Be as w=Be rest w→Fo ⟨d,[some (.ref 10),some (.int n),some (.str w),q],[]⟩ (.nm 3) (.li aa j) (fb Ht 0) (hp B D Δ) (sk [.ret (some (.cst .none))] ⟨d,[some (.ref 10),some (.int n),some (.str w),none],[]⟩ (rk Q)):=by
  intro rest
  induction rest with
  | nil =>
   intro j q hj he
   refine Eg (F7 (im ha) (F9 hr (Di hj))) ?_
   simp! []
   dsimp! []
   rw [he] at k
   exact k
  | cons p rest ih =>
   intro j q hj he
   (refine Ac (Dh hj) ?_;intro hp' hd)
   (refine Ck (Fa hr hp') ?_;intro b hb hB o1 o2)
   refine Dx (F6 (im ha) hb) ?_
   simp! []
   rw [U8] at he
   cases e:p.1==w
   ·dsimp! [im hB,o1,on,e]
    rw [e] at he
    exact ih (j+1) _ hd he
   ·dsimp! [im hB,o1,on,e]
    dsimp! [im hB]
    rw [e] at he
    rw [he] at k
    exact k
 exact loop as 0 none rfl rfl
end
structure Nd where
 kind:Str
 space:Str
 name:Str
 attrs:List (Str×Str)
 text:Str
 par:Int
structure St where
 mode:Str
 l:List Int
 nodes:List Nd
 kids:Nat→List Nat
 stack:List Nat
 notes:List PyData
 fok:Bool
 ack:Bool
 ctx:Int
noncomputable def SOk (x:Str):Prop:=PyData.strOk x=true∧x.length≤1000
noncomputable def Fd (as:List (Str×Str)):Prop:=(∀ p∈as,SOk p.1∧SOk p.2∧Bd p.2=true)∧as.length≤10∧(as.filter fun p=>p.1==s "encoding").length≤1
structure NdOk (d:Nd):Prop where
 kind:SOk d.kind
 space:SOk d.space
 name:SOk d.name
 text:SOk d.text
 asc:Bd d.name=true
 spc:d.kind=s "element"→d.space=s "svg"∨d.space=s "math"∨d.space=s "html"
 attrs:Fd d.attrs
structure StOk (b:Nat) (t:St):Prop where
 nd:∀ (n:Nat) (d:Nd),t.nodes[n]?=some d→NdOk d
 par:∀ (n:Nat) (d:Nd),t.nodes[n]?=some d→d.par=-1∨∃ p:Nat,d.par=(p:Int)∧p < n
 len:t.nodes.length+b≤100
 two:2≤t.nodes.length
 slen:t.stack.length+b≤100
 nlen:t.notes.length+b≤100
 tlen:∀ (n:Nat) (d:Nd),t.nodes[n]?=some d→d.text.length+b≤1000
 ndep:A7 t.notes≤10
 klen:∀ n,(t.kids n).length≤t.nodes.length
 none:∀ n,t.nodes.length≤n→t.kids n=[]
 kin:∀ n m,m∈t.kids n→m < t.nodes.length
 kpar:∀ n m,m∈t.kids n→∃ y,t.nodes[m]?=some y∧y.par=(n:Int)
 knd:∀ n,(t.kids n).Nodup
 sin:∀ n∈t.stack,0 < n∧n < t.nodes.length
 root:∃ ss,t.stack=1 :: ss
 rnd:∃ x,t.nodes[1]?=some x∧x.space=s "html"∧x.par=0
 elem:∀ n∈t.stack,∃ x,t.nodes[n]?=some x∧x.kind=s "element"
 mode:PyData.strOk t.mode=true
 ctx:t.ctx=-1∨∃ (p:Nat) (x:Nd),t.ctx=(p:Int)∧0 < p∧t.nodes[p]?=some x∧x.kind=s "element"
noncomputable def Af (Δ Δ':List VR):Prop:=∃ J,Δ'=Δ++J∧∀ n,.ekid n ∉ J
noncomputable def Ag (Δ Δ':List VR):Prop:=∃ J,Δ'=Δ++J∧∀ n,.kid n ∉ J
theorem Af.ad {Δ:List VR} (J:List O):Af Δ (ad Δ J):=⟨_,rfl,fun n h=>by simp at h⟩
theorem Ag.ad {Δ:List VR} (J:List O):Ag Δ (ad Δ J):=⟨_,rfl,fun n h=>by simp at h⟩
theorem Af.trans {Δ Δ' Δ'':List VR} (h:Af Δ Δ') (h':Af Δ' Δ''):Af Δ Δ'':=by
 (refine Aa h ?_;try clear h;intro J z_1 a;obtain rfl:=z_1)
 (refine Aa h' ?_;try clear h';intro K z_1 b;obtain rfl:=z_1)
 exact ⟨J++K,by simp,fun n hn=>(List.mem_append.mp hn).elim (a n) (b n)⟩
theorem Ag.trans {Δ Δ' Δ'':List VR} (h:Ag Δ Δ') (h':Ag Δ' Δ''):Ag Δ Δ'':=by
 (refine Aa h ?_;try clear h;intro J z_1 a;obtain rfl:=z_1)
 (refine Aa h' ?_;try clear h';intro K z_1 b;obtain rfl:=z_1)
 exact ⟨J++K,by simp,fun n hn=>(List.mem_append.mp hn).elim (a n) (b n)⟩
section
variable {Δ Δ':List VR}
theorem At.xb {a:Nat} {r:VR} (h:At Δ a r) (e:Af Δ Δ'):At Δ' a r:=by (refine Aa e ?_;try clear e;intro J z_1 _;obtain rfl:=z_1);exact h.app J
theorem At.xd {a:Nat} {r:VR} (h:At Δ a r) (e:Ag Δ Δ'):At Δ' a r:=by (refine Aa e ?_;try clear e;intro J z_1 _;obtain rfl:=z_1);exact h.app J
theorem Rep.xb {d:PyData} {v:V} (h:Rep Δ d v) (e:Af Δ Δ'):Rep Δ' d v:=by (refine Aa e ?_;try clear e;intro J z_1 _;obtain rfl:=z_1);exact h.app J
theorem Rep.xd {d:PyData} {v:V} (h:Rep Δ d v) (e:Ag Δ Δ'):Rep Δ' d v:=by (refine Aa e ?_;try clear e;intro J z_1 _;obtain rfl:=z_1);exact h.app J
theorem Ae.xb {d:List PyData} {v:List V} (h:Ae Δ d v) (e:Af Δ Δ'):Ae Δ' d v:=by (refine Aa e ?_;try clear e;intro J z_1 _;obtain rfl:=z_1);exact h.app J
theorem Ae.xd {d:List PyData} {v:List V} (h:Ae Δ d v) (e:Ag Δ Δ'):Ae Δ' d v:=by (refine Aa e ?_;try clear e;intro J z_1 _;obtain rfl:=z_1);exact h.app J
theorem TokAt.xb {a:Nat} {t:Tok} (h:TokAt Δ a t) (e:Af Δ Δ'):TokAt Δ' a t:=by (refine Aa e ?_;try clear e;intro J z_1 _;obtain rfl:=z_1);exact h.app J
theorem U9 {J:List VR} {a:Nat} {r:VR} (h:At (Δ++J) a r):At Δ a r∨r∈J:=by
 unfold At gm at *
 rw [List.map_append,← List.append_assoc] at h
 refine oe (Nat.lt_or_ge a (C1++Δ.map FR.v).length) (fun q=>?_) (fun q=>?_)
 ·rw [List.getElem?_append_left q] at h
  exact .inl h
 ·rw [List.getElem?_append_right q] at h
  haveI:=List.mem_of_getElem? h
  (refine Aa (List.mem_map.mp this) ?_;intro x hx e)
  cases e
  exact .inr hx
theorem At.backD {a n:Nat} (e:Ag Δ Δ') (h:At Δ' a (.kid n)):At Δ a (.kid n):=by
 (refine Aa e ?_;try clear e;intro J z_1 hJ;obtain rfl:=z_1)
 exact (U9 h).resolve_right (hJ n)
theorem At.backB {a n:Nat} (e:Af Δ Δ') (h:At Δ' a (.ekid n)):At Δ a (.ekid n):=by
 (refine Aa e ?_;try clear e;intro J z_1 hJ;obtain rfl:=z_1)
 exact (U9 h).resolve_right (hJ n)
end
structure RelB (t:St) (B:Bs) (Δ:List VR):Prop where
 mode:B.mode=t.mode
 l:B.l=t.l
 kinds:B.kinds=t.nodes.map fun d=>.str d.kind
 spaces:B.spaces=t.nodes.map fun d=>.str d.space
 names:B.names=t.nodes.map fun d=>.str d.name
 texts:B.texts=t.nodes.map fun d=>.str d.text
 parents:B.parents=t.nodes.map fun d=>.int d.par
 la:B.attrs.length=t.nodes.length
 attrs:∀ (n:Nat) (d:Nd),t.nodes[n]?=some d→∃ a vs,B.attrs[n]?=some (.ref a)∧At Δ a (.imm (.list vs))∧Ae Δ (Ak d.attrs) vs
 lc:B.children.length=t.nodes.length
 children:∀ n,0 < n→n < t.nodes.length→∃ a,B.children[n]?=some (.ref a)∧At Δ a (.kid n)
 child0:B.children[0]?=some (.ref 20)
 kid:∀ n,B.kid n=(t.kids n).map fun m=>.int (m:Int)
 items:B.items=t.stack.map fun m=>.int (m:Int)
 errors:Ae Δ t.notes B.errors
 fok:B.fok=t.fok
 ack:B.ack=t.ack
 ctx:B.ctx=t.ctx
 uniq:∀ a b n,At Δ a (.kid n)→At Δ b (.kid n)→a=b
 fresh:∀ a n,At Δ a (.kid n)→n < t.nodes.length
theorem RelB.xd {t:St} {B:Bs} {Δ Δ':List VR} (R:RelB t B Δ) (e:Ag Δ Δ'):RelB t B Δ' :=
 {R with
  attrs:=fun n d h=>let ⟨a,vs,h1,h2,h3⟩:=R.attrs n d h;⟨a,vs,h1,h2.xd e,h3.xd e⟩
  children:=fun n h h'=>let ⟨a,h1,h2⟩:=R.children n h h';⟨a,h1,h2.xd e⟩
  errors:=R.errors.xd e
  uniq:=fun a b n h h'=>R.uniq a b n (h.backD e) (h'.backD e)
  fresh:=fun a n h=>R.fresh a n (h.backD e)}
section
variable {d b:Nat} {t:St} {B:Bs} {D:Ds} {Δ:List VR} {Q:V→H→Prop}
structure NV (B:Bs) (Δ:List VR) (n:Nat) (x:Nd):Prop where
 kd:∀ {D:Ds} {Δ':List VR},Ao (hp B D Δ') (.ref 11) (.int (n:Int))=some (.str x.kind)
 sp:∀ {D:Ds} {Δ':List VR},Ao (hp B D Δ') (.ref 12) (.int (n:Int))=some (.str x.space)
 nm:∀ {D:Ds} {Δ':List VR},Ao (hp B D Δ') (.ref 13) (.int (n:Int))=some (.str x.name)
 tx:∀ {D:Ds} {Δ':List VR},Ao (hp B D Δ') (.ref 15) (.int (n:Int))=some (.str x.text)
 pr:∀ {D:Ds} {Δ':List VR},Ao (hp B D Δ') (.ref 16) (.int (n:Int))=some (.int x.par)
 att:∃ a vs,(∀ {D:Ds} {Δ':List VR},Ao (hp B D Δ') (.ref 14) (.int (n:Int))=some (.ref a))∧At Δ a (.imm (.list vs))∧Ae Δ (Ak x.attrs) vs
 ok:NdOk x
theorem NV.app {n:Nat} {x:Nd} (N:NV B Δ n x) (J:List VR):NV B (Δ++J) n x :=
 ⟨N.kd,N.sp,N.nm,N.tx,N.pr,let ⟨a,vs,h1,h2,h3⟩:=N.att;⟨a,vs,h1,h2.app J,h3.app J⟩,N.ok⟩
theorem NV.ad {n:Nat} {x:Nd} (N:NV B Δ n x) (J:List O):NV B (Mine.Y.ad Δ J) n x:=N.app _
theorem B8 {σ:H} {a n:Nat} {vs:List V} {v:V} (h:σ[a]?=some (.list vs)) (hv:vs[n]?=some v):Ao σ (.ref a) (.int (n:Int))=some v:=by
 rw [Lu,h]
 exact hv
theorem RelB.nv (R:RelB t B Δ) (O:StOk b t) {n:Nat} {x:Nd} (h:t.nodes[n]?=some x):NV B Δ n x:=by
 refine ⟨?_,?_,?_,?_,?_,?_,O.nd n x h⟩
 ·intro D Δ';exact B8 Tg (by rw [R.kinds];simp [h])
 ·intro D Δ';exact B8 Th (by rw [R.spaces];simp [h])
 ·intro D Δ';exact B8 Ti (by rw [R.names];simp [h])
 ·intro D Δ';exact B8 Nu (by rw [R.texts];simp [h])
 ·intro D Δ';exact B8 Nv (by rw [R.parents];simp [h])
 ·(refine Ai (R.attrs n x h) ?_;intro a vs h1 h2 h3)
  exact ⟨a,vs,fun {D Δ'}=>B8 Tj h1,h2,h3⟩
noncomputable def B9 (sp nm:Str):Bool:=sp==s "math"&&[s "mi",s "mo",s "mn",s "ms",s "mtext"].any (·==nm)
noncomputable def Em (sp nm:Str) (as:List (Str×Str)):Bool :=
 if sp==s "svg" then [s "foreignObject",s "desc",s "title"].any (·==nm)
 else if !(sp==s "math")||!(nm==s "annotation-xml") then false
 else match Be as (s "encoding") with
  | none=>false
  | some e=>[s "text/html",s "application/xhtml+xml"].any (·==A5 e)
noncomputable def C3 (sp nm:Str) (as:List (Str×Str)):Bool:=sp==s "html"||(B9 sp nm||Em sp nm as)
theorem Ot {n:Nat} {x:Nd} (N:NV B Δ n x) (k:∀ J,Q (.bool (B9 x.space x.name)) (hp B D (ad Δ J))):Ca (d+1) (.con (.ref 126)) [.ref 10,.int n] (hp B D Δ) Q:=by
 refine n5 ?_
 unfold B9 at k
 cases h:x.space==s "math"
 ·rw [h] at k
  dsimp! [N.sp,N.nm,h]
  exact fin (k []) rfl (by rw [Bm])
 ·rw [h] at k
  dsimp! [N.sp,N.nm,h]
  exact fin (k _) (by simp) rfl
theorem ym {as:List (Str×Str)} (h:∀ p∈as,SOk p.1∧SOk p.2) {n e:Str} (he:Be as n=some e):SOk e:=by
 unfold Be at he
 (refine Aa (Option.map_eq_some_iff.mp he) ?_;intro p hp z_2;obtain rfl:=z_2)
 exact (h p (List.mem_of_find?_eq_some hp)).2
theorem Gb {x:Str} (h:PyData.strOk x=true):PyData.strOk (A5 x)=true:=by
 unfold PyData.strOk A5 at *
 rw [Array.all_eq_true'] at h ⊢
 intro c hc
 (refine Aa (Array.mem_map.mp hc) ?_;intro b hb z_2;obtain rfl:=z_2)
 have:=h b hb
 unfold PyProof.Rows.lo1
 simp only [decide_eq_true_eq] at this ⊢
 by_cases q:65≤b∧b≤90
 ·rw [if_pos q];exact Nat.lt_of_le_of_lt (Nat.add_le_add_right q.2 32) (Nat.le_of_ble_eq_true rfl)
 ·rw [if_neg q];exact this
theorem Ou {n:Nat} {x:Nd} (N:NV B Δ n x) (k:∀ J,Q (.bool (Em x.space x.name x.attrs)) (hp B D (ad Δ J))):Ca (d+4) (.con (.ref 133)) [.ref 10,.int n] (hp B D Δ) Q:=by
 refine n7 ?_
 unfold Em at k
 cases h:x.space==s "svg"
 ·rw [h] at k
  dsimp! [N.sp,N.nm,h]
  cases h1:x.space==s "math"
  ·rw [h1] at k
   dsimp! [N.sp,N.nm,h1]
   dsimp! []
   exact fin (k []) rfl (by rw [Bm])
  ·cases h2:x.name==s "annotation-xml"
   ·rw [h1,h2] at k
    dsimp! [N.sp,N.nm,h1,h2]
    dsimp! []
    exact fin (k []) rfl (by rw [Bm])
   ·rw [h1,h2] at k
    dsimp! [N.sp,N.nm,h1,h2]
    dsimp! []
    (refine Ai N.att ?_;intro a vs e1 e2 e3)
    refine yl e1 e2 e3 Ap ?_
    simp! []
    cases h3:Be x.attrs (s "encoding") with
    | none =>
     rw [h3] at k
     dsimp! [Ih]
     exact fin (k []) rfl (by rw [Bm])
    | some e =>
     rw [h3] at k
     haveI oe:=ym (fun p hp=>⟨(N.ok.attrs.1 p hp).1,(N.ok.attrs.1 p hp).2.1⟩) h3
     dsimp! [Ih]
     refine Oq oe.2 fun J=>?_
     simp! [Gb oe.1]
     exact fin (k _) (by simp) rfl
 ·rw [h] at k
  dsimp! [N.sp,N.nm,h]
  dsimp! [N.sp,N.nm,h]
  exact fin (k _) (by simp) rfl
theorem yn {n:Nat} {x:Nd} (N:NV B Δ n x) (k:∀ J,Q (.bool (C3 x.space x.name x.attrs)) (hp B D (ad Δ J))):Ca (d+5) (.con (.ref 208)) [.ref 10,.int n] (hp B D Δ) Q:=by
 refine pi ?_
 unfold C3 at k
 cases h:x.space==s "html"
 ·rw [h] at k
  dsimp! [N.sp,h]
  dsimp! []
  refine Ot N fun J=>?_
  cases h1:B9 x.space x.name
  ·rw [h1] at k
   simp! []
   refine Ou (N.ad J) fun J2=>?_
   simp! []
   refine fin (k _) (by simp) rfl
  ·rw [h1] at k
   simp! []
   exact k _
 ·rw [h] at k
  dsimp! [N.sp,h]
  dsimp! []
  exact fin (k []) rfl (by rw [Bm])
end
section
variable {d b:Nat} {t:St} {B:Bs} {D:Ds} {Δ:List VR} {Q:V→H→Prop}
theorem Va {n:Nat}:(((n+1:Nat):Int)==0)=false:=rfl
theorem Vb {n:Nat}:((n+1:Nat):Int)-1=(n:Int):=by rw [Int.natCast_succ];exact Int.add_sub_cancel _ _
theorem yo {n:Nat}:((-1:Int)==(n:Int))=false:=rfl
theorem Ii {n:Nat}:((n:Int)==(-1:Int))=false:=rfl
theorem yp {n m:Nat}:((n:Int)==(m:Int))=(n==m):=by
 rw [Bool.eq_iff_iff,beq_iff_eq,beq_iff_eq];exact Int.ofNat_inj
theorem RelB.ilen (R:RelB t B Δ):B.items.length=t.stack.length:=by rw [R.items];simp
theorem G8 (R:RelB t B Δ) (O:StOk b t) (k:Q (.int (t.stack.length:Int)) (hp B D Δ)):Ca (d+1) (.con (.ref 408)) [.ref 22] (hp B D Δ) Q:=by
 refine rz ?_
 dsimp! []
 rw [R.ilen]
 exact k
theorem Vc (R:RelB t B Δ) {ss:List Nat} {n:Nat} (h:t.stack=ss++[n]):B.items=(ss.map fun (m:Nat)=>V.int (m:Int))++[.int (n:Int)]:=by
 rw [R.items,h];simp
theorem Ff (R:RelB t B Δ) (O:StOk b t) {ss:List Nat} {n:Nat} (h:t.stack=ss++[n]) (k:Q (.int (n:Int)) (hp B D Δ)):Ca (d+1) (.con (.ref 401)) [.ref 22] (hp B D Δ) Q:=by
 refine rx ?_
 haveI hs:=Vc R h
 dsimp! [hs,List.length_append,List.length_map,Va]
 dsimp! [hs,List.length_append,List.length_map,Vb]
 haveI e:((ss.map fun (m:Nat)=>V.int (m:Int))++[.int (n:Int)])[ss.length]?=some (.int (n:Int)):=by
  rw [List.getElem?_append_right (by simp)];simp
 simp! [e]
 exact k
theorem Vd (R:RelB t B Δ) (O:StOk b t) {n:Nat} (k:∀ B',RelB {t with stack:=t.stack++[n]} B' Δ→Q .none (hp B' D Δ)):Ca (d+1) (.con (.ref 387)) [.ref 22,.int (n:Int)] (hp B D Δ) Q:=by
 refine rp ?_
 haveI h1:B.items.length≤100000:=by have:=O.slen;rw [R.ilen];exact o_1 ‹_› (by exact rfl)
 dsimp! [h1]
 refine k _ {R with items:=?_}
 show B.items++[V.int (n:Int)]=_
 rw [R.items];simp
theorem Ij (R:RelB t B Δ) (O:StOk b t) {ss:List Nat} {n:Nat} (h:t.stack=ss++[n]) (k:∀ B',RelB {t with stack:=ss} B' Δ→Q (.int (n:Int)) (hp B' D Δ)):Ca (d+1) (.con (.ref 394)) [.ref 22] (hp B D Δ) Q:=by
 refine rt ?_
 haveI hs:=Vc R h
 dsimp! [hs,List.length_append,List.length_map,Va]
 dsimp! [hs,List.length_append,List.length_map,List.getLast?_concat,List.dropLast_concat]
 exact k _ {R with items:=rfl}
theorem Ik (R:RelB t B Δ) (O:StOk b t) {w:Str} (ow:PyData.strOk w=true) (k:∀ B' J,RelB {t with notes:=t.notes++[.tuple [.str w,.str t.mode]]} B' (ad Δ J)→Q .none (hp B' D (ad Δ J))) :
  Ca (d+1) (.con (.ref 617)) [.ref 8,.str w] (hp B D Δ) Q:=by
 refine s2 ?_
 haveI h1:B.errors.length≤100000:=by have:=O.nlen;rw [R.errors.len];exact o_1 ‹_› (by exact rfl)
 dsimp! [h1]
 refine k _ _ {(R.xd (Ag.ad _)) with errors:=?_}
 refine Ae.snoc ?_ (R.errors.ad _)
 haveI:=Ig (Δ:=Δ) (J:=[]) (K:=[]) ow O.mode
 rw [R.mode]
 exact this
noncomputable def St.adj (t:St):Nat:=if t.stack.length=1∧t.ctx≠-1 then t.ctx.toNat else t.stack.getLast?.getD 0
theorem C4 (O:StOk b t):∃ ss n,t.stack=ss++[n]:=by
 haveI h:t.stack≠[]:=by (refine Ad O.root ?_;intro ss e);rw [e];simp
 exact ⟨t.stack.dropLast,t.stack.getLast h,(List.dropLast_concat_getLast h).symm⟩
theorem Gc (R:RelB t B Δ) (O:StOk b t) (k:Q (.int (t.adj:Int)) (hp B D Δ)):Ca (d+2) (.con (.ref 652)) [.ref 8] (hp B D Δ) Q:=by
 refine s6 ?_
 (refine A3 (C4 O) ?_;intro ss n hs)
 haveI e:((t.stack.length:Int)==1)=decide (t.stack.length=1):=by
  rw [Bool.eq_iff_iff,beq_iff_eq,decide_eq_true_eq];exact Int.ofNat_inj
 unfold St.adj at k
 dsimp! []
 refine G8 R O ?_
 simp! [e]
 by_cases h1:t.stack.length=1
 ·by_cases h2:t.ctx=-1
  ·rw [if_neg (fun q=>q.2 h2)] at k
   simp! [h1,decide_true,R.ctx,h2]
   dsimp! []
   refine Ff R O hs ?_
   simp! []
   rw [hs] at k
   simpa using k
  ·rw [if_pos ⟨h1,h2⟩] at k
   haveI e2:(t.ctx==-1)=false:=by rw [beq_eq_false_iff_ne];exact h2
   simp! [h1,decide_true,R.ctx,e2]
   dsimp! [R.ctx]
   focus (refine oe O.ctx ?_ ?_;rotate_left;(intro z_o;refine Cu z_o ?_;intro p _ q _);rotate_right;(intro q))
   ·exact absurd q h2
   ·rw [q] at k ⊢
    exact k
 ·rw [if_neg (fun q=>h1 q.1)] at k
  simp! [h1,decide_false]
  dsimp! []
  refine Ff R O hs ?_
  simp! []
  rw [hs] at k
  simpa using k
set_option tactic.hygienic true in
theorem Ve (O:StOk b t):∃ x,t.nodes[t.adj]?=some x∧x.kind=s "element":=by
 unfold St.adj
 split
 ·rename_i h
  focus (refine oe O.ctx ?_ ?_;rotate_left;(intro z_o;refine Ai z_o ?_;intro p x q _ hp);rotate_right;(intro q))
  ·exact absurd q h.2
  ·rw [q];exact ⟨x,hp⟩
 ·(refine A3 (C4 O) ?_;intro ss n hs)
  haveI:=O.elem n (by rw [hs];simp)
  rw [hs];simpa using this
set_option tactic.hygienic true in
theorem Vf (O:StOk b t):∃ x,t.nodes[t.adj]?=some x:=by
 haveI:t.adj < t.nodes.length:=by
  unfold St.adj
  split
  ·rename_i h
   focus (refine oe O.ctx ?_ ?_;rotate_left;(intro z_o;refine Dp z_o ?_;intro p x q _ hp _);rotate_right;(intro q))
   ·exact absurd q h.2
   ·rw [q];exact (List.getElem?_eq_some_iff.mp hp).1
  ·(refine A3 (C4 O) ?_;intro ss n hs)
   haveI:=(O.sin n (by rw [hs];simp)).2
   rw [hs];simpa using this
 exact ⟨_,List.getElem?_eq_getElem this⟩
theorem Gd (R:RelB t B Δ) (O:StOk b t) {x:Nd} (hx:t.nodes[t.adj]?=some x) (k:Q (.bool (!(x.space==s "html"))) (hp B D Δ)):Ca (d+3) (.con (.ref 659)) [.ref 8] (hp B D Δ) Q:=by
 refine s8 ?_
 dsimp! []
 refine Gc R O ?_
 haveI N:=R.nv O hx
 simp! []
 dsimp! [Ii,N.sp,N.ok.space.1]
 exact k
end
section
variable {d b:Nat} {t:St} {B:Bs} {D:Ds} {Δ:List VR} {Q:V→H→Prop}
theorem L0 {J:List VR} {a:Nat} {r:VR} (h:At (Δ++J) a r):(a < sz Δ∧At Δ a r)∨∃ k,a=sz Δ+k∧J[k]?=some r:=by
 unfold At at *
 have e:gm (Δ++J)=gm Δ++J.map .v:=by simp [gm]
 rw [e] at h
 refine oe (Nat.lt_or_ge a (gm Δ).length) (fun q=>?_) (fun q=>?_)
 ·rw [List.getElem?_append_left q] at h
  exact .inl ⟨by rw [← E7];exact q,h⟩
 ·rw [List.getElem?_append_right q,List.getElem?_map] at h
  refine .inr ⟨a-sz Δ,by rw [← E7];exact (Nat.add_sub_cancel' q).symm,?_⟩
  rw [← E7]
  cases hh:J[a-(gm Δ).length]? with
  | none=>rw [hh] at h;cases h
  | some x=>rw [hh] at h;cases h;rfl
theorem yq {n:Nat} {o:O} (h:B.kid n=[]):hp B D (ad Δ [o,.list []])=hp B D (Δ++[.imm o,.kid n]):=by
 simp [hp,ad,Eh,h]
theorem Af.kid {n:Nat} {o:O}:Af Δ (Δ++[.imm o,.kid n]):=⟨_,rfl,by simp⟩
theorem RelB.lens (R:RelB t B Δ) (O:StOk b t):B.kinds.length≤100000∧B.spaces.length≤100000∧B.names.length≤100000∧B.texts.length≤100000∧B.parents.length≤100000∧B.attrs.length≤100000∧B.children.length≤100000:=by
 haveI h:t.nodes.length≤100000:=o_1 O.len rfl
 rw [R.kinds,R.spaces,R.names,R.texts,R.parents]
 simp only [List.length_map]
 exact ⟨h,h,h,h,h,Mm R.la h,Mm R.lc h⟩
noncomputable def St.addNd (t:St) (x:Nd):St:={t with nodes:=t.nodes++[x]}
theorem D4 {α:Type} {l:List α} {x y:α} {n:Nat} (h:(l++[x])[n]?=some y):l[n]?=some y∨(n=l.length∧y=x):=by
 rcases Nat.lt_trichotomy n l.length with q | q | q
 ·rw [List.getElem?_append_left q] at h;exact .inl h
 ·subst q;simp at h;exact .inr ⟨rfl,h.symm⟩
 ·rw [List.getElem?_eq_none (by simp;assumption)] at h;cases h
theorem Vg (R:RelB t B Δ) (O:StOk b t) {kind space name text:Str} {aa:Nat} {vs:List V} {as:List (Str×Str)} (ha:At Δ aa (.imm (.tuple vs))) (hr:Ae Δ (Ak as) vs) (hl:as.length≤1000)
  (k:∀ B' Δ',Af Δ Δ'→RelB (t.addNd ⟨kind,space,name,as,text,-1⟩) B' Δ'→Q (.int (t.nodes.length:Int)) (hp B' D Δ')) :
  ws Ft.body ⟨d,[some (.ref 10),some (.str kind),some (.str space),some (.str name),some (.ref aa),some (.str text)],[]⟩ (hp B D Δ) (rk Q):=by
 (refine Gp (R.lens O) ?_;intro l1 l2 l3 l4 l5 l6 l7)
 dsimp! [l1]
 dsimp! [l2]
 dsimp! [l3]
 dsimp! [im ha,l6]
 dsimp! [l4]
 dsimp! [l5]
 dsimp! [l7]
 haveI hk:(B.kinds++[V.str kind]).length≤100000:=by
  have:=O.len
  rw [R.kinds];simp only [List.length_append,List.length_map,List.length_cons,List.length_nil];exact Xt ‹_› (by exact rfl)
 dsimp! [hk]
 haveI e1:((B.kinds++[V.str kind]).length:Int)-1=(t.nodes.length:Int):=by
  rw [R.kinds,List.length_append,List.length_map];exact Int.add_sub_cancel (t.nodes.length:Int) 1
 rw [e1]
 rw [yq (n:=t.nodes.length) (by show B.kid t.nodes.length=[];rw [R.kid,O.none _ (Nat.le_refl _)];rfl)]
 refine k _ _ Af.kid ?_
 haveI e2:Af Δ (Δ++[VR.imm (.list vs),VR.kid t.nodes.length]):=Af.kid
 have enl:(t.addNd ⟨kind,space,name,as,text,-1⟩).nodes.length=t.nodes.length+1:=by simp [St.addNd]
 haveI hnew:At (Δ++[VR.imm (.list vs),VR.kid t.nodes.length]) (sz Δ+1) (.kid t.nodes.length):=At.new rfl
 have hback:∀ {a n:Nat},At (Δ++[VR.imm (.list vs),VR.kid t.nodes.length]) a (.kid n)→At Δ a (.kid n)∨(a=sz Δ+1∧n=t.nodes.length):=by
  intro a n h
  focus (refine oe (L0 h) ?_ ?_;rotate_left;(intro z_o;refine Aa z_o ?_;intro k z_1 hk;obtain rfl:=z_1);rotate_right;(intro z_o;refine Ac z_o ?_;intro _ q))
  ·exact .inl q
  ·match k,hk with
   | 0,hk=>cases hk
   | 1,hk=>cases hk;exact .inr ⟨rfl,rfl⟩
   | k+2,hk=>cases hk
 constructor
 ·exact R.mode
 ·exact R.l
 ·show B.kinds++[V.str kind]=_;rw [R.kinds];simp [St.addNd]
 ·show B.spaces++[V.str space]=_;rw [R.spaces];simp [St.addNd]
 ·show B.names++[V.str name]=_;rw [R.names];simp [St.addNd]
 ·show B.texts++[V.str text]=_;rw [R.texts];simp [St.addNd]
 ·show B.parents++[V.int (-1)]=_;rw [R.parents];simp [St.addNd]
 ·rw [enl];show (B.attrs++[V.ref (sz Δ)]).length=_;rw [← R.la];simp
 ·intro n x hx
  focus (refine oe (D4 hx) ?_ ?_;rotate_left;(intro z_o;refine Ac z_o ?_;intro z_0 z_1;obtain rfl:=z_0;obtain rfl:=z_1);rotate_right;(intro q))
  ·(refine Ai (R.attrs n x q) ?_;intro a us h1 h2 h3)
   refine ⟨a,us,?_,h2.xb e2,h3.xb e2⟩
   show (B.attrs++[V.ref (sz Δ)])[n]?=_
   rw [List.getElem?_append_left (List.getElem?_eq_some_iff.mp h1).1]
   exact h1
  ·refine ⟨sz Δ,vs,?_,At.new (k:=0) rfl,hr.xb e2⟩
   show (B.attrs++[V.ref (sz Δ)])[t.nodes.length]?=_
   rw [← R.la];simp
 ·rw [enl];show (B.children++[V.ref (sz Δ+1)]).length=_;rw [← R.lc];simp
 ·intro n h0 hn
  rw [enl] at hn
  by_cases q:n < t.nodes.length
  ·(refine Aa (R.children n h0 q) ?_;intro a h1 h2)
   refine ⟨a,?_,h2.xb e2⟩
   show (B.children++[V.ref (sz Δ+1)])[n]?=_
   rw [List.getElem?_append_left (List.getElem?_eq_some_iff.mp h1).1]
   exact h1
  ·have:n=t.nodes.length:=Nat.le_antisymm (Nat.le_of_lt_succ ‹_›) (Nat.le_of_not_lt ‹_›)
   subst this
   refine ⟨sz Δ+1,?_,hnew⟩
   show (B.children++[V.ref (sz Δ+1)])[t.nodes.length]?=_
   rw [← R.lc];simp
 ·show (B.children++[V.ref (sz Δ+1)])[0]?=_
  haveI:=O.two
  rw [List.getElem?_append_left (by rw [R.lc];exact Eu ‹_› (by exact rfl))]
  exact R.child0
 ·exact R.kid
 ·exact R.items
 ·exact R.errors.xb e2
 ·exact R.fok
 ·exact R.ack
 ·exact R.ctx
 ·intro a b n h h'
  focus (refine oe (hback h) ?_ ?_;rotate_left;(intro z_o;refine Ac z_o ?_;intro q r);rotate_right;(intro q))<;>focus (refine oe (hback h') ?_ ?_;rotate_left;(intro z_o;refine Ac z_o ?_;intro q' r');rotate_right;(intro q'))
  ·exact R.uniq a b n q q'
  ·have:=R.fresh a n q;exact Hl ‹_› ‹_›
  ·have:=R.fresh b n q';exact Hl ‹_› ‹_›
  ·rw [q,q']
 ·intro a n h
  rw [enl]
  focus (refine oe (hback h) ?_ ?_;rotate_left;(intro z_o;refine Ac z_o ?_;intro q r);rotate_right;(intro q))
  ·haveI:=R.fresh a n q;exact Do ‹_›
  ·exact Nat.lt_succ_of_le (Nat.le_of_eq r)
theorem Vh (R:RelB t B Δ) (O:StOk b t) {kind space name text:Str} {aa:Nat} {vs:List V} {as:List (Str×Str)} (ha:At Δ aa (.imm (.tuple vs))) (hr:Ae Δ (Ak as) vs) (hl:as.length≤1000)
  (k:∀ B' Δ',Af Δ Δ'→RelB (t.addNd ⟨kind,space,name,as,text,-1⟩) B' Δ'→Q (.int (t.nodes.length:Int)) (hp B' D Δ')) :
  Ca (d+1) (.con (.ref 494)) [.ref 10,.str kind,.str space,.str name,.ref aa,.str text] (hp B D Δ) Q :=
 r8 (Vg R O ha hr hl k)
theorem yt (R:RelB t B Δ) (O:StOk b t) {kind space name:Str} {aa:Nat} {vs:List V} {as:List (Str×Str)} (ha:At Δ aa (.imm (.tuple vs))) (hr:Ae Δ (Ak as) vs) (hl:as.length≤1000)
  (k:∀ B' Δ',Af Δ Δ'→RelB (t.addNd ⟨kind,space,name,as,s "",-1⟩) B' Δ'→Q (.int (t.nodes.length:Int)) (hp B' D Δ')) :
  Ca (d+1) (.con (.ref 494)) [.ref 10,.str kind,.str space,.str name,.ref aa] (hp B D Δ) Q :=
 r7 (Vg R O ha hr hl k)
theorem Ov (R:RelB t B Δ) (O:StOk b t) {space name:Str} {aa:Nat} {vs:List V} {as:List (Str×Str)} (ha:At Δ aa (.imm (.tuple vs))) (hr:Ae Δ (Ak as) vs) (hl:as.length≤1000)
  (os:PyData.strOk space=true) (on:PyData.strOk name=true) (hn:(name==s "template")=false)
  (k:∀ B' Δ',Af Δ Δ'→RelB (t.addNd ⟨s "element",space,name,as,s "",-1⟩) B' Δ'→Q (.int (t.nodes.length:Int)) (hp B' D Δ')) :
  Ca (d+2) (.con (.ref 503)) [.ref 10,.str name,.str space,.ref aa] (hp B D Δ) Q:=by
 refine sb ?_
 dsimp! []
 refine yt R O ha hr hl fun B' Δ' x' R'=>?_
 simp! []
 cases h:space==s "html"
 ·dsimp! [os,h]
  dsimp! []
  exact k _ _ x' R'
 ·dsimp! [os,h,on,hn]
  dsimp! []
  exact k _ _ x' R'
theorem Af.ad_trans {Δ':List VR} {J:List O} (h:Af (Mine.Y.ad Δ J) Δ'):Af Δ Δ':=(Af.ad J).trans h
theorem yu (R:RelB t B Δ) (O:StOk b t) {x:Str} (k:∀ B' Δ',Af Δ Δ'→RelB (t.addNd ⟨s "text",s "",s "",[],x,-1⟩) B' Δ'→Q (.int (t.nodes.length:Int)) (hp B' D Δ')) :
  Ca (d+2) (.con (.ref 510)) [.ref 10,.str x] (hp B D Δ) Q:=by
 refine se ?_
 dsimp! []
 refine Vh (R.xd (Ag.ad _)) O (At.new_ad (k:=0) rfl) (as:=[]) rfl (by simp) fun B' Δ' x' R'=>?_
 simp! []
 exact k _ _ x'.ad_trans R'
theorem yw (R:RelB t B Δ) (O:StOk b t) {x:Str} (k:∀ B' Δ',Af Δ Δ'→RelB (t.addNd ⟨s "comment",s "",s "",[],x,-1⟩) B' Δ'→Q (.int (t.nodes.length:Int)) (hp B' D Δ')) :
  Ca (d+2) (.con (.ref 517)) [.ref 10,.str x] (hp B D Δ) Q:=by
 refine sh ?_
 dsimp! []
 refine Vh (R.xd (Ag.ad _)) O (At.new_ad (k:=0) rfl) (as:=[]) rfl (by simp) fun B' Δ' x' R'=>?_
 simp! []
 exact k _ _ x'.ad_trans R'
theorem L1 {σ:H} {n:Nat}:∀ {us:List Nat},pds σ n (us.map fun (u:Nat)=>V.int (u:Int))=some (us.map fun (u:Nat)=>PyData.int (u:Int))
 | []=>Df
 | u :: us=>by
  rw [List.map_cons,Ei,N1,L1]
  rfl
theorem yx {us:List Nat} {n:Nat} (h:∀ u∈us,u < n):((us.map fun (u:Nat)=>PyData.int (u:Int)).any fun y=>PyData.eqv y (.int (n:Int)))=false:=by
 rw [List.any_eq_false]
 intro y hy
 (refine Aa (List.mem_map.mp hy) ?_;intro u hu z_2;obtain rfl:=z_2)
 haveI:=h u hu
 rw [Tv]
 exact fun e=>Qi this (eq_of_beq e)
theorem yy (R:RelB t B Δ) (O:StOk b t) {p:Nat} {K:KS} (k:∀ us:List Nat,us.length≤1000→(∀ u∈us,u < p)→K .next [some (.ref 10),some (.int (p:Int)),some (.ref (sz Δ)),some (.int (-1))] (hp B D (ad Δ [.list (us.map fun (u:Nat)=>V.int (u:Int))]))) :
  ∀ (f:Nat) (us:List Nat) (up:Int),(up=-1∨∃ m:Nat,up=(m:Int)∧m < f∧m < t.nodes.length)→us.length+f≤1000→f≤p→(∀ u∈us,u < p) →
   Wl ⟨d,[some (.ref 10),some (.int (p:Int)),some (.ref (sz Δ)),some (.int up)],[]⟩ (.cmp (.loc 3) [.NotEq] [(.neg (.cst (.int 1)))]) (fb Hr 2) (hp B D (ad Δ [.list (us.map fun (u:Nat)=>V.int (u:Int))])) K:=by
 intro f
 induction f with
 | zero =>
  intro us up hu hl hp hall
  focus (refine oe hu ?_ ?_;rotate_left;(try clear hu;intro z_o;refine Au z_o ?_;intro m _ h _);rotate_right;(try clear hu;intro z_o;obtain rfl:=z_o))
  ·refine Dw ?_
   simp! []
   exact k us ‹_› hall
  ·exact Ml ‹_›
 | succ f ih =>
  intro us up hu hl hp hall
  focus (refine oe hu ?_ ?_;rotate_left;(try clear hu;intro z_o;refine Au z_o ?_;intro m z_1 h hm;obtain rfl:=z_1);rotate_right;(try clear hu;intro z_o;obtain rfl:=z_o))
  ·refine Dw ?_
   simp! []
   exact k us (by exact o_1 ‹_› (by exact rfl)) hall
  ·refine Dw ?_
   obtain ⟨x,hx⟩:∃ x,t.nodes[m]?=some x:=⟨_,List.getElem?_eq_getElem hm⟩
   haveI N:=R.nv O hx
   haveI h1:us.length≤100000:=by exact o_1 ‹_› (by exact rfl)
   simp! [Ii]
   dsimp! [List.length_map,h1]
   dsimp! [N.pr]
   haveI e:(us.map fun (u:Nat)=>V.int (u:Int))++[.int (m:Int)]=(us++[m]).map fun (u:Nat)=>V.int (u:Int):=by simp
   rw [e]
   refine ih (us++[m]) x.par ?_ (by simp;exact o_7 ‹_› (by exact rfl)) (by exact Hk ‹_›) ?_
   ·focus (refine oe (O.par m x hx) ?_ ?_;rotate_left;(intro z_o;refine Aa z_o ?_;intro q e hq);rotate_right;(intro q))
    ·exact .inl q
    ·exact .inr ⟨q,e,by exact Xu ‹_› ‹_›,by exact Qe ‹_› ‹_›⟩
   ·intro u hu
    refine oe (List.mem_append.mp hu) (fun q=>?_) (fun q=>?_)
    ·exact hall u q
    ·rw [List.mem_singleton.mp q];exact Xq (y:=f+1) ‹_› ‹_›
theorem yz (R:RelB t B Δ) (O:StOk b t) {p:Nat} {x:Nd} (hx:t.nodes[p]?=some x) (k:∀ us:List Nat,us.length≤1000→(∀ u∈us,u < p)→Q (.ref (sz Δ)) (hp B D (ad Δ [.list (us.map fun (u:Nat)=>V.int (u:Int))]))) :
  Ca (d+1) (.con (.ref 595)) [.ref 10,.int (p:Int)] (hp B D Δ) Q:=by
 refine qb ?_
 haveI N:=R.nv O hx
 have hpl:=(List.getElem?_eq_some_iff.mp hx).1
 haveI hl:=O.len
 dsimp! []
 dsimp! [N.pr]
 dsimp! []
 refine yy R O ?_ p [] x.par ?_ (by simp;exact Xr ‹_› ‹_› (by exact rfl)) (Nat.le_refl _) (by simp)
 ·intro us h1 h2
  simp! []
  dsimp! []
  exact k us h1 h2
 ·focus (refine oe (O.par p x hx) ?_ ?_;rotate_left;(intro z_o;refine Aa z_o ?_;intro q e hq);rotate_right;(intro q))
  ·exact .inl q
  ·exact .inr ⟨q,e,hq,by exact Qe ‹_› ‹_›⟩
end
section
variable {d b:Nat} {t:St} {B:Bs} {D:Ds} {Δ:List VR} {Q:V→H→Prop}
noncomputable def upd {α:Type} (f:Nat→α) (n:Nat) (x:α):Nat→α:=fun m=>if m=n then x else f m
theorem Dj {α:Type} {f:Nat→α} {n:Nat} {x:α}:upd f n x n=x:=if_pos rfl
theorem Dk {α:Type} {f:Nat→α} {n m:Nat} {x:α} (h:m≠n):upd f n x m=f m:=if_neg h
theorem hk {a n:Nat} (h:At Δ a (.kid n)):(hp B D Δ)[a]?=some (.list (B.kid n)):=Lq h
theorem hka {a n:Nat} {J:List O} (h:At Δ a (.kid n)):(hp B D (ad Δ J))[a]?=some (.list (B.kid n)):=Nz h
theorem y3 {a n:Nat} (h:At Δ a (.kid n)):4≤a:=by
 refine oe (Nat.lt_or_ge a 4) (fun q=>?_) (fun q=>?_)
 ·exfalso
  match a,q with
  | 0,_=>cases h
  | 1,_=>cases h
  | 2,_=>cases h
  | 3,_=>cases h
 ·exact q
theorem Ow {a n:Nat} (h:At Δ a (.ekid n)):4≤a:=by
 refine oe (Nat.lt_or_ge a 4) (fun q=>?_) (fun q=>?_)
 ·exfalso
  match a,q with
  | 0,_=>cases h
  | 1,_=>cases h
  | 2,_=>cases h
  | 3,_=>cases h
 ·exact q
theorem Vi {a:Nat} {o:O} {B':Bs} {D':Ds} (ha:a < sz Δ) (h1:∀ r,(gm Δ)[a]?=some r→cont B' D' r=o) (h2:∀ i r,i≠a→(gm Δ)[i]?=some r→cont B' D' r=cont B D r):(hp B D Δ).set a o=hp B' D' Δ:=by
 rw [G5,G5]
 apply List.ext_getElem?
 intro i
 rw [List.getElem?_set,List.getElem?_map,List.getElem?_map,List.length_map,E7]
 by_cases q:a=i
 ·subst q
  rw [if_pos rfl,if_pos ha,List.getElem?_eq_getElem (by rw [E7];exact ha)]
  simp only [Option.map_some]
  rw [h1 _ (List.getElem?_eq_getElem (by rw [E7];exact ha))]
 ·rw [if_neg q]
  cases hh:(gm Δ)[i]? with
  | none=>rfl
  | some r=>simp only [Option.map_some];rw [h2 i r (fun e=>q e.symm) hh]
theorem y4 {a n:Nat} {xs:List V} (h:At Δ a (.kid n)) (u:∀ b,At Δ b (.kid n)→b=a):(hp B D Δ).set a (.list xs)=hp {B with kid:=upd B.kid n xs} D Δ:=by
 refine Vi h.lt ?_ ?_
 ·intro r hr
  have h':(gm Δ)[a]?=some (.v (.kid n)):=h
  rw [h'] at hr
  obtain rfl:=Option.some.inj hr
  show O.list (upd B.kid n xs n)=_
  rw [Dj]
 ·intro i r hi hr
  induction r with
  | v r =>
   induction r with
   | kid m =>
    show O.list (upd B.kid n xs m)=O.list (B.kid m)
    by_cases q:m=n
    ·subst q
     exact absurd (u i hr) hi
    ·rw [Dk q]
   | _=>rfl
  | _=>rfl
theorem Ox {a n:Nat} {xs:List V} (h:At Δ a (.ekid n)) (u:∀ b,At Δ b (.ekid n)→b=a):(hp B D Δ).set a (.list xs)=hp B {D with ekid:=upd D.ekid n xs} Δ:=by
 refine Vi h.lt ?_ ?_
 ·intro r hr
  have h':(gm Δ)[a]?=some (.v (.ekid n)):=h
  rw [h'] at hr
  obtain rfl:=Option.some.inj hr
  show O.list (upd D.ekid n xs n)=_
  rw [Dj]
 ·intro i r hi hr
  induction r with
  | v r =>
   induction r with
   | ekid m =>
    show O.list (upd D.ekid n xs m)=O.list (D.ekid m)
    by_cases q:m=n
    ·subst q
     exact absurd (u i hr) hi
    ·rw [Dk q]
   | _=>rfl
  | _=>rfl
theorem Vj {σ:H} {a n:Nat} {vs:List V} {v:V} (h:σ[a]?=some (.list vs)) (hn:n < vs.length) (ha:4≤a):Cy σ (.ref a) (.int (n:Int)) v=some (σ.set a (.list (vs.set n v))):=by
 show onL σ[a]? _=_
 rw [h]
 show gd (Nat.ble fz a) ((C7 n vs.length).map _)=_
 rw [Lv ha,lb hn]
 rfl
noncomputable def St.hang (t:St) (p n:Nat) (x:Nd):St:={t with nodes:=t.nodes.set n {x with par:=(p:Int)},kids:=upd t.kids p (t.kids p++[n])}
theorem En {α β:Type} {f:α→β} {l:List α} {n:Nat} {x y:α} (h:l[n]?=some x) (e:f y=f x):(l.set n y).map f=l.map f:=by
 rw [List.map_set,e]
 apply List.ext_getElem?
 intro i
 rw [List.getElem?_set]
 by_cases q:n=i
 ·subst q
  haveI h1:=(List.getElem?_eq_some_iff.mp h).1
  rw [if_pos rfl,if_pos (by rw [List.length_map];exact h1),List.getElem?_map,h]
  rfl
 ·rw [if_neg q]
theorem y5 (R:RelB t B Δ) {p n:Nat} {x:Nd} (hx:t.nodes[n]?=some x):RelB (t.hang p n x) {B with kid:=upd B.kid p (B.kid p++[.int (n:Int)]),parents:=B.parents.set n (.int (p:Int))} Δ:=by
 haveI hn:=(List.getElem?_eq_some_iff.mp hx).1
 haveI el:(t.hang p n x).nodes.length=t.nodes.length:=by simp [St.hang]
 refine {mode:=R.mode,l:=R.l,kinds:=?_,spaces:=?_,names:=?_,texts:=?_,parents:=?_,la:=?_,attrs:=?_,lc:=?_,children:=?_,child0:=R.child0,kid:=?_,items:=R.items,errors:=R.errors,fok:=R.fok,ack:=R.ack,ctx:=R.ctx,uniq:=R.uniq,fresh:=?_}
 ·exact R.kinds.trans (En (f:=fun d:Nd=>V.str d.kind) (y:={x with par:=(p:Int)}) hx rfl).symm
 ·exact R.spaces.trans (En (f:=fun d:Nd=>V.str d.space) (y:={x with par:=(p:Int)}) hx rfl).symm
 ·exact R.names.trans (En (f:=fun d:Nd=>V.str d.name) (y:={x with par:=(p:Int)}) hx rfl).symm
 ·exact R.texts.trans (En (f:=fun d:Nd=>V.str d.text) (y:={x with par:=(p:Int)}) hx rfl).symm
 ·show B.parents.set n _=_
  rw [R.parents]
  show _=(t.nodes.set n {x with par:=(p:Int)}).map _
  rw [List.map_set]
 ·rw [el];exact R.la
 ·intro m y hy
  haveI hy':(t.nodes.set n {x with par:=(p:Int)})[m]?=some y:=hy
  rw [List.getElem?_set] at hy'
  by_cases q:n=m
  ·subst q
   rw [if_pos rfl,if_pos hn] at hy'
   cases hy'
   exact R.attrs n x hx
  ·rw [if_neg q] at hy'
   exact R.attrs m y hy'
 ·rw [el];exact R.lc
 ·intro m h0 hm
  rw [el] at hm
  exact R.children m h0 hm
 ·intro m
  show upd B.kid p _ m=(upd t.kids p _ m).map _
  by_cases q:m=p
  ·subst q
   rw [Dj,Dj,R.kid]
   simp
  ·rw [Dk q,Dk q]
   exact R.kid m
 ·intro a m h
  rw [el]
  exact R.fresh a m h
theorem Vk (R:RelB t B Δ) (O:StOk b t) {p n:Nat} {x y:Nd} (hy:t.nodes[p]?=some y) (h0:0 < p) (hx:t.nodes[n]?=some x) (hpar:x.par=-1) (hlt:p < n)
  (k:∀ B' J,RelB (t.hang p n x) B' (ad Δ J)→Q .none (hp B' D (ad Δ J))) :
  ws Fu.body ⟨d+2,[some (.ref 10),some (.int (p:Int)),some (.int (n:Int)),some (.int (-1)),none],[]⟩ (hp B D Δ) (rk Q):=by
 haveI hn:=(List.getElem?_eq_some_iff.mp hx).1
 haveI hpl:=(List.getElem?_eq_some_iff.mp hy).1
 haveI N:=R.nv O hx
 (refine Gp (R.lens O) ?_;intro l1 l2 l3 l4 l5 l6 l7)
 (refine Aa (R.children p h0 hpl) ?_;intro a ha hA)
 haveI hc:∀ {D:Ds} {Δ':List VR},Ao (hp B D Δ') (.ref 17) (.int (p:Int))=some (.ref a):=fun {D Δ'}=>B8 F5 ha
 haveI hkl:(B.kid p).length≤100000:=by
  haveI:=O.klen p
  haveI:=O.len
  rw [R.kid];simp;exact o_2 ‹_› ‹_› (by exact rfl)
 haveI e1:(n==p)=false:=beq_eq_false_iff_ne.mpr (Nat.ne_of_gt hlt)
 dsimp! [yp,e1]
 refine yz R O hy fun us hul hus=>?_
 simp! [L1,yx (fun u hu=>Nat.lt_trans (hus u hu) hlt)]
 dsimp! []
 dsimp! [yo]
 dsimp! []
 refine sr ?_
 dsimp! [N.pr,hpar]
 dsimp! [hc,hka hA,hkl]
 dsimp! []
 haveI hg:=y3 hA
 haveI hset:∀ xs:List V,(hp B D (ad Δ [.list (us.map fun (u:Nat)=>V.int (u:Int))])).set a (.list xs)=hp {B with kid:=upd B.kid p xs} D (ad Δ [.list (us.map fun (u:Nat)=>V.int (u:Int))]):=fun xs =>
  y4 (hA.ad _) fun b hb=>R.uniq b a p (At.backD (Ag.ad _) hb) hA
 dsimp! [hc,Ej (hka hA),hka hA,hkl,hg,hset]
 haveI hs16:Cy (hp {B with kid:=upd B.kid p (B.kid p++[.int (n:Int)])} D (ad Δ [.list (us.map fun (u:Nat)=>V.int (u:Int))])) (.ref 16) (.int (n:Int)) (.int (p:Int))=_:=Vj Nv (by rw [R.parents];simpa using hn) (by decide)
 dsimp! [hs16]
 exact k _ _ ((y5 R hx).xd (Ag.ad _))
theorem Oy (R:RelB t B Δ) (O:StOk b t) {p n:Nat} {x y:Nd} (hy:t.nodes[p]?=some y) (h0:0 < p) (hx:t.nodes[n]?=some x) (hpar:x.par=-1) (hlt:p < n)
  (k:∀ B' J,RelB (t.hang p n x) B' (ad Δ J)→Q .none (hp B' D (ad Δ J))):Ca (d+3) (.con (.ref 532)) [.ref 10,.int (p:Int),.int (n:Int),.int (-1)] (hp B D Δ) Q :=
 sm (Vk R O hy h0 hx hpar hlt k)
theorem y6 (R:RelB t B Δ) (O:StOk b t) {p n:Nat} {x y:Nd} (hy:t.nodes[p]?=some y) (h0:0 < p) (hx:t.nodes[n]?=some x) (hpar:x.par=-1) (hlt:p < n)
  (k:∀ B' J,RelB (t.hang p n x) B' (ad Δ J)→Q .none (hp B' D (ad Δ J))):Ca (d+4) (.con (.ref 539)) [.ref 10,.int (p:Int),.int (n:Int)] (hp B D Δ) Q:=by
 refine so ?_
 dsimp! []
 refine si (Vk R O hy h0 hx hpar hlt fun B' J R'=>?_)
 simp! []
 exact k B' J R'
end
section
variable {d b:Nat} {t:St} {B:Bs} {D:Ds} {Δ:List VR} {Q:V→H→Prop}
theorem StOk.less (O:StOk (b+1) t):StOk b t :=
 {O with len:=by have:=O.len;exact Ee ‹_› (by exact rfl),slen:=by have:=O.slen;exact Ee ‹_› (by exact rfl),nlen:=by have:=O.nlen;exact Ee ‹_› (by exact rfl),tlen:=fun n x h=>by have:=O.tlen n x h;exact Ee ‹_› (by exact rfl)}
theorem StOk.addNd (O:StOk (b+1) t) {x:Nd} (hx:NdOk x) (hp:x.par=-1) (ht:x.text.length+b≤1000):StOk b (t.addNd x):=by
 haveI hl:=O.len
 refine {O.less with nd:=?_,par:=?_,len:=?_,two:=?_,tlen:=?_,klen:=?_,none:=?_,kin:=?_,kpar:=?_,knd:=?_,sin:=?_,ctx:=?_,rnd:=?_,elem:=?_}
 ·intro n y hy;focus (refine oe (D4 hy) ?_ ?_;rotate_left;(intro z_o;refine Ac z_o ?_;intro _ z_1;obtain rfl:=z_1);rotate_right;(intro q))
  ·exact O.nd n y q
  ·exact hx
 ·intro n y hy;focus (refine oe (D4 hy) ?_ ?_;rotate_left;(intro z_o;refine Ac z_o ?_;intro _ z_1;obtain rfl:=z_1);rotate_right;(intro q))
  ·exact O.par n y q
  ·exact .inl hp
 ·simp [St.addNd];exact o_7 ‹_› (by exact rfl)
 ·haveI:=O.two;simp [St.addNd];exact Eu ‹_› (by exact rfl)
 ·intro n y hy;focus (refine oe (D4 hy) ?_ ?_;rotate_left;(intro z_o;refine Ac z_o ?_;intro _ z_1;obtain rfl:=z_1);rotate_right;(intro q))
  ·haveI:=O.tlen n y q;exact Ee ‹_› (by exact rfl)
  ·exact ht
 ·intro n;have:=O.klen n;simp [St.addNd];exact Do ‹_›
 ·intro n hn;refine O.none n ?_;simp [St.addNd] at hn;exact Hk ‹_›
 ·intro n m hm;have:=O.kin n m hm;simp [St.addNd];exact Do ‹_›
 ·intro n m hm
  (refine Aa (O.kpar n m hm) ?_;intro y h1 h2)
  exact ⟨y,by rw [← h1];exact List.getElem?_append_left (List.getElem?_eq_some_iff.mp h1).1,h2⟩
 ·exact O.knd
 ·intro n hn;have:=O.sin n hn;exact ⟨this.1,by show n < (t.nodes++[x]).length;rw [List.length_append];exact Qc this.2⟩
 ·(refine Aa O.rnd ?_;intro y h1 h2)
  exact ⟨y,by rw [← h1];exact List.getElem?_append_left (List.getElem?_eq_some_iff.mp h1).1,h2⟩
 ·intro n hn
  (refine Aa (O.elem n hn) ?_;intro y h1 h2)
  exact ⟨y,by rw [← h1];exact List.getElem?_append_left (List.getElem?_eq_some_iff.mp h1).1,h2⟩
 ·focus (refine oe O.ctx ?_ ?_;rotate_left;(intro z_o;refine Dp z_o ?_;intro p y q h1 h2 h3);rotate_right;(intro q))
  ·exact .inl q
  ·exact .inr ⟨p,y,q,h1,by rw [← h2];exact List.getElem?_append_left (List.getElem?_eq_some_iff.mp h2).1,h3⟩
noncomputable def St.under (t:St) (p:Nat) (x:Nd):St:=(t.addNd x).hang p t.nodes.length x
theorem Bn {p:Nat} {x:Nd}:(t.under p x).nodes=t.nodes++[{x with par:=(p:Int)}]:=by
 simp [St.under,St.hang,St.addNd]
set_option tactic.hygienic true in
theorem StOk.under (O:StOk (b+1) t) {p:Nat} {x:Nd} (hx:NdOk x) (hp:x.par=-1) (ht:x.text.length+b≤1000) (hpl:p < t.nodes.length):StOk b (t.under p x):=by
 haveI hl:=O.len
 have el:(t.under p x).nodes.length=t.nodes.length+1:=by rw [Bn];simp
 have ek:∀ n,(t.under p x).kids n=if n=p then t.kids p++[t.nodes.length] else t.kids n:=fun n=>rfl
 have hx':NdOk {x with par:=(p:Int)}:=⟨hx.1,hx.2,hx.3,hx.4,hx.5,hx.6,hx.7⟩
 refine {O.less with nd:=?_,par:=?_,len:=?_,two:=?_,tlen:=?_,klen:=?_,none:=?_,kin:=?_,kpar:=?_,knd:=?_,sin:=?_,ctx:=?_,rnd:=?_,elem:=?_}
 ·intro n y hy;rw [Bn] at hy;focus (refine oe (D4 hy) ?_ ?_;rotate_left;(intro z_o;refine Ac z_o ?_;intro _ z_1;obtain rfl:=z_1);rotate_right;(intro q))
  ·exact O.nd n y q
  ·exact hx'
 ·intro n y hy;rw [Bn] at hy;focus (refine oe (D4 hy) ?_ ?_;rotate_left;(intro z_o;refine Ac z_o ?_;intro q z_1;obtain rfl:=z_1);rotate_right;(intro q))
  ·exact O.par n y q
  ·exact .inr ⟨p,rfl,by exact Qh ‹_› ‹_›⟩
 ·rw [el];exact o_7 O.len rfl
 ·haveI:=O.two;exact Xs ‹_› ‹_›
 ·intro n y hy;rw [Bn] at hy;focus (refine oe (D4 hy) ?_ ?_;rotate_left;(intro z_o;refine Ac z_o ?_;intro _ z_1;obtain rfl:=z_1);rotate_right;(intro q))
  ·haveI:=O.tlen n y q;exact Ee ‹_› (by exact rfl)
  ·exact ht
 ·intro n;rw [ek,el];split
  ·haveI:=O.klen p;simp;assumption
  ·haveI:=O.klen n;exact Do ‹_›
 ·intro n hn;rw [el] at hn;rw [ek,if_neg (fun (e:n=p)=>Nat.lt_irrefl n (Nat.lt_of_lt_of_le (Nat.lt_succ_of_lt (e▸(by assumption:p < t.nodes.length))) hn))];exact O.none n (by exact Hk ‹_›)
 ·intro n m hm;rw [ek] at hm;rw [el];split at hm
  ·refine oe (List.mem_append.mp hm) (fun q=>?_) (fun q=>?_)
   ·haveI:=O.kin p m q;exact Do ‹_›
   ·exact Nat.lt_succ_of_le (Nat.le_of_eq (List.mem_singleton.mp q))
  ·haveI:=O.kin n m hm;exact Do ‹_›
 ·intro n m hm
  rw [ek] at hm
  split at hm
  ·rename_i q;subst q
   refine oe (List.mem_append.mp hm) (fun q=>?_) (fun q=>?_)
   ·(refine Aa (O.kpar n m q) ?_;intro y h1 h2)
    exact ⟨y,by rw [← h1,Bn];exact List.getElem?_append_left (List.getElem?_eq_some_iff.mp h1).1,h2⟩
   ·simp at q;subst q
    exact ⟨{x with par:=(n:Int)},by rw [Bn];simp,rfl⟩
  ·(refine Aa (O.kpar n m hm) ?_;intro y h1 h2)
   exact ⟨y,by rw [← h1,Bn];exact List.getElem?_append_left (List.getElem?_eq_some_iff.mp h1).1,h2⟩
 ·intro n
  rw [ek]
  split
  ·refine List.nodup_append.mpr ⟨O.knd p,by simp,?_⟩
   intro a ha c hc
   exact fun e=>Nat.ne_of_lt (O.kin p a ha) (e.trans (List.mem_singleton.mp hc))
  ·exact O.knd n
 ·intro n hn;have:=O.sin n hn;rw [el];exact ⟨this.1,Nat.lt_succ_of_lt this.2⟩
 ·(refine Aa O.rnd ?_;intro y h1 h2)
  exact ⟨y,by rw [← h1,Bn];exact List.getElem?_append_left (List.getElem?_eq_some_iff.mp h1).1,h2⟩
 ·intro n hn
  (refine Aa (O.elem n hn) ?_;intro y h1 h2)
  exact ⟨y,by rw [← h1,Bn];exact List.getElem?_append_left (List.getElem?_eq_some_iff.mp h1).1,h2⟩
 ·focus (refine oe O.ctx ?_ ?_;rotate_left;(intro z_o;refine Dp z_o ?_;intro p y q h1 h2 h3);rotate_right;(intro q))
  ·exact .inl q
  ·exact .inr ⟨p,y,q,h1,by rw [← h2,Bn];exact List.getElem?_append_left (List.getElem?_eq_some_iff.mp h2).1,h3⟩
theorem StOk.push (O:StOk (b+1) t) {n:Nat} {x:Nd} (h0:0 < n) (hx:t.nodes[n]?=some x) (hk:x.kind=s "element"):StOk b {t with stack:=t.stack++[n]}:=by
 have hn:=(List.getElem?_eq_some_iff.mp hx).1
 refine {O.less with slen:=?_,sin:=?_,root:=?_,elem:=?_}
 ·haveI:=O.slen;simp;exact o_7 ‹_› (by exact rfl)
 ·intro m hm;refine oe (List.mem_append.mp hm) (fun q=>?_) (fun q=>?_)
  ·exact O.sin m q
  ·simp at q;subst q;exact ⟨h0,hn⟩
 ·(refine Ad O.root ?_;intro ss e)
  exact ⟨ss++[n],by simp [e]⟩
 ·intro m hm;refine oe (List.mem_append.mp hm) (fun q=>?_) (fun q=>?_)
  ·exact O.elem m q
  ·simp at q;subst q;exact ⟨x,hx,hk⟩
theorem StOk.cut (O:StOk b t) {ss us:List Nat} (h:t.stack=ss++us) (hs:ss≠[]):StOk b {t with stack:=ss}:=by
 refine {O with slen:=?_,sin:=?_,root:=?_,elem:=?_}
 ·have:=O.slen;rw [h,List.length_append] at this;exact Nat.le_trans (Nat.add_le_add_right (Nat.le_add_right ss.length us.length) b) this
 ·intro m hm;exact O.sin m (by rw [h];exact List.mem_append_left _ hm)
 ·(refine Ad O.root ?_;intro rs e)
  induction ss with
  | nil=>exact absurd rfl hs
  | cons a ss=>rw [h] at e;cases e;exact ⟨ss,rfl⟩
 ·intro m hm;exact O.elem m (by rw [h];exact List.mem_append_left _ hm)
theorem y7 {l:List PyData} {x:PyData} {m:Nat} (h:A7 l≤m) (hx:dep x≤m):A7 (l++[x])≤m:=by
 induction l with
 | nil=>exact Aq hx B7
 | cons y l ih=>exact Aq (Uc h).1 (ih (Uc h).2)
theorem StOk.note (O:StOk (b+1) t) {x:PyData} (h:dep x≤10):StOk b {t with notes:=t.notes++[x]}:=by
 refine {O.less with nlen:=?_,ndep:=y7 O.ndep h}
 haveI:=O.nlen;simp;exact o_7 ‹_› (by exact rfl)
theorem Oz (R:RelB t B Δ) (O:StOk b t) {ss:List Nat} {n:Nat} (h:t.stack=ss++[n]) (k:Q (.ref (sz Δ)) (hp B D (ad Δ [.tuple [.int (n:Int),.int (-1)]]))) :
  Ca (d+2) (.con (.ref 148)) [.ref 8] (hp B D Δ) Q:=by
 refine n9 ?_
 dsimp! []
 dsimp! []
 dsimp! []
 dsimp! []
 refine Ff R O h ?_
 simp! []
 dsimp! [Ii]
 dsimp! []
 dsimp! []
 dsimp! []
 dsimp! []
 exact k
theorem y8 (R:RelB t B Δ) (O:StOk b t) {p:Nat} (h0:0 < p) (hp':p < t.nodes.length) (k:Q (.int (match (t.kids p).getLast? with | some m=>(m:Int) | none=>-1)) (hp B D Δ)) :
  Ca (d+1) (.con (.ref 567)) [.ref 10,.int (p:Int)] (hp B D Δ) Q:=by
 refine sv ?_
 (refine Gp (R.lens O) ?_;intro l1 l2 l3 l4 l5 l6 l7)
 (refine Aa (R.children p h0 hp') ?_;intro a ha hA)
 haveI hc:∀ {D:Ds} {Δ':List VR},Ao (hp B D Δ') (.ref 17) (.int (p:Int))=some (.ref a):=fun {D Δ'}=>B8 F5 ha
 haveI hl:=O.len
 haveI hkl:=O.klen p
 focus (refine oe (List.eq_nil_or_concat (t.kids p)) ?_ ?_;rotate_left;(intro z_o;refine A3 z_o ?_;intro ks m e);rotate_right;(intro e))
 ·haveI e2:B.kid p=[]:=by rw [R.kid,e];rfl
  rw [e] at k
  dsimp! [hc,hk hA,e2]
  dsimp! []
  exact k
 ·rw [List.concat_eq_append] at e
  haveI e2:B.kid p=(ks.map fun (m:Nat)=>V.int (m:Int))++[V.int (m:Int)]:=by rw [R.kid,e];simp
  rw [e] at k hkl
  haveI e3:((ks.map fun (m:Nat)=>V.int (m:Int))++[V.int (m:Int)]).isEmpty=false:=by simp
  dsimp! [hc,hk hA,e2,List.length_append,List.length_map,e3]
  dsimp! [hc,hk hA,e2,List.length_append,List.length_map]
  simpa using k
noncomputable def St.grow (t:St) (m:Nat) (x:Nd) (c:Str):St:={t with nodes:=t.nodes.set m {x with text:=x.text++c}}
theorem Il {α:Type} {l:List α} {n m:Nat} {x y:α} (h:(l.set n x)[m]?=some y):(m=n∧y=x∧n < l.length)∨(m≠n∧l[m]?=some y):=by
 rw [List.getElem?_set] at h
 by_cases q:n=m
 ·subst q
  rw [if_pos rfl] at h
  by_cases q2:n < l.length
  ·rw [if_pos q2] at h;obtain rfl:=Option.some.inj h;exact .inl ⟨rfl,rfl,q2⟩
  ·rw [if_neg q2] at h;cases h
 ·rw [if_neg q] at h
  exact .inr ⟨fun e=>q e.symm,h⟩
theorem za (R:RelB t B Δ) {m:Nat} {x:Nd} {c:Str} (hx:t.nodes[m]?=some x):RelB (t.grow m x c) {B with texts:=B.texts.set m (.str (x.text++c))} Δ:=by
 haveI hn:=(List.getElem?_eq_some_iff.mp hx).1
 haveI el:(t.grow m x c).nodes.length=t.nodes.length:=by simp [St.grow]
 refine {mode:=R.mode,l:=R.l,kinds:=?_,spaces:=?_,names:=?_,texts:=?_,parents:=?_,la:=?_,attrs:=?_,lc:=?_,children:=?_,child0:=R.child0,kid:=R.kid,items:=R.items,errors:=R.errors,fok:=R.fok,ack:=R.ack,ctx:=R.ctx,uniq:=R.uniq,fresh:=?_}
 ·exact R.kinds.trans (En (f:=fun d:Nd=>V.str d.kind) (y:={x with text:=x.text++c}) hx rfl).symm
 ·exact R.spaces.trans (En (f:=fun d:Nd=>V.str d.space) (y:={x with text:=x.text++c}) hx rfl).symm
 ·exact R.names.trans (En (f:=fun d:Nd=>V.str d.name) (y:={x with text:=x.text++c}) hx rfl).symm
 ·show B.texts.set m _=_
  rw [R.texts]
  show _=(t.nodes.set m {x with text:=x.text++c}).map _
  rw [List.map_set]
 ·exact R.parents.trans (En (f:=fun d:Nd=>V.int d.par) (y:={x with text:=x.text++c}) hx rfl).symm
 ·rw [el];exact R.la
 ·intro n y hy
  focus (refine oe (Il hy) ?_ ?_;rotate_left;(intro z_o;refine Ac z_o ?_;intro _ q);rotate_right;(intro z_o;refine As z_o ?_;intro z_0 z_1 _;obtain rfl:=z_0;obtain rfl:=z_1))
  ·exact R.attrs n x hx
  ·exact R.attrs n y q
 ·rw [el];exact R.lc
 ·intro n h0 hn;rw [el] at hn;exact R.children n h0 hn
 ·intro a n h;rw [el];exact R.fresh a n h
theorem zb {x y:Str} (hx:PyData.strOk x=true) (hy:PyData.strOk y=true):PyData.strOk (x++y)=true:=by
 haveI e:(x++y).cps=x.cps++y.cps:=rfl
 unfold PyData.strOk at *
 rw [e,Array.all_append,hx,hy];rfl
theorem Vl {x y:Str}:(x++y).length=x.length+y.length:=by
 show (x.cps++y.cps).size=_
 simp [Str.length]
theorem StOk.grow (O:StOk (b+1) t) {m:Nat} {x:Nd} {c:Str} (hx:t.nodes[m]?=Option.some x) (hc:PyData.strOk c=true) (h1:c.length≤1):StOk b (St.grow t m x c):=by
 haveI el:(t.grow m x c).nodes.length=t.nodes.length:=by simp [St.grow]
 haveI ht:=O.tlen m x hx
 refine {O.less with nd:=?_,par:=?_,len:=?_,two:=?_,tlen:=?_,klen:=?_,none:=?_,kin:=?_,kpar:=?_,knd:=?_,sin:=?_,ctx:=?_,rnd:=?_,elem:=?_}
 ·intro n y hy
  focus (refine oe (Il hy) ?_ ?_;rotate_left;(intro z_o;refine Ac z_o ?_;intro _ q);rotate_right;(intro z_o;refine As z_o ?_;intro z_0 z_1 _;obtain rfl:=z_0;obtain rfl:=z_1))
  ·haveI:=O.nd n x hx
   exact ⟨this.1,this.2,this.3,⟨zb this.4.1 hc,by show (x.text++c).length≤1000;rw [Vl];exact Nat.le_trans (Nat.add_le_add_left (Nat.le_trans h1 (Nat.le_add_left 1 b)) _) ht⟩,this.5,this.6,this.7⟩
  ·exact O.nd n y q
 ·intro n y hy
  focus (refine oe (Il hy) ?_ ?_;rotate_left;(intro z_o;refine Ac z_o ?_;intro _ q);rotate_right;(intro z_o;refine As z_o ?_;intro z_0 z_1 _;obtain rfl:=z_0;obtain rfl:=z_1))
  ·exact O.par n x hx
  ·exact O.par n y q
 ·rw [el];have:=O.len;exact Ee ‹_› (by exact rfl)
 ·rw [el];exact O.two
 ·intro n y hy
  focus (refine oe (Il hy) ?_ ?_;rotate_left;(intro z_o;refine Ac z_o ?_;intro _ q);rotate_right;(intro z_o;refine As z_o ?_;intro z_0 z_1 _;obtain rfl:=z_0;obtain rfl:=z_1))
  ·show (x.text++c).length+b≤1000;rw [Vl,Nat.add_assoc];exact Nat.le_trans (Nat.add_le_add_left (Nat.le_trans (Nat.add_le_add_right h1 b) (Nat.le_of_eq (Nat.add_comm 1 b))) _) ht
  ·haveI:=O.tlen n y q;exact Ee ‹_› (by exact rfl)
 ·intro n;rw [el];exact O.klen n
 ·intro n hn;rw [el] at hn;exact O.none n hn
 ·intro n k hm;rw [el];exact O.kin n k hm
 ·intro n k hm
  (refine Aa (O.kpar n k hm) ?_;intro y h1 h2)
  rcases Nat.decEq m k with q | q
  ·exact ⟨y,by rw [← h1];exact List.getElem?_set_ne q,h2⟩
  ·subst q
   rw [hx] at h1;obtain rfl:=Option.some.inj h1
   refine ⟨{x with text:=x.text++c},?_,h2⟩
   show (t.nodes.set m _)[m]?=_
   rw [List.getElem?_set,if_pos rfl,if_pos (List.getElem?_eq_some_iff.mp hx).1]
 ·exact O.knd
 ·intro n hn;rw [el];exact O.sin n hn
 ·(refine Aa O.rnd ?_;intro y h1 h2)
  rcases Nat.decEq m 1 with q | q
  ·exact ⟨y,by rw [← h1];exact List.getElem?_set_ne q,h2⟩
  ·subst q
   rw [hx] at h1;obtain rfl:=Option.some.inj h1
   refine ⟨{x with text:=x.text++c},?_,h2⟩
   show (t.nodes.set 1 _)[1]?=_
   rw [List.getElem?_set,if_pos rfl,if_pos (List.getElem?_eq_some_iff.mp hx).1]
 ·intro n hn
  (refine Aa (O.elem n hn) ?_;intro y h1 h2)
  rcases Nat.decEq m n with q | q
  ·exact ⟨y,by rw [← h1];exact List.getElem?_set_ne q,h2⟩
  ·subst q
   rw [hx] at h1;obtain rfl:=Option.some.inj h1
   refine ⟨{x with text:=x.text++c},?_,h2⟩
   show (t.nodes.set m _)[m]?=_
   rw [List.getElem?_set,if_pos rfl,if_pos (List.getElem?_eq_some_iff.mp hx).1]
 ·focus (refine oe O.ctx ?_ ?_;rotate_left;(intro z_o;refine Dp z_o ?_;intro p y q h1 h2 h3);rotate_right;(intro q))
  ·exact .inl q
  ·rcases Nat.decEq m p with e | e
   ·exact .inr ⟨p,y,q,h1,by rw [← h2];exact List.getElem?_set_ne e,h3⟩
   ·subst e
    rw [hx] at h2;obtain rfl:=Option.some.inj h2
    refine .inr ⟨m,{x with text:=x.text++c},q,h1,?_,h3⟩
    show (t.nodes.set m _)[m]?=_
    rw [List.getElem?_set,if_pos rfl,if_pos (List.getElem?_eq_some_iff.mp hx).1]
end
section
variable {d b:Nat} {t:St} {B:Bs} {D:Ds} {Δ:List VR} {Q:V→H→Prop}
theorem O4:Bd (s "")=true:=by decide +kernel
theorem L2:Fd []:=⟨by simp,by simp,by simp⟩
theorem Vm {k:String} {P:Prop} (h:(s k==s "element")=false):s k=s "element"→P:=fun e=>by rw [e] at h;simp at h
theorem zc:SOk (s "text"):=⟨Ap,by decide +kernel⟩
theorem zd:SOk (s "comment"):=⟨Ap,by decide +kernel⟩
theorem Vn:SOk (s "element"):=⟨Ap,by decide +kernel⟩
theorem Eo:SOk (s ""):=⟨Ap,by decide +kernel⟩
theorem G9 {x:Nd}:(t.addNd x).nodes[t.nodes.length]?=some x:=by simp [St.addNd]
theorem Ge {x y:Nd} {n:Nat} (h:t.nodes[n]?=some y):(t.addNd x).nodes[n]?=some y:=by
 haveI:=(List.getElem?_eq_some_iff.mp h).1
 show (t.nodes++[x])[n]?=_
 rw [List.getElem?_append_left this];exact h
noncomputable def St.sign (t:St) (c:Str):St :=
 let n:=t.stack.getLast?.getD 0
 match (t.kids n).getLast? with
 | some m=>(match t.nodes[m]? with
  | some x=>if x.kind==s "text" then t.grow m x c else t.under n ⟨s "text",s "",s "",[],c,-1⟩
  | none=>t)
 | none=>t.under n ⟨s "text",s "",s "",[],c,-1⟩
theorem Vo {c:Str} (hc:PyData.strOk c=true) (h1:c.length≤1):NdOk ⟨s "text",s "",s "",[],c,-1⟩ :=
 ⟨zc,Eo,Eo,⟨hc,by show c.length≤1000;exact o_0 ‹_› (by exact rfl)⟩,O4,Vm (by decide +kernel),L2⟩
theorem Vp (R:RelB t B Δ) (O:StOk (b+1) t) {n:Nat} {y:Nd} {c:Str} (hy:t.nodes[n]?=some y) (h0:0 < n) (hc:PyData.strOk c=true) (h1:c.length≤1) (hb:b≤999)
  (k:∀ B' Δ',Af Δ Δ'→RelB (t.under n ⟨s "text",s "",s "",[],c,-1⟩) B' Δ'→Q .none (hp B' D Δ')) :
  Ca (d+3) (.con (.ref 510)) [.ref 10,.str c] (hp B D Δ) fun v σ=>Ca (d+3) (.con (.ref 532)) [.ref 10,.int (n:Int),v,.int (-1)] σ Q:=by
 refine yu R O.less fun B' Δ' x' R'=>?_
 refine Oy R' (O.addNd (Vo hc h1) rfl (by show c.length+b≤1000;exact o_8 ‹_› ‹_› (by exact rfl))) (Ge hy) h0 G9 rfl (List.getElem?_eq_some_iff.mp hy).1 fun B2 J R2=>?_
 exact k B2 _ (x'.trans (Af.ad J)) R2
theorem Vq (R:RelB t B Δ) (O:StOk (b+1) t) {ss:List Nat} {n:Nat} {y:Nd} {c:Str} (h:t.stack=ss++[n]) (hy:t.nodes[n]?=some y) (hkd:(y.kind==s "document")=false) (hc:PyData.strOk c=true) (h1:c.length≤1) (hb:b≤999)
  (k:∀ B' Δ',Af Δ Δ'→RelB (t.sign c) B' Δ'→Q .none (hp B' D Δ')):Ca (d+4) (.con (.ref 155)) [.ref 8,.str c] (hp B D Δ) Q:=by
 refine oh ?_
 have hn:=O.sin n (by rw [h];simp)
 have N:=R.nv O hy
 have en:t.stack.getLast?.getD 0=n:=by rw [h];simp
 dsimp! []
 dsimp! []
 refine Oz R O h ?_
 simp! [List.zip_cons_cons,List.zip_nil_left,List.foldl_cons,List.foldl_nil]
 dsimp! [N.kd,N.ok.kind.1,hkd]
 dsimp! []
 refine y8 (R.xd (Ag.ad _)) O hn.1 hn.2 ?_
 simp! []
 dsimp! []
 cases hg:(t.kids n).getLast? with
 | none =>
  simp only [St.sign,en,hg] at k
  dsimp! []
  dsimp! []
  refine Vp (R.xd (Ag.ad _)) O hy hn.1 hc h1 hb fun B' Δ' x' R'=>?_
  simp! []
  exact k _ _ x'.ad_trans R'
 | some m =>
  haveI hm:m < t.nodes.length:=O.kin n m (List.mem_of_getLast? hg)
  obtain ⟨x,hx⟩:∃ x,t.nodes[m]?=some x:=⟨_,List.getElem?_eq_getElem hm⟩
  have M:=R.nv O hx
  simp only [St.sign,en,hg,hx] at k
  cases hkx:x.kind==s "text"
  ·simp only [hkx] at k
   dsimp! [Ii,M.kd,M.ok.kind.1,hkx]
   dsimp! []
   refine Vp (R.xd (Ag.ad _)) O hy hn.1 hc h1 hb fun B' Δ' x' R'=>?_
   simp! []
   exact k _ _ x'.ad_trans R'
  ·simp only [hkx] at k
   dsimp! [Ii,M.kd,M.ok.kind.1,hkx]
   haveI hl:x.text.length+c.length≤100000:=by have:=M.ok.text.2;exact o_8 ‹_› ‹_› (by exact rfl)
   haveI hs:Cy (hp B D (ad Δ [.tuple [.int (n:Int),.int (-1)]])) (.ref 15) (.int (m:Int)) (.str (x.text++c))=_:=Vj Nu (by rw [R.texts];simpa using hm) (by decide)
   dsimp! [M.tx,hl,hs]
   exact k _ _ (Af.ad _) ((za R hx).xd (Ag.ad _))
noncomputable def Ha (c:Str):Nd:=⟨s "comment",s "",s "",[],c,-1⟩
theorem Vr {c:Str} (hc:SOk c):NdOk (Ha c) :=
 ⟨zd,Eo,Eo,hc,O4,Vm (by decide +kernel),L2⟩
theorem ze (R:RelB t B Δ) (O:StOk (b+1) t) {ss:List Nat} {n:Nat} {y:Nd} {c:Str} (h:t.stack=ss++[n]) (hy:t.nodes[n]?=some y) (hc:SOk c) (hb:c.length+b≤1000)
  (k:∀ B' Δ',Af Δ Δ'→RelB (t.under n (Ha c)) B' Δ'→Q .none (hp B' D Δ')):Ca (d+4) (.con (.ref 163)) [.ref 8,.str c] (hp B D Δ) Q:=by
 refine oj ?_
 haveI hn:=O.sin n (by rw [h];simp)
 dsimp! []
 dsimp! []
 dsimp! []
 refine Oz R O h ?_
 simp! [List.zip_cons_cons,List.zip_nil_left,List.foldl_cons,List.foldl_nil]
 dsimp! []
 refine yw (R.xd (Ag.ad _)) O.less fun B' Δ' x' R'=>?_
 simp! []
 refine Oy R' (O.addNd (Vr hc) rfl hb) (Ge hy) hn.1 G9 rfl hn.2 fun B2 J R2=>?_
 simp! []
 exact k B2 _ (x'.ad_trans.trans (Af.ad J)) R2
noncomputable def Al (space name:Str) (as:List (Str×Str)):Nd:=⟨s "element",space,name,as,s "",-1⟩
theorem O5 {space name:Str} {as:List (Str×Str)} (h1:SOk space) (h2:SOk name) (h3:Bd name=true) (h5:space=s "svg"∨space=s "math"∨space=s "html") (h4:Fd as):NdOk (Al space name as) :=
 ⟨Vn,h1,h2,Eo,h3,fun _=>h5,h4⟩
theorem L3:(s "").length=0:=by decide +kernel
noncomputable def St.enter (t:St) (x:Nd):St:={t.under (t.stack.getLast?.getD 0) x with stack:=t.stack++[t.nodes.length]}
theorem Vs (R:RelB t B Δ) (O:StOk (b+3) t) {ss:List Nat} {n:Nat} {y:Nd} {space name:Str} {aa:Nat} {vs:List V} {as:List (Str×Str)} (h:t.stack=ss++[n]) (hy:t.nodes[n]?=some y)
  (ha:At Δ aa (.imm (.tuple vs))) (hr:Ae Δ (Ak as) vs) (hx:NdOk (Al space name as)) (hn':(name==s "template")=false)
  (k:∀ B' Δ',Af Δ Δ'→RelB (t.enter (Al space name as)) B' Δ'→StOk b (t.enter (Al space name as))→Q (.int (t.nodes.length:Int)) (hp B' D Δ')) :
  Ca (d+4) (.con (.ref 180)) [.ref 8,.str name,.ref aa,.str space] (hp B D Δ) Q:=by
 refine oz ?_
 have hn:=O.sin n (by rw [h];simp)
 haveI hl:=O.len
 have en:t.stack.getLast?.getD 0=n:=by rw [h];simp
 have hs0:(Al space name as).text.length+(b+1)≤1000:=by show (s "").length+_≤_;rw [L3,Nat.zero_add];exact Nat.le_trans (Nat.le_add_right _ 2) (Nat.le_trans (Nat.le_add_left _ _) (Nat.le_trans hl (Nat.le_of_ble_eq_true rfl)))
 dsimp! []
 refine Oz R O h ?_
 simp! [List.zip_cons_cons,List.zip_nil_left,List.foldl_cons,List.foldl_nil]
 dsimp! []
 refine ou ?_
 dsimp! []
 refine Ov (R.xd (Ag.ad _)) O (ha.ad _) (hr.ad _) (by have h2:as.length≤10:=hx.attrs.2.1;exact o_0 ‹_› (by exact rfl)) hx.space.1 hx.name.1 hn' fun B' Δ' x' R'=>?_
 simp! []
 dsimp! []
 refine Oy R' (O.less.addNd (b:=b+1) hx rfl hs0) (Ge hy) hn.1 G9 rfl hn.2 fun B2 J R2=>?_
 simp! []
 dsimp! []
 haveI O2:StOk (b+1) (t.under n (Al space name as)):=O.less.under hx rfl hs0 hn.2
 refine Vd R2 O2 (n:=t.nodes.length) fun B3 R3=>?_
 simp! []
 dsimp! []
 haveI e:t.enter (Al space name as)={(t.under n (Al space name as)) with stack:=(t.under n (Al space name as)).stack++[t.nodes.length]}:=by
  unfold St.enter
  rw [en]
  rfl
 refine k B3 _ (x'.ad_trans.trans (Af.ad J)) (e▸R3) ?_
 rw [e]
 exact O2.push (by have:=O.two;exact Eu ‹_› (by exact rfl)) (x:={Al space name as with par:=(n:Int)}) (by rw [Bn];simp) rfl
end
noncomputable def Cv:List Str:=["p","g","svg","foreignobject","font","mi","math","annotation-xml","mglyph","malignmark","desc","title","script","br","b","clippath","a","mtext","span","mrow","html"].map s
noncomputable def Cq:List (List (Str×Str)):=[[],[(s "encoding",s "text/html")],[(s "viewbox",s "1"),(s "xlink:href",s "viewbox")],[(s "definitionurl",s "x"),(s "color",s "c")],[(s "face",s "")],[(s "size",s "3"),(s "xml:lang",s "e")],[(s "id",s "i"),(s "definitionurl",s "d"),(s "viewbox",s "v")]]
noncomputable def Im:List Str:=[s "\x00", s "x", s " ", s "\t", s "\n", s "\x0c", s "\r", s "\xa0", s "x"]
noncomputable def Ch:Tok→Prop
 | .start n as _=>n∈Cv∧as∈Cq
 | .fin n=>n∈Cv
 | .chr x=>x∈Im
 | .com x=>SOk x∧x.length≤100
 | .dt=>True
theorem Hb:∀ n∈Cv,SOk n∧(n==s "template")=false∧SOk (Ek n)∧(Ek n==s "template")=false:=by simp only [SOk];decide +kernel
theorem O6:∀ n∈Cv,Bd n=true∧Bd (Ek n)=true:=by decide +kernel
theorem Hc:∀ as∈Cq,Fd as:=by simp only [Fd,SOk];decide +kernel
theorem O7:∀ x∈Im,SOk x∧x.length≤1:=by simp only [SOk];decide +kernel
noncomputable def Fg (n:Str):Str:=if n==s "svg"||n==s "math" then n else s "html"
theorem zf:∀ n∈Cv,SOk (Fg n):=by simp only [SOk];decide +kernel
set_option tactic.hygienic true in
theorem zg (n:Str):Fg n=s "svg"∨Fg n=s "math"∨Fg n=s "html":=by
 unfold Fg
 split
 ·rename_i h
  rw [Bool.or_eq_true,beq_iff_eq,beq_iff_eq] at h
  exact h.imp id .inl
 ·exact .inr (.inr rfl)
noncomputable def St.top (t:St):Nat:=t.stack.getLast?.getD 0
noncomputable def St.nd (t:St) (n:Nat):Nd:=(t.nodes[n]?).getD ⟨s "",s "",s "",[],s "",-1⟩
noncomputable def Bf (t:St) (tk:Tok):St :=
 let t1:={t with notes:=t.notes++[.tuple [.str (s "body"),tk.pd]]}
 match tk with
 | .start n as _=>t1.enter (Al (Fg n) n as)
 | .fin n=>if 1 < t.stack.length∧(t.nd t.top).name=n then {t1 with stack:=t.stack.dropLast} else t1
 | _=>t1
section
variable {d b:Nat} {t:St} {B:Bs} {D:Ds} {Δ:List VR} {Q:V→H→Prop}
theorem Vt {n:Str} (h:¬(1 < t.stack.length∧(t.nd t.top).name=n)):Bf t (.fin n)={t with notes:=t.notes++[.tuple [.str (s "body"),(Tok.fin n).pd]]}:=if_neg h
theorem Vu {n:Str} {x:Nd} {ss:List Nat} {q:Nat} (e:t.top=q) (ey:t.nd q=x) (h:1 < t.stack.length∧x.name=n) (e4:t.stack.dropLast=ss):Bf t (.fin n)={t with notes:=t.notes++[.tuple [.str (s "body"),(Tok.fin n).pd]],stack:=ss}:=by
 subst e ey e4
 exact if_pos h
theorem Vv {n:Str} {x:Nd} {q:Nat} (e:t.top=q) (ey:t.nd q=x) (h:¬(1 < t.stack.length∧x.name=n)):Bf t (.fin n)={t with notes:=t.notes++[.tuple [.str (s "body"),(Tok.fin n).pd]]}:=by
 subst e ey
 exact if_neg h
theorem Vw {n:Str} (on:PyData.strOk n=true) (k:∀ J,Q (.str (Fg n)) (hp B D (ad Δ J))):Ca (d+1) (.con (.ref 746)) [.str n] (hp B D Δ) Q:=by
 refine qv ?_
 dsimp! [on]
 haveI e:(s "svg"==n||s "math"==n)=(n==s "svg"||n==s "math"):=by rw [BEq.comm (a:=s "svg"),BEq.comm (a:=s "math")]
 unfold Fg at k
 rw [← e] at k
 cases h:(s "svg"==n||s "math"==n)
 ·simp only [h] at k
  simp! [h]
  exact k _
 ·simp only [h] at k
  simp! [h]
  exact k _
theorem Gf {ss:List Nat} {n:Nat} (h:t.stack=ss++[n]):t.top=n:=by simp [St.top,h]
theorem Bi {n:Nat} {x:Nd} (h:t.nodes[n]?=some x):t.nd n=x:=by simp [St.nd,h]
theorem Vx {as:List (Str×Str)}:A7 (Ak as)≤1:=by
 induction as with
 | nil=>exact B7
 | cons p as ih=>exact Aq (Cf (Aq Ba (Aq Ba B7))) ih
theorem Vy {tk:Tok}:dep tk.pd≤3:=by
 induction tk with
 | start n as b=>exact Cf (Aq Ba (Aq Ba (Aq (Cf Vx) (Aq N8 B7))))
 | fin n=>exact Cf (Aq Ba (Aq Ba (Aq (Cf B7) (Aq N8 B7))))
 | chr x=>exact Cf (Aq Ba (Aq Ba B7))
 | com x=>exact Cf (Aq Ba (Aq Ba B7))
 | dt=>exact Cf (Aq Ba (Aq Ba (Aq Ud (Aq Ud (Aq N8 B7)))))
theorem L4 {n:Nat}:decide (((n:Nat):Int) > 1)=decide (1 < n):=by
 apply decide_eq_decide.mpr;exact Int.ofNat_lt
theorem zh (R:RelB t B Δ) {x:PyData} {v:V} (h:Rep Δ x v):RelB {t with notes:=t.notes++[x]} {B with errors:=B.errors++[v]} Δ :=
 {R with errors:=Ae.snoc h R.errors}
theorem Vz {tk:Tok} {a:Nat} (R:RelB t B Δ) (O:StOk (b+4) t) (T:TokAt Δ a tk) (G:Ch tk) (k:∀ B' Δ',Af Δ Δ'→RelB (Bf t tk) B' Δ'→StOk b (Bf t tk)→Q .none (hp B' D Δ')) :
  Ca (d+5) (.con (.ref 753)) [.ref 8,.ref a] (hp B D Δ) Q:=by
 refine qx ?_
 haveI h1:B.errors.length≤100000:=by have:=O.nlen;rw [R.errors.len];exact o_1 ‹_› (by exact rfl)
 (refine A3 (C4 O) ?_;intro ss n hs)
 (refine Aa (O.elem n (by rw [hs];simp)) ?_;intro y hy hyk)
 have et:=Gf hs
 have ey:=Bi hy
 have hrep:∀ J:List Mine.O,Rep (ad Δ (.tuple [.str (s "body"),.ref a] :: J)) (.tuple [.str (s "body"),tk.pd]) (.ref (sz Δ)):=fun J =>
  ⟨_,_,rfl,At.new_ad (k:=0) rfl,_,_,rfl,⟨rfl,Ap⟩,_,_,rfl,T.rep.ad _,rfl⟩
 dsimp! [h1]
 haveI R1:=zh (R.xd (Ag.ad [.tuple [.str (s "body"),.ref a]])) (hrep [])
 have hd:dep (.tuple [.str (s "body"),tk.pd])≤10:=Cf (Aq Ba (Aq (Nat.le_trans Vy (by decide)) B7))
 haveI O1:=O.note (b:=b+3) hd
 induction T with
 | start h ha hr on =>
  (refine Ac G ?_;try clear G;intro g1 g2)
  (refine Hm (Hb _ g1) ?_;intro q1 q2 q3 q4)
  haveI r1:=Hc _ g2
  dsimp! [ima h]
  dsimp! [ima h]
  refine Vw q1.1 fun J=>?_
  simp! []
  haveI R2:=R1.xd (Ag.ad J)
  simp only [Bc] at R2
  refine Vs R2 O1 hs hy (ha.ad _) (hr.ad _) (O5 (zf _ g1) q1 (O6 _ g1).1 (zg _) r1) q2 fun B' Δ' x' R' O'=>?_
  simp! []
  exact k B' Δ' x'.ad_trans R' O'
 | fin h ha on =>
  haveI N:=(R1.nv O1) hy
  dsimp! [ima h]
  dsimp! [ima h]
  refine G8 R1 O1 ?_
  simp! [L4]
  by_cases e1:1 < t.stack.length
  ·simp! [e1,decide_true]
   refine Ff R1 O1 hs ?_
   simp! [N.nm,N.ok.name.1,ima h,on]
   cases e2:y.name==‹Str›
   ·simp! []
    have e3:y.name≠‹Str›:=fun q=>by rw [q,beq_self_eq_true] at e2;cases e2
    rw [Vv et ey fun q=>e3 q.2] at k
    exact k _ _ (Af.ad _) R1 O1.less.less.less
   ·simp! []
    have e3:y.name=‹Str›:=eq_of_beq e2
    dsimp! []
    refine Ij R1 O1 hs fun B' R'=>?_
    simp! []
    have e4:t.stack.dropLast=ss:=by rw [hs];simp
    rw [Vu et ey ⟨e1,e3⟩ e4] at k
    refine k _ _ (Af.ad _) R' (O1.less.less.less.cut (us:=[n]) hs ?_)
    intro q;subst q;rw [hs] at e1;simp at e1
  ·simp! [e1,decide_false]
   rw [Vt fun q=>e1 q.1] at k
   exact k _ _ (Af.ad _) R1 O1.less.less.less
 | chr h on =>
  dsimp! [ima h]
  dsimp! [ima h]
  exact k _ _ (Af.ad _) R1 O1.less.less.less
 | com h on =>
  dsimp! [ima h]
  dsimp! [ima h]
  exact k _ _ (Af.ad _) R1 O1.less.less.less
 | dt h =>
  dsimp! [ima h]
  dsimp! [ima h]
  exact k _ _ (Af.ad _) R1 O1.less.less.less
theorem zi {α:Type} {x:Str} {v:α}:List.lookup x [(x,v)]=some v:=by simp
theorem zj:Ao (hp B D Δ) (.ref 6) (.str B.mode)=some (.con (.ref 753)):=by
 show (match (hp B D Δ)[6]? with
  | some (.dict es)=>es.lookup B.mode
  | _=>none)=_
 rw [Tf]
 simp
theorem V0 {tk:Tok} {a:Nat} (R:RelB t B Δ) (O:StOk (b+4) t) (T:TokAt Δ a tk) (G:Ch tk) (k:∀ B' Δ',Af Δ Δ'→RelB (Bf t tk) B' Δ'→StOk b (Bf t tk)→Q .none (hp B' D Δ')) :
  Ca (d+6) (.con (.ref 631)) [.ref 8,.str B.mode,.ref a] (hp B D Δ) Q:=by
 refine s4 ?_
 dsimp! [zi,Option.isSome_some]
 dsimp! [zj]
 dsimp! []
 refine Vz R O T G fun B' Δ' x' R' O'=>?_
 simp! []
 exact k B' Δ' x' R' O'
end
section
variable {d b:Nat} {t:St} {B:Bs} {D:Ds} {Δ:List VR} {Q:V→H→Prop}
noncomputable def Cw:Tok→Bool
 | .start n as _=>if n==s "font" then (Be as (s "color")).isSome||((Be as (s "face")).isSome||(Be as (s "size")).isSome) else Og.any (·==n)
 | .fin n=>[s "br",s "p"].any (·==n)
 | _=>false
theorem O8 {σ:H} {o:Option Str}:A6 σ .IsNot (Ih o) .none=some o.isSome:=by
 cases o<;>rfl
theorem zk {n:Str} {as:List (Str×Str)} {c:Bool} {a aa:Nat} {vs:List V} (h:At Δ a (.imm (.tuple [.str (s "start"),.str n,.ref aa,.bool c]))) (ha:At Δ aa (.imm (.tuple vs))) (hr:Ae Δ (Ak as) vs) (on:PyData.strOk n=true)
  (k:∀ J,Q (.bool (Cw (.start n as c))) (hp B D (ad Δ J))):Ca (d+2) (.con (.ref 194)) [.ref a] (hp B D Δ) Q:=by
 refine T5 ?_
 dsimp! [im h]
 dsimp! [im h]
 cases e:n==s "font"
 ·simp only [Cw,e] at k
  dsimp! [on,e]
  dsimp! []
  refine xw on fun J=>?_
  simp! []
  exact k J
 ·simp only [Cw,e] at k
  dsimp! [on,e]
  dsimp! []
  haveI hT:(hp B D (ad Δ [.tuple [.str (s "color"),.str (s "face"),.str (s "size")]]))[sz Δ]?=some (.tuple [.str (s "color"),.str (s "face"),.str (s "size")]):=Ia
  refine Dx (F8 hT rfl) ?_
  simp! []
  dsimp! []
  refine Os (h.ad _) (ha.ad _) (hr.ad _) Ap ?_
  simp! [O8]
  cases h1:(Be as (s "color")).isSome
  ·simp! []
   refine Dx (F8 hT rfl) ?_
   simp! []
   dsimp! []
   refine Os (h.ad _) (ha.ad _) (hr.ad _) Ap ?_
   simp! [O8]
   cases h2:(Be as (s "face")).isSome
   ·simp! []
    refine Dx (F8 hT rfl) ?_
    simp! []
    dsimp! []
    refine Os (h.ad _) (ha.ad _) (hr.ad _) Ap ?_
    simp! [O8]
    cases h3:(Be as (s "size")).isSome
    ·simp! []
     refine Eg (Ic hT rfl) ?_
     simp! []
     dsimp! []
     exact fin (k _) (by simp [h1,h2,h3]) rfl
    ·simp! []
     dsimp! []
     exact fin (k _) (by simp [h1,h2,h3]) rfl
   ·simp! []
    dsimp! []
    exact fin (k _) (by simp [h1,h2]) rfl
  ·simp! []
   dsimp! []
   exact fin (k _) (by simp [h1]) rfl
theorem zl {n:Str} {a aa:Nat} (h:At Δ a (.imm (.tuple [.str (s "end"),.str n,.ref aa,.bool false]))) (on:PyData.strOk n=true)
  (k:∀ J,Q (.bool (Cw (.fin n))) (hp B D (ad Δ J))):Ca (d+2) (.con (.ref 194)) [.ref a] (hp B D Δ) Q:=by
 refine T5 ?_
 dsimp! [im h]
 dsimp! [im h,on]
 exact fin (k _) (by simp [Cw]) rfl
noncomputable def signB (t:St) (c:Str):St :=
 if c==s "\x00" then ({ t with notes := t.notes ++ [.tuple [.str (s "unexpected-null-character"), .str t.mode]] } : St).sign (s "\ufffd")
 else if Fc.any (·==c) then t.sign c else {t.sign c with fok:=false}
set_option tactic.hygienic true in
theorem StOk.sign (O:StOk (b+1) t) {c:Str} (hc:PyData.strOk c=true) (h1:c.length≤1) (hb:b≤999):StOk b (t.sign c):=by
 (refine A3 (C4 O) ?_;intro ss n hs)
 haveI hn:=O.sin n (by rw [hs];simp)
 have en:t.stack.getLast?.getD 0=n:=by rw [hs];simp
 unfold St.sign
 simp only [en]
 have hu:StOk b (t.under n ⟨s "text",s "",s "",[],c,-1⟩):=O.under (Vo hc h1) rfl (by show c.length+b≤1000;exact o_8 ‹_› ‹_› (by exact rfl)) hn.2
 split
 ·rename_i m hm
  split
  ·rename_i x hx
   split
   ·exact O.grow hx hc h1
   ·exact hu
  ·exact O.less
 ·exact hu
theorem zm:(s "element"==s "document")=false:=by decide +kernel
theorem StOk.cur (O:StOk b t):∃ ss n y,t.stack=ss++[n]∧t.nodes[n]?=Option.some y∧y.kind=s "element"∧0 < n∧n < t.nodes.length∧t.top=n∧t.nd n=y:=by
 (refine A3 (C4 O) ?_;intro ss n hs)
 (refine Aa (O.elem n (by rw [hs];simp)) ?_;intro y hy hk)
 haveI hn:=O.sin n (by rw [hs];simp)
 exact ⟨ss,n,y,hs,hy,hk,hn.1,hn.2,Gf hs,Bi hy⟩
theorem zn {c:Str} (R:RelB t B Δ) (O:StOk (b+2) t) (hc:c∈Im) (hb:b≤900) (k:∀ B' Δ',Af Δ Δ'→RelB (signB t c) B' Δ'→StOk b (signB t c)→Q .none (hp B' D Δ')) :
  Ca (d+5) (.con (.ref 201)) [.ref 8,.str c] (hp B D Δ) Q:=by
 (refine Ac (O7 c hc) ?_;intro z_0 q3;refine Ac z_0 ?_;intro q1 q2)
 (refine Hn O.cur ?_;intro ss n y hs hy hk _)
 haveI hyd:(y.kind==s "document")=false:=by rw [hk];exact zm
 refine pg ?_
 cases e:c==s "\x00"
 ·simp only [signB,e] at k
  dsimp! [q1,e]
  dsimp! []
  refine Vq R O.less hs hy hyd q1 q3 (by exact o_0 ‹_› (by exact rfl)) fun B' Δ' x' R'=>?_
  simp! []
  dsimp! []
  refine xz q1 fun J=>?_
  haveI O':=O.less.sign q1 q3 (by exact o_0 ‹_› (by exact rfl))
  cases e2:Fc.any (·==c)
  ·simp only [e2] at k
   simp! []
   dsimp! []
   refine k _ _ (x'.trans (Af.ad J)) {R'.xd (Ag.ad J) with fok:=rfl} {O' with}
  ·simp only [e2] at k
   simp! []
   exact k _ _ (x'.trans (Af.ad J)) (R'.xd (Ag.ad J)) O'
 ·simp only [signB,e] at k
  dsimp! [q1,e]
  dsimp! []
  refine Ik R O Ap fun B' J R'=>?_
  simp! []
  dsimp! []
  haveI O1:=O.note (b:=b+1) (x:=.tuple [.str (s "unexpected-null-character"),.str t.mode]) E9
  haveI hf:(s "\ufffd").length≤1:=by decide +kernel
  refine Vq R' O1 hs hy hyd Ap hf (by exact o_0 ‹_› (by exact rfl)) fun B2 Δ2 x2 R2=>?_
  simp! []
  dsimp! []
  exact k _ _ x2.ad_trans R2 (O1.sign Ap hf (by exact o_0 ‹_› (by exact rfl)))
end
section
variable {d b:Nat} {t:St} {B:Bs} {D:Ds} {Δ:List VR} {Q:V→H→Prop}
noncomputable def Bj (t:St) (n:Nat):Bool:=C3 (t.nd n).space (t.nd n).name (t.nd n).attrs
theorem RelB.more {J K:List Mine.O} (R:RelB t B (ad Δ J)):RelB t B (ad Δ (J++K)):=by
 haveI:=R.xd (Ag.ad K)
 rwa [Bc] at this
theorem zo {n:Nat}:decide (((n:Nat):Int) > 0)=decide (0 < n):=by
 apply decide_eq_decide.mpr;exact Int.ofNat_lt
theorem V1 {a:Nat} {K:KS}:∀ (rs:List Nat) (B:Bs) (J:List Mine.O),RelB {t with stack:=rs.reverse} B (ad Δ J)→StOk b {t with stack:=rs.reverse} →
  (∀ B' J',RelB {t with stack:=(rs.dropWhile fun n=>!Bj t n).reverse} B' (ad Δ J')→StOk b {t with stack:=(rs.dropWhile fun n=>!Bj t n).reverse}→K .next [some (.ref 8),some (.ref a),some (.ref 22)] (hp B' D (ad Δ J'))) →
  Wl ⟨d+5,[some (.ref 8),some (.ref a),some (.ref 22)],[]⟩ (.boo .And [(.cmp (.meth (.loc 2) 40 []) [.Gt] [(.cst (.int 0))]),(.not (.call (.cst (.con (.ref 208))) [(.attr (.loc 0) 16),(.meth (.loc 2) 39 [])]))]) (fb Gu 2) (hp B D (ad Δ J)) K
 | [],B,J,R,O,k=>by
  (refine Ad O.root ?_;intro ss e)
  cases e
 | n :: rs,B,J,R,O,k=>by
  have hs:({t with stack:=(n :: rs).reverse}:St).stack=rs.reverse++[n]:=by simp
  have hl:decide (0 < ({t with stack:=(n :: rs).reverse}:St).stack.length)=true:=by simp
  (refine Aa (O.elem n (by rw [hs];simp)) ?_;intro x hx hxk)
  haveI hx':t.nodes[n]?=some x:=hx
  haveI N:=R.nv O hx
  have eh:Bj t n=C3 x.space x.name x.attrs:=by simp [Bj,Bi hx']
  refine Dw ?_
  simp! []
  refine G8 R O ?_
  simp! [zo,hl]
  refine Ff R O hs ?_
  simp! []
  refine yn N fun J2=>?_
  cases e:C3 x.space x.name x.attrs
  ·simp! []
   dsimp! []
   refine Ij R.more O hs fun B' R'=>?_
   simp! []
   have ew:(n :: rs).dropWhile (fun n=>!Bj t n)=rs.dropWhile (fun n=>!Bj t n):=by
    rw [List.dropWhile_cons,eh,e];rfl
   rw [ew] at k
   refine V1 rs B' (J++J2) R' (O.cut (us:=[n]) hs ?_) k
   intro q
   (refine Ad O.root ?_;intro ss e2)
   have e3:rs.reverse++[n]=1 :: ss:=hs.symm.trans e2
   rw [q] at e3
   cases e3
   (refine Aa O.rnd ?_;intro y h1 h2)
   haveI h1':t.nodes[1]?=some y:=h1
   rw [hx'] at h1'
   cases h1'
   rw [h2.1] at e
   simp [C3] at e
  ·simp! []
   haveI ew:(n :: rs).dropWhile (fun n=>!Bj t n)=n :: rs:=by
    rw [List.dropWhile_cons,eh,e];rfl
   rw [ew] at k
   exact k _ _ R.more O
noncomputable def D5 (t:St) (tk:Tok):St :=
 let w:=match tk with
  | .fin _=>s "unexpected-end-tag"
  | _=>s "unexpected-start-tag"
 let t1:St:={t with notes:=t.notes++[.tuple [.str w,.str t.mode]]}
 Bf {t1 with stack:=(t.stack.reverse.dropWhile fun n=>!Bj t n).reverse} tk
theorem zp {tk:Tok} {a:Nat} (R:RelB t B Δ) (O:StOk (b+4) t) (T:TokAt Δ a tk) (G:Ch tk) (k:∀ B' Δ',Af Δ Δ'→RelB (Bf t tk) B' Δ'→StOk b (Bf t tk)→Q .none (hp B' D Δ')) :
  Ca (d+6) (.con (.ref 631)) [.ref 8,.str B.mode,.ref a] (hp B D Δ) Q:=V0 R O T G k
theorem V2 {tk:Tok} {a:Nat} (R:RelB t B Δ) (O:StOk (b+5) t) (T:TokAt Δ a tk) (G:Ch tk) (hk:(∃ n as c,tk=.start n as c)∨∃ n,tk=.fin n)
  (k:∀ B' Δ',Af Δ Δ'→RelB (D5 t tk) B' Δ'→StOk b (D5 t tk)→Q .none (hp B' D Δ')) :
  Ca (d+7) (.con (.ref 215)) [.ref 8,.ref a] (hp B D Δ) Q:=by
 refine pk ?_
 haveI rest:∀ (w:Str) (B':Bs) (J:List Mine.O),RelB {t with notes:=t.notes++[.tuple [.str w,.str t.mode]]} B' (ad Δ J) →
   (∀ B' Δ',Af Δ Δ'→RelB (Bf {t with notes:=t.notes++[.tuple [.str w,.str t.mode]],stack:=(t.stack.reverse.dropWhile fun n=>!Bj t n).reverse} tk) B' Δ'→StOk b (Bf {t with notes:=t.notes++[.tuple [.str w,.str t.mode]],stack:=(t.stack.reverse.dropWhile fun n=>!Bj t n).reverse} tk)→Q .none (hp B' D Δ')) →
   ws (Gu.body.drop 1) ⟨d+6,[some (.ref 8),some (.ref a),none],[]⟩ (hp B' D (ad Δ J)) (rk Q):=by
  intro w B' J R' k'
  haveI O':=O.note (b:=b+4) (x:=.tuple [.str w,.str t.mode]) E9
  dsimp! []
  dsimp! []
  refine V1 (t:={t with notes:=t.notes++[.tuple [.str w,.str t.mode]]}) t.stack.reverse B' J (by rw [List.reverse_reverse];exact R') (by rw [List.reverse_reverse];exact O') ?_
  intro B2 J2 R2 O2
  simp! []
  dsimp! []
  refine zp R2 O2 (T.ad _) G fun B3 Δ3 x3 R3 O3=>?_
  simp! []
  exact k' B3 Δ3 x3.ad_trans R3 O3
 induction T with
 | start h ha hr on =>
  dsimp! [im h]
  dsimp! []
  refine Ik R O Ap fun B' J R'=>?_
  simp! []
  exact rest _ B' J R' k
 | fin h ha on =>
  dsimp! [im h]
  dsimp! []
  refine Ik R O Ap fun B' J R'=>?_
  simp! []
  exact rest _ B' J R' k
 | chr h on=>focus (refine oe hk ?_ ?_;rotate_left;(try clear hk;intro z_o;refine Ad z_o ?_;intro _ q);rotate_right;(try clear hk;intro z_o;refine Jc z_o ?_;intro _ _ _ q))<;>cases q
 | com h on=>focus (refine oe hk ?_ ?_;rotate_left;(try clear hk;intro z_o;refine Ad z_o ?_;intro _ q);rotate_right;(try clear hk;intro z_o;refine Jc z_o ?_;intro _ _ _ q))<;>cases q
 | dt h=>focus (refine oe hk ?_ ?_;rotate_left;(try clear hk;intro z_o;refine Ad z_o ?_;intro _ q);rotate_right;(try clear hk;intro z_o;refine Jc z_o ?_;intro _ _ _ q))<;>cases q
noncomputable def startB (t:St) (n:Str) (as:List (Str×Str)) (c:Bool):St :=
 let sp:=(t.nd t.adj).space
 let t1:=t.enter (Al sp (if sp==s "svg" then Ek n else n) (A2 sp as))
 if c then {t1 with ack:=true,stack:=t.stack} else t1
theorem O9:∀ as∈Cq,∀ p∈as,p.1.length≤100000∧PyData.strOk (Dz p.1)=true∧(Dz p.1).length≤100000∧PyData.strOk (Dg p.1)=true∧(Dg p.1).length≤100000∧SOk (C2 (Dz p.1))∧SOk (C2 (Dg p.1))∧SOk p.1∧SOk p.2∧Bd p.2=true:=by
 simp only [SOk];decide +kernel
theorem Pa {as:List (Str×Str)} (ha:as∈Cq) {p:Str×Str} (hp':p∈as) (sp:Str):SOk (Cg sp p.1):=by
 rcases O9 as ha p hp' with ⟨_,_,_,_,_,q6,q7,q8,_⟩
 unfold Cg
 split
 ·exact q6
 ·split
  ·exact q7
  ·exact q8
theorem zq {as:List (Str×Str)} (ha:as∈Cq) (sp:Str):∀ p∈as,Op sp p:=fun p hp' =>
 haveI q:=O9 as ha p hp'
 ⟨q.1,q.2.1,q.2.2.1,q.2.2.2.1,q.2.2.2.2.1,(Pa ha hp' sp).1⟩
theorem zr:∀ as∈Cq,((as.filter fun p=>C2 (Dz p.1)==s "encoding").length≤1∧(as.filter fun p=>C2 (Dg p.1)==s "encoding").length≤1)∧(as.filter fun p=>p.1==s "encoding").length≤1:=by decide +kernel
theorem zt {as:List (Str×Str)} (ha:as∈Cq) (sp:Str):Fd (A2 sp as):=by
 refine ⟨?_,?_,?_⟩
 ·intro p hp'
  (refine Aa (List.mem_map.mp hp') ?_;intro q hq z_2;obtain rfl:=z_2)
  exact ⟨Pa ha hq sp,(O9 as ha q hq).2.2.2.2.2.2.2.2⟩
 ·haveI:=(Hc as ha).2.1
  simpa [A2] using this
 ·(refine Ac (zr as ha) ?_;intro z_0 e3;refine Ac z_0 ?_;intro e1 e2)
  unfold A2
  rw [List.filter_map,List.length_map]
  unfold Cg
  simp only [Function.comp_def]
  cases sp==s "svg"
  ·cases sp==s "math"
   ·exact e3
   ·exact e2
  ·exact e1
theorem Hd {x:Nd}:(t.enter x).stack=t.stack++[t.nodes.length]:=rfl
theorem zu {n:Str} {as:List (Str×Str)} {c:Bool} {a:Nat} (R:RelB t B Δ) (O:StOk (b+3) t) (T:TokAt Δ a (.start n as c)) (G:Ch (.start n as c))
  (k:∀ B' Δ',Af Δ Δ'→RelB (startB t n as c) B' Δ'→StOk b (startB t n as c)→Q .none (hp B' D Δ')) :
  Ca (d+5) (.con (.ref 222)) [.ref 8,.ref a] (hp B D Δ) Q:=by
 refine pp ?_
 rcases O.cur with ⟨ss,m,y,hs,hy,hk,h0,hm,et,ey⟩
 (refine Aa (Ve O) ?_;intro x hx hxk)
 have N:=R.nv O hx
 haveI ex:=Bi hx
 (refine Ac G ?_;try clear G;intro g1 g2)
 (refine Hm (Hb _ g1) ?_;intro q1 q2 q3 q4)
 cases T with
 | start h ha hr on =>
  dsimp! []
  refine Gc R O ?_
  simp! [N.sp]
  dsimp! [im h]
  have rest:∀ (nm:Str) (J:List Mine.O),nm=(if x.space==s "svg" then Ek n else n)→SOk nm→(nm==s "template")=false→Bd nm=true →
    ws (Hq.body.drop 3) ⟨d+4,[some (.ref 8),some (.ref a),some (.str x.space),some (.str nm)],[]⟩ (hp B D (ad Δ J)) (rk Q):=by
   intro nm J hnm o1 o2 o3
   dsimp! [ima h]
   refine ya (ha.ad _) (hr.ad _) N.ok.space.1 (zq g2 _) (by have:=(Hc _ g2).2.1;exact o_0 ‹_› (by exact rfl)) fun J2 a2 us h2 h3=>?_
   simp! []
   rw [Bc] at h2 h3
   haveI p1:=zt g2 x.space
   refine Vs (R.xd (Ag.ad _)) O hs hy h2 h3 (O5 N.ok.space o1 o3 (N.ok.spc hxk) p1) o2 fun B' Δ' x' R' O'=>?_
   simp! []
   have ks:startB t n as c=(if c then {t.enter (Al x.space nm (A2 x.space as)) with ack:=true,stack:=t.stack} else t.enter (Al x.space nm (A2 x.space as))):=by
    unfold startB
    rw [ex,hnm]
   rw [ks] at k
   cases c
   ·dsimp! [im ((h.ad (J++J2)).xb x')]
    exact k B' Δ' x'.ad_trans R' O'
   ·dsimp! [im ((h.ad (J++J2)).xb x')]
    dsimp! []
    dsimp! []
    have O2:StOk b {t.enter (Al x.space nm (A2 x.space as)) with ack:=true}:={O' with}
    refine Ij (t:={t.enter (Al x.space nm (A2 x.space as)) with ack:=true}) {R' with ack:=rfl} O2 (Hd (x:=Al x.space nm (A2 x.space as))) fun B2 R2=>?_
    simp! []
    refine k B2 Δ' x'.ad_trans R2 (O2.cut (Hd (x:=Al x.space nm (A2 x.space as))) ?_)
    rw [hs];simp
  cases e:x.space==s "svg"
  ·dsimp! [N.ok.space.1,e]
   haveI:=rest n [] (by rw [e];rfl) q1 q2 (O6 _ g1).1
   rw [Bm] at this
   exact this
  ·dsimp! [N.ok.space.1,e]
   dsimp! []
   refine xq q1.1 (by have:=q1.2;exact o_0 ‹_› (by exact rfl)) fun J=>?_
   simp! []
   exact rest (Ek n) J (by rw [e];rfl) q3 q4 (O6 _ g1).2
end
section
variable {d b:Nat} {t:St} {B:Bs} {D:Ds} {Δ:List VR} {Q:V→H→Prop}
noncomputable def St.nth (t:St) (p:Nat):Nat:=(t.stack[p]?).getD 0
noncomputable def endLoop (t:St) (n:Str):Nat→St
 | 0=>t
 | p+1=>if A5 (t.nd (t.nth (p+1))).name==n then {t with stack:=t.stack.take (p+1)}
  else if (t.nd (t.nth p)).space==s "html" then Bf t (.fin n) else endLoop t n p
theorem L5 {n:Str} {p:Nat}:endLoop t n (p+1)=if A5 (t.nd (t.nth (p+1))).name==n then {t with stack:=t.stack.take (p+1)} else if (t.nd (t.nth p)).space==s "html" then Bf t (.fin n) else endLoop t n p:=rfl
theorem StOk.nth (O:StOk b t) {p:Nat} (hp':p < t.stack.length):∃ x,t.stack[p]?=Option.some (t.nth p)∧t.nodes[t.nth p]?=Option.some x∧t.nd (t.nth p)=x:=by
 haveI e:t.stack[p]?=Option.some t.stack[p]:=List.getElem?_eq_getElem hp'
 haveI e2:t.nth p=t.stack[p]:=by simp [St.nth,e]
 (refine Aa (O.elem _ (List.getElem_mem hp')) ?_;intro x hx _)
 rw [← e2] at hx
 exact ⟨x,by rw [e2];exact e,hx,Bi hx⟩
theorem RelB.idx_items (R:RelB t B Δ) (O:StOk b t) {p n:Nat} (h:t.stack[p]?=some n):∀ {D:Ds} {Δ':List VR},Ao (hp B D Δ') (.ref 23) (.int (p:Int))=some (.int (n:Int)):=fun {D Δ'} =>
 B8 Ln (by rw [R.items];simp [h])
theorem V3 {n m:Nat}:decide (((n:Nat):Int) > (m:Int))=decide (m < n):=by
 apply decide_eq_decide.mpr;exact Int.ofNat_lt
theorem V4 {ρ:List (Option V)} {p:Nat} (h3:ρ[3]?=some (some (.ref 22))) (h4:ρ[4]?=some (some (.int (p:Int)))) {K:KS} {base:List Nat} (hb:base.length=p) (h0:0 < p):∀ (rs:List Nat) (t:St) (B:Bs),RelB t B Δ→StOk b t→t.stack=base++rs.reverse →
  (∀ B',RelB {t with stack:=base} B' Δ→StOk b {t with stack:=base}→K .next ρ (hp B' D Δ)) →
  Wl ⟨d+1,ρ,[]⟩ (.cmp (.meth (.loc 3) 40 []) [.Gt] [(.loc 4)]) [(.ex (.meth (.loc 3) 1 []))] (hp B D Δ) K
 | [],t,B,R,O,hs,k=>by
  refine Dw ?_
  simp! [h3,h4]
  refine G8 R O ?_
  have e:decide (p < t.stack.length)=false:=by rw [hs];simp [hb]
  simp! [V3,h4,e]
  have e2:t.stack=base:=by rw [hs];simp
  rw [← e2] at k
  exact k B R O
 | n :: rs,t,B,R,O,hs,k=>by
  refine Dw ?_
  simp! [h3,h4]
  refine G8 R O ?_
  haveI e:decide (p < t.stack.length)=true:=by rw [hs];simp [hb]
  simp! [V3,h4,e]
  dsimp! [h3]
  have hs':t.stack=(base++rs.reverse)++[n]:=by rw [hs];simp
  refine Ij R O hs' fun B' R'=>?_
  simp! []
  refine V4 h3 h4 hb h0 rs {t with stack:=base++rs.reverse} B' R' (O.cut (us:=[n]) hs' ?_) rfl k
  intro q
  rw [(List.append_eq_nil_iff.mp q).1] at hb
  simp at hb
  exact Hl ‹_› ‹_›
theorem V5 {n:Str} {a:Nat} (T:TokAt Δ a (.fin n)) (G:Ch (.fin n)) {K:KS} (R:RelB t B Δ) (O:StOk (b+4) t) :
  ∀ (p:Nat) (J:List Mine.O),p < t.stack.length →
  (∀ fl ρ B' Δ',(fl=.next∨fl=.ret .none)→Af Δ Δ'→RelB (endLoop t n p) B' Δ'→StOk b (endLoop t n p)→K fl ρ (hp B' D Δ')) →
  Wl ⟨d+6,[some (.ref 8),some (.ref a),some (.ref 10),some (.ref 22),some (.int (p:Int)),some (.str n)],[]⟩ (.cmp (.loc 4) [.Gt] [(.cst (.int 0))]) (fb Gv 5) (hp B D (ad Δ J)) K
 | 0,J,hl,k=>by
  refine Dw ?_
  haveI e:decide (((0:Nat):Int) > 0)=false:=by decide
  simp! [e]
  exact k _ _ _ _ (.inl rfl) (Af.ad J) (R.xd (Ag.ad J)) O.less.less.less.less
 | p+1,J,hl,k=>by
  refine Dw ?_
  haveI e:decide (((p+1:Nat):Int) > 0)=true:=decide_eq_true (Int.ofNat_lt.mpr (Nat.succ_pos p))
  (refine Au (O.nth hl) ?_;intro x h1 h2 h3)
  (refine Au (O.nth (p:=p) (Nat.lt_of_succ_lt hl)) ?_;intro x' h1' h2' h3')
  have N:=R.nv O h2
  haveI N':=R.nv O h2'
  simp! [e]
  dsimp! [R.idx_items O h1,N.nm]
  refine Oq N.ok.name.2 fun J2=>?_
  simp! [Gb N.ok.name.1]
  have ek:endLoop t n (p+1)=if A5 x.name==n then {t with stack:=t.stack.take (p+1)} else if x'.space==s "html" then Bf t (.fin n) else endLoop t n p:=by
   rw [L5,h3,h3']
  rw [ek] at k
  cases e1:A5 x.name==n
  ·rw [e1] at k
   simp! []
   dsimp! [Vb]
   cases e2:x'.space==s "html"
   ·rw [e2] at k
    dsimp! [R.idx_items O h1',N'.sp,N'.ok.space.1,e2]
    exact V5 T G R O p (J++J2) (by exact I9 ‹_›) k
   ·rw [e2] at k
    dsimp! [R.idx_items O h1',N'.sp,N'.ok.space.1,e2]
    dsimp! []
    refine V0 (R.xd (Ag.ad _)) O (T.ad _) G fun B' Δ' x3 R3 O3=>?_
    simp! []
    dsimp! []
    exact k _ _ _ _ (.inr rfl) x3.ad_trans R3 O3
  ·rw [e1] at k
   simp! []
   dsimp! []
   haveI hb:(t.stack.take (p+1)).length=p+1:=List.length_take_of_le (Nat.le_of_lt hl)
   refine V4 (p:=p+1) (base:=t.stack.take (p+1)) rfl rfl hb (by exact Nat.le_of_ble_eq_true (by exact rfl)) (t.stack.drop (p+1)).reverse t B (R.xd (Ag.ad _)) O (by simp) ?_
   intro B' R' O'
   simp! []
   dsimp! []
   exact k _ _ _ _ (.inr rfl) (Af.ad _) R' O'.less.less.less.less
noncomputable def endB (t:St) (n:Str):St :=
 let t1:St:=if A5 (t.nd t.top).name==n then t else {t with notes:=t.notes++[.tuple [.str (s "unexpected-end-tag"),.str t.mode]]}
 endLoop t1 n (t.stack.length-1)
theorem zv {n:Str} {a:Nat} (R:RelB t B Δ) (O:StOk (b+5) t) (T:TokAt Δ a (.fin n)) (G:Ch (.fin n))
  (k:∀ B' Δ',Af Δ Δ'→RelB (endB t n) B' Δ'→StOk b (endB t n)→Q .none (hp B' D Δ')) :
  Ca (d+7) (.con (.ref 229)) [.ref 8,.ref a] (hp B D Δ) Q:=by
 refine pu ?_
 rcases O.cur with ⟨ss,m,y,hs,hy,hk,h0,hm,et,ey⟩
 have N:=R.nv O hy
 have hl:t.stack.length-1 < t.stack.length:=by rw [hs];simp
 haveI e1:((t.stack.length:Int)-1)=((t.stack.length-1:Nat):Int):=(Int.ofNat_sub (Nat.lt_of_le_of_lt (Nat.zero_le _) hl)).symm
 have on:=(Hb n G).1.1
 cases T with
 | fin h ha _ =>
  dsimp! []
  dsimp! []
  dsimp! []
  refine G8 R O ?_
  simp! [e1]
  dsimp! [im h]
  dsimp! []
  refine Ff R O hs ?_
  simp! [N.nm]
  refine Oq N.ok.name.2 fun J=>?_
  simp! [Gb N.ok.name.1,on]
  have fin:∀ (t1:St) (B1:Bs) (J1:List Mine.O),t1.stack=t.stack→endB t n=endLoop t1 n (t.stack.length-1)→RelB t1 B1 (ad Δ J1)→StOk (b+4) t1 →
    ws (Gv.body.drop 5) ⟨d+6,[some (.ref 8),some (.ref a),some (.ref 10),some (.ref 22),some (.int ((t.stack.length-1:Nat):Int)),some (.str n)],[]⟩ (hp B1 D (ad Δ J1)) (rk Q):=by
   intro t1 B1 J1 q1 q2 R1 O1
   dsimp! []
   haveI T1:TokAt (ad Δ J1) a (.fin n):=TokAt.fin (h.ad J1) (ha.ad J1) on
   haveI:=V5 (d:=d) (D:=D) (K:=sk [] ⟨d+6,[some (.ref 8),some (.ref a),some (.ref 10),some (.ref 22),some (.int ((t.stack.length-1:Nat):Int)),some (.str n)],[]⟩ (rk Q)) T1 G R1 O1 (t.stack.length-1) [] (by rw [q1];exact hl) ?_
   ·rw [Bm] at this
    exact this
   ·intro fl ρ B' Δ' hfl x' R' O'
    rw [q2] at k
    focus (refine oe hfl ?_ ?_;rotate_left;(try clear hfl;intro z_o;obtain rfl:=z_o);rotate_right;(try clear hfl;intro z_o;obtain rfl:=z_o))
    ·simp! []
     exact k B' Δ' x'.ad_trans R' O'
    ·simp! []
     exact k B' Δ' x'.ad_trans R' O'
  cases e2:A5 y.name==n
  ·simp! []
   dsimp! []
   refine Ik (R.xd (Ag.ad J)) O Ap fun B' J' R'=>?_
   rw [Bc] at R' ⊢
   simp! []
   refine fin {t with notes:=t.notes++[.tuple [.str (s "unexpected-end-tag"),.str t.mode]]} B' (J++J') rfl ?_ R' (O.note E9)
   unfold endB
   rw [et,ey,e2]
   rfl
  ·simp! []
   refine fin t B J rfl ?_ (R.xd (Ag.ad J)) O.less
   unfold endB
   rw [et,ey,e2]
   rfl
noncomputable def C5 (t:St) (n:Str):Bool:=n==s "script"&&((t.nd t.top).space==s "svg"&&(t.nd t.top).name==s "script")
theorem zw {n:Nat}:decide (((n:Nat):Int) < 0)=false:=by
 exact decide_eq_false (Int.not_lt.mpr (Int.natCast_nonneg n))
theorem zx {n:Str} {a:Nat} (R:RelB t B Δ) (O:StOk b t) (T:TokAt Δ a (.fin n)) (k:Q (.bool (C5 t n)) (hp B D Δ)) :
  Ca (d+2) (.con (.ref 236)) [.ref 8,.ref a] (hp B D Δ) Q:=by
 refine pw ?_
 rcases O.cur with ⟨ss,m,y,hs,hy,hk,h0,hm,et,ey⟩
 haveI N:=R.nv O hy
 simp only [C5,et,ey] at k
 cases T with
 | fin h ha on =>
  cases e:n==s "script"
  ·simp only [e] at k
   dsimp! [im h,on,e]
   dsimp! []
   exact k
  ·simp only [e] at k
   dsimp! [im h,on,e]
   dsimp! []
   refine Ff R O hs ?_
   simp! []
   dsimp! [zw]
   cases e2:y.space==s "svg"
   ·simp only [e2] at k
    dsimp! [N.sp,N.ok.space.1,e2]
    exact k
   ·simp only [e2] at k
    dsimp! [N.sp,N.ok.space.1,e2,N.nm,N.ok.name.1]
    exact k
noncomputable def Bk (t:St) (tk:Tok):St:=match tk with
 | .chr c=>signB t c
 | .com c=>t.under t.top (Ha c)
 | .dt=>{t with notes:=t.notes++[.tuple [.str (s "unexpected-doctype"),.str t.mode]]}
 | .start n as c=>if Cw (.start n as c) then D5 t (.start n as c) else startB t n as c
 | .fin n=>if Cw (.fin n) then D5 t (.fin n) else if C5 t n then {t with stack:=t.stack.dropLast} else endB t n
theorem zy {tk:Tok} {a:Nat} (R:RelB t B Δ) (O:StOk (b+5) t) (hb:b≤500) (T:TokAt Δ a tk) (G:Ch tk) (hroot:∀ n,tk=.fin n→C5 t n=true→1 < t.stack.length)
  (k:∀ B' Δ',Af Δ Δ'→RelB (Bk t tk) B' Δ'→StOk b (Bk t tk)→Q .none (hp B' D Δ')) :
  Ca (d+8) (.con (.ref 243)) [.ref 8,.ref a] (hp B D Δ) Q:=by
 refine p8 ?_
 rcases O.cur with ⟨ss,m,y,hs,hy,hk,h0,hm,et,ey⟩
 induction T with
 | chr h on =>
  dsimp! [im h]
  dsimp! []
  dsimp! [im h]
  refine zn R O.less.less.less G (by exact o_0 ‹_› (by exact rfl)) fun B' Δ' x' R' O'=>?_
  simp! []
  exact k B' Δ' x' R' O'
 | @com c h on =>
  dsimp! [im h]
  dsimp! []
  dsimp! []
  dsimp! [im h]
  refine ze (b:=b) R O.less.less.less.less hs hy G.1 (by have:=G.2;exact o_8 ‹_› ‹_› (by exact rfl)) fun B' Δ' x' R'=>?_
  simp! []
  have e:Bk t (.com c)=t.under m (Ha c):=by rw [← et];rfl
  rw [e] at k
  exact k B' Δ' x' R' (O.less.less.less.less.under (Vr G.1) rfl (by have:=G.2;show c.length+b≤1000;exact o_8 ‹_› ‹_› (by exact rfl)) hm)
 | dt h =>
  dsimp! [im h]
  dsimp! []
  dsimp! []
  dsimp! []
  dsimp! []
  refine Ik R O Ap fun B' J R'=>?_
  simp! []
  exact k B' _ (Af.ad J) R' (O.note (b:=b+4) E9).less.less.less.less
 | start h ha hr on =>
  dsimp! [im h]
  dsimp! []
  dsimp! []
  dsimp! []
  dsimp! []
  dsimp! []
  refine zk h ha hr on fun J=>?_
  haveI T:TokAt Δ a (.start _ _ _):=TokAt.start h ha hr on
  cases e:Cw (.start _ _ _)
  ·simp! []
   dsimp! []
   dsimp! []
   refine zu (b:=b) (R.xd (Ag.ad J)) O.less.less (T.ad J) G fun B' Δ' x' R' O'=>?_
   simp! []
   have e2:Bk t (.start _ _ _)=startB t _ _ _:=if_neg (by rw [e];decide)
   rw [e2] at k
   exact k B' Δ' x'.ad_trans R' O'
  ·simp! []
   dsimp! []
   refine V2 (R.xd (Ag.ad J)) O (T.ad J) G (.inl ⟨_,_,_,rfl⟩) fun B' Δ' x' R' O'=>?_
   simp! []
   have e2:Bk t (.start _ _ _)=D5 t (.start _ _ _):=if_pos e
   rw [e2] at k
   exact k B' Δ' x'.ad_trans R' O'
 | fin h ha on =>
  dsimp! [im h]
  dsimp! []
  dsimp! []
  dsimp! []
  dsimp! []
  dsimp! []
  refine zl h on fun J=>?_
  haveI T:TokAt Δ a (.fin _):=TokAt.fin h ha on
  cases e:Cw (.fin _)
  ·simp! []
   dsimp! []
   dsimp! []
   refine zx (R.xd (Ag.ad J)) O (T.ad J) ?_
   cases e3:C5 t _
   ·simp! []
    dsimp! []
    refine zv (R.xd (Ag.ad J)) O (T.ad J) G fun B' Δ' x' R' O'=>?_
    simp! []
    haveI e2:Bk t (.fin _)=endB t _:=(if_neg (by rw [e];decide)).trans (if_neg (by rw [e3];decide))
    rw [e2] at k
    exact k B' Δ' x'.ad_trans R' O'
   ·simp! []
    dsimp! []
    have hr:=hroot _ rfl e3
    refine Ij (R.xd (Ag.ad J)) O hs fun B' R'=>?_
    simp! []
    have e2:Bk t (.fin _)={t with stack:=ss}:=((if_neg (by rw [e];decide)).trans (if_pos e3)).trans (by rw [hs];simp)
    rw [e2] at k
    refine k B' _ (Af.ad J) R' (O.less.less.less.less.less.cut (us:=[m]) hs ?_)
    intro q;subst q;rw [hs] at hr;simp at hr
  ·simp! []
   dsimp! []
   refine V2 (R.xd (Ag.ad J)) O (T.ad J) G (.inr ⟨_,rfl⟩) fun B' Δ' x' R' O'=>?_
   simp! []
   have e2:Bk t (.fin _)=D5 t (.fin _):=if_pos e
   rw [e2] at k
   exact k B' Δ' x'.ad_trans R' O'
end
section
variable {d b:Nat} {t:St} {B:Bs} {D:Ds} {Δ:List VR} {Q:V→H→Prop}
noncomputable def L6 (sp nm:Str) (as:List (Str×Str)) (tk:Tok):Bool:=match tk with
 | .chr _=>B9 sp nm||Em sp nm as
 | .start n _ _=>if B9 sp nm&&!(s "mglyph"==n||s "malignmark"==n) then true
  else if sp==s "math"&&(nm==s "annotation-xml"&&n==s "svg") then true else Em sp nm as
 | _=>false
noncomputable def turnP (sp nm:Str) (as:List (Str×Str)) (tk:Tok):Bool :=
 if sp==s "html" then true else L6 sp nm as tk
theorem V6 {sp nm:Str} {as:List (Str×Str)} {tk:Tok} (e:(sp==s "html")=false):turnP sp nm as tk=L6 sp nm as tk:=if_neg (e▸Bool.false_ne_true)
theorem Pb {sp nm:Str} {as:List (Str×Str)} {tk:Tok} (e:(sp==s "html")=true):turnP sp nm as tk=true:=if_pos e
theorem V7 {sp nm n:Str} {as as':List (Str×Str)} {c:Bool}:L6 sp nm as (.start n as' c)=if B9 sp nm&&!(s "mglyph"==n||s "malignmark"==n) then true else if sp==s "math"&&(nm==s "annotation-xml"&&n==s "svg") then true else Em sp nm as:=rfl
theorem V8 {sp nm n:Str} {as:List (Str×Str)}:L6 sp nm as (.chr n)=(B9 sp nm||Em sp nm as):=rfl
noncomputable def He (t:St) (tk:Tok):Bool:=turnP (t.nd t.adj).space (t.nd t.adj).name (t.nd t.adj).attrs tk
theorem V9 {tk:Tok} {x:Nd} (e:t.nd t.adj=x):He t tk=turnP x.space x.name x.attrs tk:=e▸rfl
theorem Wa {tk:Tok} {a:Nat} (R:RelB t B Δ) (O:StOk b t) {x:Nd} (hx:t.nodes[t.adj]?=some x) (e:(x.space==s "html")=true) (k:Q (.bool true) (hp B D Δ)) :
  Ca (d+5) (.con (.ref 673)) [.ref 8,.ref a] (hp B D Δ) Q:=by
 refine N4 ?_
 dsimp! []
 refine Gd R O hx ?_
 simp! [e]
 dsimp! []
 exact k
theorem zz {tk:Tok} {a:Nat} (R:RelB t B Δ) (O:StOk b t) (T:TokAt Δ a tk) (k:∀ J,Q (.bool (He t tk)) (hp B D (ad Δ J))) :
  Ca (d+5) (.con (.ref 673)) [.ref 8,.ref a] (hp B D Δ) Q:=by
 (refine Ad (Vf O) ?_;intro x hx)
 have N:=R.nv O hx
 have ex:=Bi hx
 cases e:x.space==s "html"
 ·rw [V9 ex,V6 e] at k
  refine N4 ?_
  induction T with
  | @start n as c aa vs h ha hr on =>
   rw [V7] at k
   dsimp! []
   refine Gd R O hx ?_
   simp! [e,im h]
   dsimp! []
   dsimp! []
   refine Gc R O ?_
   simp! []
   dsimp! [im h]
   dsimp! [im h]
   dsimp! []
   refine Ot N fun J=>?_
   have rest:∀ J:List Mine.O,(B9 x.space x.name&&!(s "mglyph"==n||s "malignmark"==n))=false →
     ws (Gw.body.drop 6) ⟨d+4,[some (.ref 8),some (.ref a),some (.ref 10),some (.int (t.adj:Int))],[]⟩ (hp B D (ad Δ J)) (rk Q):=by
    intro J e1
    rw [e1] at k
    simp only [Bool.false_eq_true,if_false] at k
    have last:∀ J:List Mine.O,(x.space==s "math"&&(x.name==s "annotation-xml"&&n==s "svg"))=false →
      ws (Gw.body.drop 7) ⟨d+4,[some (.ref 8),some (.ref a),some (.ref 10),some (.int (t.adj:Int))],[]⟩ (hp B D (ad Δ J)) (rk Q):=by
     intro J e2
     rw [e2] at k
     simp only [Bool.false_eq_true,if_false] at k
     dsimp! []
     refine Ou (N.ad J) fun J2=>?_
     simp! []
     exact k _
    cases e2:x.space==s "math"
    ·dsimp! [N.sp,N.ok.space.1,e2]
     exact last J (by rw [e2];rfl)
    ·cases e3:x.name==s "annotation-xml"
     ·dsimp! [N.sp,N.ok.space.1,e2,N.nm,N.ok.name.1,e3]
      exact last J (by rw [e2,e3];rfl)
     ·cases e4:n==s "svg"
      ·dsimp! [N.sp,N.ok.space.1,e2,N.nm,N.ok.name.1,e3,ima h,on,e4]
       exact last J (by rw [e2,e3,e4];rfl)
      ·dsimp! [N.sp,N.ok.space.1,e2,N.nm,N.ok.name.1,e3,ima h,on,e4]
       dsimp! []
       exact fin (k _) (by simp [e2,e3,e4]) rfl
   cases e1:B9 x.space x.name
   ·simp! []
    exact rest J (by rw [e1];rfl)
   ·simp! [ima h,on]
    cases e5:(s "mglyph"==n||s "malignmark"==n)
    ·simp! []
     dsimp! []
     exact fin (k _) (by simp [e1,e5]) rfl
    ·simp! []
     exact rest _ (by rw [e1,e5];rfl)
  | @fin n aa h ha on =>
   dsimp! []
   refine Gd R O hx ?_
   simp! [e,im h]
   dsimp! []
   dsimp! []
   refine Gc R O ?_
   simp! []
   dsimp! [im h]
   dsimp! [im h]
   dsimp! []
   exact fin (k []) rfl (by rw [Bm])
  | @chr c h on =>
   rw [V8] at k
   dsimp! []
   refine Gd R O hx ?_
   simp! [e,im h]
   dsimp! []
   dsimp! []
   refine Gc R O ?_
   simp! []
   dsimp! [im h]
   dsimp! []
   refine Ot N fun J=>?_
   cases e1:B9 x.space x.name
   ·rw [e1] at k
    simp! []
    refine Ou (N.ad J) fun J2=>?_
    simp! []
    exact fin (k _) (by simp) rfl
   ·rw [e1] at k
    simp! []
    exact k _
  | @com c h on =>
   dsimp! []
   refine Gd R O hx ?_
   simp! [e,im h]
   dsimp! []
   dsimp! []
   refine Gc R O ?_
   simp! []
   dsimp! [im h]
   dsimp! [im h]
   dsimp! []
   exact fin (k []) rfl (by rw [Bm])
  | dt h =>
   dsimp! []
   refine Gd R O hx ?_
   simp! [e,im h]
   dsimp! []
   dsimp! []
   refine Gc R O ?_
   simp! []
   dsimp! [im h]
   dsimp! [im h]
   dsimp! []
   exact fin (k []) rfl (by rw [Bm])
 ·rw [V9 ex,Pb e] at k
  exact Wa (tk:=tk) R O hx e (fin (k []) rfl (by rw [Bm]))
theorem z0 {a:Nat} (R:RelB t B Δ) (O:StOk b t) (T:At Δ a (.imm (.tuple [.str (s "eof")]))) (k:Q (.bool true) (hp B D Δ)) :
  Ca (d+5) (.con (.ref 673)) [.ref 8,.ref a] (hp B D Δ) Q:=by
 (refine Ad (Vf O) ?_;intro x hx)
 cases e:x.space==s "html"
 ·refine N4 ?_
  dsimp! []
  refine Gd R O hx ?_
  simp! [e,im T]
  dsimp! []
  exact k
 ·exact Wa (tk:=.dt) R O hx e k
end
noncomputable def Cb (t:St) (D:Ds) (Δ:List VR) (m:Nat) (v:V):Prop:=∃ y,t.nodes[m]?=some y ∧
 ((y.kind=s "element"∧y.par≠-1∧v=.ref (D.er m))∨(y.kind=s "text"∧v=.str y.text)∨(y.kind=s "comment"∧Rep Δ (.tuple [.str (s "comment"),.str y.text]) v))
noncomputable def A1 (t:St) (D:Ds) (Δ:List VR):List Nat→List V→Prop
 | [],vs=>vs=[]
 | m :: ms,vs=>∃ v us,vs=v :: us∧Cb t D Δ m v∧A1 t D Δ ms us
noncomputable def Bo (t:St) (n:Nat):Nat:=((t.nodes.take (n+1)).filter fun x=>x.kind==s "element").length
structure RelT (t:St) (D:Ds) (Δ:List VR):Prop where
 el:∀ (n:Nat) (x:Nd),t.nodes[n]?=some x→x.kind=s "element"→x.par≠-1→∃ da dk dp us,At Δ (D.er n) (.imm (.list [.str x.space,.str x.name,.ref da,.ref dk,.ref dp]))∧At Δ da (.imm (.list us))∧Ae Δ (Ak x.attrs) us∧At Δ dk (.ekid n)∧At Δ dp (.imm (.tuple ((D.path n).map fun (i:Nat)=>V.int (i:Int))))
 kids:∀ (n:Nat) (x:Nd),t.nodes[n]?=some x→x.kind=s "element"→x.par≠-1→A1 t D Δ (t.kids n) (D.ekid n)
 uniq:∀ a b n,At Δ a (.ekid n)→At Δ b (.ekid n)→a=b
 fresh:∀ a n,At Δ a (.ekid n)→n < t.nodes.length
 path1:D.path 1=[0]∧D.er 1=34
 plen:∀ (n:Nat) (x:Nd),t.nodes[n]?=some x→x.kind=s "element"→x.par≠-1→1≤(D.path n).length∧(D.path n).length≤Bo t n
 up:∀ (n:Nat) (x:Nd) (p:Nat),t.nodes[n]?=some x→x.kind=s "element"→x.par=(p:Int)→(p=0∧n=1)∨∃ y,t.nodes[p]?=some y∧y.kind=s "element"∧y.par≠-1
 pathS:∀ (n:Nat) (x:Nd) (p:Nat),0 < p→t.nodes[n]?=some x→x.kind=s "element"→x.par=(p:Int)→∃ i,(t.kids p)[i]?=some n∧D.path n=D.path p++[i]
structure RelD (t:St) (D:Ds) (Δ:List VR):Prop where
 tr:RelT t D Δ
 stack:∃ a,D.stack=.ref a∧At Δ a (.imm (.list (t.stack.map fun n=>V.ref (D.er n))))
 notes:Ae Δ t.notes D.notes
 fok:D.fok=t.fok
 ack:D.ack=t.ack
 att:∀ n∈t.stack,∃ x,t.nodes[n]?=some x∧x.kind=s "element"∧x.par≠-1
theorem Cb.xb {t:St} {D:Ds} {Δ Δ':List VR} {m:Nat} {v:V} (h:Cb t D Δ m v) (e:Af Δ Δ'):Cb t D Δ' m v:=by
 (refine Aa h ?_;try clear h;intro y h1 h2)
 exact ⟨y,h1,h2.imp id fun q=>q.imp id fun q=>⟨q.1,q.2.xb e⟩⟩
theorem A1.imp {t t':St} {D D':Ds} {Δ Δ':List VR}:∀ {ms:List Nat} {vs:List V},(∀ m∈ms,∀ v,Cb t D Δ m v→Cb t' D' Δ' m v)→A1 t D Δ ms vs→A1 t' D' Δ' ms vs
 | [],_,_,h=>h
 | m :: ms,_,k,⟨v,us,e,h,r⟩=>⟨v,us,e,k m (.head _) v h,A1.imp (fun m hm=>k m (.tail _ hm)) r⟩
theorem A1.snoc {t:St} {D:Ds} {Δ:List VR} {m:Nat} {v:V} (h:Cb t D Δ m v):∀ {ms:List Nat} {vs:List V},A1 t D Δ ms vs→A1 t D Δ (ms++[m]) (vs++[v])
 | [],_,e=>by cases e;exact ⟨v,[],rfl,h,rfl⟩
 | _ :: _,_,⟨x,us,e,hx,r⟩=>by subst e;exact ⟨x,us++[v],rfl,hx,A1.snoc h r⟩
theorem A1.len {t:St} {D:Ds} {Δ:List VR}:∀ {ms:List Nat} {vs:List V},A1 t D Δ ms vs→vs.length=ms.length
 | [],_,e=>by cases e;rfl
 | _ :: _,_,⟨x,us,e,hx,r⟩=>by subst e;simp [A1.len r]
theorem RelT.xb {t:St} {D:Ds} {Δ Δ':List VR} (R:RelT t D Δ) (e:Af Δ Δ'):RelT t D Δ' :=
 {R with
  el:=fun n x h1 h2 h3=>let ⟨da,dk,dp,us,a1,a2,a3,a4,a5⟩:=R.el n x h1 h2 h3;⟨da,dk,dp,us,a1.xb e,a2.xb e,a3.xb e,a4.xb e,a5.xb e⟩
  kids:=fun n x h1 h2 h3=>(R.kids n x h1 h2 h3).imp fun m _ v h=>h.xb e
  uniq:=fun a b n h h'=>R.uniq a b n (h.backB e) (h'.backB e)
  fresh:=fun a n h=>R.fresh a n (h.backB e)}
theorem RelD.xb {t:St} {D:Ds} {Δ Δ':List VR} (R:RelD t D Δ) (e:Af Δ Δ'):RelD t D Δ' :=
 {R with
  tr:=R.tr.xb e
  stack:=let ⟨a,h1,h2⟩:=R.stack;⟨a,h1,h2.xb e⟩
  notes:=R.notes.xb e}
section
variable {d b:Nat} {t:St} {B:Bs} {D:Ds} {Δ:List VR} {Q:V→H→Prop}
theorem ek {a n:Nat} (h:At Δ a (.ekid n)):(hp B D Δ)[a]?=some (.list (D.ekid n)):=Lq h
theorem eka {a n:Nat} {J:List Mine.O} (h:At Δ a (.ekid n)):(hp B D (ad Δ J))[a]?=some (.list (D.ekid n)):=Nz h
theorem Hf {σ:H} {a:Nat} {xs:List V} {v:V} (h:σ[a]?=some (.list (xs++[v]))):Ao σ (.ref a) (.int (-1))=some v:=by
 rw [Lu,h]
 exact T2
theorem z5 {r:FR} (h:r∈gm Δ):∃ a:Nat,(gm Δ)[a]?=some r:=List.getElem?_of_mem h
theorem z7 {N:Nat} {o0:Mine.O} {rest:List Mine.O} {er:Nat→Nat} {path:Nat→List Nat} (hN:∀ a,¬ At Δ a (.ekid N)) :
  hp B D (ad Δ (o0 :: .list [] :: rest))=hp B {D with ekid:=upd D.ekid N [],er:=er,path:=path} (Δ++(.imm o0 :: .ekid N :: rest.map .imm)):=by
 rw [G5,G5]
 haveI e1:gm (ad Δ (o0 :: .list [] :: rest))=gm Δ++(.v (.imm o0) :: .v (.imm (.list [])) :: rest.map fun o=>.v (.imm o)):=by
  simp [gm,ad,List.map_append,Function.comp_def]
 have e2:gm (Δ++(.imm o0 :: .ekid N :: rest.map .imm))=gm Δ++(.v (.imm o0) :: .v (.ekid N) :: rest.map fun o=>.v (.imm o)):=by
  simp [gm,List.map_append,Function.comp_def]
 rw [e1,e2,List.map_append,List.map_append]
 congr 1
 ·refine List.map_congr_left fun r hr=>?_
  (refine Ad (z5 hr) ?_;intro a ha)
  induction r with
  | v r =>
   induction r with
   | ekid m =>
    show O.list (D.ekid m)=O.list (upd D.ekid N [] m)
    rw [Dk]
    intro q
    subst q
    exact hN a ha
   | _=>rfl
  | _=>rfl
 ·simp only [List.map_cons,List.map_map]
  congr 1
  ·congr 1
   show O.list []=O.list (upd D.ekid N [] N)
   rw [Dj]
set_option tactic.hygienic true in
theorem Wb (R:RelT t D Δ) (O:StOk b t) {n:Nat} {y x:Nd} {v:V} (hy:t.nodes[n]?=some y) (hx:(x.kind=s "element")→False) (h:Cb (t.under n x) D Δ t.nodes.length v):RelT (t.under n x) {D with ekid:=upd D.ekid n (D.ekid n++[v])} Δ:=by
 have hn:=(List.getElem?_eq_some_iff.mp hy).1
 haveI en:=Bn (t:=t) (p:=n) (x:=x)
 haveI ek:∀ m,(t.under n x).kids m=if m=n then t.kids n++[t.nodes.length] else t.kids m:=fun m=>rfl
 have old:∀ {m:Nat} {z:Nd},(t.under n x).nodes[m]?=some z→z.kind=s "element"→t.nodes[m]?=some z:=fun {m z} h1 h2=>by
  rw [en] at h1
  focus (refine oe (D4 h1) ?_ ?_;rotate_left;(intro z_o;refine Ac z_o ?_;intro _ z_1;obtain rfl:=z_1);rotate_right;(intro q))
  ·exact q
  ·exact (hx h2).elim
 have kv:∀ (m:Nat) (v:V),Cb t D Δ m v→Cb (t.under n x) D Δ m v:=fun m v ⟨z,h1,h2⟩ =>
  ⟨z,by rw [en,List.getElem?_append_left (List.getElem?_eq_some_iff.mp h1).1];exact h1,h2⟩
 refine {el:=fun m z h1 h2 h3=>R.el m z (old h1 h2) h2 h3,kids:=?_,uniq:=R.uniq,fresh:=?_,path1:=R.path1,plen:=?_,up:=?_,pathS:=?_}
 ·intro m z h1 h2 h3
  have q:=R.kids m z (old h1 h2) h2 h3
  rw [ek]
  refine A1.imp (t:=t.under n x) (D:=D) (Δ:=Δ) (fun m _ v h=>h) ?_
  show A1 (t.under n x) D Δ _ (upd D.ekid n _ m)
  by_cases e:m=n
  ·subst e
   rw [if_pos rfl,Dj]
   exact A1.snoc h (q.imp fun m _ v=>kv m v)
  ·rw [if_neg e,Dk e]
   exact q.imp fun m _ v=>kv m v
 ·intro a m h1
  rw [en]
  haveI:=R.fresh a m h1
  simp;exact Do ‹_›
 ·intro m z h1 h2 h3
  haveI h4:=old h1 h2
  haveI e:Bo (t.under n x) m=Bo t m:=by
   unfold Bo
   rw [en,List.take_append_of_le_length (by have:=(List.getElem?_eq_some_iff.mp h4).1;assumption)]
  show 1≤(D.path m).length∧_
  rw [e]
  exact R.plen m z h4 h2 h3
 ·intro m z p h1 h2 h3
  focus (refine oe (R.up m z p (old h1 h2) h2 h3) ?_ ?_;rotate_left;(intro z_o;refine Au z_o ?_;intro w q1 q2 q3);rotate_right;(intro q))
  ·exact .inl q
  ·exact .inr ⟨w,by rw [en,List.getElem?_append_left (List.getElem?_eq_some_iff.mp q1).1];exact q1,q2,q3⟩
 ·intro m z p h0 h1 h2 h3
  (refine Aa (R.pathS m z p h0 (old h1 h2) h2 h3) ?_;intro i q1 q2)
  refine ⟨i,?_,q2⟩
  rw [ek]
  split
  ·rename_i e;subst e
   rw [List.getElem?_append_left (List.getElem?_eq_some_iff.mp q1).1];exact q1
  ·exact q1
end
section
variable {d b:Nat} {t:St} {B:Bs} {D:Ds} {Δ:List VR} {Q:V→H→Prop}
theorem Ag.el {N:Nat} {o0:Mine.O} {rest:List Mine.O}:Ag Δ (Δ++(.imm o0 :: .ekid N :: rest.map .imm)):=⟨_,rfl,by simp⟩
set_option tactic.hygienic true in
theorem z8 (R:RelD t D Δ) (O:StOk b t) {ss:List Nat} {n:Nat} {y:Nd} (hs:t.stack=ss++[n]) (hy:t.nodes[n]?=some y) {sp nm:Str} {as:List (Str×Str)} {us:List V} (hr:Ae Δ (Ak as) us) {junk tl:Mine.O} {D':Ds} {Δ':List VR}
  (hΔ:Δ'=Δ++(.imm (.list us) :: .ekid t.nodes.length :: ([junk,.tuple (((D.path n).map fun (i:Nat)=>V.int (i:Int))++[.int ((D.ekid n).length:Int)]),.list [.str sp,.str nm,.ref (sz Δ),.ref (sz Δ+1),.ref (sz Δ+3)],tl,.list ((t.stack.map fun n=>V.ref (D.er n))++[.ref (sz Δ+4)])]:List Mine.O).map .imm))
  (hD:D'={D with ekid:=upd (upd D.ekid n (D.ekid n++[.ref (sz Δ+4)])) t.nodes.length [],er:=upd D.er t.nodes.length (sz Δ+4),path:=upd D.path t.nodes.length (D.path n++[(D.ekid n).length]),stack:=.ref (sz Δ+6)}) :
  RelD (t.enter (Al sp nm as)) D' Δ':=by
 have hn:=(List.getElem?_eq_some_iff.mp hy).1
 haveI h2:=O.two
 have et:t.stack.getLast?.getD 0=n:=by rw [hs];simp
 have en:(t.enter (Al sp nm as)).nodes=t.nodes++[{Al sp nm as with par:=(n:Int)}]:=by
  show (t.under _ _).nodes=_
  rw [et];exact Bn
 have ek:∀ m,(t.enter (Al sp nm as)).kids m=if m=n then t.kids n++[t.nodes.length] else t.kids m:=fun m=>by
  show (t.under _ _).kids m=_
  rw [et];rfl
 have ext:Ag Δ Δ':=by rw [hΔ];exact Ag.el
 have new:∀ {k:Nat} {r:VR},(VR.imm (.list us) :: .ekid t.nodes.length :: ([junk,.tuple (((D.path n).map fun (i:Nat)=>V.int (i:Int))++[.int ((D.ekid n).length:Int)]),.list [.str sp,.str nm,.ref (sz Δ),.ref (sz Δ+1),.ref (sz Δ+3)],tl,.list ((t.stack.map fun n=>V.ref (D.er n))++[.ref (sz Δ+4)])]:List Mine.O).map VR.imm)[k]?=some r→At Δ' (sz Δ+k) r:=fun h=>by
  rw [hΔ];exact At.new h
 have ner:∀ {m:Nat},m < t.nodes.length→D'.er m=D.er m:=fun h=>by rw [hD];exact Dk (Nat.ne_of_lt h)
 have npa:∀ {m:Nat},m < t.nodes.length→D'.path m=D.path m:=fun h=>by rw [hD];exact Dk (Nat.ne_of_lt h)
 have erN:D'.er t.nodes.length=sz Δ+4:=by rw [hD];exact Dj
 have paN:D'.path t.nodes.length=D.path n++[(D.ekid n).length]:=by rw [hD];exact Dj
 have lt_of:∀ {m:Nat} {z:Nd},t.nodes[m]?=some z→m < t.nodes.length:=fun h=>(List.getElem?_eq_some_iff.mp h).1
 have cas:∀ {m:Nat} {z:Nd},(t.enter (Al sp nm as)).nodes[m]?=some z→t.nodes[m]?=some z∨(m=t.nodes.length∧z={Al sp nm as with par:=(n:Int)}):=fun {m z} h=>by
  rw [en] at h;exact D4 h
 have kv:∀ (m:Nat) (v:V),Cb t D Δ m v→Cb (t.enter (Al sp nm as)) D' Δ' m v:=fun m v ⟨z,h1,h2⟩=>by
  refine ⟨z,by rw [en,List.getElem?_append_left (lt_of h1)];exact h1,?_⟩
  rw [ner (lt_of h1)]
  exact h2.imp id fun q=>q.imp id fun q=>⟨q.1,q.2.xd ext⟩
 have back:∀ {a m:Nat},At Δ' a (.ekid m)→At Δ a (.ekid m)∨(a=sz Δ+1∧m=t.nodes.length):=by
  intro a m h
  rw [hΔ] at h
  focus (refine oe (L0 h) ?_ ?_;rotate_left;(intro z_o;refine Aa z_o ?_;intro k z_1 hk;obtain rfl:=z_1);rotate_right;(intro z_o;refine Ac z_o ?_;intro _ q))
  ·exact .inl q
  ·match k,hk with
   | 0,hk=>cases hk
   | 1,hk=>cases hk;exact .inr ⟨rfl,rfl⟩
   | 2,hk=>cases hk
   | 3,hk=>cases hk
   | 4,hk=>cases hk
   | 5,hk=>cases hk
   | 6,hk=>cases hk
   | k+7,hk=>simp at hk
 (refine Au (R.att n (by rw [hs];simp)) ?_;intro y' hy' hk hp')
 rw [hy] at hy'
 cases hy'
 have hkl:(D.ekid n).length=(t.kids n).length:=(R.tr.kids n y hy hk hp').len
 have nr:(n:Int)≠-1:=fun e=>nomatch e
 refine {tr:=?_,stack:=?_,notes:=?_,fok:=?_,ack:=?_,att:=?_}
 ·refine {el:=?_,kids:=?_,uniq:=?_,fresh:=?_,path1:=?_,plen:=?_,up:=?_,pathS:=?_}
  ·intro m z h1 h2 h3
   focus (refine oe (cas h1) ?_ ?_;rotate_left;(intro z_o;refine Ac z_o ?_;intro z_0 z_1;obtain rfl:=z_0;obtain rfl:=z_1);rotate_right;(intro q))
   ·(refine Gr (R.tr.el m z q h2 h3) ?_;intro da dk dp us' a1 a2 a3 a4 a5)
    rw [ner (lt_of q),npa (lt_of q)]
    exact ⟨da,dk,dp,us',a1.xd ext,a2.xd ext,a3.xd ext,a4.xd ext,a5.xd ext⟩
   ·rw [erN,paN]
    refine ⟨sz Δ,sz Δ+1,sz Δ+3,us,new rfl,new (k:=0) rfl,hr.xd ext,new rfl,?_⟩
    refine new ?_
    simp
  ·intro m z h1 h2 h3
   rw [ek]
   focus (refine oe (cas h1) ?_ ?_;rotate_left;(intro z_o;refine Ac z_o ?_;intro z_0 z_1;obtain rfl:=z_0;obtain rfl:=z_1);rotate_right;(intro q))
   ·have hm:=lt_of q
    have qq:=R.tr.kids m z q h2 h3
    have e1:D'.ekid m=upd D.ekid n (D.ekid n++[.ref (sz Δ+4)]) m:=by rw [hD];exact Dk (Nat.ne_of_lt hm)
    rw [e1]
    by_cases e:m=n
    ·subst e
     rw [if_pos rfl,Dj]
     refine A1.snoc ?_ (qq.imp fun m _ v=>kv m v)
     refine ⟨{Al sp nm as with par:=(m:Int)},by rw [en];simp,.inl ⟨rfl,nr,by rw [erN]⟩⟩
    ·rw [if_neg e,Dk e]
     exact qq.imp fun m _ v=>kv m v
   ·rw [if_neg (Nat.ne_of_gt hn),O.none _ (Nat.le_refl _)]
    show D'.ekid t.nodes.length=[]
    rw [hD]
    exact Dj
  ·intro a c m h h'
   focus (refine oe (back h) ?_ ?_;rotate_left;(intro z_o;refine Ac z_o ?_;intro q r);rotate_right;(intro q))<;>focus (refine oe (back h') ?_ ?_;rotate_left;(intro z_o;refine Ac z_o ?_;intro q' r');rotate_right;(intro q'))
   ·exact R.tr.uniq a c m q q'
   ·have:=R.tr.fresh a m q;exact Hl ‹_› ‹_›
   ·have:=R.tr.fresh c m q';exact Hl ‹_› ‹_›
   ·rw [q,q']
  ·intro a m h
   rw [en]
   focus (refine oe (back h) ?_ ?_;rotate_left;(intro z_o;refine Ac z_o ?_;intro q r);rotate_right;(intro q))
   ·have:=R.tr.fresh a m q;simp;exact Do ‹_›
   ·rw [r,List.length_append];exact Nat.lt_succ_self _
  ·rw [npa ‹_›,ner ‹_›];exact R.tr.path1
  ·intro m z h1 h2 h3
   focus (refine oe (cas h1) ?_ ?_;rotate_left;(intro z_o;refine Ac z_o ?_;intro z_0 z_1;obtain rfl:=z_0;obtain rfl:=z_1);rotate_right;(intro q))
   ·rw [npa (lt_of q)]
    have e:Bo (t.enter (Al sp nm as)) m=Bo t m:=by
     unfold Bo
     rw [en,List.take_append_of_le_length (by have:=lt_of q;assumption)]
    rw [e];exact R.tr.plen m z q h2 h3
   ·rw [paN]
    have h5:=R.tr.plen n y hy hk hp'
    have e:Bo (t.enter (Al sp nm as)) t.nodes.length=(t.nodes.filter fun x=>x.kind==s "element").length+1:=by
     unfold Bo
     rw [en,List.take_of_length_le (by simp),List.filter_append,List.length_append]
     rfl
    have h6:Bo t n≤(t.nodes.filter fun x=>x.kind==s "element").length :=
     ((List.take_sublist (n+1) t.nodes).filter _).length_le
    rw [e,List.length_append]
    exact ⟨Nat.succ_le_succ (Nat.zero_le _),Nat.succ_le_succ (Nat.le_trans h5.2 h6)⟩
  ·intro m z p h1 h2 h3
   focus (refine oe (cas h1) ?_ ?_;rotate_left;(intro z_o;refine Ac z_o ?_;intro z_0 z_1;obtain rfl:=z_0;obtain rfl:=z_1);rotate_right;(intro q))
   ·focus (refine oe (R.tr.up m z p q h2 h3) ?_ ?_;rotate_left;(intro z_o;refine Au z_o ?_;intro w q1 q2 q3);rotate_right;(intro q0))
    ·exact .inl q0
    ·exact .inr ⟨w,by rw [en,List.getElem?_append_left (lt_of q1)];exact q1,q2,q3⟩
   ·have e:(n:Int)=(p:Int):=h3
    have e':p=n:=by exact Mo ‹_›
    subst e'
    exact .inr ⟨y,by rw [en,List.getElem?_append_left hn];exact hy,hk,hp'⟩
  ·intro m z p h0 h1 h2 h3
   focus (refine oe (cas h1) ?_ ?_;rotate_left;(intro z_o;refine Ac z_o ?_;intro z_0 z_1;obtain rfl:=z_0;obtain rfl:=z_1);rotate_right;(intro q))
   ·(refine Aa (R.tr.pathS m z p h0 q h2 h3) ?_;intro i q1 q2)
    have hpm:p < t.nodes.length:=by
     focus (refine oe (O.par m z q) ?_ ?_;rotate_left;(intro z_o;refine Aa z_o ?_;intro p' q3 q4);rotate_right;(intro q3))
     ·exact absurd (Int.natCast_nonneg p) (by rw [h3.symm.trans q3];decide)
     ·exact Mn (h3.symm.trans q3)▸Nat.lt_trans q4 (lt_of q)
    refine ⟨i,?_,by rw [npa (lt_of q),npa hpm];exact q2⟩
    rw [ek]
    split
    ·rename_i e;subst e
     rw [List.getElem?_append_left (List.getElem?_eq_some_iff.mp q1).1];exact q1
    ·exact q1
   ·have e:(n:Int)=(p:Int):=h3
    have e':p=n:=by exact Mo ‹_›
    subst e'
    refine ⟨(t.kids p).length,?_,by rw [paN,npa hn,hkl]⟩
    rw [ek,if_pos rfl]
    simp
 ·refine ⟨sz Δ+6,by rw [hD],?_⟩
  have:(t.enter (Al sp nm as)).stack.map (fun n=>V.ref (D'.er n))=(t.stack.map fun n=>V.ref (D.er n))++[.ref (sz Δ+4)]:=by
   show (t.stack++[t.nodes.length]).map _=_
   rw [List.map_append]
   congr 1
   ·exact List.map_congr_left fun m hm=>by rw [ner (O.sin m hm).2]
   ·simp [erN]
  rw [this]
  exact new rfl
 ·rw [hD];exact R.notes.xd ext
 ·rw [hD];exact R.fok
 ·rw [hD];exact R.ack
 ·intro m hm
  have hm':m∈t.stack++[t.nodes.length]:=hm
  refine oe (List.mem_append.mp hm') (fun q=>?_) (fun q=>?_)
  ·(refine Au (R.att m q) ?_;intro z h1 h2 h3)
   exact ⟨z,by rw [en,List.getElem?_append_left (lt_of h1)];exact h1,h2,h3⟩
  ·simp at q;subst q
   exact ⟨{Al sp nm as with par:=(n:Int)},by rw [en];simp,rfl,nr⟩
theorem Pc (R:RelD t D Δ) (O:StOk b t) {sp nm:Str} {as:List (Str×Str)} {pa:Nat} {o:Mine.O} {us:List V} (ha:At Δ pa (.imm o)) (ho:o=.list us∨o=.tuple us) (hr:Ae Δ (Ak as) us) (hl:as.length≤1000)
  (k:∀ D' Δ',Ag Δ Δ'→RelD (t.enter (Al sp nm as)) D' Δ'→Q .none (hp B D' Δ')):Ca (d+1) (.con (.ref 739)) [.ref 37,.str sp,.str nm,.ref pa] (hp B D Δ) Q:=by
 refine qt ?_
 (refine A3 (C4 O) ?_;intro ss n hs)
 (refine Au (R.att n (by rw [hs];simp)) ?_;intro y hy hk hp')
 (refine Aa R.stack ?_;intro sa hsa hA0)
 haveI hA:At Δ sa (.imm (.list ((ss.map fun n=>V.ref (D.er n))++[V.ref (D.er n)]))):=by rw [hs] at hA0;simpa using hA0
 haveI hsl:(t.stack.map fun n=>V.ref (D.er n)).length+1≤100000:=by have:=O.slen;simp;exact o_1 ‹_› (by exact rfl)
 (refine Gr (R.tr.el n y hy hk hp') ?_;intro da dk dp us' a1 a2 a3 a4 a5)
 haveI hkl:(D.ekid n).length=(t.kids n).length:=(R.tr.kids n y hy hk hp').len
 haveI hkl2:(D.ekid n).length≤100000:=by have:=O.klen n;have:=O.len;exact o_3 ‹_› ‹_› ‹_› (by exact rfl)
 haveI htop:=fun (B:Bs) (D':Ds)=>Hf (im (B:=B) (D:=D') hA)
 haveI hpl1:((D.path n).map fun (i:Nat)=>V.int (i:Int)).length+1≤100000:=by
  haveI:=R.tr.plen n y hy hk hp'
  haveI h1:Bo t n≤t.nodes.length:=Nat.le_trans (List.length_filter_le _ _) (List.length_take_le' _ _)
  rw [List.length_map]
  exact Hj (Nat.le_trans this.2 (Nat.le_trans h1 (Nat.le_trans (Nat.le_add_right _ _) O.len))) rfl
 haveI hpl2:((D.path n).map fun (i:Nat)=>V.int (i:Int)).isEmpty=false:=by
  haveI:=R.tr.plen n y hy hk hp'
  cases h:D.path n with
  | nil=>rw [h] at this;simp at this
  | cons _ _=>rfl
 haveI hdk4:=Ow a4
 haveI hset:=fun (xs:List V) (J:List Mine.O) (B:Bs)=>Ox (B:=B) (D:=D) (xs:=xs) (a4.ad J) fun c hc=>R.tr.uniq c dk n (hc.backB (Af.ad J)) a4
 haveI main:∀ (o:Mine.O),o=.list us∨o=.tuple us→At Δ pa (.imm o)→ws Hs.body ⟨d,[some (.ref 37),some (.str sp),some (.str nm),some (.ref pa),none,none],[]⟩ (hp B D Δ) (rk Q):=by
  intro o ho ha
  dsimp! [hsa,htop]
  focus (refine oe ho ?_ ?_;rotate_left;(try clear ho;intro z_o;obtain rfl:=z_o);rotate_right;(try clear ho;intro z_o;obtain rfl:=z_o))
  all_goals
   dsimp! [im ha,im a1,ima a1,eka a4,hkl2,ima a5,hpl1,hpl2]
   dsimp! [ima a1,Ej (eka a4),eka a4,hkl2,hdk4,hset]
   dsimp! [hsa,ima hA0,hsl]
   rw [z7 (D:={D with ekid:=upd D.ekid n (D.ekid n++[V.ref (sz Δ+4)]),stack:=.ref (sz Δ+6)}) (N:=t.nodes.length) (er:=upd D.er t.nodes.length (sz Δ+4)) (path:=upd D.path t.nodes.length (D.path n++[(D.ekid n).length])) (fun a h=>absurd (R.tr.fresh a _ h) (Nat.lt_irrefl _))]
   exact k _ _ Ag.el (z8 R O hs hy hr rfl rfl)
 exact main o ho ha
end
structure EV (Δ:List VR) (ea:Nat) (sp nm:Str) (as:List (Str×Str)):Prop where
 el:∃ da us rest,At Δ ea (.imm (.list (.str sp :: .str nm :: .ref da :: rest)))∧rest.length≤10∧At Δ da (.imm (.list us))∧Ae Δ (Ak as) us
 osp:SOk sp
 onm:SOk nm
 asc:Bd nm=true
 oas:Fd as
theorem EV.app {Δ:List VR} {ea:Nat} {sp nm:Str} {as:List (Str×Str)} (E:EV Δ ea sp nm as) (J:List VR):EV (Δ++J) ea sp nm as :=
 {E with el:=let ⟨da,us,rest,h1,h2,h3,h4⟩:=E.el;⟨da,us,rest,h1.app J,h2,h3.app J,h4.app J⟩}
theorem EV.ad {Δ:List VR} {ea:Nat} {sp nm:Str} {as:List (Str×Str)} (E:EV Δ ea sp nm as) (J:List O):EV (Mine.Y.ad Δ J) ea sp nm as:=E.app _
section
variable {d b:Nat} {t:St} {B:Bs} {D:Ds} {Δ:List VR} {Q:V→H→Prop} {ea:Nat} {sp nm:Str} {as:List (Str×Str)}
theorem Pd {σ:H} {a k:Nat} {vs:List V} {v:V} {i:Int} (h:σ[a]?=some (.list vs)) (hi:i=(k:Int)) (hv:vs[k]?=some v):Ao σ (.ref a) (.int i)=some v:=by
 subst hi;exact B8 h hv
theorem EV.i0 (E:EV Δ ea sp nm as):Ao (hp B D Δ) (.ref ea) (.int 0)=some (.str sp):=by
 (refine Hn E.el ?_;intro da us rest h1 h2 h3 h4)
 exact Pd (k:=0) (im h1) rfl rfl
theorem EV.i1 (E:EV Δ ea sp nm as):Ao (hp B D Δ) (.ref ea) (.int 1)=some (.str nm):=by
 (refine Hn E.el ?_;intro da us rest h1 h2 h3 h4)
 exact Pd (k:=1) (im h1) rfl rfl
theorem EV.i0a (E:EV Δ ea sp nm as) {J:List Mine.O}:Ao (hp B D (Mine.Y.ad Δ J)) (.ref ea) (.int 0)=some (.str sp):=(E.ad J).i0
theorem EV.i1a (E:EV Δ ea sp nm as) {J:List Mine.O}:Ao (hp B D (Mine.Y.ad Δ J)) (.ref ea) (.int 1)=some (.str nm):=(E.ad J).i1
theorem RelD.ev (R:RelD t D Δ) (O:StOk b t) {n:Nat} {x:Nd} (hx:t.nodes[n]?=some x) (hk:x.kind=s "element") (hp':x.par≠-1):EV Δ (D.er n) x.space x.name x.attrs:=by
 (refine Gr (R.tr.el n x hx hk hp') ?_;intro da dk dp us h1 h2 h3 h4 h5)
 haveI N:=O.nd n x hx
 exact ⟨⟨da,us,[.ref dk,.ref dp],h1,by simp,h2,h3⟩,N.space,N.name,N.asc,N.attrs⟩
theorem Wc (E:EV Δ ea sp nm as) (k:∀ J,Q (.bool (B9 sp nm)) (hp B D (ad Δ J))):Ca (d+1) (.con (.ref 708)) [.ref ea] (hp B D Δ) Q:=by
 refine qj ?_
 cases h:sp==s "math"
 ·dsimp! [E.i0,E.i1,h]
  exact fin (k []) (by simp [B9,h]) (by rw [Bm])
 ·dsimp! [E.i0,E.i1,h]
  refine fin (k _) ?_ rfl
  simp only [B9,h,Bool.true_and,List.any_cons,List.any_nil,Bool.or_false]
  congr 1
  cases s "mi"==nm<;>cases s "mo"==nm<;>cases s "mn"==nm<;>cases s "ms"==nm<;>cases s "mtext"==nm<;>rfl
theorem Pe {σ:H} {p dp:Nat} {x y:V} {a c:Option V} {cl:List Nat} (h:σ[p]?=some (.tuple [x,y])):Fp ⟨dp,[a,c],cl⟩ [0,1] false (.ref p) σ=some [some x,some y]:=by
 show (match σ[p]? with | some (O.tuple vs)=>Cj [0,1] vs [a,c] | _=>none)=_
 rw [h]
 rfl
theorem Io {σ:H} {dp:Nat} {x:V} {a:Option V} {cl:List Nat}:Fp ⟨dp,[a],cl⟩ [0] true x σ=some [some x]:=rfl
noncomputable def Bv (as:List (Str×Str)):List Str:=(as.filter fun p=>p.1==s "encoding").map fun p=>A5 p.2
theorem Aaa {j:Nat} {p:Str×Str} (h:as[j]?=some p):Bv (as.take (j+1))=Bv (as.take j)++(if p.1==s "encoding" then [A5 p.2] else []):=by
 unfold Bv
 rw [List.take_add_one,h,List.filter_append,List.map_append]
 congr 1
 cases e:p.1==s "encoding"<;>simp [e]
theorem Aab {da:Nat} {us:List V} (ha:At Δ da (.imm (.list us))) (hr:Ae Δ (Ak as) us) (oas:Fd as) {K:H→Prop} (k:K (hp B D (ad Δ [.list ((Bv as).map .str)]))) :
  ∀ (rest:List (Str×Str)) (j:Nat) (x y:Option V),as.drop j=rest →
   Co ⟨d,[x,y],[]⟩ [0,1] false (.li da j) (some (.cmp (.loc 0) [.Eq] [(.cst (.str (s "encoding")))])) (.meth (.loc 1) 5 []) (sz Δ) (hp B D (ad Δ [.list ((Bv (as.take j)).map .str)])) K:=by
 intro rest
 induction rest with
 | nil =>
  intro j x y hj
  refine E5 (F7 (ima ha) (F9 hr (Di hj))) ?_
  haveI e:as.take j=as:=List.take_of_length_le (by have:=congrArg List.length hj;simp at this;with_reducible exact Dn ‹_›)
  rw [e];exact k
 | cons p rest ih =>
  intro j x y hj
  (refine Ac (Dh hj) ?_;intro hp' hd)
  (refine Ck (Fa hr hp') ?_;intro c hc hC o1 o2)
  (refine As (oas.1 p (List.mem_of_getElem? hp')) ?_;intro w1 w2 w3)
  haveI hl:p.2.length≤100000:=by have:=w2.2;exact o_0 ‹_› (by exact rfl)
  haveI hll:((Bv (as.take j)).map V.str).length≤100000:=by
   haveI h1:=oas.2.1
   haveI h2:=List.length_filter_le (fun p:Str×Str=>p.1==s "encoding") (as.take j)
   simp [Bv] at h2 ⊢
   exact Qd ‹_› ‹_› (by exact rfl)
  refine E6 (F6 (ima ha) hc) (Pe (ima hC)) ?_
  haveI et:=Aaa hp'
  cases e:p.1==s "encoding"
  ·rw [e] at et
   simp only [Bool.false_eq_true,if_false,List.append_nil] at et
   simp! [Dc,o1,e]
   rw [← et]
   exact ih (j+1) _ _ hd
  ·rw [e] at et
   simp only [if_true] at et
   simp! [Dc,o1,e,hl,Ie w3,hll]
   haveI:(Bv (as.take j)).map V.str++[.str (A5 p.2)]=(Bv (as.take (j+1))).map V.str:=by rw [et];simp
   rw [this]
   exact ih (j+1) _ _ hd
noncomputable def L7 (sp nm:Str) (as:List (Str×Str)):Bool :=
 if sp==s "svg" then [s "title",s "desc",s "foreignObject"].any (·==nm)
 else if sp==s "html"||!(nm==s "annotation-xml") then false
 else PyData.eqv (.list [.str (s "application/xhtml+xml")]) (.list ((Bv as).map .str))||PyData.eqv (.list [.str (s "text/html")]) (.list ((Bv as).map .str))
theorem We (E:EV Δ ea sp nm as) (k:∀ J,Q (.bool (L7 sp nm as)) (hp B D (ad Δ J))):Ca (d+1) (.con (.ref 713)) [.ref ea] (hp B D Δ) Q:=by
 refine ql ?_
 haveI os:=E.osp.1
 haveI on:=E.onm.1
 unfold L7 at k
 cases h:sp==s "svg"
 ·rw [h] at k
  dsimp! [E.i0,E.i1,os,on,h]
  cases h1:sp==s "html"
  ·cases h2:nm==s "annotation-xml"
   ·rw [h1,h2] at k
    dsimp! [E.i0,E.i1,os,on,h1,h2]
    dsimp! []
    exact fin (k []) rfl (by rw [Bm])
   ·rw [h1,h2] at k
    dsimp! [E.i0,E.i1,os,on,h1,h2]
    (refine Hn E.el ?_;intro da us rest a1 a2 a3 a4)
    haveI i2:∀ {B:Bs} {D:Ds},Ao (hp B D Δ) (.ref ea) (.int 2)=some (.ref da):=fun {B D}=>Pd (k:=2) (im a1) rfl rfl
    dsimp! [i2,im a3,Du,Dv,List.replicate]
    refine Aab a3 a4 E.oas ?_ as 0 none none rfl
    simp! []
    haveI ot:∀ w∈Bv as,PyData.strOk w=true:=by
     intro w hw
     (refine Aa (List.mem_map.mp hw) ?_;intro p hp' z_2;obtain rfl:=z_2)
     exact Gb (E.oas.1 p (List.mem_filter.mp hp').1).2.1.1
    haveI hpd:∀ (J:List Mine.O) (B:Bs) (D:Ds),pd (hp B D (ad Δ (.list ((Bv as).map .str) :: J))) Ax (.ref (sz Δ))=some (.list ((Bv as).map .str)):=by
     intro J B D
     show pd _ (29+1) _=_
     rw [Es,Ia]
     simp only [List.getElem?_cons_zero]
     rw [Oo ot]
     rfl
    haveI p0:=fun (B:Bs) (D:Ds)=>hpd [.list [.str (s "application/xhtml+xml")],.list [.str (s "text/html")],.list [.ref (sz Δ+1),.ref (sz Δ+2)]] B D
    haveI hp1:∀ (w:String) (J:List Mine.O) (n:Nat) (B:Bs) (D:Ds) (_:J[n]?=some (.list [.str (s w)])),pd (hp B D (ad Δ J)) Ax (.ref (sz Δ+n))=some (.list [.str (s w)]):=by
     intro w J n B D h
     show pd _ (29+1) _=_
     rw [Es,De,h]
     simp only [Ei,Df,E8 Ap]
     rfl
    haveI p1:=fun (B:Bs) (D:Ds)=>hp1 "application/xhtml+xml" [.list ((Bv as).map .str),.list [.str (s "application/xhtml+xml")],.list [.str (s "text/html")],.list [.ref (sz Δ+1),.ref (sz Δ+2)]] 1 B D rfl
    haveI p2:=fun (B:Bs) (D:Ds)=>hp1 "text/html" [.list ((Bv as).map .str),.list [.str (s "application/xhtml+xml")],.list [.str (s "text/html")],.list [.ref (sz Δ+1),.ref (sz Δ+2)]] 2 B D rfl
    dsimp! [p0,p1,p2]
    exact k _
  ·rw [h1] at k
   dsimp! [E.i0,E.i1,os,on,h1]
   dsimp! []
   exact fin (k []) rfl (by rw [Bm])
 ·rw [h] at k
  dsimp! [E.i0,E.i1,os,on,h]
  dsimp! [E.i0,E.i1,os,on,h]
  exact fin (k _) (by simp) rfl
theorem Aac {P:Str×Str→Bool} {as:List (Str×Str)} (h:(as.filter P).length≤1):(as.filter P=[]∧as.find? P=none)∨∃ p,as.filter P=[p]∧as.find? P=some p:=by
 cases e:as.filter P with
 | nil =>
  refine .inl ⟨rfl,?_⟩
  rw [List.find?_eq_none]
  intro x hx hP
  have:x∈as.filter P:=List.mem_filter.mpr ⟨hx,hP⟩
  rw [e] at this
  cases this
 | cons p r =>
  rw [e] at h
  have:r=[]:=by cases r with | nil=>rfl | cons _ _=>simp at h
  subst this
  refine .inr ⟨p,rfl,?_⟩
  haveI h1:(as.filter P).head?=some p:=by rw [e];rfl
  rw [List.head?_filter] at h1
  exact h1
theorem Wf (E:EV Δ ea sp nm as) (hsp:sp=s "svg"∨sp=s "math"∨sp=s "html"):L7 sp nm as=Em sp nm as:=by
 unfold L7 Em
 rcases hsp with rfl | rfl | rfl
 ·simp only [beq_self_eq_true,if_true,List.any_cons,List.any_nil,Bool.or_false]
  cases s "title"==nm<;>cases s "desc"==nm<;>cases s "foreignObject"==nm<;>rfl
 ·haveI e1:(s "math"==s "svg")=false:=by decide +kernel
  haveI e2:(s "math"==s "html")=false:=by decide +kernel
  simp only [e1,e2,beq_self_eq_true,Bool.false_or,Bool.not_true,Bool.false_eq_true,if_false]
  cases h:nm==s "annotation-xml"
  ·rfl
  ·simp only [Bool.not_true,Bool.false_eq_true,if_false]
   focus (refine oe (Aac E.oas.2.2) ?_ ?_;rotate_left;(intro z_o;refine Aa z_o ?_;intro p f1 f2);rotate_right;(intro z_o;refine Ac z_o ?_;intro f1 f2))
   ·simp [Bv,Be,f1,f2,PyData.eqv,PyData.eqvAll]
   ·simp only [Bv,Be,f1,f2,List.map_cons,List.map_nil,Option.map_some,PyData.eqv,PyData.eqvAll,Bool.and_true,List.any_cons,List.any_nil,Bool.or_false]
    rw [Bool.or_comm]
 ·haveI e1:(s "html"==s "svg")=false:=by decide +kernel
  haveI e2:(s "html"==s "math")=false:=by decide +kernel
  simp only [e1,e2,beq_self_eq_true,Bool.true_or,if_true,Bool.not_false,Bool.false_eq_true,if_false]
theorem Wg (E:EV Δ ea sp nm as) (hsp:sp=s "svg"∨sp=s "math"∨sp=s "html") (k:∀ J,Q (.bool (C3 sp nm as)) (hp B D (ad Δ J))):Ca (d+2) (.con (.ref 720)) [.ref ea] (hp B D Δ) Q:=by
 refine qn ?_
 haveI os:=E.osp.1
 cases h:sp==s "html"
 ·dsimp! [E.i0,os,h]
  refine Wc E fun J=>?_
  cases h1:B9 sp nm
  ·simp! []
   refine We (E.ad J) fun J2=>?_
   simp! []
   refine fin (k _) ?_ rfl
   rw [C3,h,h1,Wf E hsp];rfl
  ·simp! []
   refine fin (k _) ?_ rfl
   rw [C3,h,h1];rfl
 ·dsimp! [E.i0,os,h]
  refine fin (k []) ?_ (by rw [Bm])
  rw [C3,h];rfl
theorem Aad {tk:Tok} {a:Nat} (E:EV Δ ea sp nm as) (hsp:sp=s "svg"∨sp=s "math"∨sp=s "html") (T:TokAt Δ a tk) (k:∀ J,Q (.bool (turnP sp nm as tk)) (hp B D (ad Δ J))) :
  Ca (d+3) (.con (.ref 727)) [.ref ea,.ref a] (hp B D Δ) Q:=by
 refine qp ?_
 haveI os:=E.osp.1
 haveI om:=E.onm.1
 cases h:sp==s "html"
 ·rw [V6 h] at k
  induction T with
  | @start n as' c aa vs ht ha hr on =>
   rw [V7] at k
   dsimp! [im ht]
   dsimp! [E.i0,os,h]
   dsimp! []
   dsimp! []
   dsimp! []
   refine Wc E fun J=>?_
   have last:∀ J:List Mine.O,(B9 sp nm&&!(s "mglyph"==n||s "malignmark"==n))=false →
     ws (Fs.body.drop 5) ⟨d+2,[some (.ref ea),some (.ref a),some (.str (s "start"))],[]⟩ (hp B D (ad Δ J)) (rk Q):=by
    intro J e1
    simp only [e1] at k
    have fin':∀ J:List Mine.O,(sp==s "math"&&(nm==s "annotation-xml"&&n==s "svg"))=false →
      ws (Fs.body.drop 6) ⟨d+2,[some (.ref ea),some (.ref a),some (.str (s "start"))],[]⟩ (hp B D (ad Δ J)) (rk Q):=by
     intro J e2
     simp only [e2] at k
     dsimp! []
     refine We (E.ad J) fun J2=>?_
     simp! []
     rw [Wf E hsp]
     exact k _
    cases e2:sp==s "math"
    ·dsimp! [E.i0a,os,e2]
     exact fin' J (by rw [e2];rfl)
    ·cases e3:nm==s "annotation-xml"
     ·dsimp! [E.i0a,os,e2,E.i1a,om,e3]
      exact fin' J (by rw [e2,e3];rfl)
     ·cases e4:n==s "svg"
      ·dsimp! [E.i0a,os,e2,E.i1a,om,e3,ima ht,on,e4]
       exact fin' J (by rw [e2,e3,e4];rfl)
      ·dsimp! [E.i0a,os,e2,E.i1a,om,e3,ima ht,on,e4]
       dsimp! []
       exact fin (k _) (by simp [e2,e3,e4]) rfl
   cases e1:B9 sp nm
   ·simp! []
    exact last J (by rw [e1];rfl)
   ·simp! [ima ht,on]
    cases e5:s "malignmark"==n<;>cases e6:s "mglyph"==n
    ·simp! []
     dsimp! []
     exact fin (k _) (by simp [e1,e5,e6]) rfl
    all_goals
     simp! []
     exact last _ (by rw [e1,e5,e6];rfl)
  | @fin n aa ht ha on =>
   dsimp! [im ht]
   dsimp! [E.i0,os,h]
   dsimp! []
   dsimp! []
   dsimp! []
   exact fin (k []) rfl (by rw [Bm])
  | @chr c ht on =>
   rw [V8] at k
   dsimp! [im ht]
   dsimp! [E.i0,os,h]
   dsimp! []
   dsimp! []
   refine Wg E hsp fun J=>?_
   simp! []
   refine fin (k _) ?_ rfl
   simp [C3,h]
  | @com c ht on =>
   dsimp! [im ht]
   dsimp! [E.i0,os,h]
   dsimp! []
   dsimp! []
   dsimp! []
   exact fin (k []) rfl (by rw [Bm])
  | dt ht =>
   dsimp! [im ht]
   dsimp! [E.i0,os,h]
   dsimp! []
   dsimp! []
   dsimp! []
   exact fin (k []) rfl (by rw [Bm])
 ·rw [Pb h] at k
  haveI go:∀ x:Str,ws (Fs.body.drop 1) ⟨d+2,[some (.ref ea),some (.ref a),some (.str x)],[]⟩ (hp B D Δ) (rk Q):=by
   intro x
   dsimp! [E.i0,os,h]
   dsimp! []
   exact fin (k []) rfl (by rw [Bm])
  induction T with
  | start ht _ _ _=>dsimp! [im ht];exact go _
  | fin ht _ _=>dsimp! [im ht];exact go _
  | chr ht _=>dsimp! [im ht];exact go _
  | com ht _=>dsimp! [im ht];exact go _
  | dt ht=>dsimp! [im ht];exact go _
end
section
variable {d b:Nat} {t:St} {B:Bs} {D:Ds} {Δ:List VR} {Q:V→H→Prop} {as:List (Str×Str)}
theorem D6 {i j:Nat}:A6 (hp B D Δ) .NotEq (.ref i) (.ref j)=(pd (hp B D Δ) Ax (.ref i)).bind fun x=>(pd (hp B D Δ) Ax (.ref j)).map fun y=>!PyData.eqv x y:=(rfl)
theorem Aae {i j:Nat}:A6 (hp B D Δ) .Eq (.ref i) (.ref j)=(pd (hp B D Δ) Ax (.ref i)).bind fun x=>(pd (hp B D Δ) Ax (.ref j)).map fun y=>PyData.eqv x y:=(rfl)
theorem Pf {J:List Mine.O} {k:Nat} {ws:List Str} (h:J[k]?=some (.list (ws.map .str))) (ok:∀ w∈ws,PyData.strOk w=true):pd (hp B D (ad Δ J)) Ax (.ref (sz Δ+k))=some (.list (ws.map .str)):=by
 show pd _ (29+1) _=_
 rw [Es,De,h]
 dsimp only
 rw [Oo ok]
 rfl
theorem Wh {J:List Mine.O} {ws:List Str} (h:J[0]?=some (.list (ws.map .str))) (ok:∀ w∈ws,PyData.strOk w=true):pd (hp B D (ad Δ J)) Ax (.ref (sz Δ))=some (.list (ws.map .str)):=Pf (k:=0) h ok
noncomputable def Gg (x:Str):Bool:=s "size"==x||(s "face"==x||s "color"==x)
noncomputable def Cr (as:List (Str×Str)):List Str:=(as.filter fun p=>Gg p.1).map (·.1)
theorem Aaf {j:Nat} {p:Str×Str} (h:as[j]?=some p):Cr (as.take (j+1))=Cr (as.take j)++(if Gg p.1 then [p.1] else []):=by
 unfold Cr
 rw [List.take_add_one,h,List.filter_append,List.map_append]
 congr 1
 cases e:Gg p.1<;>simp [e]
theorem Aag {da:Nat} {us:List V} (ha:At Δ da (.imm (.tuple us))) (hr:Ae Δ (Ak as) us) (hal:as.length≤1000) {K:H→Prop} (k:∀ J,K (hp B D (ad Δ (.list ((Cr as).map .str) :: J)))) :
  ∀ (rest:List (Str×Str)) (j:Nat) (x y:Option V) (J:List Mine.O),as.drop j=rest →
   Co ⟨d,[x,y],[]⟩ [0,1] false (.tu da j) (some (.cmp (.loc 0) [.In] [(.lst [(.cst (.str (s "size"))),(.cst (.str (s "face"))),(.cst (.str (s "color")))])])) (.loc 0) (sz Δ) (hp B D (ad Δ (.list ((Cr (as.take j)).map .str) :: J))) K:=by
 intro rest
 induction rest with
 | nil =>
  intro j x y J hj
  refine E5 (Ic (ima ha) (F9 hr (Di hj))) ?_
  haveI e:as.take j=as:=List.take_of_length_le (by have:=congrArg List.length hj;simp at this;with_reducible exact Dn ‹_›)
  rw [e];exact k J
 | cons p rest ih =>
  intro j x y J hj
  (refine Ac (Dh hj) ?_;intro hp' hd)
  (refine Ck (Fa hr hp') ?_;intro c hc hC o1 o2)
  haveI hll:((Cr (as.take j)).map V.str).length≤100000:=by
   haveI h2:=List.length_filter_le (fun p:Str×Str=>Gg p.1) (as.take j)
   simp [Cr] at h2 ⊢
   exact Qd ‹_› ‹_› (by exact rfl)
  refine E6 (F8 (ima ha) hc) (Pe (ima hC)) ?_
  haveI et:=Aaf hp'
  cases e:Gg p.1
  ·rw [e] at et
   simp only [Bool.false_eq_true,if_false,List.append_nil] at et
   unfold Gg at e
   simp! [Dc,o1,e]
   rw [← et]
   exact ih (j+1) _ _ _ hd
  ·rw [e] at et
   simp only [if_true] at et
   unfold Gg at e
   simp! [Dc,o1,e,hll]
   haveI:(Cr (as.take j)).map V.str++[.str p.1]=(Cr (as.take (j+1))).map V.str:=by rw [et];simp
   rw [this]
   exact ih (j+1) _ _ _ hd
noncomputable def Gh:Tok→Bool
 | .start n as _=>if n==s "font" then !PyData.eqv (.list ((Cr as).map .str)) (.list []) else [s "p",s "br",s "b",s "span"].any (·==n)
 | .fin n=>[s "br",s "p"].any (·==n)
 | _=>false
theorem Aah {n:Str} {c:Bool} {a aa:Nat} {vs:List V} (h:At Δ a (.imm (.tuple [.str (s "start"),.str n,.ref aa,.bool c]))) (ha:At Δ aa (.imm (.tuple vs))) (hr:Ae Δ (Ak as) vs) (on:PyData.strOk n=true) (hal:as.length≤1000)
  (k:∀ J,Q (.bool (Gh (.start n as c))) (hp B D (ad Δ J))):Ca (d+1) (.con (.ref 732)) [.ref a] (hp B D Δ) Q:=by
 refine T7 ?_
 dsimp! [im h]
 cases e:n==s "font"
 ·simp only [Gh,e] at k
  dsimp! [im h,on,e]
  dsimp! [im h,on]
  exact fin (k _) (by simp) rfl
 ·simp only [Gh,e] at k
  haveI ok:∀ w∈Cr as,PyData.strOk w=true:=by
   intro w hw
   (refine Aa (List.mem_map.mp hw) ?_;intro p hp' z_2;obtain rfl:=z_2)
   (refine Ad (List.getElem?_of_mem (List.mem_filter.mp hp').1) ?_;intro i hi)
   (refine Ck (Fa hr hi) ?_;intro _ _ _ o1 _)
   exact o1
  dsimp! [im h,on,e]
  dsimp! [im h,im ha,Du,Dv,List.replicate]
  refine Aag (ha) hr hal (fun J=>?_) as 0 none none [] rfl
  haveI q0:∀ (B:Bs) (D:Ds),pd (hp B D (ad Δ (.list ((Cr as).map .str) :: (J++[.list []])))) Ax (.ref (sz Δ))=some (.list ((Cr as).map .str)):=fun B D=>Wh rfl ok
  haveI q1:∀ (B:Bs) (D:Ds),pd (hp B D (ad Δ (.list ((Cr as).map .str) :: (J++[.list []])))) Ax (.ref (sz Δ+(J.length+1)))=some (.list []):=fun B D=>Pf (ws:=[]) (by simp) (by simp)
  simp! [D6,q0,q1]
  exact k _
theorem Aai {n:Str} {a aa:Nat} (h:At Δ a (.imm (.tuple [.str (s "end"),.str n,.ref aa,.bool false]))) (on:PyData.strOk n=true)
  (k:∀ J,Q (.bool (Gh (.fin n))) (hp B D (ad Δ J))):Ca (d+1) (.con (.ref 732)) [.ref a] (hp B D Δ) Q:=by
 refine T7 ?_
 dsimp! [im h]
 dsimp! [im h,on]
 exact fin (k _) (by simp [Gh]) rfl
theorem Aaj:∀ n∈Cv,∀ as∈Cq,Gh (.start n as true)=Cw (.start n as true):=by decide +kernel
theorem Wi {tk:Tok} (G:Ch tk):Gh tk=Cw tk:=by
 induction tk with
 | start n as c=>exact Aaj n G.1 as G.2
 | _=>rfl
theorem A1.cg {t t':St} {D D':Ds} (e1:t'.nodes=t.nodes) (e4:D'.er=D.er) {ms:List Nat} {vs:List V} (h:A1 t D Δ ms vs):A1 t' D' Δ ms vs:=by
 refine A1.imp (t:=t) (D:=D) (Δ:=Δ) (fun m _ v q=>?_) h
 (refine Aa q ?_;try clear q;intro y h1 h2)
 exact ⟨y,by rw [e1];exact h1,by rw [e4];exact h2⟩
theorem RelT.cg {t t':St} {D D':Ds} (R:RelT t D Δ) (e1:t'.nodes=t.nodes) (e2:t'.kids=t.kids) (e3:D'.ekid=D.ekid) (e4:D'.er=D.er) (e5:D'.path=D.path):RelT t' D' Δ:=by
 refine {el:=?_,kids:=?_,uniq:=R.uniq,fresh:=?_,path1:=?_,plen:=?_,up:=?_,pathS:=?_}
 ·intro n x h1 h2 h3;rw [e1] at h1;rw [e4,e5];exact R.el n x h1 h2 h3
 ·intro n x h1 h2 h3;rw [e1] at h1;rw [e2,e3];exact (R.kids n x h1 h2 h3).cg e1 e4
 ·intro a n h;rw [e1];exact R.fresh a n h
 ·rw [e5,e4];exact R.path1
 ·intro n x h1 h2 h3;rw [e1] at h1;rw [e5];unfold Bo;rw [e1];exact R.plen n x h1 h2 h3
 ·intro n x p h1 h2 h3;rw [e1] at h1 ⊢;exact R.up n x p h1 h2 h3
 ·intro n x p h0 h1 h2 h3;rw [e1] at h1;rw [e2,e5];exact R.pathS n x p h0 h1 h2 h3
theorem Wj {a:Nat} {vs:List V} (h:(hp B D Δ)[a]?=some (.list vs)) (hl:vs.length≤100000) (h1:1≤vs.length):Ec (hp B D Δ) (.ref a) (.int (-1))=some (.ref (sz Δ),hp B D (ad Δ [.list vs.dropLast])):=by
 rw [N3 h,T3,if_neg (by decide),List.dropLast_eq_take]
 haveI e:(-1+(vs.length:Int)).toNat=vs.length-1:=by rw [Int.add_comm];exact Int.toNat_sub vs.length 1
 rw [e]
theorem Pg {tk:Tok} {a:Nat} (R:RelD t D Δ) (O:StOk (b+4) t) (T:TokAt Δ a tk) (G:Ch tk) (k:∀ D' Δ',Ag Δ Δ'→RelD (Bf t tk) D' Δ'→Q .none (hp B D' Δ')) :
  Ca (d+2) (.con (.ref 760)) [.ref 37,.ref a] (hp B D Δ) Q:=by
 refine q9 ?_
 haveI h1:D.notes.length≤100000:=by have:=O.nlen;rw [R.notes.len];exact o_1 ‹_› (by exact rfl)
 (refine A3 (C4 O) ?_;intro ss n hs)
 (refine Au (R.att n (by rw [hs];simp)) ?_;intro y hy hk hp')
 (refine Aa R.stack ?_;intro sa hsa hA0)
 haveI hA:At Δ sa (.imm (.list ((ss.map fun n=>V.ref (D.er n))++[V.ref (D.er n)]))):=by rw [hs] at hA0;simpa using hA0
 haveI hsl:(t.stack.map fun n=>V.ref (D.er n)).length≤100000:=by have:=O.slen;simp;exact o_1 ‹_› (by exact rfl)
 haveI et:=Gf hs
 haveI ey:=Bi hy
 haveI hrep:∀ J:List Mine.O,Rep (ad Δ (.tuple [.str (s "body"),.ref a] :: J)) (.tuple [.str (s "body"),tk.pd]) (.ref (sz Δ)):=fun J =>
  ⟨_,_,rfl,At.new_ad (k:=0) rfl,_,_,rfl,⟨rfl,Ap⟩,_,_,rfl,T.rep.ad _,rfl⟩
 haveI R1:RelD {t with notes:=t.notes++[.tuple [.str (s "body"),tk.pd]]} {D with stack:=.ref sa,notes:=D.notes++[.ref (sz Δ)]} (ad Δ [.tuple [.str (s "body"),.ref a]]):=by
  haveI R0:=R.xb (Af.ad [.tuple [.str (s "body"),.ref a]])
  exact {tr:=R0.tr.cg rfl rfl rfl rfl rfl,stack:=⟨sa,rfl,hA0.ad _⟩,notes:=Ae.snoc (hrep []) R0.notes,fok:=R0.fok,ack:=R0.ack,att:=R0.att}
 haveI hd:dep (.tuple [.str (s "body"),tk.pd])≤10:=Cf (Aq Ba (Aq (Nat.le_trans Vy (by decide)) B7))
 haveI O1:=O.note (b:=b+3) hd
 dsimp! [h1]
 dsimp! [hsa]
 induction T with
 | @start nn as c aa vs h ha hr on =>
  (refine Ac G ?_;try clear G;intro g1 g2)
  haveI q1:=(Hb _ g1).1
  dsimp! [ima h]
  dsimp! [ima h]
  refine Vw q1.1 fun J=>?_
  simp! [ima h]
  haveI R2:=R1.xb (Af.ad J)
  simp only [Bc,List.cons_append,List.nil_append] at R2
  refine Pc R2 O1 (ha.ad _) (.inr rfl) (hr.ad _) (by have:=(Hc _ g2).2.1;exact o_0 ‹_› (by exact rfl)) fun D' Δ' x' R'=>?_
  simp! []
  exact k D' Δ' ((Ag.ad _).trans x') R'
 | @fin nn aa h ha on =>
  haveI E:=R1.ev O1 hy hk hp'
  haveI htop:∀ (B:Bs) (D':Ds) (J:List Mine.O),Ao (hp B D' (ad Δ J)) (.ref sa) (.int (-1))=some (.ref (D.er n)):=fun B D' J=>Hf (ima (B:=B) (D:=D') hA)
  dsimp! [ima h]
  dsimp! [ima h,ima hA0,hsl,L4,List.length_map]
  by_cases e1:1 < t.stack.length
  ·haveI hlm:t.stack.length≤100000:=by have:=O.slen;exact o_1 ‹_› (by exact rfl)
   haveI i1:∀ (B:Bs) (D':Ds) (J:List Mine.O),Ao (hp B D' (ad Δ J)) (.ref (D.er n)) (.int 1)=some (.str y.name):=fun B D' J=>((R.ev O hy hk hp').ad J).i1
   simp! [hlm,L4,e1,decide_true,htop,i1,ima h,on]
   cases e2:y.name==nn
   ·simp! []
    haveI e3:y.name≠nn:=fun q=>by rw [q,beq_self_eq_true] at e2;cases e2
    rw [Vv et ey fun q=>e3 q.2] at k
    exact k _ _ (Ag.ad _) R1
   ·simp! []
    haveI e3:y.name=nn:=eq_of_beq e2
    haveI e4:t.stack.dropLast=ss:=by rw [hs];simp
    haveI hsc:=fun (B:Bs) (D':Ds) (J:List Mine.O)=>Wj (B:=B) (D:=D') (Δ:=ad Δ J) (ima hA0) hsl (by rw [hs];simp)
    dsimp! [hsc]
    rw [Vu et ey ⟨e1,e3⟩ e4] at k
    haveI R3:=R1.xb (Af.ad [.list ((t.stack.map fun n=>V.ref (D.er n)).dropLast)])
    simp only [Bc,List.cons_append,List.nil_append] at R3
    refine k _ _ (Ag.ad _) {R3 with tr:=R3.tr.cg rfl rfl rfl rfl rfl,stack:=⟨_,rfl,?_⟩,att:=fun m hm=>R3.att m (by show m∈t.stack;rw [hs];exact List.mem_append_left _ hm)}
    haveI e5:(t.stack.map fun n=>V.ref (D.er n)).dropLast=ss.map fun n=>V.ref (D.er n):=by rw [hs];simp
    rw [e5]
    exact At.new_ad (k:=1) rfl
  ·haveI hlm:t.stack.length≤100000:=by have:=O.slen;exact o_1 ‹_› (by exact rfl)
   simp! [hlm,L4,e1,decide_false]
   rw [Vt fun q=>e1 q.1] at k
   exact k _ _ (Ag.ad _) R1
 | chr h on =>
  dsimp! [ima h]
  dsimp! [ima h]
  exact k _ _ (Ag.ad _) R1
 | com h on =>
  dsimp! [ima h]
  dsimp! [ima h]
  exact k _ _ (Ag.ad _) R1
 | dt h =>
  dsimp! [ima h]
  dsimp! [ima h]
  exact k _ _ (Ag.ad _) R1
end
section
variable {d b:Nat} {t:St} {B:Bs} {D:Ds} {Δ:List VR} {Q:V→H→Prop} {as:List (Str×Str)}
noncomputable def Gi (sp n:Str):Str:=if sp==s "svg" then (if (s "foreignobject"==n||s "clippath"==n) then (if n==s "foreignobject" then s "foreignObject" else s "clipPath") else n) else n
noncomputable def C6 (sp:Str):List (Str×Str):=[(s "xlink:href",s "xlink href"),(s "xml:lang",s "xml lang")]++(if sp==s "svg" then [(s "viewbox",s "viewBox")] else [])++(if sp==s "math" then [(s "definitionurl",s "definitionURL")] else [])
noncomputable def Ph (sp x:Str):Str:=((C6 sp).lookup x).getD x
theorem Aak (sp:Str) {n:Str} (h:n∈Cv):Gi sp n=if sp==s "svg" then Ek n else n:=by
 haveI e:∀ n∈Cv,(if (s "foreignobject"==n||s "clippath"==n) then (if n==s "foreignobject" then s "foreignObject" else s "clipPath") else n)=Ek n:=by decide +kernel
 unfold Gi
 rw [e n h]
theorem Wk {sp:Str} (hsp:sp=s "svg"∨sp=s "math") (h:as∈Cq) {p:Str×Str} (hp':p∈as):Ph sp p.1=Cg sp p.1:=by
 haveI e1:∀ as∈Cq,∀ p∈as,(([(s "xlink:href",s "xlink href"),(s "xml:lang",s "xml lang"),(s "viewbox",s "viewBox")]:List (Str×Str)).lookup p.1).getD p.1=C2 (Dz p.1):=by decide +kernel
 haveI e2:∀ as∈Cq,∀ p∈as,(([(s "xlink:href",s "xlink href"),(s "xml:lang",s "xml lang"),(s "definitionurl",s "definitionURL")]:List (Str×Str)).lookup p.1).getD p.1=C2 (Dg p.1):=by decide +kernel
 unfold Ph C6 Cg
 haveI q0:(s "math"==s "svg")=false:=by decide +kernel
 haveI q1:(s "svg"==s "math")=false:=by decide +kernel
 focus (refine oe hsp ?_ ?_;rotate_left;(try clear hsp;intro z_o;obtain rfl:=z_o);rotate_right;(try clear hsp;intro z_o;obtain rfl:=z_o))
 ·rw [q1]
  exact e1 as h p hp'
 ·rw [q0]
  exact e2 as h p hp'
theorem Wm {a:Nat} {x:Str} {v:V}:Cy (hp B D Δ) (.ref a) (.str x) v=onD (hp B D Δ)[a]? fun es=>gd (Nat.ble es.length 100) (gd (Nat.ble fz a) (some ((hp B D Δ).set a (.dict (Ct es x v))))):=rfl
theorem Aal {l:List (Str×Str)} {x:Str}:((l.map fun p=>(p.1,V.str p.2)).lookup x).getD (.str x)=.str ((l.lookup x).getD x):=by
 induction l with
 | nil=>rfl
 | cons p l ih =>
  rw [List.map_cons,List.lookup_cons,List.lookup_cons]
  cases x==p.1
  ·exact ih
  ·rfl
noncomputable def Ep (l:List (Str×Str)) (as:List (Str×Str)):List (Str×Str):=as.map fun p=>((l.lookup p.1).getD p.1,p.2)
theorem Aam {l:List (Str×Str)} {j:Nat} {p:Str×Str} (h:as[j]?=some p):Ak (Ep l (as.take (j+1)))=Ak (Ep l (as.take j))++[.tuple [.str ((l.lookup p.1).getD p.1),.str p.2]]:=by
 rw [List.take_add_one,h]
 simp [Ak,Ep]
theorem Aan {aa:Nat} {vs:List V} (ha:At Δ aa (.imm (.tuple vs))) (hr:Ae Δ (Ak as) vs) (hal:as.length≤1000) {l:List (Str×Str)} (ol:∀ p∈as,PyData.strOk ((l.lookup p.1).getD p.1)=true)
  {pre:List Mine.O} {m:Nat} (hm:pre.length=m) (p0:pre[0]?=some (.cell (some (.ref (sz Δ+1))))) (p1:pre[1]?=some (.dict (l.map fun p=>(p.1,.str p.2)))) {K:H→Prop}
  (k:∀ J us,us.length≤100000→(∀ o:Mine.O,Ae (ad Δ (pre++o :: J)) (Ak (Ep l as)) us)→K (hp B D (ad Δ (pre++.list us :: J)))) :
  ∀ (rest:List (Str×Str)) (j:Nat) (x y:Option V) (J:List Mine.O) (us:List V),as.drop j=rest→(∀ o:Mine.O,Ae (ad Δ (pre++o :: J)) (Ak (Ep l (as.take j))) us) →
   Co ⟨d,[x,y],[sz Δ]⟩ [0,1] false (.tu aa j) none (.tup [.meth (.cel 0) 4 [.loc 0,.loc 0],.loc 1]) (sz Δ+m) (hp B D (ad Δ (pre++.list us :: J))) K:=by
 haveI f0:∀ L:List Mine.O,(pre++L)[0]?=some (.cell (some (.ref (sz Δ+1)))):=fun L=>by
  rw [List.getElem?_append_left (List.getElem?_eq_some_iff.mp p0).1];exact p0
 haveI f1:∀ L:List Mine.O,(pre++L)[1]?=some (.dict (l.map fun p=>(p.1,.str p.2))):=fun L=>by
  rw [List.getElem?_append_left (List.getElem?_eq_some_iff.mp p1).1];exact p1
 haveI fm:∀ (o:Mine.O) (L:List Mine.O),(pre++o :: L)[m]?=some o:=fun o L=>by rw [← hm];exact jl0
 haveI fs:∀ (o x:Mine.O) (L:List Mine.O),(pre++o :: L).set m x=pre++x :: L:=fun o x L=>by rw [← hm];exact js0
 intro rest
 induction rest with
 | nil =>
  intro j x y J us hj hu
  refine E5 (Ic (ima ha) (F9 hr (Di hj))) ?_
  haveI e:as.take j=as:=List.take_of_length_le (by have:=congrArg List.length hj;simp at this;with_reducible exact Dn ‹_›)
  rw [e] at hu
  refine k J us ?_ hu
  haveI:=(hu (.list [])).len
  simp [Ak,Ep] at this
  exact o_4 ‹_› ‹_› (by exact rfl)
 | cons p rest ih =>
  intro j x y J us hj hu
  (refine Ac (Dh hj) ?_;intro hp' hd)
  (refine Ck (Fa hr hp') ?_;intro c hc hC o1 o2)
  haveI hul:us.length≤100000:=by
   haveI:=(hu (.list [])).len
   simp [Ak,Ep] at this
   exact Mj ‹_› ‹_› (by exact rfl)
  refine E6 (F8 (ima ha) hc) (Pe (ima hC)) ?_
  simp! [Dc,f0,f1,fm,fs,Aal,hul]
  refine ih (j+1) _ _ _ _ hd fun o=>?_
  rw [Aam hp']
  refine Ae.snoc ?_ ?_
  ·haveI:=Ig (Δ:=Δ) (J:=pre++o :: J) (K:=[]) (ol p (List.mem_of_getElem? hp')) o2
   simpa using this
  ·haveI:=(hu o).ad [.tuple [.str ((l.lookup p.1).getD p.1),.str p.2]]
   rw [Bc] at this
   simpa using this
theorem Aao {sp:Str} (hsp:sp=s "svg"∨sp=s "math") (h:as∈Cq):Ep (C6 sp) as=A2 sp as:=by
 unfold Ep A2
 refine List.map_congr_left fun p hp'=>?_
 rw [← Wk hsp h hp']
 rfl
theorem Aap {n:Str} {c:Bool} {a:Nat} (R:RelD t D Δ) (O:StOk (b+3) t) (T:TokAt Δ a (.start n as c)) (G:Ch (.start n as c)) {sp:Str} (hsp:sp=s "svg"∨sp=s "math") (esp:(t.nd t.adj).space=sp)
  (k:∀ D' Δ',Ag Δ Δ'→RelD (startB t n as c) D' Δ'→Q .none (hp B D' Δ')) :
  Ca (d+2) (.con (.ref 765)) [.ref 37,.str sp,.ref a] (hp B D Δ) Q:=by
 refine rc ?_
 (refine Ac G ?_;try clear G;intro g1 g2)
 haveI osp:PyData.strOk sp=true:=by focus (refine oe hsp ?_ ?_;rotate_left;(try clear hsp;intro z_o;obtain rfl:=z_o);rotate_right;(try clear hsp;intro z_o;obtain rfl:=z_o))<;>exact Ap
 have hal:as.length≤1000:=by have:=(Hc _ g2).2.1;exact o_0 ‹_› (by exact rfl)
 have ol:∀ p∈as,PyData.strOk (((C6 sp).lookup p.1).getD p.1)=true:=by
  intro p hp'
  haveI:=Wk hsp g2 hp'
  unfold Ph at this
  rw [this]
  exact (Pa g2 hp' sp).1
 cases T with
 | @start _ _ _ aa vs h ha hr on =>
  dsimp! [List.zip_cons_cons,List.zip_nil_left,Tt,Tu,Lr,Ls]
  dsimp! [ima h]
  have last:∀ (Δ1:List VR) (D1:Ds) (nm:Str),Ag Δ Δ1→RelD (t.enter (Al sp nm (A2 sp as))) D1 Δ1→startB t n as c=(if c then {t.enter (Al sp nm (A2 sp as)) with ack:=true,stack:=t.stack} else t.enter (Al sp nm (A2 sp as)))→(t.enter (Al sp nm (A2 sp as))).stack.length≤1000 →
    ws (Gx.body.drop 5) ⟨d+1,[some (.ref 37),some (.str sp),some (.ref a),some (.str nm)],[sz Δ]⟩ (hp B D1 Δ1) (rk Q):=by
   intro Δ1 D1 nm x1 R1 ks hsl
   rw [ks] at k
   cases c
   ·dsimp! [im (h.xd x1)]
    exact k D1 Δ1 x1 R1
   ·(refine Aa R1.stack ?_;intro sa hsa hA)
    dsimp! [im (h.xd x1)]
    dsimp! []
    haveI hl1:((t.enter (Al sp nm (A2 sp as))).stack.map fun n=>V.ref (D1.er n)).length≤100000:=by simp;exact o_0 ‹_› (by exact rfl)
    haveI hsc:=fun (D':Ds)=>Wj (B:=B) (D:=D') (Δ:=Δ1) (im hA) hl1 (by simp [Hd])
    dsimp! [hsa,hsc]
    refine k _ _ (x1.trans (Ag.ad _)) ?_
    haveI R2:=R1.xb (Af.ad [.list (((t.enter (Al sp nm (A2 sp as))).stack.map fun n=>V.ref (D1.er n)).dropLast)])
    exact {tr:=R2.tr.cg rfl rfl rfl rfl rfl,stack:=⟨_,rfl,by
     haveI e:((t.enter (Al sp nm (A2 sp as))).stack.map fun n=>V.ref (D1.er n)).dropLast=t.stack.map fun n=>V.ref (D1.er n):=by simp [Hd]
     rw [e]
     exact At.new_ad (k:=0) rfl⟩,notes:=R2.notes,fok:=R2.fok,ack:=rfl,att:=fun m hm=>R2.att m (by rw [Hd];exact List.mem_append_left _ hm)}
  have mid:∀ (nm:Str) (Jr:List Mine.O),nm=Gi sp n →
    ws (Gx.body.drop 4) ⟨d+1,[some (.ref 37),some (.str sp),some (.ref a),some (.str nm)],[sz Δ]⟩ (hp B D (ad Δ (.cell (some (.ref (sz Δ+1))) :: .dict ((C6 sp).map fun p=>(p.1,.str p.2)) :: Jr))) (rk Q):=by
   intro nm Jr hnm
   dsimp! [ima h,ima ha,Du,Dv,List.replicate]
   refine Aan (l:=C6 sp) (pre:=.cell (some (.ref (sz Δ+1))) :: .dict ((C6 sp).map fun p=>(p.1,.str p.2)) :: Jr) (m:=Jr.length+1+1) ha hr hal ol rfl rfl rfl (fun J us hul hu=>?_) as 0 none none [] [] rfl (fun o=>rfl)
   have hrep:Ae (ad Δ (.cell (some (.ref (sz Δ+1))) :: .dict ((C6 sp).map fun p=>(p.1,.str p.2)) :: Jr++.list us :: J)) (Ak (A2 sp as)) us:=by
    rw [← Aao hsp g2];exact hu _
   simp! []
   refine Pc (R.xb (Af.ad _)) O (o:=.list us) (At.new_ad (k:=Jr.length+1+1) (by simp)) (.inl rfl) hrep (by simp [A2];exact hal) fun D' Δ' x' R'=>?_
   simp! []
   refine last Δ' D' nm ((Ag.ad _).trans x') R' ?_ ?_
   ·unfold startB
    rw [esp,hnm,Aak sp g1]
   ·have:=O.slen
    rw [Hd]
    simp;exact o_1 ‹_› (by exact rfl)
  cases e:sp==s "svg"
  ·dsimp! [osp,e]
   cases e2:sp==s "math"
   ·focus (refine oe hsp ?_ ?_;rotate_left;(try clear hsp;intro z_o;obtain rfl:=z_o);rotate_right;(try clear hsp;intro z_o;obtain rfl:=z_o))
    ·rw [beq_self_eq_true] at e;cases e
    ·rw [beq_self_eq_true] at e2;cases e2
   ·dsimp! [osp,e2]
    dsimp! [Wm,Lr,Ls]
    have hD:((C6 sp).map fun p=>(p.1,V.str p.2))=[(s "xlink:href",V.str (s "xlink href")),(s "xml:lang",V.str (s "xml lang")),(s "definitionurl",V.str (s "definitionURL"))]:=by simp [C6,e,e2]
    have:=mid n [] (by simp [Gi,e])
    rw [hD] at this
    exact this
  ·dsimp! [osp,e]
   dsimp! [Wm,Lr,Ls]
   have e2:(sp==s "math")=false:=by rw [eq_of_beq e];decide +kernel
   have hD:((C6 sp).map fun p=>(p.1,V.str p.2))=[(s "xlink:href",V.str (s "xlink href")),(s "xml:lang",V.str (s "xml lang")),(s "viewbox",V.str (s "viewBox"))]:=by simp [C6,e,e2]
   rw [← hD]
   cases e3:(s "foreignobject"==n||s "clippath"==n)
   ·dsimp! [on,e3]
    dsimp! [osp,e2]
    exact mid n _ (by simp only [Gi,e,e3];rfl)
   ·cases e4:n==s "foreignobject"
    ·dsimp! [on,e3]
     dsimp! [on,e4]
     dsimp! [osp,e2]
     exact mid (s "clipPath") _ (by simp only [Gi,e,e3,e4];rfl)
    ·dsimp! [on,e3]
     dsimp! [on,e4]
     dsimp! [osp,e2]
     exact mid (s "foreignObject") _ (by simp only [Gi,e,e3,e4];rfl)
end
noncomputable def Bw (t:St) (p:Nat):Bool:=(t.nd (t.nth p)).space==s "html"
noncomputable def D7 (t:St) (n:Str) (p:Nat):Bool:=A5 (t.nd (t.nth p)).name==n
noncomputable def Ar (t:St):Nat→Nat
 | 0=>0
 | p+1=>if Bw t p then p else Ar t p
theorem Wn {t:St} {p:Nat}:Ar t (p+1)=if Bw t p then p else Ar t p:=rfl
theorem L8 (t:St):∀ p,Ar t p≤p
 | 0=>Nat.le_refl _
 | p+1=>by
  rw [Wn]
  cases Bw t p with
  | true=>exact Ja
  | false=>exact Nat.le_succ_of_le (L8 t p)
noncomputable def Dl (t:St) (m:Nat):List Nat:=(List.range' 0 m).filter (Bw t)
theorem Pi (a n:Nat):List.range' a (n+1)=List.range' a n++[a+n]:=by
 rw [List.range'_concat];simp
theorem Wo (t:St):∀ m,(0 :: Dl t m).getLast?=some (Ar t m)∧∀ x∈Dl t m,x≤Ar t m
 | 0=>⟨rfl,by simp [Dl]⟩
 | m+1=>by
  (refine Ac (Wo t m) ?_;intro h1 h2)
  haveI e:Dl t (m+1)=Dl t m++(if Bw t m then [m] else []):=by
   unfold Dl
   rw [Pi,List.filter_append]
   congr 1
   simp only [Nat.zero_add]
   cases hh:Bw t m<;>simp [hh]
  rw [e]
  rw [Wn]
  cases hh:Bw t m
  ·simp only [Bool.false_eq_true,if_false,List.append_nil]
   exact ⟨h1,h2⟩
  ·simp only [if_true]
   refine ⟨by rw [← List.cons_append,List.getLast?_concat],?_⟩
   intro x hx
   refine oe (List.mem_append.mp hx) (fun q=>?_) (fun q=>?_)
   ·haveI:=h2 x q
    haveI:=L8 t m
    exact Nat.le_trans (h2 x q) this
   ·exact Nat.le_of_eq (List.mem_singleton.mp q)
noncomputable def D8 (t:St) (n:Str) (p:Nat):List Nat:=(List.range' (Ar t p+1) (p-Ar t p)).filter (D7 t n)
theorem Wp {b:Nat} {t:St} (O:StOk b t) (n:Str):∀ p,p < t.stack.length→endLoop t n p=match (D8 t n p).getLast? with
  | some f=>{t with stack:=t.stack.take f}
  | none=>if 0 < p then Bf t (.fin n) else t
 | 0,_=>(if_neg (Nat.lt_irrefl 0)).symm
 | p+1,hp'=>by
  haveI ih:=Wp O n p (by exact I9 ‹_›)
  haveI hle:=L8 t p
  rw [L5]
  haveI e1:(A5 (t.nd (t.nth (p+1))).name==n)=D7 t n (p+1):=rfl
  haveI e2:((t.nd (t.nth p)).space==s "html")=Bw t p:=rfl
  rw [e1,e2]
  haveI hlow:Ar t (p+1)=if Bw t p then p else Ar t p:=rfl
  have hl2:Ar t (p+1)≤p:=by rw [hlow];cases Bw t p with
   | true=>exact Nat.le_refl p
   | false=>exact hle
  have ef:D8 t n (p+1)=(List.range' (Ar t (p+1)+1) (p-Ar t (p+1))).filter (D7 t n)++(if D7 t n (p+1) then [p+1] else []):=by
   unfold D8
   haveI:p+1-Ar t (p+1)=(p-Ar t (p+1))+1:=Nat.succ_sub hl2
   rw [this,Pi,List.filter_append]
   congr 1
   haveI:Ar t (p+1)+1+(p-Ar t (p+1))=p+1:=by rw [Nat.add_right_comm,Nat.add_sub_cancel' hl2]
   rw [this]
   cases hh:D7 t n (p+1)<;>simp [hh]
  cases hf:D7 t n (p+1)
  ·rw [hf] at ef
   simp only [Bool.false_eq_true,if_false,List.append_nil] at ef
   simp only [Bool.false_eq_true,if_false]
   rw [ef]
   cases hh:Bw t p
   ·rw [hh] at hlow
    simp only [Bool.false_eq_true,if_false] at hlow
    simp only [Bool.false_eq_true,if_false]
    rw [hlow,ih]
    haveI h0:0 < p:=by
     refine oe (Nat.eq_zero_or_pos p) (fun q=>?_) (fun q=>?_)
     ·subst q
      exfalso
      (refine Ad O.root ?_;intro ss e)
      (refine Aa O.rnd ?_;intro x h1 h2)
      have en:t.nth 0=1:=by simp [St.nth,e]
      unfold Bw at hh
      rw [en,Bi h1,h2.1] at hh
      simp at hh
     ·exact q
    unfold D8
    rw [if_pos h0,if_pos (Nat.succ_pos p)]
   ·rw [hh] at hlow
    simp only [if_true] at hlow
    simp only [if_true]
    rw [hlow,Nat.sub_self]
    simp
  ·rw [hf] at ef
   simp only [if_true] at ef
   simp only [if_true]
   rw [ef,List.getLast?_concat]
section
variable {d b:Nat} {t:St} {B:Bs} {D:Ds} {Δ:List VR} {Q:V→H→Prop}
noncomputable def itv (l:List Nat):List V:=l.map fun (u:Nat)=>V.int (u:Int)
theorem Pj {l:List Nat} {u:Nat}:itv l++[.int (u:Int)]=itv (l++[u]):=by simp [itv]
theorem Gj {l:List Nat}:(itv l).length=l.length:=by simp [itv]
theorem Ip {pre:List Mine.O} {m:Nat} (hm:pre.length=m) {cls:List Nat} {cond:E} {P:Nat→Bool} {K:H→Prop} :
  ∀ (n lo:Nat) (x:Option V) (J:List Mine.O) (us:List Nat),us.length+n≤1000 →
  (∀ q,lo≤q→q < lo+n→∀ (L:List Mine.O) (Kb:Bool→H→Prop),(∀ J',Kb (P q) (hp B D (ad Δ (pre++(L++J')))))→(wP ⟨d,[some (.int (q:Int))],cls⟩ cond).2 (hp B D (ad Δ (pre++L))) Kb) →
  (∀ J,K (hp B D (ad Δ (pre++.list (itv (us++(List.range' lo n).filter P)) :: J)))) →
   Co ⟨d,[x],cls⟩ [0] true (.rg (lo:Int) n) (some cond) (.loc 0) (sz Δ+m) (hp B D (ad Δ (pre++.list (itv us) :: J))) K
 | 0,lo,x,J,us,hl,hc,k=>by
  refine E5 N6 ?_
  haveI:=k J
  simpa using this
 | n+1,lo,x,J,us,hl,hc,k=>by
  refine E6 N5 Io ?_
  haveI fm:∀ (o:Mine.O) (L:List Mine.O),(pre++o :: L)[m]?=some o:=fun o L=>by rw [← hm];exact jl0
  haveI fs:∀ (o x:Mine.O) (L:List Mine.O),(pre++o :: L).set m x=pre++x :: L:=fun o x L=>by rw [← hm];exact js0
  refine hc lo (Nat.le_refl _) (Nat.lt_add_of_pos_right (Nat.succ_pos n)) _ _ fun J'=>?_
  have e:((lo:Int)+1)=((lo+1:Nat):Int):=by exact rfl
  rw [e]
  rw [List.range'_succ,List.filter_cons] at k
  cases hP:P lo
  ·rw [hP] at k
   simp! []
   exact Ip hm n (lo+1) _ (J++J') us (by exact Ee ‹_› (by exact rfl)) (fun q h1 h2=>hc q (by exact Hk ‹_›) (Nat.add_right_comm lo 1 n▸h2)) k
  ·rw [hP] at k
   haveI hul:(itv us).length≤100000:=by rw [Gj];exact o_1 ‹_› (by exact rfl)
   simp! [fm,fs,hul,Pj]
   refine Ip hm n (lo+1) _ (J++J') (us++[lo]) (by simp;exact o_7 ‹_› (by exact rfl)) (fun q h1 h2=>hc q (by exact Hk ‹_›) (Nat.add_right_comm lo 1 n▸h2)) ?_
   intro J2
   haveI:=k J2
   simpa using this
theorem Pk {u:Nat}:∀ {us:List Nat},(∀ x∈us,x≤u)→Cs (itv (us++[u]))=some (u:Int)
 | [],_=>rfl
 | x :: us,h=>by
  haveI ih:=Pk (us:=us) fun y hy=>h y (.tail _ hy)
  haveI hx:=h x (.head _)
  induction us with
  | nil =>
   show (Cs [.int (u:Int)]).map (fun m=>max (x:Int) m)=_
   exact congrArg some (Int.max_eq_right (Int.ofNat_le.mpr hx))
  | cons y us =>
   show (Cs (itv (y :: us++[u]))).map (fun m=>max (x:Int) m)=_
   rw [ih]
   exact congrArg some (Int.max_eq_right (Int.ofNat_le.mpr hx))
theorem Aaq (t:St) (m:Nat):Cs (.int 0 :: itv (Dl t m))=some (Ar t m:Int):=by
 (refine Ac (Wo t m) ?_;intro h1 h2)
 haveI e:V.int 0 :: itv (Dl t m)=itv (0 :: Dl t m):=rfl
 rw [e]
 focus (refine oe (List.eq_nil_or_concat (0 :: Dl t m)) ?_ ?_;rotate_left;(intro z_o;refine A3 z_o ?_;intro us u q);rotate_right;(intro q))
 ·cases q
 ·rw [List.concat_eq_append] at q
  rw [q] at h1 ⊢
  rw [List.getLast?_concat] at h1
  obtain rfl:=Option.some.inj h1
  refine Pk fun x hx=>?_
  have:x∈(0 :: Dl t m):=by rw [q];exact List.mem_append_left _ hx
  focus (refine oe (List.mem_cons.mp this) ?_ ?_;rotate_left;(intro q2);rotate_right;(intro z_o;obtain rfl:=z_o))
  ·exact Nat.le_of_ble_eq_true (by exact rfl)
  ·exact h2 x q2
theorem Aar {J:List Mine.O} {k:Nat} {us:List Nat} (h:J[k]?=some (.list (itv us))):pd (hp B D (ad Δ J)) Ax (.ref (sz Δ+k))=some (.list (us.map fun (u:Nat)=>PyData.int (u:Int))):=by
 show pd _ (29+1) _=_
 rw [Es,De,h]
 dsimp only
 rw [itv,L1]
 rfl
end
section
variable {d b:Nat} {t:St} {B:Bs} {D:Ds} {Δ:List VR} {Q:V→H→Prop}
theorem Wq (R:RelD t D Δ) {x:PyData} {J:List Mine.O} {a:Nat} (h:Rep (ad Δ J) x (.ref a)):RelD {t with notes:=t.notes++[x]} {D with notes:=D.notes++[.ref a]} (ad Δ J):=by
 haveI R0:=R.xb (Af.ad J)
 exact {tr:=R0.tr.cg rfl rfl rfl rfl rfl,stack:=R0.stack,notes:=Ae.snoc h R0.notes,fok:=R0.fok,ack:=R0.ack,att:=R0.att}
theorem RelD.nv (R:RelD t D Δ) (O:StOk b t) {p:Nat} (hp':p < t.stack.length):EV Δ (D.er (t.nth p)) (t.nd (t.nth p)).space (t.nd (t.nth p)).name (t.nd (t.nth p)).attrs:=by
 (refine Au (O.nth hp') ?_;intro x h1 h2 h3)
 (refine Au (R.att _ (List.mem_of_getElem? h1)) ?_;intro y q1 q2 q3)
 rw [h2] at q1
 cases q1
 rw [h3]
 exact R.ev O h2 q2 q3
theorem Wr {n:Nat} (h:n≤100000):-((100000:Nat):Int)≤0∧(0:Int)≤((100000:Nat):Int)∧-((100000:Nat):Int)≤(n:Int)∧(n:Int)≤((100000:Nat):Int):=⟨by decide,by decide,Int.le_trans (by decide) (Int.natCast_nonneg n),Int.ofNat_le.mpr h⟩
theorem Ws {a c:Nat} (h:a+1≤100000) (g:c+1≤100000):-((100000:Nat):Int)≤(a:Int)+1∧(a:Int)+1≤((100000:Nat):Int)∧-((100000:Nat):Int)≤(c:Int)+1∧(c:Int)+1≤((100000:Nat):Int):=⟨Int.le_trans (by decide) (Int.natCast_nonneg (a+1)),Int.ofNat_le.mpr h,Int.le_trans (by decide) (Int.natCast_nonneg (c+1)),Int.ofNat_le.mpr g⟩
theorem L9 {sa p:Nat} (hA:At Δ sa (.imm (.list (t.stack.map fun n=>V.ref (D.er n))))) (O:StOk b t) (hp':p < t.stack.length) {J:List Mine.O} {D':Ds}:Ao (hp B D' (ad Δ J)) (.ref sa) (.int (p:Int))=some (.ref (D.er (t.nth p))):=by
 (refine Aa (O.nth hp') ?_;intro x h1 _)
 exact B8 (ima hA) (by simp [h1])
theorem Aas {n:Str} {a:Nat} (R:RelD t D Δ) (O:StOk (b+5) t) (T:TokAt Δ a (.fin n)) (G:Ch (.fin n)) (hm:B.mode=t.mode)
  (k:∀ D' Δ',Ag Δ Δ'→RelD (endB t n) D' Δ'→Q .none (hp B D' Δ')) :
  Ca (d+3) (.con (.ref 770)) [.ref 37,.ref a] (hp B D Δ) Q:=by
 refine re ?_
 (refine Aa R.stack ?_;intro sa hsa hA)
 haveI hsl:t.stack.length≤100:=by have:=O.slen;exact o_1 ‹_› (by exact rfl)
 have hs0:0 < t.stack.length:=by (refine Ad O.root ?_;intro ss e);rw [e];simp
 haveI e1:((t.stack.length:Int)-1)=((t.stack.length-1:Nat):Int):=(Int.ofNat_sub hs0).symm
 generalize htop:t.stack.length-1=top at *
 have htl:top < t.stack.length:=htop▸Nat.sub_lt hs0 Nat.one_pos
 have hT:top+1≤100:=Nat.le_trans htl hsl
 haveI on:=(Hb n G).1.1
 haveI E:=R.nv O htl
 haveI etop:t.nth top=t.top:=by
  (refine A3 (C4 O) ?_;intro ss m hs)
  haveI:top=ss.length:=by rw [← htop,hs];simp
  rw [Gf hs,this]
  simp [St.nth,hs]
 haveI i1:∀ (D':Ds) (J:List Mine.O),Ao (hp B D' (ad Δ J)) (.ref (D.er (t.nth top))) (.int 1)=some (.str (t.nd (t.nth top)).name):=fun D' J=>(E.ad J).i1
 have hnl:(t.nd (t.nth top)).name.length≤100000:=by have:=E.onm.2;exact o_0 ‹_› (by exact rfl)
 cases T with
 | @fin _ aa h ha _ =>
  dsimp! [hsa]
  dsimp! [ima hA,List.length_map,(by exact o_0 ‹_› (by exact rfl):t.stack.length≤100000),e1]
  have hkr:∀ σ:H,Aw σ (.type "range") [.int (top:Int)]=some (.ref σ.length,σ++[.range 0 (top:Int)]):=fun σ=>by
   rw [Ib,if_pos (Int.ofNat_le.mpr (o_1 hT rfl))];rfl
  have hkr2:∀ (σ:H) (low:Nat),low≤top→Aw σ (.type "range") [.int ((low:Int)+1),.int ((top:Int)+1)]=some (.ref σ.length,σ++[.range ((low:Int)+1) ((top:Int)+1)]):=fun σ low hl=>by
   rw [Tx,if_pos (have r:=Ws (o_0 (Nat.le_trans (Nat.succ_le_succ hl) hT) rfl) (o_0 hT rfl);⟨r.1,r.2.1,r.2.2.2⟩)];rfl
  have hb0:(-((100000:Nat):Int)≤0∧(0:Int)≤((100000:Nat):Int)∧-((100000:Nat):Int)≤(top:Int)∧(top:Int)≤((100000:Nat):Int))=True:=eq_true (Wr (o_1 hT rfl))
  have hb1:∀ low:Nat,low≤top→(-((100000:Nat):Int)≤(low:Int)+1∧(low:Int)+1≤((100000:Nat):Int)∧-((100000:Nat):Int)≤(top:Int)+1∧(top:Int)+1≤((100000:Nat):Int))=True:=fun low hl=>eq_true (Ws (o_0 (Nat.le_trans (Nat.succ_le_succ hl) hT) rfl) (o_0 hT rfl))
  have fits:∀ (t1:St) (D1:Ds) (Δ1:List VR),t1.stack=t.stack→t1.nodes=t.nodes→endB t n=endLoop t1 n top→RelD t1 D1 Δ1→StOk (b+4) t1→D1.er=D.er→Ag Δ Δ1→Af Δ Δ1 →
    At Δ1 (sz Δ) (.imm (.cell (some (.ref a))))→At Δ1 (sz Δ+1) (.imm (.cell (some (.ref sa)))) →
    ws (Gy.body.drop 4) ⟨d+2,[some (.ref 37),some (.int (top:Int)),some (.int (Ar t1 top:Int)),none],[sz Δ,sz Δ+1]⟩ (hp B D1 Δ1) (rk Q):=by
   intro t1 D1 Δ1 q1 q2 q3 R1 O1 qer x1 x2 hc0 hc1
   have hle:=L8 t1 top
   have hA1:At Δ1 sa (.imm (.list (t1.stack.map fun n=>V.ref (D1.er n)))):=by rw [q1,qer];exact hA.xd x1
   have htl1:top < t1.stack.length:=by rw [q1];exact htl
   dsimp! [hkr2 _ _ hle,hb1 _ hle,Du,Dv,List.replicate]
   have htn:((top:Int)+1-((Ar t1 top:Int)+1)).toNat=top-Ar t1 top:=(Int.toNat_sub (top+1) (Ar t1 top+1)).trans (Nat.add_sub_add_right _ _ _)
   have hlo:(Ar t1 top:Int)+1=((Ar t1 top+1:Nat):Int):=by exact rfl
   rw [htn,hlo]
   refine Ip (P:=D7 t1 n) (pre:=[.range ((Ar t1 top+1:Nat):Int) ((top:Int)+1)]) (m:=1) rfl (top-Ar t1 top) (Ar t1 top+1) none [] [] (Nat.le_trans (Nat.le_of_eq (Nat.zero_add _)) (Nat.le_trans (Nat.sub_le _ _) (o_1 hT rfl))) ?_ ?_
   ·intro q h1 h2 L Kb kb
    have hq:q < t1.stack.length:=Nat.lt_of_lt_of_le h2 (Nat.le_trans (Nat.le_of_eq (by rw [Nat.add_right_comm,Nat.add_sub_cancel' hle])) htl1)
    have Eq:=R1.nv O1 hq
    have e0:∀ (D':Ds) (J:List Mine.O),Ao (hp B D' (ad Δ1 J)) (.ref (D1.er (t1.nth q))) (.int 1)=some (.str (t1.nd (t1.nth q)).name):=fun D' J=>(Eq.ad J).i1
    have e1:=fun (D':Ds) (J:List Mine.O)=>L9 (B:=B) (D':=D') (J:=J) hA1 O1 hq
    have os:=Gb Eq.onm.1
    have hl1:(t1.nd (t1.nth q)).name.length≤100000:=by have:=Eq.onm.2;exact o_0 ‹_› (by exact rfl)
    simp! [ima hc1,ima hc0,e1,e0,hl1,Ie Eq.asc,os,ima (h.xd x1),on]
    have:=kb []
    simpa [D7] using this
   ·intro J
    have ef:List.filter (D7 t1 n) (List.range' (Ar t1 top+1) (top-Ar t1 top))=D8 t1 n top:=rfl
    rw [List.nil_append,ef]
    simp only [List.singleton_append]
    have q0:∀ (B:Bs) (D:Ds),pd (hp B D (ad Δ1 (.range ((Ar t1 top+1:Nat):Int) ((top:Int)+1) :: .list (itv (D8 t1 n top)) :: (J++[.list []])))) Ax (.ref (sz Δ1+1))=some (.list ((D8 t1 n top).map fun (u:Nat)=>PyData.int (u:Int))):=fun B D=>Aar rfl
    have q1':∀ (B:Bs) (D:Ds),pd (hp B D (ad Δ1 (.range ((Ar t1 top+1:Nat):Int) ((top:Int)+1) :: .list (itv (D8 t1 n top)) :: (J++[.list []])))) Ax (.ref (sz Δ1+(J.length+1+1)))=some (.list []):=fun B D=>Pf (ws:=[]) (by simp) (by simp)
    have hend:=Wp O1 n top htl1
    have hfl:(D8 t1 n top).length≤100:=by
     have:=List.length_filter_le (D7 t1 n) (List.range' (Ar t1 top+1) (top-Ar t1 top))
     rw [ef] at this
     rw [List.length_range'] at this
     exact Nat.le_trans this (Nat.le_trans (Nat.sub_le _ _) (o_1 hT rfl))
    focus (refine oe (List.eq_nil_or_concat (D8 t1 n top)) ?_ ?_;rotate_left;(intro z_o;refine A3 z_o ?_;intro us u e);rotate_right;(intro e))
    ·rw [e] at hend q0 q1'
     rw [e]
     simp only [List.map_nil] at q0
     dsimp! [D6,q0,q1',PyData.eqv,PyData.eqvAll]
     have hg:decide ((top:Int) > 0)=decide (0 < top):=by apply decide_eq_decide.mpr;exact Int.ofNat_lt
     cases hh:decide (0 < top)
     ·dsimp! [hg,hh]
      have h0:¬ 0 < top:=by simpa using hh
      have:endB t n=t1:=by rw [q3,hend];exact if_neg h0
      rw [this] at k
      exact k _ _ (x1.trans (Ag.ad _)) (R1.xb (Af.ad _))
     ·dsimp! [hg,hh]
      have h0:0 < top:=by simpa using hh
      have:endB t n=Bf t1 (.fin n):=by rw [q3,hend];exact if_pos h0
      rw [this] at k
      dsimp! [ima hc0]
      refine Pg (R1.xb (Af.ad _)) O1 ((TokAt.fin (h.xd x1) (ha.xd x1) on).ad _) G fun D' Δ' x' R'=>?_
      simp! []
      exact k D' Δ' ((x1.trans (Ag.ad _)).trans x') R'
    ·rw [List.concat_eq_append] at e
     rw [e] at hend q0 q1' hfl
     rw [List.getLast?_concat] at hend
     rw [e]
     simp only [List.map_append,List.map_cons,List.map_nil] at q0
     have hne:PyData.eqv (.list ((us.map fun (u:Nat)=>PyData.int (u:Int))++[.int (u:Int)])) (.list [])=false:=by
      cases us<;>rfl
     dsimp! [D6,q0,q1',hne]
     have hil:Ao (hp B D1 (ad Δ1 (.range ((Ar t1 top+1:Nat):Int) ((top:Int)+1) :: .list (itv (us++[u])) :: (J++[.list []])))) (.ref (sz Δ1+1)) (.int (-1))=some (.int (u:Int)):=by
      refine Hf (xs:=itv us) (v:=.int (u:Int)) ?_
      rw [De];show some _=_;rw [Pj]
     have hsl2:Ec (hp B D1 (ad Δ1 (.range ((Ar t1 top+1:Nat):Int) ((top:Int)+1) :: .list (itv (us++[u])) :: (J++[.list []])))) (.ref sa) (.int (u:Int))=some (.ref (sz Δ1+(J.length+3)),hp B D1 (ad Δ1 (.range ((Ar t1 top+1:Nat):Int) ((top:Int)+1) :: .list (itv (us++[u])) :: (J++[.list [],.list ((t1.stack.take u).map fun n=>V.ref (D1.er n))])))):=by
      rw [N3 (ima hA1),new_ad,if_pos (by exact Ql),Int.toNat_natCast,List.map_take]
      simp
     dsimp! [ima hc1,hil,hsl2]
     have:endB t n={t1 with stack:=t1.stack.take u}:=by rw [q3,hend]
     rw [this] at k
     refine k _ _ (x1.trans (Ag.ad _)) ?_
     have R2:=R1.xb (Af.ad (.range ((Ar t1 top+1:Nat):Int) ((top:Int)+1) :: .list (itv (us++[u])) :: (J++[.list [],.list ((t1.stack.take u).map fun n=>V.ref (D1.er n))])))
     exact {tr:=R2.tr.cg rfl rfl rfl rfl rfl,stack:=⟨_,rfl,At.new_ad (k:=J.length+3) (by simp)⟩,notes:=R2.notes,fok:=R2.fok,ack:=R2.ack,att:=fun m hm=>R2.att m (List.mem_of_mem_take hm)}
  have rest:∀ (t1:St) (D1:Ds) (Δ1:List VR),t1.stack=t.stack→t1.nodes=t.nodes→endB t n=endLoop t1 n top→RelD t1 D1 Δ1→StOk (b+4) t1→D1.er=D.er→Ag Δ Δ1→Af Δ Δ1 →
    At Δ1 (sz Δ) (.imm (.cell (some (.ref a))))→At Δ1 (sz Δ+1) (.imm (.cell (some (.ref sa)))) →
    ws (Gy.body.drop 3) ⟨d+2,[some (.ref 37),some (.int (top:Int)),none,none],[sz Δ,sz Δ+1]⟩ (hp B D1 Δ1) (rk Q):=by
   intro t1 D1 Δ1 q1 q2 q3 R1 O1 qer x1 x2 hc0 hc1
   have hA1:At Δ1 sa (.imm (.list (t1.stack.map fun n=>V.ref (D1.er n)))):=by rw [q1,qer];exact hA.xd x1
   have htl1:top < t1.stack.length:=by rw [q1];exact htl
   dsimp! [-Ib,hkr,hb0,Du,Dv,List.replicate]
   have htn:((top:Int)-0).toNat=top:=by exact rfl
   rw [htn]
   refine Ip (P:=Bw t1) (pre:=[.list [.int 0],.range 0 (top:Int)]) (m:=2) rfl top 0 none [] [] (Nat.le_trans (Nat.le_of_eq (Nat.zero_add _)) (o_1 hT rfl)) ?_ ?_
   ·intro q h1 h2 L Kb kb
    have hq:q < t1.stack.length:=Nat.lt_trans (Nat.zero_add top▸h2) htl1
    have e0:∀ (D':Ds) (J:List Mine.O),Ao (hp B D' (ad Δ1 J)) (.ref (D1.er (t1.nth q))) (.int 0)=some (.str (t1.nd (t1.nth q)).space):=fun D' J=>((R1.nv O1 hq).ad J).i0
    have e1:=fun (D':Ds) (J:List Mine.O)=>L9 (B:=B) (D':=D') (J:=J) hA1 O1 hq
    have os:=(R1.nv O1 hq).osp.1
    simp! [ima hc1,e1,e0,os]
    have:=kb []
    simpa [Bw] using this
   ·intro J
    rw [List.nil_append]
    simp only [List.cons_append,List.nil_append]
    have hfl:(List.filter (Bw t1) (List.range' 0 top)).length≤100:=by
     have:=List.length_filter_le (Bw t1) (List.range' 0 top)
     rw [List.length_range'] at this
     exact Nat.le_trans this (o_1 hT rfl)
    have hf1:1+(List.filter (Bw t1) (List.range' 0 top)).length≤100000:=by exact Mk ‹_› (by exact rfl)
    have hmx:Cs (.int 0 :: itv (List.filter (Bw t1) (List.range' 0 top)))=some (Ar t1 top:Int):=Aaq t1 top
    simp! [Gj,hf1,hmx]
    exact fits t1 D1 _ q1 q2 q3 (R1.xb (Af.ad _)) O1 qer (x1.trans (Ag.ad _)) (x2.trans (Af.ad _)) (hc0.ad _) (hc1.ad _)
  have es:=fun (J:List Mine.O)=>L9 (B:=B) (D':=D) (J:=J) hA O htl
  have hnl1:D.notes.length≤100000:=by have:=O.nlen;rw [R.notes.len];exact o_1 ‹_› (by exact rfl)
  have eb:∀ c:Bool,(A5 (t.nd (t.nth top)).name==n)=c→endB t n=endLoop (if c then t else {t with notes:=t.notes++[.tuple [.str (s "unexpected-end-tag"),.str t.mode]]}) n top:=by
   intro c hc
   unfold endB
   rw [← etop,hc,htop]
  cases e:A5 (t.nd (t.nth top)).name==n
  ·have hq:=eb false e
   dsimp! [es,i1,hnl,Ie E.asc,Gb E.onm.1,ima h,on,e]
   dsimp! [hnl1]
   have R1:=Wq (D:=D) (J:=[.cell (some (.ref a)),.cell (some (.ref sa)),.tuple [.str (s "unexpected-end-tag"),.str B.mode]]) (a:=sz Δ+2) (x:=.tuple [.str (s "unexpected-end-tag"),.str t.mode]) R ⟨_,_,rfl,At.new_ad (k:=2) rfl,_,_,rfl,⟨rfl,Ap⟩,_,_,rfl,⟨by rw [hm],O.mode⟩,rfl⟩
   exact rest {t with notes:=t.notes++[.tuple [.str (s "unexpected-end-tag"),.str t.mode]]} _ _ rfl rfl hq R1 (O.note E9) rfl (Ag.ad _) (Af.ad _) (At.new_ad (k:=0) rfl) (At.new_ad (k:=1) rfl)
  ·have hq:=eb true e
   dsimp! [es,i1,hnl,Ie E.asc,Gb E.onm.1,ima h,on,e]
   exact rest t D _ rfl rfl hq (R.xb (Af.ad _)) O.less rfl (Ag.ad _) (Af.ad _) (At.new_ad (k:=0) rfl) (At.new_ad (k:=1) rfl)
end
noncomputable def elP (t:St) (path:Nat→List Nat):Nat→Nat→PyData
 | 0,_=>.none
 | h+1,n=>.list [.str (t.nd n).space,.str (t.nd n).name,.list (Ak (t.nd n).attrs),.list ((t.kids n).map fun m =>
   if (t.nd m).kind==s "element" then elP t path h m else if (t.nd m).kind==s "text" then .str (t.nd m).text else .tuple [.str (s "comment"),.str (t.nd m).text]),
   .tuple ((path n).map fun (i:Nat)=>PyData.int (i:Int))]
section
variable {d b:Nat} {t:St} {B:Bs} {D:Ds} {Δ:List VR} {Q:V→H→Prop}
noncomputable def elE (t:St):Nat:=(t.nodes.filter fun x=>x.kind==s "element").length
theorem Ma (t:St) (n:Nat):Bo t n≤elE t:=((List.take_sublist (n+1) t.nodes).filter _).length_le
noncomputable def Cd (t:St) (path:Nat→List Nat) (h m:Nat):PyData:=if (t.nd m).kind==s "element" then elP t path h m else if (t.nd m).kind==s "text" then .str (t.nd m).text else .tuple [.str (s "comment"),.str (t.nd m).text]
theorem Pm {path:Nat→List Nat} {h n:Nat}:elP t path (h+1) n=.list [.str (t.nd n).space,.str (t.nd n).name,.list (Ak (t.nd n).attrs),.list ((t.kids n).map (Cd t path h)),.tuple ((path n).map fun (i:Nat)=>PyData.int (i:Int))]:=rfl
theorem Mb:(s "text"==s "element")=false:=by decide +kernel
theorem Pn:(s "comment"==s "element")=false:=by decide +kernel
theorem Wt:(s "comment"==s "text")=false:=by decide +kernel
theorem Wu {as:List (Str×Str)}:A7 (Ak as)≤1:=Vx
theorem Iq {a m:Nat} {vs:List V} {ds:List PyData} {σ:H} (h:σ[a]?=some (.list vs)) (hd:pds σ m vs=some ds):pd σ (m+1) (.ref a)=some (.list ds):=by
 rw [Es,h];dsimp only;rw [hd];rfl
theorem Aat {a m:Nat} {vs:List V} {ds:List PyData} {σ:H} (h:σ[a]?=some (.tuple vs)) (hd:pds σ m vs=some ds):pd σ (m+1) (.ref a)=some (.tuple ds):=by
 rw [Es,h];dsimp only;rw [hd];rfl
theorem Po (R:RelT t D Δ) (O:StOk b t) (hE:elE t≤13):∀ (h n:Nat) (x:Nd),0 < n→t.nodes[n]?=some x→x.kind=s "element"→x.par≠-1→14≤(D.path n).length+h→∀ m,2*h+1≤m→pd (hp B D Δ) m (.ref (D.er n))=some (elP t D.path h n)∧(pds (hp B D Δ) (m-2) (D.ekid n)=some ((t.kids n).map (Cd t D.path (h-1))))
 | 0,n,x,h0,hx,hk,hp',hl,m,hm=>by
  exact absurd (Nat.le_trans hl (Nat.le_trans (R.plen n x hx hk hp').2 (Nat.le_trans (Ma t n) hE))) (by decide)
 | h+1,n,x,h0,hx,hk,hp',hl,m,hm=>by
  (refine Gr (R.el n x hx hk hp') ?_;intro da dk dp us a1 a2 a3 a4 a5)
  have hkids:pds (hp B D Δ) (m-2) (D.ekid n)=some ((t.kids n).map (Cd t D.path h)):=by
   haveI hk0:=R.kids n x hx hk hp'
   haveI hsub:∀ q∈t.kids n,q∈t.kids n:=fun _ q=>q
   haveI gen:∀ (ms:List Nat) (vs:List V),(∀ q∈ms,q∈t.kids n)→A1 t D Δ ms vs→pds (hp B D Δ) (m-2) vs=some (ms.map (Cd t D.path h)):=by
    intro ms
    induction ms with
    | nil=>intro vs _ e;cases e;exact Df
    | cons q ms ih =>
     intro vs hs ⟨v,vs',e,hv,hr⟩
     subst e
     rw [Ei,ih vs' (fun z hz=>hs z (.tail _ hz)) hr]
     haveI hq:=hs q (.head _)
     (refine Aa hv ?_;try clear hv;intro y h1 h2)
     (refine Aa (O.kpar n q hq) ?_;intro y' q1 q2)
     rw [h1] at q1
     cases q1
     haveI eq:=Bi h1
     haveI:pd (hp B D Δ) (m-2) v=some (Cd t D.path h q):=by
      unfold Cd
      rw [eq]
      rcases h2 with ⟨k1,k2,rfl⟩ | ⟨k1,rfl⟩ | ⟨k1,k2⟩
      ·rw [k1,beq_self_eq_true,if_pos rfl]
       (refine Aa (R.pathS q y n h0 h1 k1 q2) ?_;intro i _ e2)
       haveI hq0:0 < q:=by
        focus (refine oe (O.par q y h1) ?_ ?_;rotate_left;(intro z_o;refine Aa z_o ?_;intro p e hp2);rotate_right;(intro e))
        ·exact absurd e k2
        ·exact Eu ‹_› (by exact rfl)
       exact (Po R O hE h q y hq0 h1 k1 k2 (by rw [e2,List.length_append];exact Nat.le_trans hl (Nat.le_of_eq (Nat.add_right_comm _ h 1))) (m-2) (Nat.le_sub_of_add_le hm)).1
      ·rw [k1,Mb,beq_self_eq_true]
       exact E8 (O.nd q y h1).text.1
      ·rw [k1,Pn,Wt]
       exact Rep.pd k2 (Nat.le_trans (Cf (m:=0) (Aq Ba (Aq Ba B7))) (Nat.le_trans (Nat.succ_le_succ (Nat.zero_le (2*h))) (Nat.le_sub_of_add_le hm)))
     rw [this]
     rfl
   exact gen _ _ hsub hk0
  refine ⟨?_,hkids⟩
  obtain ⟨m',rfl⟩:∃ m',m=m'+2:=⟨m-2,(Nat.sub_add_cancel (Nat.le_trans (Nat.succ_le_succ (Nat.succ_le_succ (Nat.zero_le _))) hm)).symm⟩
  rw [Pm,Bi hx]
  haveI N:=O.nd n x hx
  refine Iq (im a1) ?_
  simp only [Nat.add_sub_cancel] at hkids
  haveI e1:pd (hp B D Δ) (m'+1) (.ref da)=some (.list (Ak x.attrs)):=Iq (im a2) (Ae.pd a3 (Nat.le_trans Wu (Nat.le_of_add_le_add_right (b:=2) (Nat.le_trans (Nat.le_add_left 3 (2*h)) hm))))
  have e2:pd (hp B D Δ) (m'+1) (.ref dk)=some (.list ((t.kids n).map (Cd t D.path h))):=Iq (ek a4) hkids
  have e3:pd (hp B D Δ) (m'+1) (.ref dp)=some (.tuple ((D.path n).map fun (i:Nat)=>PyData.int (i:Int))):=Aat (im a5) L1
  simp only [Ei,Df,E8 N.space.1,E8 N.name.1,e1,e2,e3]
end
section
variable {d b:Nat} {t:St} {B:Bs} {D:Ds} {Δ:List VR} {Q:V→H→Prop}
theorem Wv (P:Nat→Bool):∀ (r:List Nat),(∃ x∈r,P x=true)→∃ us k,(List.range' 0 r.length).filter (fun p=>P ((r.reverse[p]?).getD 0))=us++[k]∧(r.dropWhile fun x=>!P x).reverse=r.reverse.take (k+1)∧k < r.length∧∀ u∈us,u≤k
 | [],h=>by (refine Aa h ?_;try clear h;intro x hx _);cases hx
 | x :: r,h=>by
  haveI hlast:(((x :: r).reverse)[r.length]?).getD 0=x:=by simp
  haveI hold:∀ p,p < r.length→(((x :: r).reverse)[p]?).getD 0=((r.reverse)[p]?).getD 0:=fun p hp'=>by
   rw [List.reverse_cons,List.getElem?_append_left (by simpa using hp')]
  have ef:(List.range' 0 (x :: r).length).filter (fun p=>P (((x :: r).reverse[p]?).getD 0))=(List.range' 0 r.length).filter (fun p=>P ((r.reverse[p]?).getD 0))++(if P x then [r.length] else []):=by
   show (List.range' 0 (r.length+1)).filter _=_
   rw [Pi,List.filter_append,Nat.zero_add]
   congr 1
   ·refine List.filter_congr fun p hp'=>?_
    rw [hold p (by simpa using hp')]
   ·simp only [List.filter_cons,List.filter_nil,hlast]
  cases hx:P x
  ·obtain ⟨us,k,h1,h2,h3,h4⟩:=Wv P r (by
    (refine Aa h ?_;try clear h;intro y hy hP)
    cases hy with
    | head=>rw [hx] at hP;cases hP
    | tail _ hy=>exact ⟨y,hy,hP⟩)
   refine ⟨us,k,?_,?_,by simp;exact Do ‹_›,h4⟩
   ·rw [ef,hx,h1];simp
   ·rw [List.dropWhile_cons,hx]
    simp only [Bool.not_false,if_true]
    rw [h2,List.reverse_cons,List.take_append_of_le_length (by simp;assumption)]
  ·refine ⟨(List.range' 0 r.length).filter (fun p=>P ((r.reverse[p]?).getD 0)),r.length,?_,?_,by simp,?_⟩
   ·rw [ef,hx];rfl
   ·rw [List.dropWhile_cons,hx]
    simp
    rw [List.take_of_length_le (by simp)]
   ·intro u hu
    haveI:=(List.mem_filter.mp hu).1
    exact Nat.le_of_lt (Nat.lt_of_lt_of_le (List.mem_range'_1.mp this).2 (Nat.le_of_eq (Nat.zero_add _)))
theorem Aau (O:StOk b t) {n:Str} (h:C5 t n=true) (hl:1 < t.stack.length):endB t n={t with stack:=t.stack.dropLast}:=by
 unfold C5 at h
 simp only [Bool.and_eq_true,beq_iff_eq] at h
 (refine As h ?_;try clear h;intro z_0 h1 h2;obtain rfl:=z_0)
 (refine A3 (C4 O) ?_;intro ss m hs)
 haveI etop:t.nth (t.stack.length-1)=t.top:=by
  rw [Gf hs,hs];simp [St.nth,hs]
 haveI e1:(A5 (t.nd t.top).name==s "script")=true:=by rw [h2];decide +kernel
 unfold endB
 rw [e1]
 simp only [if_true]
 (refine Ad (Nat.exists_eq_succ_of_ne_zero (Nat.sub_ne_zero_of_lt hl)) ?_;intro q hq)
 rw [hq]
 rw [L5]
 rw [hq] at etop
 rw [etop,e1]
 simp only [if_true]
 rw [List.dropLast_eq_take,hq]
theorem Aav (R:RelT t D Δ) (O:StOk b t) {n m:Nat} {x:Nd} {c:Str} {ks:List Nat} {vs:List V} {v:V} (hm:t.nodes[m]?=some x) (hx:x.kind=s "text") (hk:t.kids n=ks++[m]) (hv:D.ekid n=vs++[v]) :
  RelT (t.grow m x c) {D with ekid:=upd D.ekid n (vs++[.str (x.text++c)])} Δ:=by
 have ml:=(List.getElem?_eq_some_iff.mp hm).1
 have hne:(s "text":Str)≠s "element":=by decide +kernel
 have get:∀ {q:Nat} {z:Nd},(t.grow m x c).nodes[q]?=some z→(q=m∧z={x with text:=x.text++c})∨(q≠m∧t.nodes[q]?=some z):=fun {q z} h=>by
  focus (refine oe (Il h) ?_ ?_;rotate_left;(intro h1);rotate_right;(intro z_o;refine As z_o ?_;intro h1 h2 _))
  ·exact .inl ⟨h1,h2⟩
  ·exact .inr h1
 have old:∀ {q:Nat} {z:Nd},(t.grow m x c).nodes[q]?=some z→z.kind=s "element"→t.nodes[q]?=some z:=fun {q z} h1 h2=>by
  focus (refine oe (get h1) ?_ ?_;rotate_left;(intro z_o;refine Ac z_o ?_;intro _ q1);rotate_right;(intro z_o;refine Ac z_o ?_;intro z_0 z_1;obtain rfl:=z_0;obtain rfl:=z_1))
  ·exact absurd (hx.symm.trans h2) hne
  ·exact q1
 have kv:∀ (q:Nat) (v:V),q≠m→Cb t D Δ q v→Cb (t.grow m x c) {D with ekid:=upd D.ekid n (vs++[.str (x.text++c)])} Δ q v:=fun q v hq ⟨z,h1,h2⟩ =>
  ⟨z,by show (t.nodes.set m _)[q]?=_;rw [List.getElem?_set_ne (fun e=>hq e.symm)];exact h1,h2⟩
 (refine Aa (O.kpar n m (by rw [hk];simp)) ?_;intro xm hxm hpm)
 rw [hm] at hxm
 obtain rfl:=Option.some.inj hxm
 refine {el:=fun q z h1 h2 h3=>R.el q z (old h1 h2) h2 h3,kids:=?_,uniq:=R.uniq,fresh:=?_,path1:=R.path1,plen:=?_,up:=?_,pathS:=fun q z p h0 h1 h2 h3=>R.pathS q z p h0 (old h1 h2) h2 h3}
 ·intro q z h1 h2 h3
  have hq:=R.kids q z (old h1 h2) h2 h3
  show A1 _ _ _ (t.kids q) (upd D.ekid n _ q)
  by_cases e:q=n
  ·subst e
   rw [Dj,hk]
   rw [hk,hv] at hq
   haveI nd:=O.knd q
   rw [hk] at nd
   have gen:∀ (ms:List Nat) (us:List V),(∀ y∈ms,y≠m)→A1 t D Δ (ms++[m]) (us++[v])→A1 (t.grow m x c) {D with ekid:=upd D.ekid q (vs++[.str (x.text++c)])} Δ (ms++[m]) (us++[.str (x.text++c)]):=by
    intro ms
    induction ms with
    | nil =>
     intro us _ hh
     have hl:=hh.len
     have:us=[]:=by cases us with | nil=>rfl | cons _ _=>simp at hl
     subst this
     refine ⟨_,[],rfl,⟨{x with text:=x.text++c},?_,.inr (.inl ⟨hx,rfl⟩)⟩,rfl⟩
     show (t.nodes.set m _)[m]?=_
     rw [List.getElem?_set,if_pos rfl,if_pos ml]
    | cons y ms ih =>
     intro us hy hh
     induction us with
     | nil =>
      have hl:=hh.len
      simp at hl
     | cons u us =>
      (refine Ai hh ?_;try clear hh;intro u' us' e h4 h5)
      cases e
      exact ⟨u,us++[.str (x.text++c)],rfl,kv y u (hy y (.head _)) h4,ih us (fun z hz=>hy z (.tail _ hz)) h5⟩
   refine gen ks vs ?_ hq
   intro y hy e
   subst e
   have:=(List.nodup_append.mp nd).2.2 y hy y (by simp)
   exact this rfl
  ·rw [Dk e]
   refine hq.imp fun y hy v h=>kv y v ?_ h
   intro e2
   subst e2
   (refine Aa (O.kpar q y hy) ?_;intro z' h4 h5)
   rw [hm] at h4
   obtain rfl:=Option.some.inj h4
   exact e (Mn (h5.symm.trans hpm))
 ·intro a q h
  show q < (t.nodes.set m _).length
  rw [List.length_set]
  exact R.fresh a q h
 ·intro q z h1 h2 h3
  have e:Bo (t.grow m x c) q=Bo t q:=by
   unfold Bo
   show ((List.take (q+1) (t.nodes.set m _)).filter _).length=_
   have:∀ (l:List Nd) (i:Nat),l[i]?=some x→∀ k,((l.set i {x with text:=x.text++c}).take k |>.filter fun x=>x.kind==s "element").length=(l.take k |>.filter fun x=>x.kind==s "element").length:=by
    intro l
    induction l with
    | nil=>intro i hi;simp at hi
    | cons a l ih =>
     intro i hi k
     cases k with
     | zero=>simp
     | succ k =>
      induction i with
      | zero =>
       simp at hi;subst hi
       simp only [List.set_cons_zero,List.take_succ_cons,List.filter_cons,hx]
       rw [Mb];rfl
      | succ i =>
       simp only [List.set_cons_succ,List.take_succ_cons,List.filter_cons]
       have:=ih i (by simpa using hi) k
       split<;>simp_all
   exact this _ _ hm _
  rw [e]
  exact R.plen q z (old h1 h2) h2 h3
 ·intro q z p h1 h2 h3
  focus (refine oe (R.up q z p (old h1 h2) h2 h3) ?_ ?_;rotate_left;(intro z_o;refine Au z_o ?_;intro w q1 q2 q3);rotate_right;(intro q0))
  ·exact .inl q0
  ·rcases Nat.decEq m p with e | e
   ·exact .inr ⟨w,by show (t.nodes.set m _)[p]?=_;rw [List.getElem?_set_ne e];exact q1,q2,q3⟩
   ·subst e
    rw [hm] at q1;cases q1
    exact absurd (hx.symm.trans q2) hne
end
section
variable {d b:Nat} {t:St} {B:Bs} {D:Ds} {Δ:List VR} {Q:V→H→Prop}
theorem Aaw {a:Nat} {vs:List V} {x v:V} (h:(hp B D Δ)[a]?=some (.list (vs++[x]))) (ha:4≤a):Cy (hp B D Δ) (.ref a) (.int (-1)) v=some ((hp B D Δ).set a (.list (vs++[v]))):=by
 show onL (hp B D Δ)[a]? _=_
 rw [h]
 show gd (Nat.ble fz a) ((C7 (-1) (vs++[x]).length).map _)=_
 rw [List.length_append]
 show gd (Nat.ble 4 a) ((C7 (-1) (vs.length+1)).map _)=_
 rw [Lv ha,ld]
 exact congrArg (fun z=>some ((hp B D Δ).set a (.list z))) ((List.set_append_right _ _ (Nat.le_refl _)).trans (by rw [Nat.sub_self];rfl))
theorem Pp (R:RelD t D Δ) {t':St} {D':Ds} (h:RelT t' D' Δ) (e1:t'.stack=t.stack) (e2:t'.notes=t.notes) (e3:t'.fok=t.fok) (e4:t'.ack=t.ack) (f1:D'.stack=D.stack) (f2:D'.notes=D.notes) (f3:D'.fok=D.fok) (f4:D'.ack=D.ack) (f5:D'.er=D.er)
  (at':∀ (n:Nat) (x:Nd),t.nodes[n]?=some x→x.kind=s "element"→∃ y,t'.nodes[n]?=some y∧y.kind=s "element"∧y.par=x.par):RelD t' D' Δ:=by
 refine {tr:=h,stack:=?_,notes:=?_,fok:=?_,ack:=?_,att:=?_}
 ·rw [e1,f1,f5];exact R.stack
 ·rw [e2,f2];exact R.notes
 ·rw [e3,f3];exact R.fok
 ·rw [e4,f4];exact R.ack
 ·intro n hn
  rw [e1] at hn
  (refine Au (R.att n hn) ?_;intro x h1 h2 h3)
  (refine Au (at' n x h1 h2) ?_;intro y q1 q2 q3)
  exact ⟨y,q1,q2,by rw [q3];exact h3⟩
theorem Ww {n:Nat} {x:Nd} (m:Nat) (z:Nd) (h:t.nodes[m]?=some z) (hk:z.kind=s "element"):∃ y,(t.under n x).nodes[m]?=some y∧y.kind=s "element"∧y.par=z.par :=
 ⟨z,by rw [Bn,List.getElem?_append_left (List.getElem?_eq_some_iff.mp h).1];exact h,hk,rfl⟩
theorem Aax {m:Nat} {x:Nd} {c:Str} (hx:t.nodes[m]?=some x) (q:Nat) (z:Nd) (h:t.nodes[q]?=some z) (hk:z.kind=s "element"):∃ y,(t.grow m x c).nodes[q]?=some y∧y.kind=s "element"∧y.par=z.par:=by
 rcases Nat.decEq m q with e | e
 ·exact ⟨z,by show (t.nodes.set m _)[q]?=_;rw [List.getElem?_set_ne e];exact h,hk,rfl⟩
 ·subst e
  rw [hx] at h;obtain rfl:=Option.some.inj h
  refine ⟨{x with text:=x.text++c},?_,hk,rfl⟩
  show (t.nodes.set m _)[m]?=_
  rw [List.getElem?_set,if_pos rfl,if_pos (List.getElem?_eq_some_iff.mp hx).1]
theorem Pq {sp kind c:Str} {a dk n:Nat} {y:Nd} {K:KS} {cl:List Nat} (R:RelD t D Δ) (O:StOk (b+1) t) (hE:elE t≤13) {ss:List Nat} (hs:t.stack=ss++[n]) (hy:t.nodes[n]?=some y) (hk:y.kind=s "element") (hp':y.par≠-1) (hdk:At Δ dk (.ekid n)) (hc:PyData.strOk c=true) (h1:c.length≤1) (hb:b≤900)
  (k:∀ D' Δ',Ag Δ Δ'→RelD (t.sign c) D' Δ'→K .next [some (.ref 37),some (.str sp),some (.ref a),some (.str kind),some (.str c),some (.ref dk),none] (hp B D' Δ')) :
  ws [(.ite (.boo .And [(.cmp (.loc 5) [.NotEq] [(.lst [])]),(.call (.cst (.con (.builtin "isinstance"))) [(.idx (.loc 5) (.neg (.cst (.int 1)))),(.cst (.con (.type "str")))])]) [(.asg (.ix (.loc 5) (.neg (.cst (.int 1)))) (.bin .Add (.idx (.loc 5) (.neg (.cst (.int 1)))) (.loc 4)))] [(.ex (.meth (.loc 5) 0 [(.loc 4)]))])]
   ⟨d,[some (.ref 37),some (.str sp),some (.ref a),some (.str kind),some (.str c),some (.ref dk),none],cl⟩ (hp B D Δ) K:=by
 haveI hn:=O.sin n (by rw [hs];simp)
 have et:t.stack.getLast?.getD 0=n:=by rw [hs];simp
 haveI hkv:=R.tr.kids n y hy hk hp'
 haveI hlen:=hkv.len
 haveI hkl:=O.klen n
 haveI hol:=O.len
 have hdk4:=Ow hdk
 have hpd:∀ J:List Mine.O,pd (hp B D (ad Δ J)) Ax (.ref dk)=some (.list ((t.kids n).map (Cd t D.path 12))):=fun J=>by
  haveI hpl:=R.tr.plen n y hy hk hp'
  exact Iq (m:=29) (eka hdk) (Po (R.tr.xb (Af.ad J)) O hE 13 n y hn.1 hy hk hp' (Nat.add_le_add_right hpl.1 13) 31 (by exact Nat.le_of_ble_eq_true (by exact rfl))).2
 have hpe:∀ J:List Mine.O,pd (hp B D (ad Δ [.list []])) Ax (.ref (sz Δ))=some (.list []):=fun J=>Wh (ws:=[]) rfl (by simp)
 have set1:=fun (xs:List V) (J:List Mine.O)=>Ox (B:=B) (D:=D) (xs:=xs) (hdk.ad J) fun e he=>R.tr.uniq e dk n (he.backB (Af.ad J)) hdk
 have app:∀ (J:List Mine.O),(t.sign c=t.under n ⟨s "text",s "",s "",[],c,-1⟩)→RelD (t.sign c) {D with ekid:=upd D.ekid n (D.ekid n++[.str c])} (ad Δ J):=by
  intro J e
  rw [e]
  have R0:=R.xb (Af.ad J)
  refine Pp R0 (Wb R0.tr O hy ?_ ⟨{kind:=s "text",space:=s "",name:=s "",attrs:=[],text:=c,par:=(n:Int)},by rw [Bn];simp,.inr (.inl ⟨rfl,rfl⟩)⟩) rfl rfl rfl rfl rfl rfl rfl rfl rfl Ww
  intro q
  have:(s "text"==s "element")=true:=by rw [beq_iff_eq];exact q
  rw [Mb] at this;cases this
 have hel:(D.ekid n).length≤100000:=by exact o_3 ‹_› ‹_› ‹_› (by exact rfl)
 focus (refine oe (List.eq_nil_or_concat (t.kids n)) ?_ ?_;rotate_left;(intro z_o;refine A3 z_o ?_;intro ks m e);rotate_right;(intro e))
 ·have e2:D.ekid n=[]:=by
   rw [e] at hlen;simpa using hlen
  have e3:t.sign c=t.under n ⟨s "text",s "",s "",[],c,-1⟩:=by
   simp only [St.sign,et,e];rfl
  have q0:=hpd [.list []]
  rw [e] at q0
  simp only [List.map_nil] at q0
  dsimp! [D6,q0,hpe [],PyData.eqv,PyData.eqvAll]
  dsimp! [Ej (eka hdk),eka hdk,hel,hdk4,set1]
  exact k _ _ (Ag.ad _) (app _ e3)
 ·rw [List.concat_eq_append] at e
  obtain ⟨vs,v,e2⟩:∃ vs v,D.ekid n=vs++[v]:=by
   focus (refine oe (List.eq_nil_or_concat (D.ekid n)) ?_ ?_;rotate_left;(intro z_o;refine A3 z_o ?_;intro vs v q);rotate_right;(intro q))
   ·rw [e,q] at hlen;simp at hlen
   ·exact ⟨vs,v,by rw [q,List.concat_eq_append]⟩
  have hvm:Cb t D Δ m v:=by
   rw [e,e2] at hkv
   have gen:∀ (ks:List Nat) (vs:List V),A1 t D Δ (ks++[m]) (vs++[v])→Cb t D Δ m v:=by
    intro ks
    induction ks with
    | nil =>
     intro vs hh
     have hl:=hh.len
     have:vs=[]:=by cases vs with | nil=>rfl | cons _ _=>simp at hl
     subst this
     (refine Ai hh ?_;try clear hh;intro v' us e h _)
     cases e;exact h
    | cons y ks ih =>
     intro vs hh
     induction vs with
     | nil=>have hl:=hh.len;simp at hl
     | cons u vs =>
      (refine Ai hh ?_;try clear hh;intro v' us e h r)
      cases e;exact ih vs r
   exact gen ks vs hkv
  have q0:=hpd [.list []]
  rw [e] at q0
  have hne:PyData.eqv (.list ((ks++[m]).map (Cd t D.path 12))) (.list [])=false:=by cases ks<;>rfl
  have hil:=Hf (σ:=hp B D (ad Δ [.list []])) (a:=dk) (xs:=vs) (v:=v) (by rw [eka hdk,e2])
  (refine Aa hvm ?_;try clear hvm;intro x hx hcase)
  have eg:(t.kids n).getLast?=some m:=by rw [e];simp
  have sg:t.sign c=if x.kind==s "text" then t.grow m x c else t.under n ⟨s "text",s "",s "",[],c,-1⟩:=by
   simp only [St.sign,et,eg,hx]
  rcases hcase with ⟨k1,k2,rfl⟩ | ⟨k1,rfl⟩ | ⟨k1,k2⟩
  ·have e3:t.sign c=t.under n ⟨s "text",s "",s "",[],c,-1⟩:=by
    rw [sg,k1];exact if_neg (by decide +kernel)
   (refine Qp (R.tr.el m x hx k1 k2) ?_;intro _ _ _ _ a1 _)
   dsimp! [D6,q0,hpe [],hne,hil,ima a1]
   dsimp! [Ej (eka hdk),eka hdk,hel,hdk4,set1]
   exact k _ _ (Ag.ad _) (app _ e3)
  ·have e3:t.sign c=t.grow m x c:=by
    rw [sg,k1];exact if_pos (by decide +kernel)
   have hl2:x.text.length+c.length≤100000:=by have:=(O.nd m x hx).text.2;exact o_8 ‹_› ‹_› (by exact rfl)
   have hsi:=Aaw (B:=B) (D:=D) (Δ:=ad Δ [.list []]) (v:=.str (x.text++c)) (by rw [eka hdk,e2]) hdk4
   dsimp! [D6,q0,hpe [],hne,hil]
   dsimp! [hil,hl2,hsi,set1]
   refine k _ _ (Ag.ad _) ?_
   rw [e3]
   have R0:=R.xb (Af.ad [.list []])
   exact Pp R0 (Aav R0.tr O hx k1 e e2) rfl rfl rfl rfl rfl rfl rfl rfl rfl (Aax hx)
  ·have e3:t.sign c=t.under n ⟨s "text",s "",s "",[],c,-1⟩:=by
    rw [sg,k1];exact if_neg (by decide +kernel)
   (refine Ai k2 ?_;try clear k2;intro ra rvs z_2 rh _;obtain rfl:=z_2)
   dsimp! [D6,q0,hpe [],hne,hil,ima rh]
   dsimp! [Ej (eka hdk),eka hdk,hel,hdk4,set1]
   exact k _ _ (Ag.ad _) (app _ e3)
end
section
variable {d b:Nat} {t:St} {B:Bs} {D:Ds} {Δ:List VR} {Q:V→H→Prop}
theorem Aay:(Str.ofString "unexpected-"++Str.ofString "start")++Str.ofString "-tag"=s "unexpected-start-tag":=by decide +kernel
theorem Aaz:(Str.ofString "unexpected-"++Str.ofString "end")++Str.ofString "-tag"=s "unexpected-end-tag":=by decide +kernel
theorem Aa0:(Str.ofString "unexpected-").length+(Str.ofString "start").length≤100000:=by decide +kernel
theorem Aa1:(Str.ofString "unexpected-"++Str.ofString "start").length+(Str.ofString "-tag").length≤100000:=by decide +kernel
theorem Aa2:(Str.ofString "unexpected-").length+(Str.ofString "end").length≤100000:=by decide +kernel
theorem Aa3:(Str.ofString "unexpected-"++Str.ofString "end").length+(Str.ofString "-tag").length≤100000:=by decide +kernel
theorem Wx (c:Str):(s " "==c||(s "\t" == c || (s "\n" == c || (s "\u000c" == c || s "\r"==c))))=Fc.any (·==c):=by
 simp only [Fc,List.any_cons,List.any_nil,Bool.or_false]
 cases s " "==c<;>cases s "\t" == c <;> cases s "\n" == c <;> cases s "\u000c" == c <;> cases s "\r"==c<;>rfl
theorem Wy {tk:Tok} {sp kind:Str} {a z sa:Nat} {K:KS} (R:RelD t D Δ) (O:StOk (b+4) t) (T:TokAt Δ a tk) (G:Ch tk) (hc0:At Δ z (.imm (.cell (some (.ref sa))))) (hA:At Δ sa (.imm (.list (t.stack.map fun n=>V.ref (D.er n))))) (hholds:∃ x∈t.stack,Bj t x=true)
  (k:∀ D' Δ' kp,Ag Δ Δ'→RelD (Bf {t with stack:=(t.stack.reverse.dropWhile fun n=>!Bj t n).reverse} tk) D' Δ'→K .next [some (.ref 37),some (.str sp),some (.ref a),some (.str kind),none,none,some kp] (hp B D' Δ')) :
  ws [(.asg (.nm 6) (.call (.cst (.con (.builtin "max"))) [(.comp 1 [0] [0] true (.call (.cst (.con (.type "range"))) [(.call (.cst (.con (.builtin "len"))) [(.cel 0)])]) (some (.call (.cst (.con (.ref 720))) [(.idx (.cel 0) (.loc 0))])) (.loc 0))])),
    (.asg (.ix (.loc 0) (.cst (.str (s "stack")))) (.slc (.cel 0) (.bin .Add (.loc 6) (.cst (.int 1))))),(.ex (.call (.cst (.con (.ref 760))) [(.loc 0),(.loc 2)]))]
   ⟨d+3,[some (.ref 37),some (.str sp),some (.ref a),some (.str kind),none,none,none],[z]⟩ (hp B D Δ) K:=by
 haveI hsl:=O.slen
 haveI hml2:t.stack.length≤100000:=by exact o_1 ‹_› (by exact rfl)
 haveI hkr:∀ σ:H,Aw σ (.type "range") [.int (t.stack.length:Int)]=some (.ref σ.length,σ++[.range 0 (t.stack.length:Int)]):=fun σ=>by
  rw [Ib,if_pos (by simp only [lim];exact Qg ‹_› (by exact rfl))];rfl
 haveI hb0:(-((100000:Nat):Int)≤0∧(0:Int)≤((100000:Nat):Int)∧-((100000:Nat):Int)≤(t.stack.length:Int)∧(t.stack.length:Int)≤((100000:Nat):Int))=True:=by
  exact eq_true (Wr hml2)
 (refine Dp (Wv (Bj t) t.stack.reverse (by obtain ⟨x,hx,hh⟩:=hholds;exact ⟨x,by simpa using hx,hh⟩)) ?_;intro us kp h1 h2 h3 h4)
 rw [List.reverse_reverse] at h1 h2
 rw [List.length_reverse] at h1 h3
 haveI hP:((List.range' 0 t.stack.length).filter fun p=>Bj t (t.nth p))=us++[kp]:=h1
 dsimp! [im hc0,im hA,List.length_map,hml2,hkr,hb0,Du,Dv,List.replicate]
 haveI htn:((t.stack.length:Int)-0).toNat=t.stack.length:=by exact rfl
 rw [htn]
 refine Ip (P:=fun p=>Bj t (t.nth p)) (pre:=[.range 0 (t.stack.length:Int)]) (m:=1) rfl t.stack.length 0 none [] [] (by simp;exact o_1 ‹_› (by exact rfl)) ?_ ?_
 ·intro q q1 q2 L Kb kb
  haveI hq:q < t.stack.length:=Nat.zero_add t.stack.length▸q2
  haveI E:=R.nv O hq
  (refine Au (O.nth hq) ?_;intro x e1 e2 e3)
  (refine Aa (O.elem _ (List.mem_of_getElem? e1)) ?_;intro x' e4 e5)
  rw [e2] at e4
  obtain rfl:=Option.some.inj e4
  haveI hsp:=(O.nd _ x e2).spc e5
  haveI ei:=fun (D':Ds) (J:List Mine.O)=>L9 (B:=B) (D':=D') (J:=J) hA O hq
  simp! [ima hc0,ei]
  refine Wg (E.ad _) (by rw [e3];exact hsp) fun J'=>?_
  simp! []
  haveI:=kb J'
  simpa [Bj] using this
 ·intro J
  simp only [List.nil_append,hP]
  simp only [List.singleton_append]
  haveI hul:(us++[kp]).length≤100:=by
   rw [← hP]
   haveI:=List.length_filter_le (fun p=>Bj t (t.nth p)) (List.range' 0 t.stack.length)
   simp at this;exact o_2 ‹_› ‹_› (by exact rfl)
  simp! [Gj,List.length_append,Pk h4]
  haveI hkp:(kp:Int)+1=((kp+1:Nat):Int):=by exact rfl
  haveI hslc:∀ J:List Mine.O,Ec (hp B D (ad Δ J)) (.ref sa) (.int ((kp:Int)+1))=some (.ref (sz Δ+J.length),hp B D (ad Δ (J++[.list ((t.stack.take (kp+1)).map fun n=>V.ref (D.er n))]))):=fun J=>by
   rw [N3 (ima hA),new_ad,if_pos (by exact Ql),hkp,Int.toNat_natCast,List.map_take]
  dsimp! [ima hc0,hslc]
  haveI hts:t.stack=t.stack.take (kp+1)++t.stack.drop (kp+1):=(List.take_append_drop _ _).symm
  haveI hne:t.stack.take (kp+1)≠[]:=by
   intro q
   haveI h5:(t.stack.take (kp+1)).length=0:=by rw [q];rfl
   rw [List.length_take_of_le (by assumption:kp < t.stack.length)] at h5
   cases h5
  haveI R1:RelD {t with stack:=t.stack.take (kp+1)} {D with stack:=.ref (sz Δ+(J.length+1+1))} (ad Δ (.range 0 (t.stack.length:Int) :: .list (itv (us++[kp])) :: (J++[.list ((t.stack.take (kp+1)).map fun n=>V.ref (D.er n))]))):=by
   haveI R0:=R.xb (Af.ad (.range 0 (t.stack.length:Int) :: .list (itv (us++[kp])) :: (J++[.list ((t.stack.take (kp+1)).map fun n=>V.ref (D.er n))])))
   exact {tr:=R0.tr.cg rfl rfl rfl rfl rfl,stack:=⟨_,rfl,At.new_ad (k:=J.length+1+1) (by simp)⟩,notes:=R0.notes,fok:=R0.fok,ack:=R0.ack,att:=fun m hm=>R0.att m (List.mem_of_mem_take hm)}
  dsimp! []
  refine Pg R1 (O.cut hts hne) (T.ad _) G fun D' Δ' x' R'=>?_
  simp! []
  rw [h2] at k
  exact k D' Δ' _ ((Ag.ad _).trans x') R'
theorem Aa4 {tk:Tok} {a:Nat} (R:RelD t D Δ) (O:StOk (b+5) t) (hb:b≤500) (T:TokAt Δ a tk) (G:Ch tk) (hE:elE t≤13) (hm:B.mode=t.mode) {sp:Str} (hsp:sp=s "svg"∨sp=s "math") (esp:(t.nd t.adj).space=sp)
  (hroot:∀ n,tk=.fin n→C5 t n=true→1 < t.stack.length) (hholds:∃ x∈t.stack,Bj t x=true)
  (k:∀ D' Δ',Ag Δ Δ'→RelD (Bk t tk) D' Δ'→Q .none (hp B D' Δ')) :
  Ca (d+4) (.con (.ref 775)) [.ref 37,.str sp,.ref a] (hp B D Δ) Q:=by
 refine ri ?_
 (refine A3 (C4 O) ?_;intro ss n hs)
 (refine Au (R.att n (by rw [hs];simp)) ?_;intro y hy hk hp')
 (refine Aa R.stack ?_;intro sa hsa hA)
 haveI et:=Gf hs
 haveI hA1:At Δ sa (.imm (.list ((ss.map fun n=>V.ref (D.er n))++[V.ref (D.er n)]))):=by rw [hs] at hA;simpa using hA
 have htop:=fun (D':Ds) (J:List Mine.O)=>Hf (ima (B:=B) (D:=D') (J:=J) hA1)
 (refine Gr (R.tr.el n y hy hk hp') ?_;intro da dk dp us a1 a2 a3 a4 a5)
 haveI hdk4:=Ow a4
 haveI hkv:=R.tr.kids n y hy hk hp'
 haveI hlen:=hkv.len
 haveI hel:(D.ekid n).length≤100000:=by have:=O.klen n;have:=O.len;exact o_3 ‹_› ‹_› ‹_› (by exact rfl)
 have hnl1:D.notes.length≤100000:=by have:=O.nlen;rw [R.notes.len];exact o_1 ‹_› (by exact rfl)
 have c0:∀ J:List Mine.O,At (ad Δ (.cell (some (.ref sa)) :: J)) (sz Δ) (.imm (.cell (some (.ref sa)))):=fun J=>At.new_ad (k:=0) rfl
 have nrel:∀ (w:String) (J:List Mine.O) (i:Nat),J[i]?=some (.tuple [.str (s w),.str B.mode])→RelD {t with notes:=t.notes++[.tuple [.str (s w),.str t.mode]]} {D with notes:=D.notes++[.ref (sz Δ+i)]} (ad Δ J):=fun w J i hi =>
  Wq R ⟨_,_,rfl,At.new_ad hi,_,_,rfl,⟨rfl,Ap⟩,_,_,rfl,⟨by rw [hm],O.mode⟩,rfl⟩
 induction T with
 | @chr c h on =>
  (refine Ac (O7 c G) ?_;intro z_0 g3;refine Ac z_0 ?_;intro g1 g2)
  dsimp! [hsa]
  dsimp! [ima h]
  dsimp! []
  dsimp! [ima h]
  dsimp! [htop,ima a1]
  cases e:c==s "\x00"
  ·dsimp! [on,e]
   have ek':Bk t (.chr c)=if Fc.any (·==c) then t.sign c else {t.sign c with fok:=false}:=by
    simp only [Bk,signB,e];rfl
   rw [ek'] at k
   cases e2:Fc.any (·==c)
   ·rw [e2] at k
    have e2':=(Wx c).trans e2
    dsimp! [on,e2']
    dsimp! []
    have R1:RelD {t with fok:=false} {D with fok:=false} (ad Δ [.cell (some (.ref sa)),.list [.str (s " "),.str (s "\t"), .str (s "\n"), .str (s "\u000c"), .str (s "\r")]]):=by
     have R0:=R.xb (Af.ad [.cell (some (.ref sa)),.list [.str (s " "),.str (s "\t"), .str (s "\n"), .str (s "\u000c"), .str (s "\r")]])
     exact {tr:=R0.tr.cg rfl rfl rfl rfl rfl,stack:=R0.stack,notes:=R0.notes,fok:=rfl,ack:=R0.ack,att:=R0.att}
    refine Pq (b:=b+4) (t:={t with fok:=false}) R1 {O with} hE hs hy hk hp' (a4.ad _) on g3 (by exact Hj ‹_› (by exact rfl)) ?_
    intro D' Δ' x' R'
    simp! []
    have e5:({t with fok:=false}:St).sign c={t.sign c with fok:=false}:=by
     simp only [St.sign]
     split
     ·split
      ·split<;>rfl
      ·rfl
     ·rfl
    rw [e5] at R'
    exact k D' Δ' ((Ag.ad _).trans x') R'
   ·rw [e2] at k
    have e2':=(Wx c).trans e2
    dsimp! [on,e2']
    refine Pq (b:=b+4) (R.xb (Af.ad _)) O hE hs hy hk hp' (a4.ad _) on g3 (by exact Hj ‹_› (by exact rfl)) ?_
    intro D' Δ' x' R'
    simp! []
    exact k D' Δ' ((Ag.ad _).trans x') R'
  ·dsimp! [on,e]
   have ek':Bk t (.chr c)=({t with notes:=t.notes++[.tuple [.str (s "unexpected-null-character"),.str t.mode]]}:St).sign (s "\ufffd"):=by
    simp only [Bk,signB,e];rfl
   rw [ek'] at k
   dsimp! [hnl1]
   dsimp! []
   have R1:=nrel "unexpected-null-character" [.cell (some (.ref sa)),.tuple [.str (s "unexpected-null-character"),.str B.mode]] 1 rfl
   have hf:(s "\ufffd").length≤1:=by decide +kernel
   refine Pq (b:=b+3) (t:={t with notes:=t.notes++[.tuple [.str (s "unexpected-null-character"),.str t.mode]]}) R1 (O.note E9) hE hs hy hk hp' (a4.ad _) Ap hf (by exact Hj ‹_› (by exact rfl)) ?_
   intro D' Δ' x' R'
   simp! []
   exact k D' Δ' ((Ag.ad _).trans x') R'
 | @com c h on =>
  have set1:=fun (xs:List V) (J:List Mine.O)=>Ox (B:=B) (D:=D) (xs:=xs) (a4.ad J) fun e he=>R.tr.uniq e dk n (he.backB (Af.ad J)) a4
  dsimp! [hsa]
  dsimp! [ima h]
  dsimp! []
  dsimp! []
  dsimp! [htop,ima a1,Ej (eka a4),eka a4,ima h,hel,hdk4,set1]
  have ek':Bk t (.com c)=t.under n (Ha c):=by rw [← et];rfl
  rw [ek'] at k
  refine k _ _ (Ag.ad _) ?_
  have R0:=R.xb (Af.ad [.cell (some (.ref sa)),.tuple [.str (s "comment"),.str c]])
  refine Pp R0 (Wb R0.tr O hy ?_ ⟨{Ha c with par:=(n:Int)},by rw [Bn];simp,.inr (.inr ⟨rfl,⟨_,_,rfl,At.new_ad (k:=1) rfl,_,_,rfl,⟨rfl,Ap⟩,_,_,rfl,⟨rfl,on⟩,rfl⟩⟩)⟩) rfl rfl rfl rfl rfl rfl rfl rfl rfl Ww
  intro q
  have:(s "comment"==s "element")=true:=by rw [beq_iff_eq];exact q
  rw [Pn] at this;cases this
 | dt h =>
  dsimp! [hsa]
  dsimp! [ima h]
  dsimp! []
  dsimp! []
  dsimp! []
  dsimp! [hnl1]
  exact k _ _ (Ag.ad _) (nrel "unexpected-doctype" _ 1 rfl)
 | @start nn as c aa vs h ha hr on =>
  dsimp! [hsa]
  dsimp! [ima h]
  dsimp! []
  dsimp! []
  dsimp! []
  dsimp! []
  refine Aah (h.ad _) (ha.ad _) (hr.ad _) on (by have:=(Hc _ G.2).2.1;exact o_0 ‹_› (by exact rfl)) fun J=>?_
  rw [Wi G]
  have Tk:TokAt Δ a (.start nn as c):=.start h ha hr on
  cases e:Cw (.start nn as c)
  ·simp! []
   dsimp! []
   dsimp! []
   have ek':Bk t (.start nn as c)=startB t nn as c:=if_neg (by rw [e];decide)
   rw [ek'] at k
   refine Aap (b:=b+2) (R.xb (Af.ad _)) O (Tk.ad _) G hsp esp fun D' Δ' x' R'=>?_
   simp! []
   exact k D' Δ' ((Ag.ad _).trans x') R'
  ·have ek':Bk t (.start nn as c)=D5 t (.start nn as c):=if_pos e
   rw [ek'] at k
   simp! []
   dsimp! [Aa0,Aa1,hnl1]
   have hR:=nrel "unexpected-start-tag" (.cell (some (.ref sa)) :: (J++[.tuple [.str (s "unexpected-start-tag"),.str B.mode]])) (J.length+1) (by simp)
   have hw:∀ x:Str,x=s "unexpected-start-tag"→(Str.ofString "unexpected-"++Str.ofString "start")++Str.ofString "-tag"=x:=fun x hx=>by rw [hx];exact Aay
   rw [hw _ rfl]
   refine Wy (b:=b) (t:={t with notes:=t.notes++[.tuple [.str (s "unexpected-start-tag"),.str t.mode]]}) hR (O.note E9) (Tk.ad _) G (c0 _) (hA.ad _) hholds fun D' Δ' kp x' R'=>?_
   simp! []
   exact k D' Δ' ((Ag.ad _).trans x') R'
 | @fin nn aa h ha on =>
  dsimp! [hsa]
  dsimp! [ima h]
  dsimp! []
  dsimp! []
  dsimp! []
  dsimp! []
  refine Aai (h.ad _) on fun J=>?_
  rw [Wi G]
  have Tk:TokAt Δ a (.fin nn):=.fin h ha on
  cases e:Cw (.fin nn)
  ·simp! []
   dsimp! []
   dsimp! []
   have ek':Bk t (.fin nn)=endB t nn:=by
    cases e3:C5 t nn
    ·exact (if_neg (by rw [e];decide)).trans (if_neg (by rw [e3];decide))
    ·rw [Aau O e3 (hroot nn rfl e3)]
     exact (if_neg (by rw [e];decide)).trans (if_pos e3)
   rw [ek'] at k
   refine Aas (R.xb (Af.ad _)) O (Tk.ad _) G hm fun D' Δ' x' R'=>?_
   simp! []
   exact k D' Δ' ((Ag.ad _).trans x') R'
  ·have ek':Bk t (.fin nn)=D5 t (.fin nn):=if_pos e
   rw [ek'] at k
   simp! []
   dsimp! [Aa2,Aa3,hnl1]
   have hR:=nrel "unexpected-end-tag" (.cell (some (.ref sa)) :: (J++[.tuple [.str (s "unexpected-end-tag"),.str B.mode]])) (J.length+1) (by simp)
   have hw:∀ x:Str,x=s "unexpected-end-tag"→(Str.ofString "unexpected-"++Str.ofString "end")++Str.ofString "-tag"=x:=fun x hx=>by rw [hx];exact Aaz
   rw [hw _ rfl]
   refine Wy (b:=b) (t:={t with notes:=t.notes++[.tuple [.str (s "unexpected-end-tag"),.str t.mode]]}) hR (O.note E9) (Tk.ad _) G (c0 _) (hA.ad _) hholds fun D' Δ' kp x' R'=>?_
   simp! []
   exact k D' Δ' ((Ag.ad _).trans x') R'
end
noncomputable def Mc:List Str:=[⟨#[112]⟩,⟨#[103]⟩,⟨#[115,118,103]⟩,⟨#[102,111,114,101,105,103,110,111,98,106,101,99,116]⟩,⟨#[102,111,110,116]⟩,⟨#[109,105]⟩,⟨#[109,97,116,104]⟩,⟨#[97,110,110,111,116,97,116,105,111,110,45,120,109,108]⟩,⟨#[109,103,108,121,112,104]⟩,⟨#[109,97,108,105,103,110,109,97,114,107]⟩,⟨#[100,101,115,99]⟩,⟨#[116,105,116,108,101]⟩,⟨#[115,99,114,105,112,116]⟩,⟨#[98,114]⟩,⟨#[98]⟩,⟨#[99,108,105,112,112,97,116,104]⟩,⟨#[97]⟩]
theorem Wz:Str.ofString "p g svg foreignobject font mi math annotation-xml mglyph malignmark desc title script br b clippath a"=⟨#[112,32,103,32,115,118,103,32,102,111,114,101,105,103,110,111,98,106,101,99,116,32,102,111,110,116,32,109,105,32,109,97,116,104,32,97,110,110,111,116,97,116,105,111,110,45,120,109,108,32,109,103,108,121,112,104,32,109,97,108,105,103,110,109,97,114,107,32,100,101,115,99,32,116,105,116,108,101,32,115,99,114,105,112,116,32,98,114,32,98,32,99,108,105,112,112,97,116,104,32,97]⟩:=A0 ['p',' ','g',' ','s','v','g',' ','f','o','r','e','i','g','n','o','b','j','e','c','t',' ','f','o','n','t',' ','m','i',' ','m','a','t','h',' ','a','n','n','o','t','a','t','i','o','n','-','x','m','l',' ','m','g','l','y','p','h',' ','m','a','l','i','g','n','m','a','r','k',' ','d','e','s','c',' ','t','i','t','l','e',' ','s','c','r','i','p','t',' ','b','r',' ','b',' ','c','l','i','p','p','a','t','h',' ','a']
theorem Aa5:Txt.words (Str.ofString "p g svg foreignobject font mi math annotation-xml mglyph malignmark desc title script br b clippath a")=Mc:=by
 rw [Wz,KWd.words_scan]
 decide +kernel
theorem Aa6:(Str.ofString "p g svg foreignobject font mi math annotation-xml mglyph malignmark desc title script br b clippath a").length≤100000:=by
 rw [Wz]
 decide +kernel
theorem Aa7:Mc++[s "mtext",s "span",s "mrow",s "html"]=Cv:=by decide +kernel
section
variable {d b:Nat} {t:St} {B:Bs} {D:Ds} {Δ:List VR} {Q:V→H→Prop}
noncomputable def dg (l:List Int) (p:Nat):Int:=(l[p]?).getD 0
theorem Fh {p:Nat} {q:Int} (hq:q=(p:Int)) (hl:B.l.length≤63) (k:Q (.int (dg B.l p)) (hp B D Δ)):Ca (d+1) (.con (.ref 680)) [.ref 0,.int q] (hp B D Δ) Q:=by
 subst hq
 refine T6 ?_
 have hlt:decide ((p:Int) < ((B.l.map V.int).length:Int))=decide (p < B.l.length):=by
  apply decide_eq_decide.mpr;simp
 by_cases h:p < B.l.length
 ·have hi:∀ (D:Ds) (Δ':List VR),Ao (hp B D Δ') (.ref 0) (.int (p:Int))=some (.int B.l[p]):=fun D Δ'=>B8 Te (by simp [h])
  have e:dg B.l p=B.l[p]:=by simp [dg,h]
  rw [e] at k
  dsimp! [hlt,h,decide_true,hi]
  exact k
 ·have e:dg B.l p=0:=by
   unfold dg
   rw [List.getElem?_eq_none (by exact Qf ‹_›)];rfl
  rw [e] at k
  dsimp! [hlt,h,decide_false]
  exact k
theorem Md {σ:H} {y:Int}:Ce σ .Mult (.int 4) (.int y)=some (.int (4*y),σ):=(rfl)
theorem W0 (x:Int) {m:Int} (hm:0 < m):∃ j:Nat,(j:Int) < m∧x.fmod m=(j:Int) :=
 ⟨(x.fmod m).toNat,by rw [Int.toNat_of_nonneg (Int.fmod_nonneg_of_pos x hm)];exact Int.fmod_lt_of_pos x hm,(Int.toNat_of_nonneg (Int.fmod_nonneg_of_pos x hm)).symm⟩
theorem Gk {α:Type} {P:Nat→α→Prop} {a:α} {l:List α} (h:P 0 a) (t:∀ j x,l[j]?=some x→P (j+1) x) (j:Nat) (x:α) (e:(a :: l)[j]?=some x):P j x:=by
 cases j with
 | zero=>exact Option.some.inj e▸h
 | succ j=>exact t j x e
theorem Aa8 (k:∀ J a rows,At (ad Δ J) a (.imm (.list rows))→rows.length=7→(∀ (j:Nat) (as:List (Str×Str)),Cq[j]?=some as→∃ aa vs,rows[j]?=some (.ref aa)∧At (ad Δ J) aa (.imm (.tuple vs))∧Ae (ad Δ J) (Ak as) vs)→Q (.ref a) (hp B D (ad Δ J))) :
  Ca (d+1) (.con (.ref 694)) [] (hp B D Δ) Q:=by
 refine qf ?_
 dsimp! []
 dsimp! []
 dsimp! []
 have pr:∀ {J:List Mine.O} {i:Nat} {x y:String},J[i]?=some (.tuple [.str (s x),.str (s y)])→Rep (ad Δ J) (.tuple [.str (s x),.str (s y)]) (.ref (sz Δ+i)):=fun {J i x y} h =>
  ⟨_,_,rfl,At.new_ad h,_,_,rfl,⟨rfl,Ap⟩,_,_,rfl,⟨rfl,Ap⟩,rfl⟩
 refine k _ _ _ (At.new_ad rfl) rfl ?_
 exact Gk ⟨_,_,rfl,At.new_ad (k:=0) rfl,rfl⟩ (Gk ⟨_,_,rfl,At.new_ad rfl,_,_,rfl,pr rfl,rfl⟩ (Gk ⟨_,_,rfl,At.new_ad rfl,_,_,rfl,pr rfl,_,_,rfl,pr rfl,rfl⟩ (Gk ⟨_,_,rfl,At.new_ad rfl,_,_,rfl,pr rfl,_,_,rfl,pr rfl,rfl⟩
  (Gk ⟨_,_,rfl,At.new_ad rfl,_,_,rfl,pr rfl,rfl⟩ (Gk ⟨_,_,rfl,At.new_ad rfl,_,_,rfl,pr rfl,_,_,rfl,pr rfl,rfl⟩ (Gk ⟨_,_,rfl,At.new_ad rfl,_,_,rfl,pr rfl,_,_,rfl,pr rfl,_,_,rfl,pr rfl,rfl⟩ fun _ _ h=>nomatch h))))))
theorem Aa9:∀ j:Nat,j < 10→SOk (s "c"++Str.ofString (toString (j:Int)))∧(s "c"++Str.ofString (toString (j:Int))).length≤100∧(s "c").length+(Str.ofString (toString (j:Int))).length≤100000:=by simp only [SOk];decide +kernel
theorem Aba {kk:Nat} (hk:kk < 6) (hl:B.l.length≤63) (k:∀ J a tk,Ch tk→TokAt (ad Δ J) a tk→Q (.ref a) (hp B D (ad Δ J))):Ca (d+2) (.con (.ref 701)) [.ref 0,.int (kk:Int)] (hp B D Δ) Q:=by
 refine qh ?_
 obtain ⟨o1,ho1⟩:∃ o1:Int,([.int 0,.int 4,.int 6,.int 0,.int 7,.int 5]:List V)[kk]?=some (.int o1):=by
  match kk,hk with
  | 0,_=>exact ⟨_,rfl⟩
  | 1,_=>exact ⟨_,rfl⟩
  | 2,_=>exact ⟨_,rfl⟩
  | 3,_=>exact ⟨_,rfl⟩
  | 4,_=>exact ⟨_,rfl⟩
  | 5,_=>exact ⟨_,rfl⟩
 obtain ⟨o2,ho2⟩:∃ o2:Int,([.int 0,.int 3,.int 0,.int 2,.int 0,.int 6]:List V)[kk]?=some (.int o2):=by
  match kk,hk with
  | 0,_=>exact ⟨_,rfl⟩
  | 1,_=>exact ⟨_,rfl⟩
  | 2,_=>exact ⟨_,rfl⟩
  | 3,_=>exact ⟨_,rfl⟩
  | 4,_=>exact ⟨_,rfl⟩
  | 5,_=>exact ⟨_,rfl⟩
 have md:∀ (x m:Int),0 < m→∃ j:Nat,(j:Int) < m∧∀ σ:H,Ce σ .Mod (.int x) (.int m)=some (.int (j:Int),σ):=fun x m hm=>by
  (refine Aa (W0 x hm) ?_;intro j h1 h2)
  exact ⟨j,h1,fun σ=>by rw [Tw,if_neg (fun e=>absurd (e▸hm) (by decide)),h2]⟩
 (refine Aa (md (dg B.l (9+4*kk)+o1) 9 (by decide)) ?_;intro kd hkd hm9)
 (refine Aa (md (dg B.l (10+4*kk)+o2) ((21:Nat):Int) (by decide)) ?_;intro nj hnj hm21)
 (refine Aa (md (dg B.l (11+4*kk)) ((7:Nat):Int) (by decide)) ?_;intro aj haj hm7)
 (refine Aa (md (dg B.l (11+4*kk)) 9 (by decide)) ?_;intro sj hsj hms)
 (refine Aa (md (dg B.l (11+4*kk)) 10 (by decide)) ?_;intro cj hcj hmc)
 (refine Aa (md (dg B.l (12+4*kk)) 2 (by decide)) ?_;intro bj hbj hmb)
 have hN:(Mc.map V.str++[.str (s "mtext"),.str (s "span"),.str (s "mrow"),.str (s "html")])=Cv.map V.str:=by
  rw [← Aa7];simp
 have hwl:Mc.length≤99996:=by decide
 have hTl:Cv.length=21:=rfl
 have hnj':nj < 21:=by exact o_9 ‹_›
 have haj':aj < 7:=by exact o_9 ‹_›
 obtain ⟨nm,hnm⟩:∃ nm,Cv[nj]?=some nm:=⟨_,List.getElem?_eq_getElem (by rw [hTl];exact hnj')⟩
 have hnmem:=List.mem_of_getElem? hnm
 have hgn:(Cv.map V.str)[nj]?=some (.str nm):=by simp [hnm]
 have on:=(Hb nm hnmem).1.1
 dsimp! [Md]
 refine Fh (p:=9+4*kk) (by exact rfl) hl ?_
 simp! [ho1,hm9]
 dsimp! []
 dsimp! [Aa6,Aa5,hwl,List.length_map,hN]
 dsimp! [Md]
 refine Fh (p:=10+4*kk) (by exact rfl) hl ?_
 simp! [ho2,List.length_map,hTl,hm21,hgn]
 dsimp! [Md]
 refine Fh (p:=11+4*kk) (by exact rfl) hl ?_
 simp! []
 have hlt4:decide ((kd:Int) < 4)=decide (kd < 4):=by apply decide_eq_decide.mpr;exact Int.ofNat_lt
 have hlt6:decide ((kd:Int) < 6)=decide (kd < 6):=by apply decide_eq_decide.mpr;exact Int.ofNat_lt
 have he6:((kd:Int)==6)=decide (kd=6):=by rw [Bool.eq_iff_iff,beq_iff_eq,decide_eq_true_eq];exact Int.ofNat_inj
 have he7:((kd:Int)==7)=decide (kd=7):=by rw [Bool.eq_iff_iff,beq_iff_eq,decide_eq_true_eq];exact Int.ofNat_inj
 by_cases k4:kd < 4
 ·dsimp! [hlt4,k4,decide_true]
  dsimp! []
  refine Aa8 fun J ra rows hra hrl hrows=>?_
  obtain ⟨as,has⟩:∃ as,Cq[aj]?=some as:=⟨_,List.getElem?_eq_getElem (by show aj < 7;exact haj')⟩
  (refine Ai (hrows aj as has) ?_;intro aa vs r1 r2 r3)
  simp only [Bc,List.cons_append,List.nil_append] at hra r2 r3
  simp! []
  dsimp! [im hra,ima hra,hrl,hm7,r1,Md]
  refine Fh (p:=12+4*kk) (by exact rfl) hl ?_
  simp! [hmb]
  have r2':=r2.ad [.tuple [.str (s "start"),.str nm,.ref aa,.bool ((bj:Int)==1)]]
  have r3':=r3.ad [.tuple [.str (s "start"),.str nm,.ref aa,.bool ((bj:Int)==1)]]
  simp only [Bc,List.cons_append,List.nil_append] at r2' r3'
  refine k _ _ (.start nm as ((bj:Int)==1)) ⟨hnmem,List.mem_of_getElem? has⟩ (TokAt.start (At.new_ad ?_) r2' r3' on)
  simp
 ·dsimp! [hlt4,k4,decide_false]
  by_cases k6:kd < 6
  ·dsimp! [hlt6,k6,decide_true]
   dsimp! []
   exact k _ _ (.fin nm) hnmem (TokAt.fin (At.new_ad rfl) (At.new_ad rfl) on)
  ·dsimp! [hlt6,k6,decide_false]
   by_cases k7:kd=6
   ·dsimp! [he6,k7,decide_true]
    obtain ⟨sg,hsg⟩:∃ sg,Im[sj]?=some sg:=⟨_,List.getElem?_eq_getElem (by show sj < 9;exact o_9 ‹_›)⟩
    have hgs:([.str (s "\x00"), .str (s "x"), .str (s " "), .str (s "\t"), .str (s "\n"), .str (s "\x0c"), .str (s "\r"), .str (s "\xa0"), .str (s "x")]:List V)[sj]?=some (.str sg):=by
     have:(Im.map V.str)[sj]?=some (.str sg):=by simp [hsg]
     exact this
    dsimp! [hms,hgs]
    have hmem:=List.mem_of_getElem? hsg
    exact k _ _ (.chr sg) hmem (TokAt.chr (At.new_ad rfl) (O7 sg hmem).1.1)
   ·dsimp! [he6,k7,decide_false]
    by_cases k8:kd=7
    ·dsimp! [he7,k8,decide_true]
     have hc10:(0:Int)≤(cj:Int)∧(cj:Int) < 10:=⟨Int.natCast_nonneg cj,by assumption⟩
     (refine As (Aa9 cj (o_9 ‹_›)) ?_;intro c1 c2 c3)
     dsimp! [hmc,hc10,c3]
     exact k _ _ (.com _) ⟨c1,c2⟩ (TokAt.com (At.new_ad rfl) c1.1)
    ·dsimp! [he7,k8,decide_false]
     dsimp! []
     exact k _ _ .dt trivial (TokAt.dt (At.new_ad rfl))
end
section
variable {d b:Nat} {t:St} {B:Bs} {D:Ds} {Δ:List VR} {Q:V→H→Prop}
theorem Abb {i:Nat} {k:Int}:A4 (hp B D Δ) (.ref i) .index [.int k]=onL (hp B D Δ)[i]? fun vs=>gd (Nat.ble vs.length lim) (gd (vs.all fun | .int _=>true | _=>false)
    ((vs.findIdx? (fun | .int x=>decide (x=k) | _=>false)).map fun j:Nat=>(.int j,(hp B D Δ)))):=rfl
theorem Abc {l:List Nat}:((itv l).all fun | .int _=>true | _=>false)=true:=by
 induction l with
 | nil=>rfl
 | cons a l ih=>simpa [itv] using ih
theorem W1 {n:Nat}:∀ {l:List Nat} {i:Nat},l.Nodup→l[i]?=some n→(itv l).findIdx? (fun | .int x=>decide (x=(n:Int)) | _=>false)=some i
 | [],i,_,h=>by simp at h
 | a :: l,0,_,h=>by
  simp at h;subst h
  simp [itv,List.findIdx?_cons]
 | a :: l,i+1,nd,h=>by
  haveI h':l[i]?=some n:=by simpa using h
  haveI hne:a≠n:=fun e=>by
   subst e
   exact (List.nodup_cons.mp nd).1 (List.mem_of_getElem? h')
  haveI hc:decide ((a:Int)=(n:Int))=false:=decide_eq_false fun e=>hne (Int.ofNat_inj.mp e)
  haveI ih:=W1 (n:=n) (List.nodup_cons.mp nd).2 h'
  show (V.int (a:Int) :: itv l).findIdx? _=_
  rw [List.findIdx?_cons]
  simp only [hc,Bool.false_eq_true,if_false]
  rw [ih];rfl
theorem W2 {a n i:Nat} {l:List Nat} (h:(hp B D Δ)[a]?=some (.list (itv l))) (hl:l.length≤100000) (nd:l.Nodup) (hi:l[i]?=some n):A4 (hp B D Δ) (.ref a) .index [.int (n:Int)]=some (.int (i:Int),hp B D Δ):=by
 rw [Abb,h]
 show gd (Nat.ble (itv l).length lim) (gd _ _)=_
 rw [Lv (show (itv l).length≤lim by rw [Gj];exact hl),Abc,W1 nd hi]
 rfl
theorem Abd (R:RelB t B Δ) (O:StOk b t) (RT:RelT t D Δ) {n:Nat} (hpn:(D.path n).length≤500) {K:KS}
  (k:∀ J pa x,At (ad Δ J) pa (.imm (.tuple (itv (D.path n))))→K .next [some (.ref 10),some (.int 0),some (.ref pa),x] (hp B D (ad Δ J))) :
  ∀ (f m:Nat) (y:Nd) (J:List Mine.O) (pa:Nat) (suf:List Nat) (x:Option V),m < f→t.nodes[m]?=some y→y.kind=s "element"→y.par≠-1→D.path n=D.path m++suf→At (ad Δ J) pa (.imm (.tuple (itv suf))) →
   Wl ⟨d,[some (.ref 10),some (.int (m:Int)),some (.ref pa),x],[]⟩ (.cmp (.loc 1) [.NotEq] [(.cst (.int 0))]) (fb Ew 1) (hp B D (ad Δ J)) K:=by
 intro f
 induction f with
 | zero=>intro m y J pa suf x h;exact Ml ‹_›
 | succ f ih =>
  intro m y J pa suf x hm hy hk hp' hP hpa
  have hsl:suf.length≤500:=by rw [hP,List.length_append] at hpn;exact Nat.le_trans (Nat.le_add_left _ _) hpn
  have N:=R.nv O hy
  haveI hl:=O.len
  (refine Gp (R.lens O) ?_;intro l1 l2 l3 l4 l5 l6 l7)
  have hm0:((m:Int)==0)=false:=by
   rw [beq_eq_false_iff_ne]
   intro q
   haveI q':m=0:=by exact Mn ‹_›
   subst q'
   focus (refine oe (O.par 0 y hy) ?_ ?_;rotate_left;(intro z_o;refine Aa z_o ?_;intro p e hp2);rotate_right;(intro e))
   ·exact hp' e
   ·exact Ml ‹_›
  refine Dw ?_
  simp! [hm0]
  obtain ⟨p,ep,hpm⟩:∃ p:Nat,y.par=(p:Int)∧p < m:=by
   focus (refine oe (O.par m y hy) ?_ ?_;rotate_left;(intro z_o;refine Aa z_o ?_;intro p e hp2);rotate_right;(intro e))
   ·exact absurd e hp'
   ·exact ⟨p,e,hp2⟩
  dsimp! [N.pr,ep]
  have c1:1+suf.length≤100000:=by exact Mk ‹_› (by exact rfl)
  have step:∀ (ra i:Nat) (l:List Nat),Ao (hp B D (ad Δ J)) (.ref 17) (.int (p:Int))=some (.ref ra)→(hp B D (ad Δ J))[ra]?=some (.list (itv l))→l.length≤100000→l.Nodup→l[i]?=some m →
    (∀ J2 pa2 x2,At (ad Δ J2) pa2 (.imm (.tuple (itv (i :: suf))))→Wl ⟨d,[some (.ref 10),some (.int (p:Int)),some (.ref pa2),x2],[]⟩ (.cmp (.loc 1) [.NotEq] [(.cst (.int 0))]) (fb Ew 1) (hp B D (ad Δ J2)) K) →
    ws ((fb Ew 1).drop 1) ⟨d,[some (.ref 10),some (.int (m:Int)),some (.ref pa),some (.int (p:Int))],[]⟩ (hp B D (ad Δ J)) (lk K fun ρ σ=>Wl ⟨d,ρ,[]⟩ (.cmp (.loc 1) [.NotEq] [(.cst (.int 0))]) (fb Ew 1) σ K):=by
   intro ra i l e1 e2 e3 e4 e5 kk
   have hpa2:∀ L:List Mine.O,(hp B D (ad Δ (J++L)))[pa]?=some (.tuple (itv suf)):=fun L=>by
    haveI:=hpa.ad L
    rw [Bc] at this
    exact im this
   cases hs:(itv suf).isEmpty
   ·dsimp! [e1,Ej e2,W2 e2 e3 e4 e5,hpa2,Gj,c1,hs,List.length_append]
    dsimp! []
    refine kk _ _ _ ?_
    refine At.new_ad (k:=J.length+1) ?_
    simp [itv]
   ·dsimp! [e1,Ej e2,W2 e2 e3 e4 e5,hpa2,Gj,c1,hs,List.length_append]
    dsimp! []
    have hsuf:suf=[]:=by cases suf with | nil=>rfl | cons _ _=>simp [itv] at hs
    subst hsuf
    refine kk _ _ _ ?_
    refine At.new_ad (k:=J.length) ?_
    simp [itv]
  focus (refine oe (RT.up m y p hy hk ep) ?_ ?_;rotate_left;(intro z_o;refine Au z_o ?_;intro z z1 z2 z3);rotate_right;(intro z_o;refine Ac z_o ?_;intro z_0 z_1;obtain rfl:=z_0;obtain rfl:=z_1))
  ·refine step 20 0 [1] (B8 F5 R.child0) Lm (by simp) (by simp) rfl fun J2 pa2 x2 h2=>?_
   refine Dw ?_
   have e0:(((0:Nat):Int)==0)=true:=rfl
   simp! [e0]
   rw [RT.path1.1] at hP
   have:itv (0 :: suf)=itv (D.path n):=by rw [hP];rfl
   rw [this] at h2
   exact k J2 pa2 x2 h2
  ·have hp0:0 < p:=by
    refine oe (Nat.eq_zero_or_pos p) (fun q=>?_) (fun q=>?_)
    ·subst q
     focus (refine oe (O.par 0 z z1) ?_ ?_;rotate_left;(intro z_o;refine Aa z_o ?_;intro p' e hp2);rotate_right;(intro e))
     ·exact absurd e z3
     ·exact Eu ‹_› (by exact rfl)
    ·exact q
   have hpl:=(List.getElem?_eq_some_iff.mp z1).1
   (refine Aa (R.children p hp0 hpl) ?_;intro ra hra hA)
   (refine Aa (RT.pathS m y p hp0 hy hk ep) ?_;intro i i1 i2)
   refine step ra i (t.kids p) (B8 F5 hra) (by rw [hka hA,R.kid];rfl) (by have:=O.klen p;exact o_2 ‹_› ‹_› (by exact rfl)) (O.knd p) i1 fun J2 pa2 x2 h2=>?_
   refine ih p z J2 pa2 (i :: suf) x2 (Nat.lt_of_lt_of_le hpm (Nat.le_of_lt_succ hm)) z1 z2 z3 ?_ h2
   rw [hP,i2];simp
theorem Abe (R:RelB t B Δ) (O:StOk b t) (RT:RelT t D Δ) {n:Nat} {y:Nd} (hpn:(D.path n).length≤500) (hy:t.nodes[n]?=some y) (hk:y.kind=s "element") (hp':y.par≠-1)
  (k:∀ J pa,At (ad Δ J) pa (.imm (.tuple (itv (D.path n))))→Q (.ref pa) (hp B D (ad Δ J))):Ca (d+1) (.con (.ref 782)) [.ref 10,.int (n:Int)] (hp B D Δ) Q:=by
 refine rl ?_
 dsimp! []
 dsimp! []
 refine Abd R O RT hpn ?_ (n+1) n y [.tuple []] (sz Δ) [] none (Nat.lt_succ_self n) hy hk hp' (by simp) (At.new_ad (k:=0) rfl)
 intro J pa x h
 simp! []
 dsimp! []
 exact k J pa h
end
mutual
theorem Rep.refl {Δ:List VR}:∀ {d:PyData} {v:V},Rep Δ d v→PyData.eqv d d=true
 | .none,_,_=>rfl
 | .bool b,_,_=>by show (b==b)=true;simp
 | .int i,_,_=>by show (i==i)=true;simp
 | .str x,_,_=>by show (x==x)=true;simp
 | .tuple ds,_,⟨a,vs,e,h,r⟩=>Ae.refl r
 | .list ds,_,⟨a,vs,e,h,r⟩=>Ae.refl r
 | .dict _,_,h=>h.elim
theorem Ae.refl {Δ:List VR}:∀ {ds:List PyData} {vs:List V},Ae Δ ds vs→PyData.eqvAll ds ds=true
 | [],_,_=>rfl
 | d :: ds,_,⟨v,us,e,h,r⟩=>by
  show (PyData.eqv d d&&PyData.eqvAll ds ds)=true
  rw [Rep.refl h,Ae.refl r];rfl
end
section
variable {d b:Nat} {t:St} {B:Bs} {D:Ds} {Δ:List VR} {Q:V→H→Prop}
noncomputable def itP (l:List Nat):List PyData:=l.map fun (i:Nat)=>PyData.int (i:Int)
theorem Me:∀ {l:List Nat},Ae Δ (itP l) (itv l)
 | []=>rfl
 | a :: l=>⟨_,_,rfl,rfl,Me⟩
noncomputable def D9 (D:Ds) (n:Nat):PyData:=.tuple (itP (D.path n))
theorem W3 {l:List Nat}:A7 (itP l)=0:=by
 induction l with
 | nil=>rfl
 | cons a l ih=>show max 0 (A7 (itP l))=0;rw [ih];rfl
theorem W4 {l:List Nat}:A7 (l.map (D9 D))≤1:=by
 induction l with
 | nil=>exact B7
 | cons a l ih=>exact Aq (Cf (m:=0) (Nat.le_of_eq W3)) ih
theorem Abf {r1 r2 r:VR} {L:List VR} {a:Nat} (h:At (Δ++(r1 :: L)) a r) (hne:r≠r1):At (Δ++(r2 :: L)) a r:=by
 focus (refine oe (L0 h) ?_ ?_;rotate_left;(intro z_o;refine Aa z_o ?_;intro k z_1 hk;obtain rfl:=z_1);rotate_right;(intro z_o;refine Ac z_o ?_;intro _ q))
 ·exact q.app _
 ·induction k with
  | zero=>exact absurd (Option.some.inj hk).symm hne
  | succ k=>exact At.new (k:=k+1) (by simpa using hk)
theorem Abg {us:List V} {xs:List V} {o:Mine.O} {J:List Mine.O} {a:Nat} (h:At (ad Δ (.list us :: J)) a (.imm (.tuple xs))):At (ad Δ (o :: J)) a (.imm (.tuple xs)) :=
 Abf (L:=J.map .imm) (r2:=.imm o) h (fun e=>by cases e)
theorem Abh (R:RelB t B Δ) {j n:Nat} (h:t.stack[j]?=some n):B.items[j]?=some (.int (n:Int)):=by rw [R.items];simp [h]
theorem Abi (R:RelB t B Δ) {j:Nat} (h:t.stack[j]?=none):B.items[j]?=none:=by rw [R.items];simp at h ⊢;assumption
theorem Abj (R:RelB t B Δ) (O:StOk b t) (RD:RelD t D Δ) {K:H→Prop}
  (k:∀ J us,us.length≤100000→(∀ o:Mine.O,Ae (ad Δ (o :: J)) (t.stack.map (D9 D)) us)→K (hp B D (ad Δ (.list us :: J)))) :
  ∀ (rest:List Nat) (j:Nat) (x:Option V) (J:List Mine.O) (us:List V),t.stack.drop j=rest→(∀ o:Mine.O,Ae (ad Δ (o :: J)) ((t.stack.take j).map (D9 D)) us) →
   Co ⟨d+1,[x],[4]⟩ [0] true (.li 23 j) none (.call (.cst (.con (.ref 782))) [.cel 0,.loc 0]) (sz Δ) (hp B D (ad Δ (.list us :: J))) K:=by
 intro rest
 induction rest with
 | nil =>
  intro j x J us hj hu
  refine E5 (F7 Ln (Abi R (Di hj))) ?_
  haveI e:t.stack.take j=t.stack:=List.take_of_length_le (by have:=congrArg List.length hj;simp at this;with_reducible exact Dn ‹_›)
  rw [e] at hu
  refine k J us ?_ hu
  haveI h1:=(hu (.list [])).len
  haveI h2:=O.slen
  rw [List.length_map] at h1;exact o_5 ‹_› ‹_› (by exact rfl)
 | cons n rest ih =>
  intro j x J us hj hu
  (refine Ac (Dh hj) ?_;intro hn hd)
  (refine Au (RD.att n (List.mem_of_getElem? hn)) ?_;intro y hy hk hp')
  haveI hul:us.length≤100000:=by
   haveI h1:=(hu (.list [])).len
   haveI h2:=O.slen
   rw [List.length_map,List.length_take] at h1;exact Nat.le_trans (Nat.le_of_eq h1) (Nat.le_trans (Nat.min_le_right _ _) (o_1 h2 rfl))
  haveI hpl:(D.path n).length≤500:=by
   haveI h1:=RD.tr.plen n y hy hk hp'
   haveI h2:=Ma t n
   haveI h3:elE t≤t.nodes.length:=List.length_filter_le _ _
   exact Nat.le_trans h1.2 (Nat.le_trans h2 (Nat.le_trans h3 (o_1 O.len rfl)))
  refine E6 (F6 Ln (Abh R hn)) Io ?_
  simp! [Dc]
  refine Abe (R.xd (Ag.ad _)) O (RD.tr.xb (Af.ad _)) hpl hy hk hp' fun J2 pa hpa=>?_
  simp only [Bc,List.cons_append] at hpa ⊢
  simp! [hul]
  refine ih (j+1) _ (J++J2) (us++[.ref pa]) hd fun o=>?_
  rw [List.take_add_one,hn]
  simp only [Option.toList_some,List.map_append,List.map_cons,List.map_nil]
  refine Ae.snoc ?_ ?_
  ·refine ⟨pa,itv (D.path n),rfl,?_,Me⟩
   exact Abg hpa
  ·haveI:=(hu o).ad J2
   rw [Bc] at this
   exact this
theorem Abk (RD:RelD t D Δ) (hsl:t.stack.length≤100) {sa:Nat} (hA:At Δ sa (.imm (.list (t.stack.map fun n=>V.ref (D.er n))))) {K:H→Prop}
  (k:∀ us,us.length≤100000→Ae Δ (t.stack.map (D9 D)) us→K (hp B D (ad Δ [.list us]))) :
  ∀ (rest:List Nat) (j:Nat) (x:Option V) (us:List V),t.stack.drop j=rest→Ae Δ ((t.stack.take j).map (D9 D)) us →
   Co ⟨d,[x],[]⟩ [0] true (.li sa j) none (.idx (.loc 0) (.cst (.int 4))) (sz Δ) (hp B D (ad Δ [.list us])) K:=by
 intro rest
 induction rest with
 | nil =>
  intro j x us hj hu
  refine E5 (F7 (ima hA) (by have:=Di hj;simp at this ⊢;assumption)) ?_
  haveI e:t.stack.take j=t.stack:=List.take_of_length_le (by have:=congrArg List.length hj;simp at this;with_reducible exact Dn ‹_›)
  rw [e] at hu
  refine k us ?_ hu
  haveI:=hu.len
  simp at this;exact o_4 ‹_› ‹_› (by exact rfl)
 | cons n rest ih =>
  intro j x us hj hu
  (refine Ac (Dh hj) ?_;intro hn hd)
  (refine Au (RD.att n (List.mem_of_getElem? hn)) ?_;intro y hy hk hp')
  (refine Gr (RD.tr.el n y hy hk hp') ?_;intro da dk dp us' a1 a2 a3 a4 a5)
  haveI hul:us.length≤100000:=by
   haveI:=hu.len
   simp at this;exact Mj ‹_› ‹_› (by exact rfl)
  refine E6 (F6 (v:=.ref (D.er n)) (ima hA) (by simp [hn])) Io ?_
  simp! [Dc,ima a1,hul]
  refine ih (j+1) _ (us++[.ref dp]) hd ?_
  rw [List.take_add_one,hn]
  simp only [Option.toList_some,List.map_append,List.map_cons,List.map_nil]
  haveI hr:Rep Δ (D9 D n) (.ref dp):=⟨dp,_,rfl,a5,Me⟩
  exact Ae.snoc hr hu
theorem Fi {σ:H} {a:Nat} {us:List V} {ds:List PyData} (h:σ[a]?=some (.list us)) (hd:pds σ 29 us=some ds):pd σ Ax (.ref a)=some (.list ds):=Iq (m:=29) h hd
theorem Abl (R:RelB t B Δ) (O:StOk b t) (RD:RelD t D Δ) {ρ:List (Option V)} (r4:ρ[4]?=some (some (.ref 22))) (r6:ρ[6]?=some (some (.ref 37))) {K:KS} (k:∀ J,K .next ρ (hp B D (ad Δ J))) :
  ws [(.ite (.cmp (.comp 1 [0] [0] true (.attr (.loc 4) 17) none (.call (.cst (.con (.ref 782))) [(.cel 0),(.loc 0)])) [.NotEq] [(.comp 1 [] [0] true (.idx (.loc 6) (.cst (.str (s "stack")))) none (.idx (.loc 0) (.cst (.int 4))))]) [(.ret (some (.cst (.bool false))))] [])]
   ⟨d+1,ρ,[4]⟩ (hp B D Δ) K:=by
 (refine Aa RD.stack ?_;intro sa hsa hA)
 haveI hsl:=O.slen
 dsimp! [r4,Du,Dv,List.replicate]
 refine Abj R O RD (fun J us hul hu=>?_) t.stack 0 none [] [] rfl (fun o=>rfl)
 haveI hA1:=hA.ad (.list us :: J)
 haveI RD1:=RD.xb (Af.ad (.list us :: J))
 haveI hu1:=hu (.list us)
 haveI h0:At (ad Δ (.list us :: J)) (sz Δ) (.imm (.list us)):=At.new_ad (k:=0) rfl
 haveI k1:∀ J2,K .next ρ (hp B D (ad (ad Δ (.list us :: J)) J2)):=fun J2=>by rw [Bc];exact k _
 clear hu
 generalize ad Δ (.list us :: J)=Δ1 at hA1 RD1 hu1 h0 k1 ⊢
 simp! [r6,hsa,im hA1,Du,Dv,List.replicate]
 refine Abk RD1 (by exact o_1 ‹_› (by exact rfl)) hA1 (fun us2 hul2 hu2=>?_) t.stack 0 none [] rfl rfl
 haveI p0:∀ J,pd (hp B D (ad Δ1 J)) Ax (.ref (sz Δ))=some (.list (t.stack.map (D9 D))):=fun J =>
  Fi (ima h0) (Ae.pd (hu1.ad J) (by have:=W4 (D:=D) (l:=t.stack);exact o_0 ‹_› (by exact rfl)))
 haveI p1:pd (hp B D (ad Δ1 [.list us2])) Ax (.ref (sz Δ1))=some (.list (t.stack.map (D9 D))) :=
  Fi (by rw [Ia];rfl) (Ae.pd (hu2.ad _) (by have:=W4 (D:=D) (l:=t.stack);exact o_0 ‹_› (by exact rfl)))
 haveI pe:PyData.eqv (.list (t.stack.map (D9 D))) (.list (t.stack.map (D9 D)))=true:=Ae.refl hu2
 simp! [D6,p0,p1,pe]
 exact k1 _
end
noncomputable def By (Δ Δ':List VR):Prop:=sz Δ'=sz Δ∧∀ a xs,At Δ a (.imm (.tuple xs))→At Δ' a (.imm (.tuple xs))
theorem By.refl {Δ:List VR}:By Δ Δ:=⟨rfl,fun _ _ h=>h⟩
theorem By.cons {Δ Δ':List VR} (h:By Δ Δ') (us:List V) (o:O) (J:List O):By (ad Δ (.list us :: J)) (ad Δ' (o :: J)):=by
 refine ⟨by rw [Lp,Lp,h.1];simp,fun a xs ha=>?_⟩
 focus (refine oe (L0 ha) ?_ ?_;rotate_left;(intro z_o;refine Aa z_o ?_;intro k z_1 hk;obtain rfl:=z_1);rotate_right;(intro z_o;refine Ac z_o ?_;intro _ q))
 ·exact (h.2 a xs q).ad _
 ·rw [← h.1]
  induction k with
  | zero=>cases hk
  | succ k=>exact At.new (k:=k+1) (by simpa using hk)
theorem By.pairs {Δ Δ':List VR} (h:By Δ Δ'):∀ {as:List (Str×Str)} {vs:List V},Ae Δ (Ak as) vs→Ae Δ' (Ak as) vs
 | [],_,e=>e
 | p :: as,_,⟨v,us,e,hr,r⟩=>by
  (refine Ck (Ue hr) ?_;intro a z_1 h1 h2 h3;obtain rfl:=z_1)
  exact ⟨_,us,e,⟨a,_,rfl,h.2 a _ h1,_,_,rfl,⟨rfl,h2⟩,_,_,rfl,⟨rfl,h3⟩,rfl⟩,By.pairs h r⟩
noncomputable def Abm (Δ:List VR) (J:List O) (d:PyData) (v:V):Prop:=∀ Δ',By Δ Δ'→Rep (ad Δ' J) d v
theorem A1.get {t:St} {D:Ds} {Δ:List VR}:∀ {ms:List Nat} {vs:List V} {j m:Nat},A1 t D Δ ms vs→ms[j]?=some m→∃ v,Cb t D Δ m v
 | [],_,_,_,_,h=>by simp at h
 | a :: ms,_,0,m,⟨v,us,e,hv,r⟩,h=>by simp at h;subst h;exact ⟨v,hv⟩
 | a :: ms,_,j+1,m,⟨v,us,e,hv,r⟩,h=>A1.get (j:=j) r (by simpa using h)
section
variable {b:Nat} {t:St} {B:Bs} {D:Ds}
theorem Abn {Δ:List VR} {d aa:Nat} {vs:List V} {as:List (Str×Str)} (ha:At Δ aa (.imm (.list vs))) (hr:Ae Δ (Ak as) vs) (hl:as.length≤1000) {pre:List O} {m:Nat} (hm:pre.length=m) {K:H→Prop} (k:K (hp B D (ad Δ (pre++[.list vs])))) :
  ∀ (rest:List (Str×Str)) (j:Nat) (x:Option V),as.drop j=rest →
   Co ⟨d,[x],[]⟩ [0] true (.li aa j) none (.call (.cst (.con (.type "tuple"))) [.loc 0]) (sz Δ+m) (hp B D (ad Δ (pre++[.list (vs.take j)]))) K:=by
 haveI fm:∀ (o:Mine.O) (L:List Mine.O),(pre++o :: L)[m]?=some o:=fun o L=>by rw [← hm];exact jl0
 haveI fs:∀ (o x:Mine.O) (L:List Mine.O),(pre++o :: L).set m x=pre++x :: L:=fun o x L=>by rw [← hm];exact js0
 have hvl:vs.length=as.length:=by rw [hr.len];simp [Ak]
 intro rest
 induction rest with
 | nil =>
  intro j x hj
  refine E5 (F7 (ima ha) (F9 hr (Di hj))) ?_
  haveI e:vs.take j=vs:=List.take_of_length_le (by rw [hvl];exact List.drop_eq_nil_iff.mp hj)
  rw [e];exact k
 | cons p rest ih =>
  intro j x hj
  (refine Ac (Dh hj) ?_;intro hp' hd)
  (refine Ck (Fa hr hp') ?_;intro c hc hC o1 o2)
  haveI hul:(vs.take j).length≤100000:=Nat.le_trans (List.length_take_le' _ _) (Nat.le_trans (Nat.le_of_eq hvl) (Nat.le_trans hl (Nat.le_of_ble_eq_true rfl)))
  refine E6 (F6 (ima ha) hc) Io ?_
  simp! [Dc,ima hC,fm,fs,hul]
  haveI e:vs.take j++[.ref c]=vs.take (j+1):=by rw [List.take_add_one,hc];rfl
  rw [e]
  exact ih (j+1) _ hd
set_option maxHeartbeats 4000000 in
theorem W5 (O:StOk b t) (hE:elE t≤13):∀ (h n:Nat) (x:Nd) (pa d:Nat) (Δ:List VR) (Q:V→H→Prop),RelB t B Δ→RelT t D Δ→0 < n→t.nodes[n]?=some x→x.kind=s "element"→x.par≠-1→14≤(D.path n).length+h→At Δ pa (.imm (.tuple (itv (D.path n)))) →
  (∀ J v,Abm Δ J (elP t D.path h n) v→Q v (hp B D (ad Δ J)))→Ca (d+h) (.con (.ref 787)) [.ref 10,.int (n:Int),.ref pa] (hp B D Δ) Q
 | 0,n,x,pa,d,Δ,Q,R,RT,h0,hx,hk,hp',hl,hpa,k=>by
  exact absurd (Nat.le_trans hl (Nat.le_trans (RT.plen n x hx hk hp').2 (Nat.le_trans (Ma t n) hE))) (by decide)
 | h+1,n,x,pa,d,Δ,Q,R,RT,h0,hx,hk,hp',hl,hpa,k=>by
  refine rn (d:=d+h) ?_
  haveI N:=R.nv O hx
  haveI hnl:=(List.getElem?_eq_some_iff.mp hx).1
  haveI hol:=O.len
  haveI hkl:=O.klen n
  (refine Gp (R.lens O) ?_;intro l1 l2 l3 l4 l5 l6 l7)
  (refine Aa (R.children n h0 hnl) ?_;intro ra hra hA)
  haveI hc:∀ {D:Ds} {Δ':List VR},Ao (hp B D Δ') (.ref 17) (.int (n:Int))=some (.ref ra):=fun {D Δ'}=>B8 F5 hra
  haveI hpl:=RT.plen n x hx hk hp'
  haveI hcl:=Ma t n
  haveI hpe:(itv (D.path n)).isEmpty=false:=by
   cases e:D.path n with
   | nil=>rw [e] at hpl;simp at hpl
   | cons _ _=>rfl
  haveI hpl2:(D.path n).length+1≤100000:=Nat.le_trans (Nat.succ_le_succ (Nat.le_trans hpl.2 (Nat.le_trans hcl hE))) (Nat.le_of_ble_eq_true rfl)
  dsimp! []
  dsimp! [hc,hka hA]
  haveI loop:∀ (rest:List Nat) (j:Nat) (J:List Mine.O) (us:List V) (x4 x5 x6:Option V) (K:KS),(t.kids n).drop j=rest→us.length≤j →
    (∀ Δ',By Δ Δ'→∀ o:Mine.O,Ae (ad Δ' (o :: J)) (((t.kids n).take j).map (Cd t D.path h)) us) →
    (∀ J us x4 x5 x6,us.length≤1000→(∀ Δ',By Δ Δ'→∀ o:Mine.O,Ae (ad Δ' (o :: J)) ((t.kids n).map (Cd t D.path h)) us)→K .next [some (.ref 10),some (.int (n:Int)),some (.ref pa),some (.ref (sz Δ)),x4,x5,x6] (hp B D (ad Δ (.list us :: J)))) →
    Fe ⟨d+h,[some (.ref 10),some (.int (n:Int)),some (.ref pa),some (.ref (sz Δ)),x4,x5,x6],[]⟩ 4 5 ra j (fb Gz 1) (hp B D (ad Δ (.list us :: J))) K:=by
   intro rest
   induction rest with
   | nil =>
    intro j J us x4 x5 x6 K hj hul hu kk
    refine b0 (hka hA) (by rw [R.kid];have:=Di hj;simp at this ⊢;assumption) ?_
    haveI e:(t.kids n).take j=t.kids n:=List.take_of_length_le (by have:=congrArg List.length hj;simp at this;with_reducible exact Dn ‹_›)
    rw [e] at hu
    refine kk J us x4 x5 x6 ?_ hu
    haveI h1:=(hu Δ By.refl (.list [])).len
    rw [List.length_map] at h1;exact o_3 ‹_› ‹_› ‹_› (by exact rfl)
   | cons m rest ih =>
    intro j J us x4 x5 x6 K hj hul hu kk
    (refine Ac (Dh hj) ?_;intro hm hd)
    haveI hjl:=(List.getElem?_eq_some_iff.mp hm).1
    haveI hul2:us.length≤100000:=Nat.le_trans hul (Nat.le_trans (Nat.le_of_lt hjl) (o_2 (O.klen n) O.len rfl))
    (refine Cu ((RT.kids n x hx hk hp').get hm) ?_;intro v0 y hy hcase)
    haveI M:=R.nv O hy
    haveI ey:=Bi hy
    haveI go:∀ (J':List Mine.O) (v:V),(∀ Δ',By Δ Δ'→∀ o:Mine.O,Rep (ad Δ' (o :: (J++J'))) (Cd t D.path h m) v)→∀ z6,
      Fe ⟨d+h,[some (.ref 10),some (.int (n:Int)),some (.ref pa),some (.ref (sz Δ)),some (.int (j:Int)),some (.int (m:Int)),z6],[]⟩ 4 5 ra (j+1) (fb Gz 1) (hp B D (ad Δ (.list (us++[v]) :: (J++J')))) K:=by
     intro J' v hv z6
     refine ih (j+1) (J++J') (us++[v]) _ _ _ K hd (by simp;assumption) ?_ kk
     intro Δ' hS o
     rw [List.take_add_one,hm]
     simp only [Option.toList_some,List.map_append,List.map_cons,List.map_nil]
     refine Ae.snoc (hv Δ' hS o) ?_
     haveI:=(hu Δ' hS o).ad J'
     rw [Bc] at this
     exact this
    refine te (v:=.int (m:Int)) (hka hA) (by rw [R.kid];simp [hm]) ?_
    simp! []
    rcases hcase with ⟨k1,k2,_⟩ | ⟨k1,_⟩ | ⟨k1,_⟩
    ·haveI e1:(y.kind==s "text")=false:=by rw [k1];decide +kernel
     haveI e2:(y.kind==s "comment")=false:=by rw [k1];decide +kernel
     dsimp! [M.kd]
     dsimp! [M.ok.kind.1,e1]
     dsimp! [M.ok.kind.1,e2]
     (refine Aa (O.kpar n m (List.mem_of_getElem? hm)) ?_;intro y' q1 q2)
     rw [hy] at q1
     cases q1
     (refine Aa (RT.pathS m y n h0 hy k1 q2) ?_;intro i i1 i2)
     haveI hij:j=i:=by
      haveI hjl2:j < (t.kids n).length:=hjl
      exact (List.getElem?_inj hjl2 (O.knd n)).mp (hm.trans i1.symm)
     subst hij
     haveI hm0:0 < m:=by
      focus (refine oe (O.par m y hy) ?_ ?_;rotate_left;(intro z_o;refine Aa z_o ?_;intro p e hp2);rotate_right;(intro e))
      ·exact absurd e k2
      ·exact Eu ‹_› (by exact rfl)
     dsimp! [ima hpa,Gj,hpl2,hpe,List.length_append]
     haveI hpa2:At (ad Δ (.list us :: (J++[.tuple [.int (j:Int)],.tuple (itv (D.path n)++[.int (j:Int)])]))) (sz Δ+(J.length+1+1)) (.imm (.tuple (itv (D.path m)))):=by
      rw [i2,← Pj]
      exact At.new_ad (k:=J.length+1+1) (by simp)
     refine W5 O hE h m y _ d _ _ (R.xd (Ag.ad _)) (RT.xb (Af.ad _)) hm0 hy k1 k2 (by rw [i2,List.length_append];exact Nat.le_trans hl (Nat.le_of_eq (Nat.add_right_comm _ h 1))) hpa2 fun J2 v hv=>?_
     simp! [hul2]
     refine go ([.tuple [.int (j:Int)],.tuple (itv (D.path n)++[.int (j:Int)])]++J2) v (fun Δ' hS o=>?_) _
     unfold Cd
     rw [ey,k1,beq_self_eq_true,if_pos rfl]
     haveI:=hv _ (hS.cons us o (J++[.tuple [.int (j:Int)],.tuple (itv (D.path n)++[.int (j:Int)])]))
     rw [Bc] at this
     simpa using this
    ·haveI e1:(y.kind==s "text")=true:=by rw [k1];decide +kernel
     dsimp! [M.kd]
     dsimp! [M.ok.kind.1,e1]
     dsimp! [M.tx,hul2]
     haveI:=go [] (.str y.text) (fun Δ' hS o=>by
      unfold Cd
      rw [ey,k1,Mb,beq_self_eq_true]
      exact ⟨rfl,M.ok.text.1⟩) (some (.str y.kind))
     rw [List.append_nil] at this
     exact this
    ·haveI e1:(y.kind==s "text")=false:=by rw [k1];decide +kernel
     haveI e2:(y.kind==s "comment")=true:=by rw [k1];decide +kernel
     dsimp! [M.kd]
     dsimp! [M.ok.kind.1,e1]
     dsimp! [M.ok.kind.1,e2]
     dsimp! [M.tx,hul2]
     refine go [.tuple [.str (s "comment"),.str y.text]] _ (fun Δ' hS o=>?_) _
     unfold Cd
     rw [ey,k1,Pn,Wt]
     refine ⟨_,_,rfl,?_,_,_,rfl,⟨rfl,Ap⟩,_,_,rfl,⟨rfl,M.ok.text.1⟩,rfl⟩
     rw [← hS.1]
     exact At.new_ad (k:=J.length+1) (by simp)
  refine loop (t.kids n) 0 [] [] none none none _ rfl (by simp) (fun Δ' hS o=>by rfl) ?_
  intro J us x4 x5 x6 hul hu
  simp! []
  (refine Ai N.att ?_;intro aa vs a1 a2 a3)
  dsimp! [N.sp,N.nm,a1,ima a2,Du,Dv,List.replicate]
  refine Abn (pre:=.list us :: J) (m:=J.length+1) a2 a3 (by have:=N.ok.attrs.2.1;exact o_0 ‹_› (by exact rfl)) rfl ?_ x.attrs 0 none rfl
  simp! [List.length_append]
  refine k _ _ fun Δ' hS=>?_
  rw [Pm,Bi hx]
  haveI e0:sz Δ'=sz Δ:=hS.1
  haveI p1:Ae Δ' (Ak x.attrs) vs:=hS.pairs a3
  haveI p2:=hS.2 _ _ hpa
  haveI hu':=(hu Δ' hS (.list us)).ad [.list vs,.list [.str x.space,.str x.name,.ref (sz Δ+(J.length+1)),.ref (sz Δ),.ref pa]]
  simp only [Bc,List.cons_append] at hu'
  haveI m2:=At.new_ad (Δ:=Δ') (J:=.list us :: (J++[.list vs,.list [.str x.space,.str x.name,.ref (sz Δ+(J.length+1)),.ref (sz Δ),.ref pa]])) (k:=J.length+1+1) (o:=.list [.str x.space,.str x.name,.ref (sz Δ+(J.length+1)),.ref (sz Δ),.ref pa]) (by simp)
  haveI m1:=At.new_ad (Δ:=Δ') (J:=.list us :: (J++[.list vs,.list [.str x.space,.str x.name,.ref (sz Δ+(J.length+1)),.ref (sz Δ),.ref pa]])) (k:=J.length+1) (o:=.list vs) (by simp)
  haveI m0:=At.new_ad (Δ:=Δ') (J:=.list us :: (J++[.list vs,.list [.str x.space,.str x.name,.ref (sz Δ+(J.length+1)),.ref (sz Δ),.ref pa]])) (k:=0) (o:=.list us) rfl
  rw [e0] at m2 m1 m0
  exact ⟨_,_,rfl,m2,_,_,rfl,⟨rfl,N.ok.space.1⟩,_,_,rfl,⟨rfl,N.ok.name.1⟩,_,_,rfl,⟨_,_,rfl,m1,p1.ad _⟩,_,_,rfl,⟨_,_,rfl,m0,hu'⟩,_,_,rfl,⟨_,_,rfl,p2.ad _,Me⟩,rfl⟩
end
structure Kept (c:Nat) (t t':St):Prop where
 mode:t'.mode=t.mode
 l:t'.l=t.l
 ctx:t'.ctx=t.ctx
 els:elE t'≤elE t+c
 old:∀ (n:Nat) (x:Nd),t.nodes[n]?=some x→x.kind=s "element"→t'.nodes[n]?=some x
section
variable {b c e:Nat} {t t1 t2:St}
theorem Kept.of {t t':St} (h1:t'.mode=t.mode) (h2:t'.l=t.l) (h3:t'.ctx=t.ctx) (h4:t'.nodes=t.nodes):Kept 0 t t' :=
 ⟨h1,h2,h3,by unfold elE;rw [h4];exact Ja,fun n x h _=>by rw [h4];exact h⟩
theorem Kept.trans (h:Kept c t t1) (k:Kept e t1 t2):Kept (c+e) t t2 :=
 ⟨k.mode.trans h.mode,k.l.trans h.l,k.ctx.trans h.ctx,Nat.le_trans k.els (Nat.le_trans (Nat.add_le_add_right h.els _) (Nat.le_of_eq (Nat.add_assoc _ _ _))),fun n x q q'=>k.old n x (h.old n x q q') q'⟩
theorem Kept.le (h:Kept c t t1) (k:c≤e):Kept e t t1:=⟨h.mode,h.l,h.ctx,Nat.le_trans h.els (Nat.add_le_add_left k _),h.old⟩
theorem Kept.trans1 (h:Kept 0 t t1) (k:Kept 1 t1 t2):Kept 1 t t2:=(h.trans k).le (by exact Nat.le_of_ble_eq_true (by exact rfl))
theorem Kept.trans2 (h:Kept 1 t t1) (k:Kept 0 t1 t2):Kept 1 t t2:=h.trans k
theorem W6 {y:Nd} (h:t1.nodes=t.nodes++[y]):elE t1≤elE t+1:=by
 unfold elE
 rw [h,List.filter_append,List.length_append]
 exact Nat.add_le_add_left (List.length_filter_le (fun x:Nd=>x.kind==s "element") [y]) _
theorem Kept.under (t:St) (p:Nat) (x:Nd):Kept 1 t (t.under p x) :=
 ⟨rfl,rfl,rfl,W6 Bn,fun n y h _=>by rw [Bn,List.getElem?_append_left (List.getElem?_eq_some_iff.mp h).1];exact h⟩
theorem Kept.addNd (t:St) (x:Nd):Kept 1 t (t.addNd x) :=
 ⟨rfl,rfl,rfl,W6 rfl,fun n y h _=>Ge h⟩
theorem Kept.enter (t:St) (x:Nd):Kept 1 t (t.enter x):=(Kept.under t _ x).trans2 (Kept.of (by rfl) (by rfl) (by rfl) (by rfl))
theorem Kept.grow {m:Nat} {x:Nd} {cc:Str} (hx:t.nodes[m]?=some x) (hk:(x.kind==s "text")=true):Kept 0 t (t.grow m x cc):=by
 refine ⟨rfl,rfl,rfl,?_,fun n y h q=>?_⟩
 ·haveI e1:((t.grow m x cc).nodes.map (·.kind))=t.nodes.map (·.kind):=En (f:=fun d:Nd=>d.kind) (y:={x with text:=x.text++cc}) hx rfl
  haveI e2:∀ l:List Nd,(l.filter fun x=>x.kind==s "element").length=((l.map (·.kind)).filter fun z=>z==s "element").length:=fun l=>by
   rw [List.filter_map,List.length_map];rfl
  unfold elE
  rw [e2,e1,← e2]
  exact Ja
 ·show (t.nodes.set m _)[n]?=some y
  rw [List.getElem?_set]
  by_cases w:m=n
  ·subst w
   rw [hx] at h
   obtain rfl:=Option.some.inj h
   rw [q] at hk
   rw [show (s "element"==s "text")=false by decide +kernel] at hk
   cases hk
  ·rw [if_neg w];exact h
set_option tactic.hygienic true in
theorem Kept.sign (t:St) (cc:Str):Kept 1 t (t.sign cc):=by
 unfold St.sign
 dsimp only
 split
 ·split
  ·rename_i x hx
   split
   ·rename_i hk
    exact (Kept.grow hx hk).le (by exact Nat.le_of_ble_eq_true (by exact rfl))
   ·exact Kept.under _ _ _
  ·exact (Kept.of (by rfl) (by rfl) (by rfl) (by rfl)).le (by exact Nat.le_of_ble_eq_true (by exact rfl))
 ·exact Kept.under _ _ _
theorem Kept.body (t:St) (tk:Tok):Kept 1 t (Bf t tk):=by
 unfold Bf
 induction tk with
 | start n as cc=>exact Kept.trans1 (Kept.of (by rfl) (by rfl) (by rfl) (by rfl)) (Kept.enter _ _)
 | fin n =>
  dsimp only
  split<;>exact (Kept.of (by rfl) (by rfl) (by rfl) (by rfl)).le (by exact Nat.le_of_ble_eq_true (by exact rfl))
 | _=>exact (Kept.of (by rfl) (by rfl) (by rfl) (by rfl)).le (by exact Nat.le_of_ble_eq_true (by exact rfl))
theorem Kept.signB (t:St) (cc:Str):Kept 1 t (signB t cc):=by
 unfold Mine.Y.signB
 split
 ·exact Kept.trans1 (Kept.of (by rfl) (by rfl) (by rfl) (by rfl)) (Kept.sign _ _)
 ·split
  ·exact Kept.sign _ _
  ·exact (Kept.sign t cc).trans2 (Kept.of (by rfl) (by rfl) (by rfl) (by rfl))
theorem Kept.leave (t:St) (tk:Tok):Kept 1 t (D5 t tk):=by
 unfold D5
 exact Kept.trans1 (Kept.of (by rfl) (by rfl) (by rfl) (by rfl)) (Kept.body _ _)
theorem Kept.startB (t:St) (n:Str) (as:List (Str×Str)) (cc:Bool):Kept 1 t (startB t n as cc):=by
 unfold Mine.Y.startB
 dsimp only
 split
 ·exact (Kept.enter t _).trans2 (Kept.of (by rfl) (by rfl) (by rfl) (by rfl))
 ·exact Kept.enter _ _
theorem Kept.endLoop (t:St) (n:Str):∀ p,Kept 1 t (endLoop t n p)
 | 0=>(Kept.of (by rfl) (by rfl) (by rfl) (by rfl)).le (by exact Nat.le_of_ble_eq_true (by exact rfl))
 | p+1=>by
  rw [L5]
  split
  ·exact (Kept.of (by rfl) (by rfl) (by rfl) (by rfl)).le (by exact Nat.le_of_ble_eq_true (by exact rfl))
  ·split
   ·exact Kept.body _ _
   ·exact Kept.endLoop t n p
theorem Kept.endB (t:St) (n:Str):Kept 1 t (endB t n):=by
 unfold Mine.Y.endB
 dsimp only
 split
 ·exact Kept.endLoop _ _ _
 ·exact Kept.trans1 (Kept.of (by rfl) (by rfl) (by rfl) (by rfl)) (Kept.endLoop _ _ _)
theorem Kept.content (t:St) (tk:Tok):Kept 1 t (Bk t tk):=by
 unfold Bk
 induction tk with
 | chr x=>exact Kept.signB _ _
 | com x=>exact Kept.under _ _ _
 | dt=>exact (Kept.of (by rfl) (by rfl) (by rfl) (by rfl)).le (by exact Nat.le_of_ble_eq_true (by exact rfl))
 | start n as cc =>
  dsimp only
  split
  ·exact Kept.leave _ _
  ·exact Kept.startB _ _ _ _
 | fin n =>
  dsimp only
  split
  ·exact Kept.leave _ _
  ·split
   ·exact (Kept.of (by rfl) (by rfl) (by rfl) (by rfl)).le (by exact Nat.le_of_ble_eq_true (by exact rfl))
   ·exact Kept.endB _ _
theorem Abo (O:StOk b t):∃ x,t.nodes[t.adj]?=some x∧x.kind=s "element"∧t.nd t.adj=x∧NdOk x:=by
 (refine Aa (Ve O) ?_;intro x h1 h2)
 exact ⟨x,h1,h2,Bi h1,O.nd _ _ h1⟩
theorem W7 (O:StOk b t):(t.nd t.adj).space=s "svg"∨(t.nd t.adj).space=s "math"∨(t.nd t.adj).space=s "html":=by
 (refine Ck (Abo O) ?_;intro x h1 h2 h3 h4)
 rw [h3];exact h4.spc h2
theorem Abp (O:StOk b t) {tk:Tok} (h:He t tk=false):(t.nd t.adj).space=s "svg"∨(t.nd t.adj).space=s "math":=by
 rcases W7 O with q | q | q
 ·exact .inl q
 ·exact .inr q
 ·exfalso
  unfold He at h
  rw [Pb (by rw [q];exact beq_self_eq_true _)] at h
  cases h
theorem Ir (O:StOk b t):∃ x,t.nodes[1]?=some x∧x.kind=s "element"∧x.space=s "html"∧x.par=0∧1∈t.stack:=by
 (refine Ad O.root ?_;intro ss e)
 have m:1∈t.stack:=by rw [e];simp
 (refine Au O.rnd ?_;intro x h1 h2 h3)
 (refine Aa (O.elem 1 m) ?_;intro y k1 k2)
 rw [h1] at k1
 cases k1
 exact ⟨x,h1,k2,h2,h3,m⟩
theorem Abq (O:StOk b t):∃ x∈t.stack,Bj t x=true:=by
 (refine Jb (Ir O) ?_;intro x h1 _ h2 _ m)
 refine ⟨1,m,?_⟩
 unfold Bj C3
 rw [Bi h1,h2,beq_self_eq_true]
 rfl
theorem Abr (O:StOk b t) {n:Str} (h:C5 t n=true):1 < t.stack.length:=by
 (refine Ad O.root ?_;intro ss e)
 induction ss with
 | cons a ss=>rw [e];simp
 | nil =>
  exfalso
  (refine Jb (Ir O) ?_;intro x h1 _ h2 _ m)
  unfold C5 at h
  rw [show t.top=1 by unfold St.top;rw [e];rfl,Bi h1,h2] at h
  rw [show (s "html"==s "svg")=false by decide +kernel] at h
  simp at h
noncomputable def St.base (t:St):Nat:=if t.ctx=-1 then 1 else t.ctx.toNat
set_option tactic.hygienic true in
theorem Abs (O:StOk b t):∃ x,t.nodes[t.base]?=some x∧x.kind=s "element":=by
 unfold St.base
 split
 ·(refine Au (Ir O) ?_;intro x h1 h2 _)
  exact ⟨x,h1,h2⟩
 ·rename_i h
  focus (refine oe O.ctx ?_ ?_;rotate_left;(intro z_o;refine Dp z_o ?_;intro p x q _ h1 h2);rotate_right;(intro q))
  ·exact absurd q h
  ·rw [q];exact ⟨x,h1,h2⟩
theorem Abt (O:StOk b t) (k:Kept c t t1):t1.nd t1.base=t.nd t.base:=by
 (refine Aa (Abs O) ?_;intro x h1 h2)
 haveI e:t1.base=t.base:=by unfold St.base;rw [k.ctx]
 rw [e,Bi h1,Bi (k.old _ _ h1 h2)]
theorem Abu (O:StOk b t) (h:t.stack.length=1):t.adj=t.base:=by
 (refine Ad O.root ?_;intro ss e)
 haveI:ss=[]:=by rw [e] at h;cases ss with | nil=>rfl | cons _ _=>simp at h
 subst this
 unfold St.adj St.base
 by_cases q:t.ctx=-1
 ·rw [if_neg (fun w=>w.2 q),if_pos q,e];rfl
 ·rw [if_pos ⟨h,q⟩,if_neg q]
theorem Abv (h:t.stack.length≠1):t.adj=t.top:=by
 unfold St.adj
 rw [if_neg (fun w=>h w.1)]
 rfl
end
theorem EV.xb {Δ Δ':List VR} {ea:Nat} {sp nm:Str} {as:List (Str×Str)} (E:EV Δ ea sp nm as) (e:Af Δ Δ'):EV Δ' ea sp nm as:=by
 (refine Aa e ?_;try clear e;intro J z_1 _;obtain rfl:=z_1);exact E.app J
theorem W8 {n:Nat}:∀ {ds:List PyData},(∀ d∈ds,dep d≤n)→A7 ds≤n
 | [],_=>B7
 | d :: ds,h=>Aq (h d (.head _)) (W8 fun x hx=>h x (.tail _ hx))
theorem W9 {t:St} {path:Nat→List Nat}:∀ h n,dep (elP t path h n)≤2*h+1
 | 0,n=>Nat.zero_le _
 | h+1,n=>by
  haveI k:A7 ((t.kids n).map (Cd t path h))≤2*h+1:=by
   refine W8 fun d hd=>?_
   (refine Aa (List.mem_map.mp hd) ?_;intro m _ z_2;obtain rfl:=z_2)
   haveI go:∀ (c c':Bool) {x y z:PyData},dep x≤2*h+1→dep y≤2*h+1→dep z≤2*h+1→dep (if c then x else if c' then y else z)≤2*h+1:=fun c c' _ _ _ hx hy hz=>by
    cases c with
    | true=>exact hx
    | false=>cases c' with
     | true=>exact hy
     | false=>exact hz
   exact go _ _ (W9 h m) Ba (Cf (m:=2*h) (Aq Ba (Aq Ba B7)))
  rw [Pm]
  exact N7 (m:=2*h+1+1) (Aq Ba (Aq Ba (Aq (N7 (Nat.le_trans Wu (Nat.succ_le_succ (Nat.zero_le _)))) (Aq (N7 k) (Aq (Cf (Nat.le_trans (Nat.le_of_eq W3) (Nat.zero_le _))) B7)))))
noncomputable def B0 (mode:Str) (l:List Int):Bs:=⟨mode,l,[st "document",st "element"],[st "",st "html"],[st "",st "html"],[.ref 19,.ref 38],[st "",st ""],[.int (-1),.int 0],[.ref 20,.ref 39],[.int 1],[],fun _=>[],true,false,-1⟩
noncomputable def D0:Ds:=⟨.ref 35,[],true,false,fun _=>[],fun _=>34,fun _=>[0]⟩
noncomputable def t0 (mode:Str) (l:List Int):St:=⟨mode,l,[⟨s "document",s "",s "",[],s "",-1⟩,⟨s "element",s "html",s "html",[],s "",0⟩],fun _=>[],[1],[],true,false,-1⟩
noncomputable def Pr:FR→Nat×Nat
 | .v (.kid n)=>(1,n)
 | .v (.ekid n)=>(2,n)
 | _=>(0,0)
theorem Xa:C1.map Pr=(List.replicate 32 (0,0)++[(2,1)]++List.replicate 6 (0,0)++[(1,1)]++List.replicate 74 (0,0)):=by rfl
theorem Ps {a n:Nat} (h:At [] a (.kid n)):a=39∧n=1:=by
 haveI h1:(C1.map Pr)[a]?=some (1,n):=by
  haveI h':(C1++[])[a]?=some (.v (.kid n)):=h
  rw [List.append_nil] at h'
  rw [List.getElem?_map,h'];rfl
 rw [Xa] at h1
 haveI hl:=(List.getElem?_eq_some_iff.mp h1).1
 haveI hl2:a < 114:=hl
 haveI:∀ a:Nat,a < 114→∀ x:Nat×Nat,(List.replicate 32 ((0,0):Nat×Nat)++[(2,1)]++List.replicate 6 (0,0)++[(1,1)]++List.replicate 74 (0,0))[a]?=some x→x.1=1→a=39∧x.2=1:=by
  intro a ha x hx
  haveI key:∀ a,a < 114→((List.replicate 32 ((0,0):Nat×Nat)++[(2,1)]++List.replicate 6 (0,0)++[(1,1)]++List.replicate 74 (0,0))[a]?).all (fun x=>x.1 != 1||(a==39&&x.2==1))=true:=by decide +kernel
  haveI:=key a ha
  rw [hx] at this
  intro e
  simpa [e] using this
 exact this a hl2 _ h1 rfl
theorem Pt {a n:Nat} (h:At [] a (.ekid n)):a=32∧n=1:=by
 haveI h1:(C1.map Pr)[a]?=some (2,n):=by
  haveI h':(C1++[])[a]?=some (.v (.ekid n)):=h
  rw [List.append_nil] at h'
  rw [List.getElem?_map,h'];rfl
 rw [Xa] at h1
 haveI hl:=(List.getElem?_eq_some_iff.mp h1).1
 haveI hl2:a < 114:=hl
 haveI:∀ a:Nat,a < 114→∀ x:Nat×Nat,(List.replicate 32 ((0,0):Nat×Nat)++[(2,1)]++List.replicate 6 (0,0)++[(1,1)]++List.replicate 74 (0,0))[a]?=some x→x.1=2→a=32∧x.2=1:=by
  intro a ha x hx
  haveI key:∀ a,a < 114→((List.replicate 32 ((0,0):Nat×Nat)++[(2,1)]++List.replicate 6 (0,0)++[(1,1)]++List.replicate 74 (0,0))[a]?).all (fun x=>x.1 != 2||(a==32&&x.2==1))=true:=by decide +kernel
  haveI:=key a ha
  rw [hx] at this
  intro e
  simpa [e] using this
 exact this a hl2 _ h1 rfl
theorem Iu {α:Type} {x y z:α} {n:Nat} (h:([x,y]:List α)[n]?=some z):(n=0∧z=x)∨(n=1∧z=y):=by
 match n,h with
 | 0,h=>exact .inl ⟨rfl,by simpa using h.symm⟩
 | 1,h=>exact .inr ⟨rfl,by simpa using h.symm⟩
 | n+2,h=>simp at h
theorem Xb:(s "document"=s "element")→False:=fun h=>by
 have:(s "document"==s "element")=true:=by rw [h,beq_self_eq_true]
 rw [show (s "document"==s "element")=false by decide +kernel] at this
 cases this
theorem Abw:SOk (s "document"):=⟨Ap,by decide +kernel⟩
theorem Xc:SOk (s "html"):=⟨Ap,by decide +kernel⟩
theorem Abx:Bd (s "html")=true:=by decide +kernel
section
variable {mode:Str} {l:List Int}
theorem ok0 (om:PyData.strOk mode=true):StOk 49 (t0 mode l):=by
 haveI hlen:∀ x:Nat,(s "").length+49≤1000:=fun _=>by rw [L3];exact Nat.le_of_ble_eq_true (by exact rfl)
 refine {nd:=?_,par:=?_,len:=by simp [t0],two:=by simp [t0],slen:=by simp [t0],nlen:=by simp [t0],tlen:=?_,ndep:=by simp [t0,A7],klen:=by simp [t0],none:=fun _ _=>rfl,kin:=by simp [t0],kpar:=by simp [t0],knd:=by simp [t0],sin:=by simp [t0],root:=⟨[],rfl⟩,rnd:=⟨_,rfl,rfl,rfl⟩,elem:=?_,mode:=om,ctx:=.inl rfl}
 ·intro n d h
  focus (refine oe (Iu h) ?_ ?_;rotate_left;(intro z_o;refine Ac z_o ?_;intro _ z_1;obtain rfl:=z_1);rotate_right;(intro z_o;refine Ac z_o ?_;intro _ z_1;obtain rfl:=z_1))
  ·exact ⟨Abw,Eo,Eo,Eo,O4,fun q=>(Xb q).elim,L2⟩
  ·exact ⟨Vn,Xc,Xc,Eo,Abx,fun _=>.inr (.inr rfl),L2⟩
 ·intro n d h
  focus (refine oe (Iu h) ?_ ?_;rotate_left;(intro z_o;refine Ac z_o ?_;intro z_0 z_1;obtain rfl:=z_0;obtain rfl:=z_1);rotate_right;(intro z_o;refine Ac z_o ?_;intro _ z_1;obtain rfl:=z_1))
  ·exact .inl rfl
  ·exact .inr ⟨0,rfl,by exact Nat.le_of_ble_eq_true (by exact rfl)⟩
 ·intro n d h
  focus (refine oe (Iu h) ?_ ?_;rotate_left;(intro z_o;refine Ac z_o ?_;intro _ z_1;obtain rfl:=z_1);rotate_right;(intro z_o;refine Ac z_o ?_;intro _ z_1;obtain rfl:=z_1))<;>exact hlen 0
 ·intro n hn
  have:n=1:=by simpa [t0] using hn
  subst this
  exact ⟨_,rfl,rfl⟩
theorem Aby:RelB (t0 mode l) (B0 mode l) []:=by
 refine {mode:=rfl,l:=rfl,kinds:=rfl,spaces:=rfl,names:=rfl,texts:=rfl,parents:=rfl,la:=rfl,attrs:=?_,lc:=rfl,children:=?_,child0:=rfl,kid:=fun _=>rfl,items:=rfl,errors:=rfl,fok:=rfl,ack:=rfl,ctx:=rfl,uniq:=?_,fresh:=?_}
 ·intro n d h
  focus (refine oe (Iu h) ?_ ?_;rotate_left;(intro z_o;refine Ac z_o ?_;intro z_0 z_1;obtain rfl:=z_0;obtain rfl:=z_1);rotate_right;(intro z_o;refine Ac z_o ?_;intro z_0 z_1;obtain rfl:=z_0;obtain rfl:=z_1))
  ·exact ⟨19,[],rfl,rfl,rfl⟩
  ·exact ⟨38,[],rfl,rfl,rfl⟩
 ·intro n h0 h
  have h2:n < 2:=h
  have:n=1:=Nat.le_antisymm (Nat.le_of_lt_succ h2) h0
  subst this
  exact ⟨39,rfl,rfl⟩
 ·intro a b n h h'
  rw [(Ps h).1,(Ps h').1]
 ·intro a n h
  rw [(Ps h).2];show 1 < 2;exact Nat.le_of_ble_eq_true (by exact rfl)
theorem Xd:elE (t0 mode l)=1:=by
 unfold elE t0
 rw [List.filter_cons_of_neg (by rw [show (s "document"==s "element")=false by decide +kernel];decide),List.filter_cons_of_pos (by simp)]
 rfl
theorem Abz:RelT (t0 mode l) D0 []:=by
 have one:∀ (n:Nat) (x:Nd),(t0 mode l).nodes[n]?=some x→x.kind=s "element"→n=1∧x=⟨s "element",s "html",s "html",[],s "",0⟩:=fun n x h hk=>by
  focus (refine oe (Iu h) ?_ ?_;rotate_left;(intro z_o;refine Ac z_o ?_;intro z_0 z_1;obtain rfl:=z_0;obtain rfl:=z_1);rotate_right;(intro z_o;refine Ac z_o ?_;intro z_0 z_1;obtain rfl:=z_0;obtain rfl:=z_1))
  ·exact (Xb hk).elim
  ·exact ⟨rfl,rfl⟩
 refine {el:=?_,kids:=fun _ _ _ _ _=>rfl,uniq:=?_,fresh:=?_,path1:=⟨rfl,rfl⟩,plen:=?_,up:=?_,pathS:=?_}
 ·intro n x h hk _
  (refine Ac (one n x h hk) ?_;intro z_0 z_1;obtain rfl:=z_0;obtain rfl:=z_1)
  exact ⟨31,32,33,[],rfl,rfl,rfl,rfl,rfl⟩
 ·intro a b n h h'
  rw [(Pt h).1,(Pt h').1]
 ·intro a n h
  rw [(Pt h).2];show 1 < 2;exact Nat.le_of_ble_eq_true (by exact rfl)
 ·intro n x h hk _
  (refine Ac (one n x h hk) ?_;intro z_0 z_1;obtain rfl:=z_0;obtain rfl:=z_1)
  refine ⟨Nat.le_refl 1,?_⟩
  show 1≤elE (t0 mode l)
  rw [Xd];exact Nat.le_of_ble_eq_true (by exact rfl)
 ·intro n x p h hk hp
  (refine Ac (one n x h hk) ?_;intro z_0 z_1;obtain rfl:=z_0;obtain rfl:=z_1)
  have:(0:Int)=(p:Int):=hp
  exact .inl ⟨by exact Mo ‹_›,rfl⟩
 ·intro n x p h0 h hk hp
  (refine Ac (one n x h hk) ?_;intro z_0 z_1;obtain rfl:=z_0;obtain rfl:=z_1)
  have:(0:Int)=(p:Int):=hp
  exact Qi ‹_› ‹_›
theorem Ab0:RelD (t0 mode l) D0 []:=by
 refine {tr:=Abz,stack:=⟨35,rfl,rfl⟩,notes:=rfl,fok:=rfl,ack:=rfl,att:=?_}
 intro n hn
 have:n=1:=by simpa [t0] using hn
 subst this
 exact ⟨_,rfl,rfl,by simp⟩
end
noncomputable def Iv:List (Nat×Nat×String×String×List V×List (Str×Str)) :=
 [(42,41,"svg","svg",[],[]),(44,43,"svg","g",[],[]),(46,45,"svg","foreignObject",[],[]),(48,47,"math","math",[],[]),
 (51,50,"math","mi",[],[]),(53,52,"html","p",[],[]),(55,54,"svg","desc",[],[]),(57,56,"svg","title",[],[]),
 (64,63,"math","annotation-xml",[.ref 61,.ref 62],[(s "id",s "text/html"),(s "encoding",s "Text/HTML")]),
 (68,67,"math","annotation-xml",[.ref 65,.ref 66],[(s "id",s "text/html"),(s "encoding",s "application/XHTML+xml")]),
 (72,71,"math","annotation-xml",[.ref 69,.ref 70],[(s "id",s "text/html"),(s "encoding",s "text/htm")]),
 (76,75,"math","annotation-xml",[.ref 73,.ref 74],[(s "id",s "text/html"),(s "encoding",s "")]),
 (78,77,"math","annotation-xml",[],[]),(81,80,"svg","annotation-xml",[.ref 79],[(s "encoding",s "text/html")]),
 (85,84,"svg","script",[],[]),(87,86,"math","desc",[],[]),(89,88,"svg","mi",[],[]),(91,90,"math","mo",[],[]),
 (95,94,"math","mn",[],[]),(97,96,"math","ms",[],[]),(99,98,"math","mtext",[],[]),(101,100,"html","b",[],[]),
 (105,104,"math","mrow",[],[]),(107,106,"svg","clipPath",[],[]),(109,108,"math","foreignObject",[],[]),(111,110,"svg","a",[],[])]
theorem Ab1:([.ref 42,.ref 44,.ref 46,.ref 48,.ref 51,.ref 53,.ref 55,.ref 57,.ref 64,.ref 68,.ref 72,.ref 76,.ref 78,.ref 81,.ref 85,.ref 87,.ref 89,.ref 91,.ref 95,.ref 97,.ref 99,.ref 101,.ref 105,.ref 107,.ref 109,.ref 111]:List V)=Iv.map fun q=>.ref q.1:=(rfl)
noncomputable def Ab2 (q:Nat×Nat×String×String×List V×List (Str×Str)):Prop :=
 At [] q.1 (.imm (.tuple [.str (s q.2.2.1),.str (s q.2.2.2.1),.ref q.2.1]))∧At [] q.2.1 (.imm (.tuple q.2.2.2.2.1))∧Ae [] (Ak q.2.2.2.2.2) q.2.2.2.2.1
theorem Pu {a:Nat} {x y:String} (h:At [] a (.imm (.tuple [.str (s x),.str (s y)]))):Rep [] (.tuple [.str (s x),.str (s y)]) (.ref a) :=
 ⟨a,_,rfl,h,_,_,rfl,⟨rfl,Ap⟩,_,_,rfl,⟨rfl,Ap⟩,rfl⟩
theorem Ab3:∀ q∈Iv,Ab2 q:=by
 haveI two:∀ {a c:Nat} {x y z w:String},At [] a (.imm (.tuple [.str (s x),.str (s y)]))→At [] c (.imm (.tuple [.str (s z),.str (s w)]))→Ae [] (Ak [(s x,s y),(s z,s w)]) [.ref a,.ref c] :=
  fun h h'=>⟨_,_,rfl,Pu h,_,_,rfl,Pu h',rfl⟩
 haveI one:∀ {a:Nat} {x y:String},At [] a (.imm (.tuple [.str (s x),.str (s y)]))→Ae [] (Ak [(s x,s y)]) [.ref a] :=
  fun h=>⟨_,_,rfl,Pu h,rfl⟩
 unfold Iv
 simp only [List.forall_mem_cons,List.not_mem_nil,false_implies,implies_true,and_true]
 refine ⟨?_,?_,?_,?_,?_,?_,?_,?_,?_,?_,?_,?_,?_,?_,?_,?_,?_,?_,?_,?_,?_,?_,?_,?_,?_,?_⟩<;>first
  | exact ⟨rfl,rfl,rfl⟩
  | exact ⟨rfl,rfl,two rfl rfl⟩
  | exact ⟨rfl,rfl,one rfl⟩
noncomputable def soB (x:Str):Bool:=decide (x.length≤1000)
noncomputable def Pv (q:Nat×Nat×String×String×List V×List (Str×Str)):Bool :=
 soB (s q.2.2.1)&&soB (s q.2.2.2.1)&&Bd (s q.2.2.2.1)&&(s q.2.2.1==s "svg"||(s q.2.2.1==s "math"||s q.2.2.1==s "html"))&&!(s q.2.2.2.1==s "template")
 && decide (q.2.2.2.2.2.length≤10)&&decide ((q.2.2.2.2.2.filter fun p=>p.1==s "encoding").length≤1)&&q.2.2.2.2.2.all fun p=>soB p.1&&soB p.2&&Bd p.2&&PyData.strOk p.1&&PyData.strOk p.2
theorem Ab4:Iv.all Pv=true:=by decide +kernel
theorem Ab5 {q:Nat×Nat×String×String×List V×List (Str×Str)} (h:Pv q=true):NdOk (Al (s q.2.2.1) (s q.2.2.2.1) q.2.2.2.2.2)∧(s q.2.2.2.1==s "template")=false:=by
 unfold Pv soB at h
 simp only [Bool.and_eq_true,decide_eq_true_eq,Bool.or_eq_true,beq_iff_eq,Bool.not_eq_true',List.all_eq_true] at h
 (refine Ac h ?_;try clear h;intro z_0 h8;refine Ac z_0 ?_;intro z_0 h7;refine Ac z_0 ?_;intro z_0 h6;refine Ac z_0 ?_;intro z_0 h5;refine Ac z_0 ?_;intro z_0 h4;refine Ac z_0 ?_;intro z_0 h3;refine Ac z_0 ?_;intro h1 h2)
 exact ⟨O5 ⟨Ap,h1⟩ ⟨Ap,h2⟩ h3 h4 ⟨fun p hp=>by
  (refine Ac (h8 p hp) ?_;intro z_0 a5;refine Ac z_0 ?_;intro z_0 a4;refine Ac z_0 ?_;intro z_0 a3;refine Ac z_0 ?_;intro a1 a2)
  exact ⟨⟨a4,a1⟩,⟨a5,a2⟩,a3⟩,h6,h7⟩,h5⟩
theorem Xe {j:Nat} (hj:j < 26) (Δ:List VR):∃ r aa vs sp nm as,([.ref 42,.ref 44,.ref 46,.ref 48,.ref 51,.ref 53,.ref 55,.ref 57,.ref 64,.ref 68,.ref 72,.ref 76,.ref 78,.ref 81,.ref 85,.ref 87,.ref 89,.ref 91,.ref 95,.ref 97,.ref 99,.ref 101,.ref 105,.ref 107,.ref 109,.ref 111]:List V)[j]?=some (.ref r) ∧
  At Δ r (.imm (.tuple [.str sp,.str nm,.ref aa]))∧At Δ aa (.imm (.tuple vs))∧Ae Δ (Ak as) vs∧NdOk (Al sp nm as)∧(nm==s "template")=false:=by
 haveI hl:j < Iv.length:=hj
 haveI hq:=List.getElem_mem hl
 (refine As (Ab3 _ hq) ?_;intro h1 h2 h3)
 (refine Ac (Ab5 (List.all_eq_true.mp Ab4 _ hq)) ?_;intro h4 h5)
 refine ⟨_,_,_,_,_,_,?_,h1.app Δ,h2.app Δ,h3.app Δ,h4,h5⟩
 rw [Ab1,List.getElem?_map,List.getElem?_eq_getElem hl]
 rfl
abbrev P3:=Fl×List (Option V)×H
structure XR where
 ca:Nat→V→List V→H→Option (V×H)
 wl:Fr→E→List S→H→Option P3
 fo:Fr→T→It→List S→H→Option P3
section
variable (r:XR)
noncomputable def xC (d:Nat) (f:V) (as:List V) (σ:H):Option (V×H):=match f with
 | .con c=>(match c with
  | .ref a=>r.ca d (.con (.ref a)) as σ
  | .builtin a=>Aw σ (.builtin a) as
  | .type a=>Aw σ (.type a) as
  | _=>none)
 | _=>none
noncomputable def xM (d:Nat) (k:MK) (v:V) (p:List V×H):Option (V×H):=match k with
 | .own f=>r.ca d (.con (.ref f)) (v :: p.1) p.2
 | .blt m=>A4 p.2 v m p.1
 | .no=>none
noncomputable def Ab6:V→Option V
 | .int k=>some (.int (-k))
 | _=>none
mutual
noncomputable def xE (fr:Fr):E→H→Option (V×H)
 | .cst v,σ=>some (v,σ)
 | .loc i,σ=>(fr.ρ[i]?).join.map fun v=>(v,σ)
 | .cel i,σ=>(fr.cl[i]?).bind fun k=>(H3 σ[k]?).map fun v=>(v,σ)
 | .attr o n,σ=>(xE fr o σ).bind fun p=>(A8 tb p.2 p.1 n).map fun x=>(x,p.2)
 | .idx o i,σ=>(xE fr o σ).bind fun p=>(xE fr i p.2).bind fun k=>(Ao k.2 p.1 k.1).map fun x=>(x,k.2)
 | .call f as,σ=>(xE fr f σ).bind fun p=>(xEs fr as p.2).bind fun q=>xC r fr.dp p.1 q.1 q.2
 | .meth o n as,σ=>(xE fr o σ).bind fun p=>(xEs fr as p.2).bind fun q=>xM r fr.dp (Am p.2 p.1 n) p.1 q
 | .bin op a b,σ=>(xE fr a σ).bind fun p=>(xE fr b p.2).bind fun k=>Ce k.2 op p.1 k.1
 | .neg a,σ=>(xE fr a σ).bind fun p=>(Ab6 p.1).map fun x=>(x,p.2)
 | .tup es,σ=>(xEs fr es σ).bind fun q=>gd (Nat.ble q.1.length lim) (Ay q.2 (.tuple q.1))
 | .lst es,σ=>(xEs fr es σ).bind fun q=>gd (Nat.ble q.1.length lim) (Ay q.2 (.list q.1))
 | .dct ks es,σ=>if ks.length≤15∧ks.length=es.length then (B5 fr ks).bind fun kv=>(xEs fr es σ).bind fun q=>(Et (kv.zip q.1) []).bind fun ds=>Ay q.2 (.dict ds) else none
 | _,_=>none
noncomputable def xEs (fr:Fr):List E→H→Option (List V×H)
 | [],σ=>some ([],σ)
 | e :: es,σ=>(xE fr e σ).bind fun p=>(xEs fr es p.2).map fun q=>(p.1 :: q.1,q.2)
end
mutual
noncomputable def xB (fr:Fr):E→H→Option (Bool×H)
 | .boo op es,σ=>xBs fr op es σ
 | .cmp l ops rs,σ=>(xE r fr l σ).bind fun p=>match ops,rs with
  | [op],[e]=>(xE r fr e p.2).bind fun k=>(A6 k.2 op p.1 k.1).map fun c=>(c,k.2)
  | _,_=>none
 | .attr o n,σ=>(xE r fr (.attr o n) σ).bind fun p=>(Az p.2 p.1).map fun b=>(b,p.2)
 | _,_=>none
noncomputable def xBs (fr:Fr) (op:BoolOp):List E→H→Option (Bool×H)
 | [],σ=>some (op==.And,σ)
 | e :: es,σ=>(xB fr e σ).bind fun p=>match op with
  | .Or=>cond p.1 (some p) (xBs fr op es p.2)
  | .And=>cond p.1 (xBs fr op es p.2) (some p)
end
noncomputable def xT (fr:Fr) (t:T) (v:V) (σ:H):Option (List (Option V)×H):=match t with
 | .nm i=>some (fr.ρ.set i (some v),σ)
 | .cl j=>(fr.cl[j]?).bind fun k=>(H5 σ[k]?).bind fun _=>if fz≤k then some (fr.ρ,σ.set k (.cell (some v))) else none
 | .at o n=>(xE r fr o σ).bind fun p=>(Fm tb p.2 p.1 n v).map fun σ=>(fr.ρ,σ)
 | .ix o i=>(xE r fr o σ).bind fun p=>(xE r fr i p.2).bind fun k=>(Cy k.2 p.1 k.1 v).map fun σ=>(fr.ρ,σ)
 | _=>none
noncomputable def okV:V→Bool
 | .none=>true
 | .int _=>true
 | _=>false
mutual
noncomputable def xS:S→Fr→H→Option P3
 | .asg t e,fr,σ=>(xE r fr e σ).bind fun p=>(xT r fr t p.1 p.2).map fun q=>(.next,q)
 | .ex e,fr,σ=>(xE r fr e σ).bind fun p=>if okV p.1=true then some (.next,fr.ρ,p.2) else none
 | .ret e,fr,σ=>match e with
  | none=>some (.ret .none,fr.ρ,σ)
  | some e=>(xE r fr e σ).map fun p=>(.ret p.1,fr.ρ,p.2)
 | .ite t b o,fr,σ=>(xB r fr t σ).bind fun p=>if p.1=true then xSs b fr p.2 else xSs o fr p.2
 | .whl t b,fr,σ=>r.wl fr t b σ
 | .for t it b,fr,σ=>(xE r fr it σ).bind fun p=>(Ci p.2 p.1).bind fun k=>r.fo fr t k b p.2
 | _,_,_=>none
noncomputable def xSs:List S→Fr→H→Option P3
 | [],fr,σ=>some (.next,fr.ρ,σ)
 | s :: ss,fr,σ=>(xS s fr σ).bind fun p=>match p.1 with
  | .next=>xSs ss ⟨fr.dp,p.2.1,fr.cl⟩ p.2.2
  | .brk=>some (.brk,p.2)
  | .ret v=>some (.ret v,p.2)
end
noncomputable def xL (again:List (Option V)→H→Option P3) (p:P3):Option P3:=match p.1 with
 | .next=>again p.2.1 p.2.2
 | .brk=>some (.next,p.2)
 | .ret v=>some (.ret v,p.2)
noncomputable def xR (p:P3):Option (V×H):=match p.1 with
 | .next=>some (.none,p.2.2)
 | .ret v=>some (v,p.2.2)
 | .brk=>none
noncomputable def xF (d:Nat) (fi:Fn) (as:List V) (σ:H):Option (V×H):=if as.length≤fi.ps.length∧fi.ps.length≤as.length+fi.df.length then
  (Da fi.ps (as++fi.df.drop (as.length+fi.df.length-fi.ps.length)) (List.replicate fi.nl none) (List.range' σ.length fi.nc) (σ++List.replicate fi.nc (.cell none))).bind fun p =>
   (xSs r fi.body ⟨d,p.1,List.range' σ.length fi.nc⟩ p.2).bind xR
 else none
noncomputable def isN:V→Bool
 | .none=>true
 | _=>false
noncomputable def xCa (d:Nat) (f:V) (as:List V) (σ:H):Option (V×H):=match d,f with
 | d+1,.con (.ref a)=>(match tb.ini a with
  | some i=>(r.ca d (.con (.ref i)) (.ref (σ.length+1) :: as) (σ++[.ns [],.inst a σ.length])).bind fun p=>if isN p.1=true then some (.ref (σ.length+1),p.2) else none
  | none=>(tb.fn a).bind fun fi=>xF r d fi as σ)
 | _,_=>none
noncomputable def xWl (fr:Fr) (t:E) (b:List S) (σ:H):Option P3:=(xB r fr t σ).bind fun p=>if p.1=true then (xSs r b fr p.2).bind (xL fun ρ σ=>r.wl ⟨fr.dp,ρ,fr.cl⟩ t b σ) else some (.next,fr.ρ,p.2)
noncomputable def xFo (fr:Fr) (t:T) (it:It) (b:List S) (σ:H):Option P3:=(Bz σ it).bind fun o=>match o with
 | none=>some (.next,fr.ρ,σ)
 | some p=>(xT r fr t p.1 σ).bind fun q=>(xSs r b ⟨fr.dp,q.1,fr.cl⟩ q.2).bind (xL fun ρ σ=>r.fo ⟨fr.dp,ρ,fr.cl⟩ t p.2 b σ)
end
noncomputable def XN:Nat→XR
 | 0=>⟨fun _ _ _ _=>none,fun _ _ _ _=>none,fun _ _ _ _ _=>none⟩
 | n+1=>⟨xCa (XN n),xWl (XN n),xFo (XN n)⟩
theorem pro (l:List Int) (mode:Str) (flags:Int):xSs (XN 20) ((Bh.body.drop 2).take 9) ⟨59,[some (.ref 0),some (.int flags),some (.str mode),none,none,none,none,none,none,none,none,none,none,none,none,none,none,none,none],[4]⟩
  [.list (l.map .int),.tuple [],.tuple [],.tuple [],.cell none,.list [st "in body",st "in cell"]] =
 some (.next,[some (.ref 0),some (.int flags),some (.str mode),some (.ref 8),some (.ref 22),some (.ref 34),some (.ref 37),some (.ref 113),none,none,none,none,none,none,none,none,none,none,none],hp (B0 mode l) D0 []):=by
 kernel_rfl
theorem b_e {α β:Type} {x:Option α} {f:α→Option β} {c:β} {P:Prop} (h:x.bind f=some c) (k:∀ a,x=some a→f a=some c→P):P:=by
 induction x with
 | none=>exact Z.nn h
 | some a=>exact k a rfl h
theorem i_e {α:Type} {b:Prop} [Decidable b] {x:Option α} {c:α} {P:Prop} (h:(if b then x else none)=some c) (k:b→x=some c→P):P:=by
 by_cases hb:b
 ·rw [if_pos hb] at h;exact k hb h
 ·rw [if_neg hb] at h;exact Z.nn h
theorem Bg {α:Type} {x:Option α} {a:α} {Q:α→Prop} (e:x=some a) (h:Q a):opt x Q:=by
 rw [e];exact h
theorem Xf {b P:Prop} [Decidable b] (hb:b) (h:P):if b then P else False:=by
 rw [if_pos hb];exact h
structure XOk (r:XR):Prop where
 ca:∀ {d:Nat} {f:V} {as:List V} {σ:H} {p:V×H} {Q:V→H→Prop},r.ca d f as σ=some p→Q p.1 p.2→Ca d f as σ Q
 wl:∀ {fr:Fr} {t:E} {b:List S} {σ:H} {p:P3} {Q:KS},r.wl fr t b σ=some p→Q p.1 p.2.1 p.2.2→Wl fr t b σ Q
 fo:∀ {fr:Fr} {t:T} {it:It} {b:List S} {σ:H} {p:P3} {Q:KS},r.fo fr t it b σ=some p→Q p.1 p.2.1 p.2.2→Fo fr t it b σ Q
section
variable {r:XR}
theorem Ab7 (K:XOk r) {d:Nat} {f:V} {as:List V} {σ:H} {p:V×H} {Q:V→H→Prop} (h:xC r d f as σ=some p) (q:Q p.1 p.2):wC d f as σ Q:=by
 induction f with
 | con c=>induction c with
  | ref a=>exact K.ca h q
  | builtin a=>exact Bg h q
  | type a=>exact Bg h q
  | _=>exact Z.nn h
 | _=>exact Z.nn h
mutual
theorem Bp (K:XOk r) (fr:Fr):∀ (e:E) {σ:H} {p:V×H} {Q:V→H→Prop},xE r fr e σ=some p→Q p.1 p.2→(wP fr e).1 σ Q
 | .cst v,σ,p,Q,h,q=>by obtain rfl:=Option.some.inj h;exact q
 | .loc i,σ,p,Q,h,q=>Z.o1_e (f:=fun v=>(v,σ)) (M:=fun p=>Q p.1 p.2→_) h (fun a e q=>Bg e q) q
 | .cel i,σ,p,Q,h,q=>b_e h fun k e h=>Bg e (Z.o1_e (f:=fun v=>(v,σ)) (M:=fun p=>Q p.1 p.2→_) h (fun a e q=>Bg e q) q)
 | .attr o n,σ,p,Q,h,q=>b_e h fun a e h=>Bp K fr o e (Z.o1_e (f:=fun x=>(x,a.2)) (M:=fun p=>Q p.1 p.2→_) h (fun b e q=>Bg e q) q)
 | .idx o i,σ,p,Q,h,q=>b_e h fun a e h=>Bp K fr o e (b_e h fun k e h=>Bp K fr i e (Z.o1_e (f:=fun x=>(x,k.2)) (M:=fun p=>Q p.1 p.2→_) h (fun b e q=>Bg e q) q))
 | .call f as,σ,p,Q,h,q=>b_e h fun a e h=>Bp K fr f e (b_e h fun k e h=>Gl K fr as e (Ab7 K h q))
 | .meth o n as,σ,p,Q,h,q=>b_e h fun a e h=>Bp K fr o e (b_e h fun k e h=>by
  show (match Am a.2 a.1 n with
   | .own f=>wEs fr as a.2 fun vs σ=>Ca fr.dp (.con (.ref f)) (a.1 :: vs) σ Q
   | .blt m=>wEs fr as a.2 fun vs σ=>opt (A4 σ a.1 m vs) fun p=>Q p.1 p.2
   | .no=>False)
  cases hm:Am a.2 a.1 n with
  | own f=>rw [hm] at h;exact Gl K fr as e (K.ca h q)
  | blt m=>rw [hm] at h;exact Gl K fr as e (Bg h q)
  | no=>rw [hm] at h;exact Z.nn h)
 | .bin op a b,σ,p,Q,h,q=>b_e h fun x e h=>Bp K fr a e (b_e h fun k e h=>Bp K fr b e (Bg h q))
 | .neg a,σ,p,Q,h,q=>b_e h fun x e h=>Bp K fr a e (Z.o1_e (f:=fun y=>(y,x.2)) (M:=fun p=>Q p.1 p.2→_) h (fun b e q=>by
  rcases x with ⟨v,σ'⟩
  induction v with
  | int i=>obtain rfl:=Option.some.inj e;exact q
  | _=>exact Z.nn e) q)
 | .tup es,σ,p,Q,h,q=>b_e h fun k e h=>Gl K fr es e (Bg h q)
 | .lst es,σ,p,Q,h,q=>b_e h fun k e h=>Gl K fr es e (Bg h q)
 | .dct ks es,σ,p,Q,h,q=>i_e h fun hc h=>Xf hc (b_e h fun kv e h=>Bg e (b_e h fun k e h=>Gl K fr es e (b_e h fun ds e h=>Bg e (Bg h q))))
 | .slc ..,_,_,_,h,_=>Z.nn h
 | .repl ..,_,_,_,h,_=>Z.nn h
 | .not ..,_,_,_,h,_=>Z.nn h
 | .boo ..,_,_,_,h,_=>Z.nn h
 | .cmp ..,_,_,_,h,_=>Z.nn h
 | .ite ..,_,_,_,h,_=>Z.nn h
 | .dcl ..,_,_,_,h,_=>Z.nn h
 | .comp ..,_,_,_,h,_=>Z.nn h
theorem Gl (K:XOk r) (fr:Fr):∀ (es:List E) {σ:H} {p:List V×H} {Q:List V→H→Prop},xEs r fr es σ=some p→Q p.1 p.2→wEs fr es σ Q
 | [],σ,p,Q,h,q=>by obtain rfl:=Option.some.inj h;exact q
 | e :: es,σ,p,Q,h,q=>b_e h fun a e1 h=>Bp K fr e e1 (Z.o1_e (f:=fun q=>(a.1 :: q.1,q.2)) (M:=fun p=>Q p.1 p.2→wEs fr es a.2 fun vs σ=>Q (a.1 :: vs) σ) h (fun k e2 q=>Gl K fr es e2 q) q)
end
mutual
theorem Pw (K:XOk r) (fr:Fr):∀ (e:E) {σ:H} {p:Bool×H} {Q:Bool→H→Prop},xB r fr e σ=some p→Q p.1 p.2→(wP fr e).2 σ Q
 | .boo op es,σ,p,Q,h,q=>Px K fr op es h q
 | .cmp l [op] [e],σ,p,Q,h,q=>b_e h fun a e1 h=>Bp K fr l e1 (b_e h fun k e2 h=>Bp K fr e e2 (Z.o1_e (f:=fun c=>(c,k.2)) (M:=fun p=>Q p.1 p.2→_) h (fun c e q=>Bg e q) q))
 | .attr o n,σ,p,Q,h,q=>b_e h fun a e h=>Bp K fr (.attr o n) (Q:=fun v σ=>opt (Az σ v) fun b=>Q b σ) e (Z.o1_e (f:=fun x=>(x,a.2)) (M:=fun p=>Q p.1 p.2→_) h (fun b e q=>Bg e q) q)
 | .cmp _ [] _,_,_,_,h,_=>b_e h fun _ _ h=>Z.nn h
 | .cmp _ [_] [],_,_,_,h,_=>b_e h fun _ _ h=>Z.nn h
 | .cmp _ [_] (_ :: _ :: _),_,_,_,h,_=>b_e h fun _ _ h=>Z.nn h
 | .cmp _ (_ :: _ :: _) _,_,_,_,h,_=>b_e h fun _ _ h=>Z.nn h
 | .cst ..,_,_,_,h,_=>Z.nn h
 | .loc ..,_,_,_,h,_=>Z.nn h
 | .cel ..,_,_,_,h,_=>Z.nn h
 | .idx ..,_,_,_,h,_=>Z.nn h
 | .slc ..,_,_,_,h,_=>Z.nn h
 | .repl ..,_,_,_,h,_=>Z.nn h
 | .call ..,_,_,_,h,_=>Z.nn h
 | .meth ..,_,_,_,h,_=>Z.nn h
 | .bin ..,_,_,_,h,_=>Z.nn h
 | .neg ..,_,_,_,h,_=>Z.nn h
 | .not ..,_,_,_,h,_=>Z.nn h
 | .ite ..,_,_,_,h,_=>Z.nn h
 | .tup ..,_,_,_,h,_=>Z.nn h
 | .lst ..,_,_,_,h,_=>Z.nn h
 | .dct ..,_,_,_,h,_=>Z.nn h
 | .dcl ..,_,_,_,h,_=>Z.nn h
 | .comp ..,_,_,_,h,_=>Z.nn h
theorem Px (K:XOk r) (fr:Fr) (op:BoolOp):∀ (es:List E) {σ:H} {p:Bool×H} {Q:Bool→H→Prop},xBs r fr op es σ=some p→Q p.1 p.2→wBs fr op es σ Q
 | [],σ,p,Q,h,q=>by obtain rfl:=Option.some.inj h;exact q
 | e :: es,σ,p,Q,h,q=>b_e h fun a e1 h=>Pw K fr e e1 (by
  rcases a with ⟨c,σ1⟩
  induction op with
  | Or=>induction c with
   | true=>obtain rfl:=Option.some.inj h;exact q
   | false=>exact Px K fr .Or es h q
  | And=>induction c with
   | true=>exact Px K fr .And es h q
   | false=>obtain rfl:=Option.some.inj h;exact q)
end
theorem Xg (K:XOk r) {fr:Fr} {t:T} {v:V} {σ:H} {p:List (Option V)×H} {Q:List (Option V)→H→Prop} (h:xT r fr t v σ=some p) (q:Q p.1 p.2):wT fr t v σ Q:=by
 induction t with
 | nm i=>obtain rfl:=Option.some.inj h;exact q
 | cl j=>exact b_e h fun k e h=>Bg e (b_e h fun _ e h=>Bg e (i_e h fun hc h=>Xf hc (by obtain rfl:=Option.some.inj h;exact q)))
 | «at» o n=>exact b_e h fun a e h=>Bp K fr o e (Z.o1_e (f:=fun σ=>(fr.ρ,σ)) (M:=fun p=>Q p.1 p.2→_) h (fun _ e q=>Bg e q) q)
 | ix o i=>exact b_e h fun a e h=>Bp K fr o e (b_e h fun k e h=>Bp K fr i e (Z.o1_e (f:=fun σ=>(fr.ρ,σ)) (M:=fun p=>Q p.1 p.2→_) h (fun _ e q=>Bg e q) q))
 | tp is=>exact Z.nn h
mutual
theorem Ab8 (K:XOk r):∀ (s:S) (fr:Fr) {σ:H} {p:P3} {Q:KS},xS r s fr σ=some p→Q p.1 p.2.1 p.2.2→wS s fr σ Q
 | .asg t e,fr,σ,p,Q,h,q=>b_e h fun a e1 h=>Bp K fr e e1 (Z.o1_e (f:=fun q=>(Fl.next,q)) (M:=fun p=>Q p.1 p.2.1 p.2.2→_) h (fun k e q=>Xg K e q) q)
 | .ex e,fr,σ,p,Q,h,q=>b_e h fun a e1 h=>Bp K fr e e1 (i_e h fun hc h=>by
  rcases a with ⟨v,σ'⟩
  obtain rfl:=Option.some.inj h
  induction v with
  | none=>exact q
  | int i=>exact q
  | _=>exact nomatch hc)
 | .ret none,fr,σ,p,Q,h,q=>by obtain rfl:=Option.some.inj h;exact q
 | .ret (some e),fr,σ,p,Q,h,q=>Z.o1_e (f:=fun (p:V×H)=>(Fl.ret p.1,fr.ρ,p.2)) (M:=fun p=>Q p.1 p.2.1 p.2.2→_) h (fun a e1 q=>Bp K fr e (Q:=fun v σ=>Q (.ret v) fr.ρ σ) e1 q) q
 | .ite t b o,fr,σ,p,Q,h,q=>b_e h fun a e1 h=>Pw K fr t e1 (by
  rcases a with ⟨c,σ'⟩
  induction c with
  | true=>exact Gm K b fr h q
  | false=>exact Gm K o fr h q)
 | .whl t b,fr,σ,p,Q,h,q=>K.wl h q
 | .for t it b,fr,σ,p,Q,h,q=>b_e h fun a e1 h=>Bp K fr it e1 (b_e h fun k e h=>Bg e (K.fo h q))
 | .asc ..,_,_,_,_,h,_=>Z.nn h
 | .aug ..,_,_,_,_,h,_=>Z.nn h
 | .fen ..,_,_,_,_,h,_=>Z.nn h
 | .brk,_,_,_,_,h,_=>Z.nn h
 | .bad,_,_,_,_,h,_=>Z.nn h
theorem Gm (K:XOk r):∀ (ss:List S) (fr:Fr) {σ:H} {p:P3} {Q:KS},xSs r ss fr σ=some p→Q p.1 p.2.1 p.2.2→wSs ss fr σ Q
 | [],fr,σ,p,Q,h,q=>by obtain rfl:=Option.some.inj h;exact q
 | s :: ss,fr,σ,p,Q,h,q=>b_e h fun a e1 h=>.mk (Ab8 K s fr e1 (by
  rcases a with ⟨f,ρ,σ'⟩
  induction f with
  | next=>exact Gm K ss ⟨fr.dp,ρ,fr.cl⟩ h q
  | brk=>obtain rfl:=Option.some.inj h;exact q
  | ret v=>obtain rfl:=Option.some.inj h;exact q))
end
theorem Xh {again:List (Option V)→H→Option P3} {go:List (Option V)→H→Prop} {Q:KS} {a p:P3} (h:xL again a=some p) (q:Q p.1 p.2.1 p.2.2) (k:∀ ρ σ,again ρ σ=some p→go ρ σ):lk Q go a.1 a.2.1 a.2.2:=by
 rcases a with ⟨f,ρ,σ⟩
 induction f with
 | next=>exact k ρ σ h
 | brk=>obtain rfl:=Option.some.inj h;exact q
 | ret v=>obtain rfl:=Option.some.inj h;exact q
theorem Ab9 (K:XOk r):XOk ⟨xCa r,xWl r,xFo r⟩ where
 ca {d f as σ p Q} h q:=by
  cases d with
  | zero=>exact Z.nn h
  | succ d=>cases f with
   | con c=>cases c with
    | ref a =>
     haveI h':(match tb.ini a with
      | some i=>(r.ca d (.con (.ref i)) (.ref (σ.length+1) :: as) (σ++[.ns [],.inst a σ.length])).bind fun p=>if isN p.1=true then some (.ref (σ.length+1),p.2) else none
      | none=>(tb.fn a).bind fun fi=>xF r d fi as σ)=some p:=h
     cases hi:tb.ini a with
     | some i =>
      rw [hi] at h'
      exact b_e h' fun a1 e h=>i_e h fun hc h=>cp hi (K.ca e (by
       obtain rfl:=Option.some.inj h
       rcases a1 with ⟨v,σ'⟩
       cases v with
       | none=>exact ⟨rfl,q⟩
       | _=>exact nomatch hc))
     | none =>
      rw [hi] at h'
      exact b_e h' fun fi hf h=>i_e h fun hl h=>b_e h fun b hb h=>b_e h fun x hx h=>Td b.1 b.2 hf hl hb (Gm K fi.body _ hx (by
       rcases x with ⟨f,ρ,σ'⟩
       cases f with
       | next=>obtain rfl:=Option.some.inj h;exact q
       | brk=>exact Z.nn h
       | ret v=>obtain rfl:=Option.some.inj h;exact q))
    | _=>exact Z.nn h
   | _=>exact Z.nn h
 wl {fr t b σ p Q} h q:=b_e h fun a e h=>S5 (Pw K fr t e (by
  rcases a with ⟨c,σ'⟩
  cases c with
  | true=>exact b_e h fun x hx h=>Gm K b fr hx (Xh h q fun ρ σ h=>K.wl h q)
  | false=>obtain rfl:=Option.some.inj h;exact q))
 fo {fr t it b σ p Q} h q:=b_e h fun o e h=>by
  cases o with
  | none=>obtain rfl:=Option.some.inj h;exact Eg e q
  | some a =>
   rcases a with ⟨v,it'⟩
   exact b_e h fun x hx h=>S6 e (Xg K hx (b_e h fun y hy h=>Gm K b ⟨fr.dp,x.1,fr.cl⟩ hy (Xh h q fun ρ σ h=>K.fo h q)))
end
theorem Xi:∀ n,XOk (XN n)
 | 0=>⟨fun h=>Z.nn h,fun h=>Z.nn h,fun h=>Z.nn h⟩
 | n+1=>Ab9 (Xi n)
theorem o6 {kk:Nat} (hk:kk < 6):∃ o:Int,([.int 0,.int 2,.int 0,.int 1,.int 3,.int 8]:List V)[kk]?=some (.int o):=by
 match kk,hk with
 | 0,_=>exact ⟨_,rfl⟩
 | 1,_=>exact ⟨_,rfl⟩
 | 2,_=>exact ⟨_,rfl⟩
 | 3,_=>exact ⟨_,rfl⟩
 | 4,_=>exact ⟨_,rfl⟩
 | 5,_=>exact ⟨_,rfl⟩
theorem Hg (x m:Int) (hm:0 < m):∃ j:Nat,(j:Int) < m∧∀ σ:H,Ce σ .Mod (.int x) (.int m)=some (.int (j:Int),σ):=by
 (refine Aa (W0 x hm) ?_;intro j h1 h2)
 exact ⟨j,h1,fun σ=>by rw [Tw,if_neg (fun e=>absurd (e▸hm) (by decide)),h2]⟩
theorem Xj {t:St} {n:Nat} {x:Nd} {ss:List Nat} (h:t.stack=ss++[n]):t.enter x={(t.under n x) with stack:=(t.under n x).stack++[t.nodes.length]}:=by
 haveI en:t.stack.getLast?.getD 0=n:=by rw [h];simp
 unfold St.enter
 rw [en]
 rfl
theorem Xk {fl:Int} {md:Str} {fr:Bool} {K:KS}:∀ (n kk:Nat) (t:St) (B:Bs) (D:Ds) (Δ:List VR) (x9 x10 x11 x12 x13:Option V),kk+n≤6→RelB t B Δ→RelD t D Δ→StOk (3*n+31) t→t.l.length≤63 →
  (∀ t' B' D' Δ' x9 x10 x11 x12 x13,RelB t' B' Δ'→RelD t' D' Δ'→StOk 31 t'→Kept n t t'→K .next [some (.ref 0),some (.int fl),some (.str md),some (.ref 8),some (.ref 22),some (.ref 34),some (.ref 37),some (.ref 113),some (.bool fr),x9,x10,x11,x12,x13,none,none,none,none,none] (hp B' D' Δ')) →
  Fo ⟨59,[some (.ref 0),some (.int fl),some (.str md),some (.ref 8),some (.ref 22),some (.ref 34),some (.ref 37),some (.ref 113),some (.bool fr),x9,x10,x11,x12,x13,none,none,none,none,none],[4]⟩ (.nm 9) (.rg (kk:Int) n)
   [(.asg (.tp [10,11,12]) (.idx (.loc 7) (.bin .Mod (.bin .Add (.call (.cst (.con (.ref 680))) [(.loc 0),(.bin .Add (.cst (.int 2)) (.loc 9))]) (.idx (.lst [(.cst (.int 0)),(.cst (.int 2)),(.cst (.int 0)),(.cst (.int 1)),(.cst (.int 3)),(.cst (.int 8))]) (.loc 9))) (.call (.cst (.con (.builtin "len"))) [(.loc 7)])))),(.asg (.nm 13) (.meth (.cel 0) 42 [(.loc 11),(.loc 10),(.loc 12)])),(.ex (.meth (.cel 0) 0 [(.meth (.loc 4) 39 []),(.loc 13)])),(.ex (.meth (.loc 4) 38 [(.loc 13)])),(.ex (.call (.cst (.con (.ref 739))) [(.loc 6),(.loc 10),(.loc 11),(.loc 12)]))] (hp B D Δ) K
 | 0,kk,t,B,D,Δ,x9,x10,x11,x12,x13,hk,R,RD,O,hl,k=>Eg N6 (k t B D Δ _ _ _ _ _ R RD O (Kept.of (by rfl) (by rfl) (by rfl) (by rfl)))
 | n+1,kk,t,B,D,Δ,x9,x10,x11,x12,x13,hk,R,RD,O,hl,k=>by
  refine Dx N5 ?_
  (refine Ad (o6 (kk:=kk) (Nat.lt_of_lt_of_le (Nat.lt_add_of_pos_right (Nat.succ_pos n)) hk)) ?_;intro o1 ho1)
  (refine Aa (Hg (dg B.l (2+kk)+o1) ((26:Nat):Int) (by decide)) ?_;intro j hj hm26)
  haveI hj':j < 26:=by exact o_9 ‹_›
  rcases Xe hj' Δ with ⟨r,aa,vs,sp,nm,as,hgr,a1,a2,a3,ok,hnt⟩
  rcases O.cur with ⟨ss,m,y,hs,hy,hky,h0,hml,_,_⟩
  haveI hbl:B.l.length≤63:=by rw [R.l];exact hl
  have hal:as.length≤1000:=by have:as.length≤10:=ok.attrs.2.1;exact o_0 ‹_› (by exact rfl)
  have hs0:(Al sp nm as).text.length+(3*n+33)≤1000:=by show (s "").length+_≤_;rw [L3,Nat.zero_add];exact Nat.le_trans (Nat.add_le_add_right (Nat.mul_le_mul_left 3 (Nat.le_trans (Nat.le_succ n) (Nat.le_trans (Nat.le_add_left _ _) hk):n≤6)) 33) (Nat.le_of_ble_eq_true rfl)
  haveI O1:StOk (3*n+33) (t.addNd (Al sp nm as)):=StOk.addNd (b:=3*n+33) O ok rfl hs0
  have O2:StOk (3*n+33) (t.under m (Al sp nm as)):=StOk.under (b:=3*n+33) O ok rfl hs0 hml
  simp! []
  dsimp! []
  refine Fh (p:=2+kk) (by exact rfl) hbl ?_
  simp! [ho1,hm26,hgr,ima a1]
  dsimp! []
  refine Ov (R.xd (Ag.ad _)) O (a2.ad _) (a3.ad _) hal ok.space.1 ok.name.1 hnt fun B1 Δ1 e1 R1=>?_
  simp! []
  dsimp! []
  refine Ff R1 O1 hs ?_
  simp! []
  refine y6 R1 O1 (Ge hy) h0 G9 rfl hml fun B2 J2 R2=>?_
  simp! []
  dsimp! []
  refine Vd R2 O2 (n:=t.nodes.length) fun B3 R3=>?_
  simp! []
  haveI e13:Af Δ (ad Δ1 J2):=e1.ad_trans.trans (Af.ad J2)
  dsimp! []
  refine Pc (RD.xb e13) O (a2.xb e13) (.inr rfl) (a3.xb e13) hal fun D' Δ' e4 RD'=>?_
  simp! []
  haveI O3:StOk (3*n+31) (t.enter (Al sp nm as)):=by
   rw [Xj hs]
   exact (O2.push (by have:=O.two;exact Eu ‹_› (by exact rfl)) (x:={Al sp nm as with par:=(m:Int)}) (by rw [Bn];simp) rfl).less
  haveI R4:RelB (t.enter (Al sp nm as)) B3 Δ':=by
   rw [Xj hs]
   exact RelB.xd R3 e4
  haveI ec:((kk:Int)+1)=((kk+1:Nat):Int):=by exact rfl
  rw [ec]
  refine Xk n (kk+1) _ B3 D' Δ' _ _ _ _ _ (by exact o_7 ‹_› (by exact rfl)) R4 RD' O3 hl fun t' B' D2 Δ2 y9 y10 y11 y12 y13 r1 r2 r3 r4=>?_
  exact k t' B' D2 Δ2 y9 y10 y11 y12 y13 r1 r2 r3 (((Kept.enter t _).trans r4).le (Nat.le_of_eq (Nat.add_comm 1 n)))
section
variable {b:Nat} {t:St} {B:Bs} {D:Ds} {Δ:List VR}
noncomputable def St.around (t:St) (x:Nd):St:={t.addNd x with ctx:=(t.nodes.length:Int)}
theorem Aca (R:RelT t D Δ) {x:Nd} (hx:x.par=-1):RelT (t.around x) D Δ:=by
 have cas:∀ {m:Nat} {z:Nd},(t.around x).nodes[m]?=some z→t.nodes[m]?=some z∨(m=t.nodes.length∧z=x):=fun h=>D4 h
 have old:∀ {m:Nat} {z:Nd},t.nodes[m]?=some z→(t.around x).nodes[m]?=some z:=fun h=>Ge (x:=x) h
 refine {el:=?_,kids:=?_,uniq:=R.uniq,fresh:=?_,path1:=R.path1,plen:=?_,up:=?_,pathS:=?_}
 ·intro n z h1 h2 h3
  focus (refine oe (cas h1) ?_ ?_;rotate_left;(intro z_o;refine Ac z_o ?_;intro _ z_1;obtain rfl:=z_1);rotate_right;(intro q))
  ·exact R.el n z q h2 h3
  ·exact absurd hx h3
 ·intro n z h1 h2 h3
  focus (refine oe (cas h1) ?_ ?_;rotate_left;(intro z_o;refine Ac z_o ?_;intro _ z_1;obtain rfl:=z_1);rotate_right;(intro q))
  ·refine A1.imp (t:=t) (D:=D) (Δ:=Δ) (fun m _ v hv=>?_) (R.kids n z q h2 h3)
   (refine Aa hv ?_;try clear hv;intro y k1 k2)
   exact ⟨y,old k1,k2⟩
  ·exact absurd hx h3
 ·intro a n h
  haveI:=R.fresh a n h
  show n < (t.nodes++[x]).length
  simp;exact Do ‹_›
 ·intro n z h1 h2 h3
  focus (refine oe (cas h1) ?_ ?_;rotate_left;(intro z_o;refine Ac z_o ?_;intro _ z_1;obtain rfl:=z_1);rotate_right;(intro q))
  ·haveI e:Bo (t.around x) n=Bo t n:=by
    unfold Bo
    show (((t.nodes++[x]).take (n+1)).filter _).length=_
    rw [List.take_append_of_le_length (by have:=(List.getElem?_eq_some_iff.mp q).1;assumption)]
   rw [e];exact R.plen n z q h2 h3
  ·exact absurd hx h3
 ·intro n z p h1 h2 h3
  focus (refine oe (cas h1) ?_ ?_;rotate_left;(intro z_o;refine Ac z_o ?_;intro _ z_1;obtain rfl:=z_1);rotate_right;(intro q))
  ·focus (refine oe (R.up n z p q h2 h3) ?_ ?_;rotate_left;(intro z_o;refine Aa z_o ?_;intro y k1 k2);rotate_right;(intro w))
   ·exact .inl w
   ·exact .inr ⟨y,old k1,k2⟩
  ·rw [hx] at h3;exact nomatch h3
 ·intro n z p h0 h1 h2 h3
  focus (refine oe (cas h1) ?_ ?_;rotate_left;(intro z_o;refine Ac z_o ?_;intro _ z_1;obtain rfl:=z_1);rotate_right;(intro q))
  ·exact R.pathS n z p h0 q h2 h3
  ·rw [hx] at h3;exact nomatch h3
theorem Acb (R:RelD t D Δ) {x:Nd} (hx:x.par=-1):RelD (t.around x) D Δ:=by
 refine {tr:=Aca R.tr hx,stack:=R.stack,notes:=R.notes,fok:=R.fok,ack:=R.ack,att:=?_}
 intro n hn
 (refine Aa (R.att n hn) ?_;intro y k1 k2)
 exact ⟨y,Ge k1,k2⟩
theorem Acc (O:StOk (b+1) t) {x:Nd} (hx:NdOk x) (hk:x.kind=s "element") (hp:x.par=-1) (ht:x.text.length+b≤1000):StOk b (t.around x):=by
 haveI O1:=O.addNd hx hp ht
 haveI:=O.two
 exact {O1 with ctx:=.inr ⟨t.nodes.length,x,rfl,by exact Eu ‹_› (by exact rfl),G9,hk⟩}
theorem Acd {x:Nd} (R:RelB (t.addNd x) B Δ):RelB (t.around x) {B with ctx:=(t.nodes.length:Int)} Δ:={R with ctx:=rfl}
theorem Ace {x:Nd}:(t.around x).nd (t.around x).base=x:=by
 haveI:(t.around x).base=t.nodes.length:=by
  unfold St.base
  rw [if_neg (show ¬ (t.around x).ctx=-1 from fun e:((t.nodes.length:Nat):Int)=-1=>nomatch e)]
  rfl
 rw [this]
 exact Bi G9
theorem Acf (R:RelD t D Δ) (O:StOk b t) (hc:t.ctx=-1):EV Δ 34 (t.nd t.base).space (t.nd t.base).name (t.nd t.base).attrs:=by
 (refine Jb (Ir O) ?_;intro x h1 h2 h3 h4 m)
 have e:t.base=1:=by unfold St.base;rw [if_pos hc]
 rw [e,Bi h1,← R.tr.path1.2]
 exact R.ev O h1 h2 (by rw [h4];exact fun e=>nomatch e)
theorem Acg {fl:Int} {md:Str} {fr:Bool} {x9 x10 x11 x12 x13:Option V} {K:KS} (R:RelB t B Δ) (RD:RelD t D Δ) (O:StOk (b+1) t) (hl:t.l.length≤63) (hE:fr=false→elE t≤7) (hE2:fr=true→elE t≤6) (hc:t.ctx=-1)
  (k:∀ t' B' Δ' x10 x11 x12 ar,RelB t' B' Δ'→RelD t' D Δ'→StOk b t'→elE t'≤7→t'.mode=t.mode→t'.l=t.l→EV Δ' ar (t'.nd t'.base).space (t'.nd t'.base).name (t'.nd t'.base).attrs →
   K .next [some (.ref 0),some (.int fl),some (.str md),some (.ref 8),some (.ref 22),some (.ref 34),some (.ref 37),some (.ref 113),some (.bool fr),x9,x10,x11,x12,x13,some (.ref ar),none,none,none,none] (hp B' D Δ')) :
  ws [(.ite (.loc 8) [(.asg (.tp [10,11,12]) (.idx (.loc 7) (.bin .Mod (.call (.cst (.con (.ref 680))) [(.loc 0),(.cst (.int 8))]) (.call (.cst (.con (.builtin "len"))) [(.loc 7)])))),(.asg (.at (.loc 3) 30) (.meth (.cel 0) 42 [(.loc 11),(.loc 10),(.loc 12)])),(.asg (.nm 14) (.lst [(.loc 10),(.loc 11),(.call (.cst (.con (.type "list"))) [(.loc 12)])]))] [])]
   ⟨59,[some (.ref 0),some (.int fl),some (.str md),some (.ref 8),some (.ref 22),some (.ref 34),some (.ref 37),some (.ref 113),some (.bool fr),x9,x10,x11,x12,x13,some (.ref 34),none,none,none,none],[4]⟩ (hp B D Δ) K:=by
 induction fr with
 | false =>
  dsimp! []
  exact k t B Δ _ _ _ 34 R RD O.less (hE rfl) rfl rfl (Acf RD O hc)
 | true =>
  dsimp! []
  haveI hbl:B.l.length≤63:=by rw [R.l];exact hl
  (refine Aa (Hg (dg B.l 8) ((26:Nat):Int) (by decide)) ?_;intro j hj hm26)
  haveI hj':j < 26:=by exact o_9 ‹_›
  rcases Xe hj' Δ with ⟨r,aa,vs,sp,nm,as,hgr,a1,a2,a3,ok,hnt⟩
  haveI hal:as.length≤1000:=by have:as.length≤10:=ok.attrs.2.1;exact o_0 ‹_› (by exact rfl)
  haveI hvl:vs.length≤100000:=by have:=a3.len;simp [Ak] at this;exact o_4 ‹_› ‹_› (by exact rfl)
  haveI hs0:(Al sp nm as).text.length+b≤1000:=by show (s "").length+_≤_;rw [L3];have:=O.len;exact Xw ‹_› (by exact rfl)
  dsimp! []
  refine Fh (p:=8) (by exact rfl) hbl ?_
  simp! [hm26,hgr,im a1]
  dsimp! []
  refine Ov R O a2 a3 hal ok.space.1 ok.name.1 hnt fun B1 Δ1 e1 R1=>?_
  simp! []
  dsimp! [im (a2.xb e1),hvl]
  refine k (t.around (Al sp nm as)) _ _ _ _ _ (sz Δ1+1) (RelB.xd (Acd R1) (Ag.ad _)) ((Acb RD rfl).xb (e1.trans (Af.ad _))) (Acc O ok rfl rfl hs0) ?_ rfl rfl ?_
  ·haveI h1:=(Kept.addNd t (Al sp nm as)).els
   haveI h2:=hE2 rfl
   exact Nat.le_trans (show elE (t.around (Al sp nm as))≤elE t+1 from h1) (Nat.succ_le_succ h2)
  ·rw [Ace]
   exact {el:=⟨sz Δ1,vs,[],At.new_ad (k:=1) rfl,by simp,At.new_ad (k:=0) rfl,(a3.xb e1).ad _⟩,osp:=ok.space,onm:=ok.name,asc:=ok.asc,oas:=ok.attrs}
end
noncomputable def Iw:List S:=[(.asg (.nm 15) (.call (.cst (.con (.ref 701))) [(.loc 0),(.loc 9)])),(.asg (.nm 16) (.ite (.cmp (.call (.cst (.con (.builtin "len"))) [(.idx (.loc 6) (.cst (.str (s "stack"))))]) [.Eq] [(.cst (.int 1))]) (.loc 14) (.idx (.idx (.loc 6) (.cst (.str (s "stack")))) (.neg (.cst (.int 1)))))),(.asg (.nm 17) (.call (.cst (.con (.ref 727))) [(.loc 16),(.loc 15)])),(.asg (.nm 18) (.call (.cst (.con (.ref 673))) [(.loc 3),(.loc 15)])),(.ite (.boo .Or [(.cmp (.loc 18) [.NotEq] [(.loc 17)]),(.not (.call (.cst (.con (.builtin "isinstance"))) [(.loc 18),(.cst (.con (.type "bool")))]))]) [(.ret (some (.cst (.bool false))))] []),(.asg (.at (.loc 3) 36) (.cst (.bool false))),(.asg (.ix (.loc 6) (.cst (.str (s "is_acknowledged")))) (.cst (.bool false))),(.ite (.loc 17) [(.ex (.call (.cst (.con (.ref 753))) [(.loc 3),(.loc 15)])),(.ex (.call (.cst (.con (.ref 760))) [(.loc 6),(.loc 15)]))] [(.ex (.call (.cst (.con (.ref 243))) [(.loc 3),(.loc 15)])),(.ex (.call (.cst (.con (.ref 775))) [(.loc 6),(.idx (.loc 16) (.cst (.int 0))),(.loc 15)]))]),(.ite (.cmp (.attr (.loc 3) 36) [.NotEq] [(.idx (.loc 6) (.cst (.str (s "is_acknowledged"))))]) [(.ret (some (.cst (.bool false))))] []),(.ite (.cmp (.comp 1 [0] [0] true (.attr (.loc 4) 17) none (.call (.cst (.con (.ref 782))) [(.cel 0),(.loc 0)])) [.NotEq] [(.comp 1 [] [0] true (.idx (.loc 6) (.cst (.str (s "stack")))) none (.idx (.loc 0) (.cst (.int 4))))]) [(.ret (some (.cst (.bool false))))] [])]
section
variable {b:Nat} {t:St} {B:Bs} {D:Ds} {Δ:List VR}
theorem Ach (R:RelB t B Δ) (O:StOk b t) (RD:RelD t D Δ) {ρ:List (Option V)} (r3:ρ[3]?=some (some (.ref 8))) (r4:ρ[4]?=some (some (.ref 22))) (r6:ρ[6]?=some (some (.ref 37))) {K:KS} (k:∀ J,K .next ρ (hp B D (ad Δ J))) :
  ws (Iw.drop 8) ⟨59,ρ,[4]⟩ (hp B D Δ) K:=by
 haveI e:B.ack=D.ack:=R.ack.trans RD.ack.symm
 dsimp! [r3,r6,e]
 exact Abl (d:=58) R O RD r4 r6 k
theorem Aci (O:StOk b t):StOk b {t with ack:=false}:={O with}
theorem Acj (R:RelB t B Δ):RelB {t with ack:=false} {B with ack:=false} Δ:={R with ack:=rfl}
theorem Ack (R:RelD t D Δ):RelD {t with ack:=false} {D with ack:=false} Δ :=
 {tr:=R.tr.cg rfl rfl rfl rfl rfl,stack:=R.stack,notes:=R.notes,fok:=R.fok,ack:=rfl,att:=R.att}
theorem StOk.lesser (O:StOk (b+c) t):StOk b t:=by
 induction c with
 | zero=>exact O
 | succ c ih=>exact ih O.less
theorem Acl {fl:Int} {md:Str} {fr:Bool} {kk ar:Nat} {x10 x11 x12 x13 x15 x16 x17 x18:Option V} {K:KS} (hk:kk < 6) (R:RelB t B Δ) (RD:RelD t D Δ) (O:StOk (b+5) t) (hb:b≤500) (hl:t.l.length≤63) (hE:elE t≤12)
  (E:EV Δ ar (t.nd t.base).space (t.nd t.base).name (t.nd t.base).attrs)
  (k:∀ t' B' D' Δ' x15 x16 x17 x18,RelB t' B' Δ'→RelD t' D' Δ'→StOk b t'→Kept 1 t t'→EV Δ' ar (t'.nd t'.base).space (t'.nd t'.base).name (t'.nd t'.base).attrs →
   K .next [some (.ref 0),some (.int fl),some (.str md),some (.ref 8),some (.ref 22),some (.ref 34),some (.ref 37),some (.ref 113),some (.bool fr),some (.int (kk:Int)),x10,x11,x12,x13,some (.ref ar),x15,x16,x17,x18] (hp B' D' Δ')) :
  ws Iw ⟨59,[some (.ref 0),some (.int fl),some (.str md),some (.ref 8),some (.ref 22),some (.ref 34),some (.ref 37),some (.ref 113),some (.bool fr),some (.int (kk:Int)),x10,x11,x12,x13,some (.ref ar),x15,x16,x17,x18],[4]⟩ (hp B D Δ) K:=by
 haveI hbl:B.l.length≤63:=by rw [R.l];exact hl
 dsimp! []
 refine Aba hk hbl fun J a tk G T=>?_
 simp! []
 haveI main:∀ ea,EV (ad Δ J) ea (t.nd t.adj).space (t.nd t.adj).name (t.nd t.adj).attrs →
   ws (Iw.drop 2) ⟨59,[some (.ref 0),some (.int fl),some (.str md),some (.ref 8),some (.ref 22),some (.ref 34),some (.ref 37),some (.ref 113),some (.bool fr),some (.int (kk:Int)),x10,x11,x12,x13,some (.ref ar),some (.ref a),some (.ref ea),x17,x18],[4]⟩ (hp B D (ad Δ J)) K:=by
  intro ea Ea
  haveI E1:=E.ad J
  haveI R1:=R.xd (Ag.ad J)
  haveI RD1:=RD.xb (Af.ad J)
  clear E R RD
  generalize ad Δ J=Δ1 at T Ea E1 R1 RD1 ⊢
  dsimp! []
  refine Aad Ea (W7 O) T fun J1=>?_
  simp! []
  haveI T:=T.ad J1
  haveI Ea:=Ea.ad J1
  haveI E1:=E1.ad J1
  haveI R1:=R1.xd (Ag.ad J1)
  haveI RD1:=RD1.xb (Af.ad J1)
  generalize ad Δ1 J1=Δ2 at T Ea E1 R1 RD1 ⊢
  dsimp! []
  refine zz R1 O T fun J2=>?_
  simp! []
  haveI T:=T.ad J2
  haveI Ea:=Ea.ad J2
  haveI E1:=E1.ad J2
  haveI R1:=R1.xd (Ag.ad J2)
  haveI RD1:=RD1.xb (Af.ad J2)
  generalize ad Δ2 J2=Δ3 at T Ea E1 R1 RD1 ⊢
  haveI et:turnP (t.nd t.adj).space (t.nd t.adj).name (t.nd t.adj).attrs tk=He t tk:=rfl
  rw [et]
  dsimp! []
  dsimp! []
  dsimp! []
  haveI R2:=Acj R1
  haveI RD2:=Ack RD1
  haveI O2:=Aci O
  haveI K2:Kept 0 t {t with ack:=false}:=Kept.of (by rfl) (by rfl) (by rfl) (by rfl)
  haveI done:∀ t' B' D' Δ' x17 x18,RelB t' B' Δ'→RelD t' D' Δ'→StOk b t'→Kept 1 {t with ack:=false} t'→(∃ J,Δ'=Δ3++J) →
    ws (Iw.drop 8) ⟨59,[some (.ref 0),some (.int fl),some (.str md),some (.ref 8),some (.ref 22),some (.ref 34),some (.ref 37),some (.ref 113),some (.bool fr),some (.int (kk:Int)),x10,x11,x12,x13,some (.ref ar),some (.ref a),some (.ref ea),x17,x18],[4]⟩ (hp B' D' Δ') K:=by
   intro t' B' D' Δ' x17 x18 R' RD' O' K' hJ
   refine Ach R' O' RD' rfl rfl rfl fun J4=>?_
   haveI KK:=K2.trans1 K'
   refine k t' B' D' _ _ _ _ _ (R'.xd (Ag.ad _)) (RD'.xb (Af.ad _)) O' KK ?_
   (refine Ad hJ ?_;try clear hJ;intro J' z_1;obtain rfl:=z_1)
   rw [Abt O KK]
   exact (E1.app J').ad J4
  cases due:He t tk with
  | true =>
   dsimp! []
   dsimp! []
   refine Vz (d:=54) (b:=b) (t:={t with ack:=false}) R2 O2.less T G fun B' Δ' e1 R3 O3=>?_
   simp! []
   dsimp! []
   refine Pg (d:=57) (b:=b) (t:={t with ack:=false}) (RD2.xb e1) O2.less (T.xb e1) G fun D' Δ'' e2 RD3=>?_
   simp! []
   (refine Aa e1 ?_;try clear e1;intro J1 z_1 _;obtain rfl:=z_1)
   haveI e2':=e2
   (refine Aa e2' ?_;try clear e2';intro J2 z_1 _;obtain rfl:=z_1)
   exact done _ _ _ _ _ _ (R3.xd e2) RD3 O3 (Kept.body _ _) ⟨J1++J2,by rw [List.append_assoc]⟩
  | false =>
   dsimp! []
   dsimp! []
   haveI hroot:∀ n,tk=.fin n→C5 {t with ack:=false} n=true→1 < ({t with ack:=false}:St).stack.length:=fun n _ h=>Abr O2 h
   refine zy (d:=51) (b:=b) (t:={t with ack:=false}) R2 O2 hb T G hroot fun B' Δ' e1 R3 O3=>?_
   simp! []
   dsimp! [(Ea.xb e1).i0]
   haveI hm:B'.mode=({t with ack:=false}:St).mode:=R3.mode.trans (Kept.content _ _).mode
   refine Aa4 (d:=55) (b:=b) (t:={t with ack:=false}) (RD2.xb e1) O2 hb (T.xb e1) G (by have:elE {t with ack:=false}=elE t:=rfl;exact o_0 ‹_› (by exact rfl)) hm (Abp O due) rfl hroot (Abq O2) fun D' Δ'' e2 RD3=>?_
   simp! []
   (refine Aa e1 ?_;try clear e1;intro J1 z_1 _;obtain rfl:=z_1)
   haveI e2':=e2
   (refine Aa e2' ?_;try clear e2';intro J2 z_1 _;obtain rfl:=z_1)
   exact done _ _ _ _ _ _ (R3.xd e2) RD3 O3 (Kept.content _ _) ⟨J1++J2,by rw [List.append_assoc]⟩
 (refine A3 (C4 O) ?_;intro ss n hs)
 (refine Aa RD.stack ?_;intro sa hsa hA)
 haveI hA0:At Δ sa (.imm (.list ((ss.map fun n=>V.ref (D.er n))++[V.ref (D.er n)]))):=by rw [hs] at hA;simpa using hA
 haveI htop:=fun (B:Bs) (D':Ds)=>Hf (ima (B:=B) (D:=D') (J:=J) hA0)
 haveI e1:((t.stack.length:Int)==1)=decide (t.stack.length=1):=by rw [Bool.eq_iff_iff,beq_iff_eq,decide_eq_true_eq];exact Int.ofNat_inj
 by_cases h1:t.stack.length=1
 ·dsimp! [hsa,ima hA,List.length_map,e1,h1,decide_true]
  refine main ar ?_
  rw [Abu O h1]
  exact E.ad J
 ·dsimp! [hsa,ima hA,List.length_map,e1,h1,decide_false,htop]
  refine main (D.er n) ?_
  rw [Abv h1,Gf hs]
  (refine Au (RD.att n (by rw [hs];simp)) ?_;intro y hy hky hp')
  rw [Bi hy]
  exact (RD.ev O hy hky hp').ad J
theorem Xl {fl:Int} {md:Str} {fr:Bool} {ar:Nat} {x10 x11 x12 x13:Option V} {K:KS}:∀ (n kk:Nat) (t:St) (B:Bs) (D:Ds) (Δ:List VR) (x9 x15 x16 x17 x18:Option V),kk+n≤6→RelB t B Δ→RelD t D Δ→StOk (5*n) t→t.l.length≤63→elE t+n≤13 →
  EV Δ ar (t.nd t.base).space (t.nd t.base).name (t.nd t.base).attrs →
  (∀ t' B' D' Δ' x9 x15 x16 x17 x18,RelB t' B' Δ'→RelD t' D' Δ'→StOk 0 t'→elE t'≤13→t'.mode=t.mode →
   K .next [some (.ref 0),some (.int fl),some (.str md),some (.ref 8),some (.ref 22),some (.ref 34),some (.ref 37),some (.ref 113),some (.bool fr),x9,x10,x11,x12,x13,some (.ref ar),x15,x16,x17,x18] (hp B' D' Δ')) →
  Fo ⟨59,[some (.ref 0),some (.int fl),some (.str md),some (.ref 8),some (.ref 22),some (.ref 34),some (.ref 37),some (.ref 113),some (.bool fr),x9,x10,x11,x12,x13,some (.ref ar),x15,x16,x17,x18],[4]⟩ (.nm 9) (.rg (kk:Int) n) Iw (hp B D Δ) K
 | 0,kk,t,B,D,Δ,x9,x15,x16,x17,x18,hk,R,RD,O,hl,hE,E,k=>Eg N6 (k t B D Δ _ _ _ _ _ R RD O ‹_› rfl)
 | n+1,kk,t,B,D,Δ,x9,x15,x16,x17,x18,hk,R,RD,O,hl,hE,E,k=>by
  refine Dx N5 ?_
  haveI hb:5*n≤500:=Nat.le_trans (Nat.mul_le_mul_left 5 (Nat.le_of_succ_le (Nat.le_trans (Nat.le_add_left (n+1) kk) hk))) (by decide)
  simp! []
  refine Acl (b:=5*n) (by exact I9 ‹_›) R RD O hb hl (Nat.le_of_succ_le_succ (Nat.le_trans (Nat.add_le_add_left (Nat.succ_le_succ (Nat.zero_le n)) _) hE)) E fun t' B' D' Δ' y15 y16 y17 y18 r1 r2 r3 r4 r5=>?_
  simp! []
  haveI ec:((kk:Int)+1)=((kk+1:Nat):Int):=by exact rfl
  rw [ec]
  haveI h4:=r4.els
  refine Xl n (kk+1) t' B' D' Δ' _ _ _ _ _ (by exact o_7 ‹_› (by exact rfl)) r1 r2 r3 (by rw [r4.l];exact hl) (Nat.le_trans (Nat.add_le_add_right r4.els n) (Nat.le_trans (Nat.le_of_eq (by rw [Nat.add_assoc,Nat.add_comm 1 n])) hE)) r5 fun t2 B2 D2 Δ2 z9 z15 z16 z17 z18 q1 q2 q3 q4 q5=>?_
  exact k t2 B2 D2 Δ2 z9 z15 z16 z17 z18 q1 q2 q3 q4 (q5.trans r4.mode)
end
noncomputable def Acm:List S:=[(.ite (.boo .Or [(.cmp (.attr (.loc 3) 32) [.NotEq] [(.idx (.loc 6) (.cst (.str (s "notes"))))]),(.cmp (.attr (.loc 3) 27) [.NotEq] [(.idx (.loc 6) (.cst (.str (s "is_frameset_ok"))))]),(.cmp (.attr (.loc 3) 21) [.NotEq] [(.loc 2)])]) [(.ret (some (.cst (.bool false))))] []),(.ite (.boo .Or [(.not (.call (.cst (.con (.ref 673))) [(.loc 3),(.tup [(.cst (.str (s "eof")))])])),(.cmp (.attr (.attr (.loc 3) 20) 17) [.NotEq] [(.lst [])])]) [(.ret (some (.cst (.bool false))))] []),(.ret (some (.cmp (.comp 1 [0] [0] true (.idx (.attr (.cel 0) 14) (.cst (.int 0))) none (.call (.cst (.con (.ref 787))) [(.cel 0),(.loc 0),(.tup [(.cst (.int 0))])])) [.Eq] [(.lst [(.loc 5)])])))]
theorem By.ad {Δ:List VR} {us:List V} {xs:List V} {J:List O}:By (ad Δ (.list us :: J)) (ad Δ (.list xs :: J)):=By.cons By.refl us (.list xs) J
section
variable {b:Nat} {t:St} {B:Bs} {D:Ds} {Δ:List VR}
set_option maxHeartbeats 4000000 in
theorem Acn {fl:Int} {md:Str} {fr:Bool} {ar:Nat} {x9 x10 x11 x12 x13 x15 x16 x17 x18:Option V} {Q:V→H→Prop} (R:RelB t B Δ) (RD:RelD t D Δ) (O:StOk b t) (hE:elE t≤13) (hm:t.mode=md) (k:∀ σ,Q (.bool true) σ) :
  ws Acm ⟨59,[some (.ref 0),some (.int fl),some (.str md),some (.ref 8),some (.ref 22),some (.ref 34),some (.ref 37),some (.ref 113),some (.bool fr),x9,x10,x11,x12,x13,some (.ref ar),x15,x16,x17,x18],[4]⟩ (hp B D Δ) (rk Q):=by
 have emode:B.mode=md:=R.mode.trans hm
 have ef:B.fok=D.fok:=R.fok.trans RD.fok.symm
 have p1:∀ Δ',Ae Δ' t.notes B.errors→pd (hp B D Δ') Ax (.ref 29)=some (.list t.notes):=fun Δ' h=>Fi Tm (Ae.pd h (by have:=O.ndep;exact o_0 ‹_› (by exact rfl)))
 have p2:∀ Δ',Ae Δ' t.notes D.notes→pd (hp B D Δ') Ax (.ref 36)=some (.list t.notes):=fun Δ' h=>Fi Tn (Ae.pd h (by have:=O.ndep;exact o_0 ‹_› (by exact rfl)))
 have pe:=Ae.refl R.errors
 have pe':PyData.eqv (.list t.notes) (.list t.notes)=true:=pe
 dsimp! [D6,p1 Δ R.errors,p2 Δ RD.notes,pe',ef,emode]
 dsimp! []
 refine z0 (R.xd (Ag.ad _)) O (At.new_ad (k:=0) rfl) ?_
 have q1:∀ J:List Mine.O,pd (hp B D (ad Δ J)) Ax (.ref 26)=some (.list []):=fun J=>Fi Tl Df
 have q2:∀ J:List Mine.O,J[1]?=some (.list [])→pd (hp B D (ad Δ J)) Ax (.ref (sz Δ+1))=some (.list []):=fun J h=>Fi (by rw [De];exact h) Df
 have q3:PyData.eqv (.list []) (.list [])=true:=rfl
 simp! [D6,q1,q2,q3]
 have R1:=R.xd (Ag.ad [.tuple [.str (s "eof")],.list []])
 have RD1:=RD.xb (Af.ad [.tuple [.str (s "eof")],.list []])
 clear R RD p1 p2 pe
 generalize ad Δ [.tuple [.str (s "eof")],.list []]=Δ1 at R1 RD1 ⊢
 (refine Gp (R1.lens O) ?_;intro l1 l2 l3 l4 l5 l6 l7)
 have hc0:Ao (hp B D Δ1) (.ref 17) (.int 0)=some (.ref 20):=B8 (n:=0) F5 R1.child0
 (refine Jb (Ir O) ?_;intro x h1 h2 h3 h4 m)
 have hpar:x.par≠-1:=by rw [h4];exact fun e=>nomatch e
 dsimp! [hc0,Du,Dv,List.replicate]
 have hn:Bz (hp B D (ad Δ1 [.list []])) (.li 20 0)=some (some (.int 1,.li 20 1)):=F6 Lm rfl
 refine E6 hn Io ?_
 simp! [Dc]
 have R2:=R1.xd (Ag.ad [.list [],.tuple [.int 0]])
 have RD2:=RD1.xb (Af.ad [.list [],.tuple [.int 0]])
 have hp1:=RD1.tr.path1
 have hpa:At (ad Δ1 [.list [],.tuple [.int 0]]) (sz Δ1+1) (.imm (.tuple (itv (D.path 1)))):=by
  rw [hp1.1];exact At.new_ad (k:=1) rfl
 refine W5 O hE 13 1 x (sz Δ1+1) 46 _ _ R2 RD2.tr (by exact Nat.le_of_ble_eq_true (by exact rfl)) h1 h2 hpar (by rw [hp1.1];simp) hpa fun J v hv=>?_
 simp! []
 have hn2:∀ L:List Mine.O,Bz (hp B D (ad Δ1 L)) (.li 20 1)=some none:=fun L=>F7 Lm rfl
 refine E5 (hn2 _) ?_
 simp! []
 have hrep:Rep (ad Δ1 (.list [v] :: .tuple [.int 0] :: (J++[.list [.ref 34]]))) (elP t D.path 13 1) v:=by
  have h:=hv (ad Δ1 [.list [v],.tuple [.int 0]]) By.ad
  rw [Bc] at h
  have h':=h.ad [.list [.ref 34]]
  rw [Bc] at h'
  exact h'
 have hd:=W9 (t:=t) (path:=D.path) 13 1
 have w1:pd (hp B D (ad Δ1 (.list [v] :: .tuple [.int 0] :: (J++[.list [.ref 34]])))) Ax (.ref (sz Δ1))=some (.list [elP t D.path 13 1]):=by
  refine Fi (by rw [Ia];rfl) ?_
  rw [Ei,Rep.pd hrep (by exact o_0 ‹_› (by exact rfl)),Df]
 have RD3:=RD1.xb (Af.ad (.list [v] :: .tuple [.int 0] :: (J++[.list [.ref 34]])))
 have w2:pd (hp B D (ad Δ1 (.list [v] :: .tuple [.int 0] :: (J++[.list [.ref 34]])))) Ax (.ref (sz Δ1+(J.length+1+1)))=some (.list [elP t D.path 13 1]):=by
  refine Fi (us:=[.ref 34]) (by rw [De];simp) ?_
  have:=(Po (B:=B) RD3.tr O hE 13 1 x (by exact Nat.le_of_ble_eq_true (by exact rfl)) h1 h2 hpar (by rw [hp1.1];simp) 29 (by exact Nat.le_of_ble_eq_true (by exact rfl))).1
  rw [hp1.2] at this
  rw [Ei,this,Df]
 have w3:PyData.eqv (.list [elP t D.path 13 1]) (.list [elP t D.path 13 1])=true:=Ae.refl (Δ:=ad Δ1 (.list [v] :: .tuple [.int 0] :: (J++[.list [.ref 34]]))) (vs:=[v]) ⟨v,[],rfl,hrep,rfl⟩
 simp! [Aae,w1,w2,w3,List.length_append]
 exact k _
end
theorem Mf {B:List S} {K:KS}:∀ (A:List S) (fr:Fr) (σ:H),ws (A++B) fr σ K=ws A fr σ (sk B fr K)
 | [],fr,σ=>rfl
 | s :: A,fr,σ=>by
  refine congrArg (fun k=>Bx (wS s fr σ k)) (funext fun f=>funext fun ρ=>funext fun τ=>?_)
  induction f with
  | next=>exact Mf A _ _
  | _=>rfl
theorem Aco {s:S} {ss:List S} {fr:Fr} {σ:H} {Q:KS} (h:ws [s] fr σ (sk ss fr Q)):ws (s :: ss) fr σ Q:=Mf (B:=ss) [s] fr σ▸h
theorem Acp {d p:Nat} {σ:H} {l:List Int} {q:Int} {Q:V→H→Prop} (h0:σ[0]?=some (.list (l.map .int))) (hq:q=(p:Int)) (hl:l.length≤63) (k:Q (.int (dg l p)) σ):Ca (d+1) (.con (.ref 680)) [.ref 0,.int q] σ Q:=by
 subst hq
 refine T6 ?_
 haveI hlt:decide ((p:Int) < ((l.map V.int).length:Int))=decide (p < l.length):=by
  apply decide_eq_decide.mpr;simp
 by_cases h:p < l.length
 ·haveI hi:Ao σ (.ref 0) (.int (p:Int))=some (.int l[p]):=B8 h0 (by simp [h])
  haveI e:dg l p=l[p]:=by simp [dg,h]
  rw [e] at k
  dsimp! [T0,h0,hlt,h,decide_true,hi]
  exact k
 ·haveI e:dg l p=0:=by
   unfold dg
   rw [List.getElem?_eq_none (by exact Qf ‹_›)];rfl
  rw [e] at k
  dsimp! [T0,h0,hlt,h,decide_false]
  exact k
section
variable {B:Bs} {D:Ds} {Δ:List VR}
theorem Acq {σ:H} {x:Int}:Ce σ .FloorDiv (.int x) (.int 2)=some (.int (x.fdiv 2),σ):=(rfl)
theorem Acr {J:List O} {k n:Nat} (h:J[k]?=some (.range 0 (n:Int))) (hn:n≤100000):Ci (hp B D (ad Δ J)) (.ref (sz Δ+k))=some (.rg 0 n):=by
 rw [Tz,De,h]
 dsimp only
 rw [if_pos ⟨by decide,by decide,Int.le_trans (by decide) (Int.natCast_nonneg n),Int.ofNat_le.mpr hn⟩]
 congr 1
theorem Py {J:List O} {n:Nat} (h:J[0]?=some (.range 0 (n:Int))) (hn:n≤100000):Ci (hp B D (ad Δ J)) (.ref (sz Δ))=some (.rg 0 n):=Acr (k:=0) h hn
theorem Pz {n:Nat} (hn:n≤100000) (σ:H):Aw σ (.type "range") [.int (n:Int)]=some (.ref σ.length,σ++[.range 0 (n:Int)]):=by
 rw [Ib,if_pos (by simp only [lim];exact Qg ‹_› (by exact rfl))];rfl
end
set_option maxHeartbeats 4000000 in
theorem Acs {l:List Int} {md:Str} {fl:Int} {Q:V→H→Prop} (hl:l.length≤63) (om:PyData.strOk md=true) (k:∀ σ,Q (.bool true) σ) :
  ws (Bh.body.drop 11) ⟨59,[some (.ref 0),some (.int fl),some (.str md),some (.ref 8),some (.ref 22),some (.ref 34),some (.ref 37),some (.ref 113),none,none,none,none,none,none,none,none,none,none,none],[4]⟩ (hp (B0 md l) D0 []) (rk Q):=by
 (refine Aa (Hg (fl.fdiv 2) 3 (by decide)) ?_;intro j3 hj3 hm3)
 dsimp! [Acq,hm3]
 generalize hfr:((j3:Int)==2)=fr
 haveI after:∀ (n:Nat) (x9:Option V),n≤6→(fr=true→n≤2) →
   Fo ⟨59,[some (.ref 0),some (.int fl),some (.str md),some (.ref 8),some (.ref 22),some (.ref 34),some (.ref 37),some (.ref 113),some (.bool fr),none,none,none,none,none,none,none,none,none,none],[4]⟩ (.nm 9) (.rg 0 n)
   [(.asg (.tp [10,11,12]) (.idx (.loc 7) (.bin .Mod (.bin .Add (.call (.cst (.con (.ref 680))) [(.loc 0),(.bin .Add (.cst (.int 2)) (.loc 9))]) (.idx (.lst [(.cst (.int 0)),(.cst (.int 2)),(.cst (.int 0)),(.cst (.int 1)),(.cst (.int 3)),(.cst (.int 8))]) (.loc 9))) (.call (.cst (.con (.builtin "len"))) [(.loc 7)])))),(.asg (.nm 13) (.meth (.cel 0) 42 [(.loc 11),(.loc 10),(.loc 12)])),(.ex (.meth (.cel 0) 0 [(.meth (.loc 4) 39 []),(.loc 13)])),(.ex (.meth (.loc 4) 38 [(.loc 13)])),(.ex (.call (.cst (.con (.ref 739))) [(.loc 6),(.loc 10),(.loc 11),(.loc 12)]))] (hp (B0 md l) D0 (ad [] [.range 0 (n:Int)]))
   (sk (Bh.body.drop 13) ⟨59,[some (.ref 0),some (.int fl),some (.str md),some (.ref 8),some (.ref 22),some (.ref 34),some (.ref 37),some (.ref 113),some (.bool fr),none,none,none,none,none,none,none,none,none,none],[4]⟩ (rk Q)):=by
  intro n x9 hn hn2
  haveI O0:StOk (3*n+31) (t0 md l):=StOk.lesser (c:=18-3*n) (by rw [Nat.add_right_comm,Nat.add_sub_cancel' (Nat.mul_le_mul_left 3 hn)];exact ok0 om)
  refine Xk n 0 (t0 md l) _ _ _ none none none none none (by exact Mk ‹_› (by exact rfl)) (Aby.xd (Ag.ad _)) (Ab0.xb (Af.ad _)) O0 hl fun t' B' D' Δ' y9 y10 y11 y12 y13 R RD O KP=>?_
  haveI hE:=KP.els
  rw [Xd] at hE
  simp! []
  dsimp! []
  refine Aco (Acg (b:=30) R RD O (by rw [KP.l];exact hl) (fun _=>Nat.le_trans hE (Nat.add_le_add_left (by assumption:n≤6) 1)) (fun e=>Nat.le_trans hE (Nat.le_trans (Nat.add_le_add_left (hn2 e) 1) (Nat.le_of_ble_eq_true rfl))) KP.ctx fun t2 B2 Δ2 z10 z11 z12 ar R2 RD2 O2 hE2 hm2 hl2 E2=>?_)
  simp! []
  haveI hl3:t2.l.length≤63:=by rw [hl2,KP.l];exact hl
  haveI i6:Ci (hp B2 D' (ad Δ2 [.range 0 6])) (.ref (sz Δ2))=some (.rg 0 6):=Py (n:=6) rfl (by exact Nat.le_of_ble_eq_true (by exact rfl))
  haveI c6:∀ σ:H,Aw σ (.type "range") [.int 6]=some (.ref σ.length,σ++[.range 0 6]):=Pz (n:=6) (by exact Nat.le_of_ble_eq_true (by exact rfl))
  dsimp! [c6,i6]
  refine Xl 6 0 t2 _ _ _ _ _ _ _ _ (by exact Nat.le_of_ble_eq_true (by exact rfl)) (R2.xd (Ag.ad _)) (RD2.xb (Af.ad _)) O2 hl3 (by exact Hj ‹_› (by exact rfl)) (E2.ad _) fun t3 B3 D3 Δ3 u9 u15 u16 u17 u18 R3 RD3 O3 hE3 hm3=>?_
  simp! []
  refine Acn R3 RD3 O3 hE3 ?_ k
  rw [hm3,hm2,KP.mode];rfl
 induction fr with
 | true =>
  (refine Aa (Hg (dg l 1) 3 (by decide)) ?_;intro n hn hm)
  haveI hc:=Pz (n:=n) (by exact Fq ‹_› (by exact rfl))
  haveI hi:∀ (B:Bs) (D:Ds) (Δ:List VR),Ci (hp B D (ad Δ [.range 0 (n:Int)])) (.ref (sz Δ))=some (.rg 0 n):=fun B D Δ=>Py rfl (by exact Fq ‹_› (by exact rfl))
  dsimp! []
  refine Fh (B:=B0 md l) (p:=1) (by exact rfl) hl ?_
  haveI hm':∀ σ:H,Ce σ .Mod (.int (dg (B0 md l).l 1)) (.int 3)=some (.int (n:Int),σ):=hm
  simp! [hm',hc,hi]
  exact after n none (by exact Fq ‹_› (by exact rfl)) (fun _=>by exact Fq ‹_› (by exact rfl))
 | false =>
  (refine Aa (Hg (dg l 1+4) 7 (by decide)) ?_;intro n hn hm)
  haveI hc:=Pz (n:=n) (by exact Fq ‹_› (by exact rfl))
  haveI hi:∀ (B:Bs) (D:Ds) (Δ:List VR),Ci (hp B D (ad Δ [.range 0 (n:Int)])) (.ref (sz Δ))=some (.rg 0 n):=fun B D Δ=>Py rfl (by exact Fq ‹_› (by exact rfl))
  dsimp! []
  refine Fh (B:=B0 md l) (p:=1) (by exact rfl) hl ?_
  haveI hm':∀ σ:H,Ce σ .Mod (.int (dg (B0 md l).l 1+4)) (.int 7)=some (.int (n:Int),σ):=hm
  simp! [hm',hc,hi]
  exact after n none (by exact Fq ‹_› (by exact rfl)) (fun e=>by cases e)
theorem nl5 {a b c d e o:Mine.O}:Ay [a,b,c,d,e] o=some (.ref 5,[a,b,c,d,e,o]):=rfl
theorem Act {l:List Int} (hl:l.length≤63) {K:KS} (k:∀ (fl:Int) (md:Str),PyData.strOk md=true→K .next [some (.ref 0),some (.int fl),some (.str md),none,none,none,none,none,none,none,none,none,none,none,none,none,none,none,none] [.list (l.map .int),.tuple [],.tuple [],.tuple [],.cell none,.list [st "in body",st "in cell"]]) :
  ws (Bh.body.take 2) ⟨59,[some (.ref 0),none,none,none,none,none,none,none,none,none,none,none,none,none,none,none,none,none,none],[4]⟩ [.list (l.map .int),.tuple [],.tuple [],.tuple [],.cell none] K:=by
 dsimp! []
 refine Acp (p:=0) rfl rfl hl ?_
 (refine Aa (Hg (dg l 0) 2 (by decide)) ?_;intro j hj hm)
 simp! []
 have hj2:j=0∨j=1:=(Nat.lt_succ_iff_lt_or_eq.mp (Int.ofNat_lt.mp hj)).imp Nat.lt_one_iff.mp id
 focus (refine oe hj2 ?_ ?_;rotate_left;(try clear hj2;intro z_o;obtain rfl:=z_o);rotate_right;(try clear hj2;intro z_o;obtain rfl:=z_o))
 ·dsimp! [Lu,hm,List.take_zero,nl5]
  exact k _ _ Ap
 ·dsimp! [Lu,hm,List.take_zero,nl5]
  exact k _ _ Ap
theorem Acu:Bh.body=Bh.body.take 2++((Bh.body.drop 2).take 9++Bh.body.drop 11):=(rfl)
theorem law_ws {l:List Int} (hl:l.length≤63) {Q:V→H→Prop} (k:∀ σ,Q (.bool true) σ):wSs Bh.body ⟨59,[some (.ref 0),none,none,none,none,none,none,none,none,none,none,none,none,none,none,none,none,none,none],[4]⟩ [.list (l.map .int),.tuple [],.tuple [],.tuple [],.cell none] (rk Q):=by
 rw [T4,Acu,Mf]
 refine Act hl fun fl md om=>?_
 show ws _ _ _ _
 rw [Mf,← T4]
 exact Gm (Xi 20) _ _ (pro l md fl) (Acs (Q:=Q) (fl:=fl) hl om k)
end Y
end
section
open PySem PySem.W PyProof.Rows PySem.Calls
namespace Z
open Mine.Y (wSs)
noncomputable def fnB (K:Frag) (a:Addr) (fi:Fn):Bool:=match K.lookup a with
 | some ⟨_,_,.func fd,_⟩=>(match fd.body with
  | .stmts _=>fdB K fd fi
  | _=>false)
 | _=>false
theorem Acv {K:Frag} {a:Addr} {fi:Fn} (h:fnB K a fi=true) (hb:K8 K a=some fi.body):∃ oc od fd osl body,K.lookup a=some ⟨oc,od,.func fd,osl⟩∧fd.body=.stmts body∧stmtsL (trS 40 (Dr fd.scope.names)) body=some fi.body∧fdB K fd fi=true:=by
 unfold fnB at h
 unfold K8 at hb
 cases hK:K.lookup a with
 | none=>rw [hK] at h;cases h
 | some o =>
  rcases o with ⟨oc,od,dt,osl⟩
  rw [hK] at h hb
  induction dt with
  | func fd =>
   haveI h':(match fd.body with
    | .stmts _=>fdB K fd fi
    | _=>false)=true:=h
   haveI hb':(match fd.body with
    | .stmts b=>stmtsL (trS 40 (Dr fd.scope.names)) b
    | _=>none)=some fi.body:=hb
   cases hfb:fd.body with
   | stmts b=>rw [hfb] at h' hb';exact ⟨oc,od,fd,osl,b,rfl,hfb,hb',h'⟩
   | _=>rw [hfb] at h';exact (Bool.false_ne_true h').elim
  | _=>exact (Bool.false_ne_true h).elim
noncomputable def P0 (K:Frag) (C:Addr):Bool:=findIn K (.ref C) "__getattribute__"==some (some (.builtin "object.__getattribute__"))&&(findIn K (.ref C) "__getattr__"==some none&&(findIn K (.ref C) "__setattr__"==some (some (.builtin "object.__setattr__"))&&(plainOver K C&&(clsIn K C).any (·.hasDict))))
theorem Acw {K:Frag} {C:Addr} (h:P0 K C=true):ClsOk K C:=by
 unfold P0 at h
 simp only [Bool.and_eq_true,beq_iff_eq] at h
 (refine Qm h ?_;try clear h;intro h1 h2 h3 h4 h5)
 exact ⟨h1,h2,h3,h4,h5⟩
noncomputable def daB (K:Frag) (p:Addr×Nat):Bool:=findIn K (.ref p.1) (nm p.2)==some none
noncomputable def mtB (K:Frag) (p:(Addr×Nat)×Addr):Bool:=findIn K (.ref p.1.1) (nm p.1.2)==some (some (.ref p.2))&&typeIn K (.ref p.2)==some (.type "function")
noncomputable def Acx (K:Frag) (p:Addr×Addr):Bool:=makesIn K p.1&&(findIn K (.ref p.1) "__init__"==some (some (.ref p.2))&&typeIn K (.ref p.2)==some (.type "function"))
set_option tactic.hygienic true in
theorem Ix {α β:Type} [BEq α] [LawfulBEq α] {k:α} {v:β}:∀ {l:List (α×β)},l.lookup k=some v→(k,v)∈l
 | [],h=>by cases h
 | (x,y) :: l,h=>by
  rw [List.lookup_cons] at h
  split at h
  ·rename_i e
   obtain rfl:=Option.some.inj h
   rw [eq_of_beq e]
   exact .head _
  ·exact .tail _ (Ix h)
noncomputable def Iy (K:Frag) (a:Addr):Bool:=match K.lookup a with
 | some ⟨.type c,none,.seq xs _,sl⟩=>c=="tuple"&&(xs.isEmpty&&sl.isEmpty)
 | _=>false
set_option tactic.hygienic true in
theorem P1 {K:Frag} {a:Addr} (h:Iy K a=true):∃ n,K.lookup a=some {cls:=.type "tuple",dict:=none,data:=.seq #[] n,slots:=#[]}:=by
 unfold Iy at h
 generalize K.lookup a=x at h ⊢
 induction x with
 | none=>exact (Bool.false_ne_true h).elim
 | some o =>
  induction o with
  | mk c d x sl =>
   induction c with
   | type c=>induction d with
    | none=>induction x with
     | seq xs n =>
      refine As ((Bool.and_eq_true_iff.mp h).imp LawfulBEq.eq_of_beq fun h=>(Bool.and_eq_true_iff.mp h).imp Array.isEmpty_iff.mp Array.isEmpty_iff.mp) ?_
      intro z_0 z_1 z_2
      subst z_0 z_1 z_2
      exact ⟨n,rfl⟩
     | _=>exact (Bool.false_ne_true h).elim
    | some _=>exact (Bool.false_ne_true h).elim
   | _=>exact (Bool.false_ne_true h).elim
noncomputable def glB (K:Frag) (p:Str×Value):Bool:=match p.2 with
 | .ref _=>nsIn K mainGlobals p.1==some (some p.2)
 | _=>nsIn K mainGlobals p.1==some none&&(bootBuiltins p.1==some p.2&&!(p.1==Str.ofString "__name__"))
noncomputable def Mg (K:Frag):Bool:=([355,467,584,662]:List Addr).all (P0 K)&&(daL.all (daB K)&&(mtL.all (mtB K)&&(Mr.all (Acx K)&&(fnL.all (fun p=>fnB K p.1 p.2)&&(Iy K 172&&(Iy K 486&&(Iy K 495&&glL.all (glB K))))))))
theorem Acy {prog:Program} {w:World} {K:Frag} {h:Heap} {mg mb:Str→Option Value} (hk:Mg K=true) (hbd:fnL.map (fun p=>K8 K p.1)=fnL.map (fun p=>some p.2.body)) (KX:K.In h) (g:h.Ns mainGlobals mg) (b:h.Ns builtinsNs mb) (bb:∀ x:Str,x≠"__name__"→mb x=bootBuiltins x) (lim:h.NoLimit):Wd.Ok ⟨prog,w,h,K⟩:=by
 unfold Mg at hk
 simp only [Bool.and_eq_true] at hk
 rcases hk with ⟨hc,hd,hm,hi,hf,_,_,_,hg⟩
 haveI cl:∀ C:Addr,C∈([355,467,584,662]:List Addr)→ClsOk K C:=fun C h=>Acw (List.all_eq_true.mp hc C h)
 haveI d4:∀ p∈daL,p.1∈([355,467,584,662]:List Addr):=by decide +kernel
 haveI m4:∀ p∈mtL,p.1.1∈([355,467,584,662]:List Addr):=by decide +kernel
 refine ⟨KX,lim,fun x v hv=>⟨mg,mb,g,b,?_⟩,fun C n h=>?_,fun C n f h=>?_,fun C i h=>?_,fun a fi h=>?_⟩
 ·have this:=List.all_eq_true.mp hg _ (Ix (l:=glL) hv)
  have go:(nsIn K mainGlobals x==some none&&(bootBuiltins x==some v&&!(x==Str.ofString "__name__")))=true→mg x=some v∨(mg x=none∧mb x=some v):=fun h=>by
   have h1:=Bool.and_eq_true_iff.mp h
   have h2:=Bool.and_eq_true_iff.mp h1.2
   exact .inr ⟨mg_none_of KX g (eq_of_beq h1.1),(bb x fun e=>by have h3:=h2.2;rw [e,beq_self_eq_true] at h3;exact Bool.false_ne_true h3).trans (eq_of_beq h2.1)⟩
  induction v with
  | ref a=>exact .inl (mg_of KX g (eq_of_beq this))
  | _=>exact go this
 ·haveI hm':(C,n)∈daL:=List.mem_of_elem_eq_true h
  exact ⟨eq_of_beq (List.all_eq_true.mp hd _ hm'),cl C (d4 _ hm')⟩
 ·haveI hm':=Ix (l:=mtL) h
  haveI:=Bool.and_eq_true_iff.mp (List.all_eq_true.mp hm _ hm')
  exact ⟨eq_of_beq this.1,eq_of_beq this.2,cl C (m4 _ hm')⟩
 ·haveI:=Bool.and_eq_true_iff.mp (List.all_eq_true.mp hi _ (Ix (l:=Mr) h))
  haveI h2:=Bool.and_eq_true_iff.mp this.2
  exact ⟨this.1,eq_of_beq h2.1,eq_of_beq h2.2⟩
 ·haveI hm':=Ix (l:=fnL) h
  exact Acv (List.all_eq_true.mp hf _ hm') (List.map_inj_left.mp hbd _ hm')
theorem Xm {π:List Addr}:∀ {vs:List Value} {ns:List Int},IntsAre vs ns→VRels π (ns.map .int) vs
 | _,_,.nil=>rfl
 | _,_,.cons n t r=>⟨_,_,rfl,⟨t,rfl⟩,Xm r⟩
section
variable {prog:Program} {w:World} {s:Shared} {la:Addr} {xs:List Value} {ns:List Int} {mg mb:Str→Option Value} {Er:Value→Shared→Prop} {Q:Value→Shared→Prop} {K:Frag}
theorem run_law (hk:Mg K=true) (hb:fnL.map (fun p=>K8 K p.1)=fnL.map (fun p=>some p.2.body)) (KX:K.In s.heap) (lim:s.heap.NoLimit) (g:s.heap.Ns mainGlobals mg) (b:s.heap.Ns builtinsNs mb) (bb:∀ x:Str,x≠"__name__"→mb x=bootBuiltins x)
  (hla:s.heap.get? la=some {cls:=.type "list",data:=.seq xs.toArray}) (hi:IntsAre xs ns) (hlen:ns.length≤63) (hsys:(la==sysModules)=false) (hbig:∃ b o,sysModules < b∧s.heap.get? b=some o)
  (k:∀ h' t',(∀ b o,s.heap.get? b=some o→h'.get? b=some o)→Q (.bool true) ⟨h',s.gens,s.drawn,t',s.os⟩):wpAny (model prog w) callerA (call (.ref 792) [.ref la]) Q Er s:=by
 haveI wk:Wd.Ok ⟨prog,w,s.heap,K⟩:=Acy hk hb KX g b bb lim
 unfold Mg at hk
 simp only [Bool.and_eq_true] at hk
 rcases hk with ⟨_,_,_,_,_,k6,k7,k8,_⟩
 (refine Ad (P1 k6) ?_;intro n1 e1)
 (refine Ad (P1 k7) ?_;intro n2 e2)
 (refine Ad (P1 k8) ?_;intro n3 e3)
 haveI g1:=KX _ _ e1
 haveI g2:=KX _ _ e2
 haveI g3:=KX _ _ e3
 have ne:∀ {c n},s.heap.get? c=some {cls:=.type "tuple",dict:=none,data:=.seq #[] n,slots:=#[]}→la≠c:=fun hc e=>by
  subst e
  rw [hla] at hc
  simp at hc
 have I:Inv ⟨prog,w,s.heap,K⟩ [la,172,486,495] [.list (ns.map .int),.tuple [],.tuple [],.tuple []] [] s.heap:=by
  refine ⟨fun _ _ e=>e,rfl,?_,fun p hp=>(List.not_mem_nil hp).elim,?_,fun p hp=>(List.not_mem_nil hp).elim,?_,hbig,?_,Nat.le_refl _⟩
  ·intro i c o hc ho
   match i,hc,ho with
   | 0,hc,ho=>cases hc;obtain rfl:=Option.some.inj ho;exact ⟨_,hla,xs.toArray,_,rfl,Xm hi,Nat.le_trans (Nat.le_of_eq (List.length_map _)) (Nat.le_trans hlen (Nat.le_of_ble_eq_true rfl))⟩
   | 1,hc,ho=>cases hc;obtain rfl:=Option.some.inj ho;exact ⟨_,g1,#[],n1,rfl,rfl,Nat.zero_le _⟩
   | 2,hc,ho=>cases hc;obtain rfl:=Option.some.inj ho;exact ⟨_,g2,#[],n2,rfl,rfl,Nat.zero_le _⟩
   | 3,hc,ho=>cases hc;obtain rfl:=Option.some.inj ho;exact ⟨_,g3,#[],n3,rfl,rfl,Nat.zero_le _⟩
  ·intro i c hf hc
   haveI:=(List.getElem?_eq_some_iff.mp hc).1
   exact absurd (this:i < 4) (Nat.not_lt.mpr (hf:4≤i))
  ·show ([la,172,486,495]++([]:List Addr)).Nodup
   rw [List.append_nil,List.nodup_cons]
   refine ⟨?_,by decide⟩
   simp only [List.mem_cons,List.not_mem_nil,or_false,not_or]
   exact ⟨ne g1,ne g2,ne g3⟩
  ·intro c hc
   simp only [List.mem_cons,List.not_mem_nil,or_false] at hc
   rcases hc with rfl | rfl | rfl | rfl
   ·exact hsys
   all_goals rfl
 haveI hB:BOk [la,172,486,495]:=by
  intro p hp
  simp only [BB,List.mem_cons,List.not_mem_nil,or_false] at hp
  rcases hp with rfl | rfl | rfl<;>rfl
 have hA:AOk (59+1) callerA:=⟨rfl,by decide +kernel,by decide +kernel⟩
 have hf:tb.fn 792=some Bh:=rfl
 have hbind:Da Bh.ps ([V.ref 0]++Bh.df.drop ([V.ref 0].length+Bh.df.length-Bh.ps.length)) (List.replicate Bh.nl none) (List.range' (List.length [O.list (ns.map .int),.tuple [],.tuple [],.tuple []]) Bh.nc) ([O.list (ns.map .int),.tuple [],.tuple [],.tuple []]++List.replicate Bh.nc (.cell none)) =
  some ([some (.ref 0),none,none,none,none,none,none,none,none,none,none,none,none,none,none,none,none,none,none],[.list (ns.map .int),.tuple [],.tuple [],.tuple [],.cell none]):=rfl
 have hlaw:wSs Bh.body ⟨59,[some (.ref 0),none,none,none,none,none,none,none,none,none,none,none,none,none,none,none,none,none,none],List.range' (List.length [O.list (ns.map .int),.tuple [],.tuple [],.tuple []]) Bh.nc⟩ [.list (ns.map .int),.tuple [],.tuple [],.tuple [],.cell none] (Y.rk fun v _=>v=.bool true):=Y.law_ws hlen fun _=>rfl
 refine Si (fn_sd (Qx:=Q) wk hf ⟨Nat.le_of_ble_eq_true rfl,Nat.le_of_ble_eq_true rfl⟩ hbind hlaw (VRels.single (v:=.ref 0) ⟨la,rfl,rfl⟩) hA (.inr ⟨0,[],rfl⟩) hB I fun v σ' π' x h' t' q l I2 hx ht=>?_)
 subst q
 cases hx
 exact k h' t' I2.base
theorem well_list {P:Params} {h:Heap} {la:Addr} {xs:List WData} (x:Well P h (.ref la) (.list xs)):∃ vs:List Value,h.get? la=some {cls:=.type "list",data:=.seq vs.toArray}∧WellAll P h vs xs:=by
 cases x with
 | list h1 h2=>exact ⟨_,h1,h2⟩
theorem well_ints {P:Params} {h:Heap}:∀ {ns:List Int} {vs:List Value},WellAll P h vs (ofPys (ns.map .int))→IntsAre vs ns
 | [],vs,x=>by
  change WellAll P h vs [] at x
  cases x;exact .nil
 | n :: ns,vs,x=>by
  change WellAll P h vs (.int n :: ofPys (ns.map .int)) at x
  cases x with
  | cons h1 h2 =>
   cases h1
   exact .cons _ _ (well_ints h2)
end
end Z
end
end
end Mine
namespace Mine
namespace hd2
theorem tw10380438016087249568:True:=⟨⟩
theorem tw10578358793476541842:True:=⟨⟩
theorem tw1274247852719968875:True:=⟨⟩
theorem tw12772056604342352522:True:=⟨⟩
theorem tw13464015321323206389:True:=⟨⟩
theorem tw149136323067313292:True:=⟨⟩
theorem tw15169378773856281045:True:=⟨⟩
theorem tw16169068467992619642:True:=⟨⟩
theorem tw16211894756258066853:True:=⟨⟩
theorem tw16224822230647373906:True:=⟨⟩
theorem tw16320979642560587919:True:=⟨⟩
theorem tw16410498635708539651:True:=⟨⟩
theorem tw16986457858870850220:True:=⟨⟩
theorem tw17979642134031500071:True:=⟨⟩
theorem tw18444375806046964990:True:=⟨⟩
theorem tw1984585809956232087:True:=⟨⟩
theorem tw306295954576135650:True:=⟨⟩
theorem tw3142929467517512715:True:=⟨⟩
theorem tw4128767988726417249:True:=⟨⟩
theorem tw4472567832775355078:True:=⟨⟩
theorem tw4838670647756795230:True:=⟨⟩
theorem tw5047002072934667062:True:=⟨⟩
theorem tw5113211338630201030:True:=⟨⟩
theorem tw5547898832560251794:True:=⟨⟩
theorem tw5737332735241192480:True:=⟨⟩
theorem tw6412907438216045666:True:=⟨⟩
theorem tw6667590812201597191:True:=⟨⟩
theorem tw7092986245029194944:True:=⟨⟩
theorem tw7575677870051256410:True:=⟨⟩
theorem tw7687397440183303233:True:=⟨⟩
theorem tw8819373442931903966:True:=⟨⟩
theorem tw8820833757433601248:True:=⟨⟩
theorem tw8894007540019672162:True:=⟨⟩
theorem tw9157690311703749786:True:=⟨⟩
theorem tw9507463795799292343:True:=⟨⟩
theorem tw9566965880947549942:True:=⟨⟩
theorem tw9893377061909966053:True:=⟨⟩
theorem tw9936449288261800188:True:=⟨⟩
theorem tw14820863818305382502:True:=⟨⟩
theorem tw3726972912220129213:True:=⟨⟩
theorem tw266489594127727277:True:=⟨⟩
theorem tw13897978569670903465:True:=⟨⟩
theorem tw10189825699233536357:True:=⟨⟩
theorem tw5047766865301894013:True:=⟨⟩
theorem tw9946955176753993942:True:=⟨⟩
theorem tw17756555762872666094:True:=⟨⟩
theorem tw12652722771303859394:True:=⟨⟩
theorem tw10680006619572943207:True:=⟨⟩
theorem tw9125875660321858707:True:=⟨⟩
theorem tw7429732975807055481:True:=⟨⟩
theorem tw15537846011464381842:True:=⟨⟩
theorem tw17122416369250961311:True:=⟨⟩
theorem tw5331086248898644504:True:=⟨⟩
theorem tw15587563420470775918:True:=⟨⟩
theorem tw9355145932706132611:True:=⟨⟩
theorem tw15696999210736300618:True:=⟨⟩
theorem tw15719296428168962565:True:=⟨⟩
theorem tw13022177177971296676:True:=⟨⟩
theorem tw17804281964276252035:True:=⟨⟩
theorem tw15335294912572790726:True:=⟨⟩
theorem tw7256602871725363862:True:=⟨⟩
theorem tw11954088364557726345:True:=⟨⟩
theorem tw8271626784378667306:True:=⟨⟩
theorem tw16549696160805026549:True:=⟨⟩
theorem tw4122118210242383125:True:=⟨⟩
theorem tw13968572143415724601:True:=⟨⟩
theorem tw332627713378957678:True:=⟨⟩
theorem tw12202340963882121764:True:=⟨⟩
theorem tw9090680870198173923:True:=⟨⟩
theorem tw17660311688119852706:True:=⟨⟩
theorem tw17680995164864114740:True:=⟨⟩
theorem tw16635775124085440312:True:=⟨⟩
theorem tw13195917780136099402:True:=⟨⟩
theorem tw5986379206596355608:True:=⟨⟩
theorem tw5325368168493127446:True:=⟨⟩
theorem tw17633156079848835545:True:=⟨⟩
theorem tw7060728368964613334:True:=⟨⟩
theorem tw7290428043505870489:True:=⟨⟩
theorem tw7010516460443940295:True:=⟨⟩
theorem tw17039020653511099826:True:=⟨⟩
theorem tw6696287059362173943:True:=⟨⟩
theorem tw9802295697211912694:True:=⟨⟩
theorem tw3956109169445426417:True:=⟨⟩
theorem tw7914577561064067004:True:=⟨⟩
theorem tw8561936677497543512:True:=⟨⟩
theorem tw8417349901890957011:True:=⟨⟩
theorem tw287392569248815262:True:=⟨⟩
theorem tw4208630012958610394:True:=⟨⟩
theorem tw4047575660166857361:True:=⟨⟩
theorem tw13965542587233289564:True:=⟨⟩
theorem tw8090823174340995975:True:=⟨⟩
theorem tw5660746635817024167:True:=⟨⟩
theorem tw16071126181120082616:True:=⟨⟩
theorem tw5460127783263432754:True:=⟨⟩
theorem tw5439220691504817211:True:=⟨⟩
theorem tw7949754368583153401:True:=⟨⟩
theorem tw9520873710464607060:True:=⟨⟩
theorem tw7998344961517463956:True:=⟨⟩
theorem tw13959301642122579962:True:=⟨⟩
theorem tw3754236611259937069:True:=⟨⟩
theorem tw13061873611917540826:True:=⟨⟩
theorem tw16039799792390380188:True:=⟨⟩
theorem tw11129188869610538314:True:=⟨⟩
theorem tw15521083237468486930:True:=⟨⟩
theorem tw11149403225895476569:True:=⟨⟩
theorem tw7745089850723280071:True:=⟨⟩
theorem tw14841918967673396970:True:=⟨⟩
theorem tw8739050139373961009:True:=⟨⟩
theorem tw9996421656595275187:True:=⟨⟩
theorem tw15794160288150908880:True:=⟨⟩
theorem tw18199845917383768711:True:=⟨⟩
theorem tw1077975192478734824:True:=⟨⟩
theorem tw8435538589820232700:True:=⟨⟩
theorem tw10072292476747231436:True:=⟨⟩
theorem tw3786290236359867107:True:=⟨⟩
theorem tw3531249046930223117:True:=⟨⟩
theorem tw7969290573346069145:True:=⟨⟩
theorem tw6442998482030438663:True:=⟨⟩
theorem tw9745169078473251068:True:=⟨⟩
theorem tw629296718965451232:True:=⟨⟩
theorem tw6024257062932756046:True:=⟨⟩
theorem tw15088383334532366670:True:=⟨⟩
theorem tw6339312482876286893:True:=⟨⟩
theorem tw6454775635760338649:True:=⟨⟩
theorem tw3394803573118762539:True:=⟨⟩
theorem tw9228096922577178498:True:=⟨⟩
theorem tw6420584863656811356:True:=⟨⟩
theorem tw24273440063783646:True:=⟨⟩
theorem tw17070805993233229099:True:=⟨⟩
theorem tw7482161738532038038:True:=⟨⟩
theorem tw17729420277734569955:True:=⟨⟩
theorem tw11487665957702846800:True:=⟨⟩
theorem tw7916450717366805672:True:=⟨⟩
theorem tw10703380130156237404:True:=⟨⟩
theorem tw9975164428627517902:True:=⟨⟩
theorem tw1698310995043944543:True:=⟨⟩
theorem tw6664305017935825339:True:=⟨⟩
theorem tw15215235494914212502:True:=⟨⟩
theorem tw10850752361300743184:True:=⟨⟩
theorem tw14840311160539740862:True:=⟨⟩
theorem tw7081095014359306574:True:=⟨⟩
theorem tw7231501216720314558:True:=⟨⟩
theorem tw9736571768197607707:True:=⟨⟩
theorem tw5105642419512490355:True:=⟨⟩
theorem tw13874339593932663290:True:=⟨⟩
theorem tw2946353583756650574:True:=⟨⟩
theorem tw12530866522774754677:True:=⟨⟩
theorem tw12056406032019026765:True:=⟨⟩
theorem tw8883832819917700884:True:=⟨⟩
theorem tw4564416937610578931:True:=⟨⟩
theorem tw144796715100449909:True:=⟨⟩
theorem tw2129821099330906877:True:=⟨⟩
theorem tw17401645052901980064:True:=⟨⟩
theorem tw4960970959582891546:True:=⟨⟩
theorem tw3959511540923809137:True:=⟨⟩
theorem tw8810766210930397849:True:=⟨⟩
theorem tw17390366167985401986:True:=⟨⟩
theorem tw15898290613689916817:True:=⟨⟩
theorem tw7875540786070732152:True:=⟨⟩
theorem tw21574547610721987:True:=⟨⟩
theorem tw14170056426808676843:True:=⟨⟩
theorem tw10241736188695546949:True:=⟨⟩
theorem tw2689988413598670261:True:=⟨⟩
theorem tw4577064228966388490:True:=⟨⟩
theorem tw10001107529534686008:True:=⟨⟩
theorem tw8214501602401235619:True:=⟨⟩
theorem tw14031018116716866922:True:=⟨⟩
theorem tw10041127296896847916:True:=⟨⟩
theorem tw18059104594531047267:True:=⟨⟩
theorem tw17883529072271118419:True:=⟨⟩
theorem tw10600816321300380515:True:=⟨⟩
theorem tw16249154343376908211:True:=⟨⟩
theorem tw12480029167471659182:True:=⟨⟩
theorem tw11273763489211789340:True:=⟨⟩
theorem tw14583061340223629450:True:=⟨⟩
theorem tw12896583090037188366:True:=⟨⟩
theorem tw10761583383445332310:True:=⟨⟩
theorem tw7322722211573931690:True:=⟨⟩
theorem tw6101760290850618121:True:=⟨⟩
theorem tw12334366916241932031:True:=⟨⟩
theorem tw5361115814481138938:True:=⟨⟩
theorem tw5088563705975112129:True:=⟨⟩
theorem tw1913153513812597439:True:=⟨⟩
theorem tw10905018937949311775:True:=⟨⟩
theorem tw13069835003938926414:True:=⟨⟩
theorem tw5571885335697301627:True:=⟨⟩
theorem tw17523583173145177124:True:=⟨⟩
theorem tw68177000274666502:True:=⟨⟩
theorem tw9331424139975595269:True:=⟨⟩
theorem tw13196687325285212645:True:=⟨⟩
theorem tw17426767571067006024:True:=⟨⟩
theorem tw11993121850234153533:True:=⟨⟩
theorem tw11564645500747994937:True:=⟨⟩
theorem tw11116610961157732531:True:=⟨⟩
theorem tw3901149335887042680:True:=⟨⟩
theorem tw3785130402949710695:True:=⟨⟩
theorem tw15875007438419210801:True:=⟨⟩
theorem tw17310673366942436908:True:=⟨⟩
theorem tw1780524305408681708:True:=⟨⟩
theorem tw14347230989661045164:True:=⟨⟩
theorem tw13378504776424976015:True:=⟨⟩
theorem tw2726330823138623210:True:=⟨⟩
theorem tw1454878787431918993:True:=⟨⟩
theorem tw9891940239095931389:True:=⟨⟩
theorem tw2550949332982093910:True:=⟨⟩
theorem tw8277031401484564934:True:=⟨⟩
theorem tw10644212719200468136:True:=⟨⟩
theorem tw10758829045107539745:True:=⟨⟩
theorem tw16097522423330317400:True:=⟨⟩
theorem tw10945553382814038100:True:=⟨⟩
theorem tw12287715041216286335:True:=⟨⟩
theorem tw17361329247131271939:True:=⟨⟩
theorem tw17089773408931481811:True:=⟨⟩
theorem tw13175543063059372526:True:=⟨⟩
theorem tw3571847127490814351:True:=⟨⟩
theorem tw17560658148252086775:True:=⟨⟩
theorem tw15949631357628695753:True:=⟨⟩
theorem tw18097591840932859414:True:=⟨⟩
theorem tw4865407056189898329:True:=⟨⟩
theorem tw6805748051075538592:True:=⟨⟩
theorem tw6586011627591172788:True:=⟨⟩
theorem tw2087716684499464581:True:=⟨⟩
theorem tw14396293657529361391:True:=⟨⟩
theorem tw6929180021115898451:True:=⟨⟩
theorem tw5941045177961228408:True:=⟨⟩
theorem tw353303069719100757:True:=⟨⟩
theorem tw16087535857578596309:True:=⟨⟩
theorem tw8954779477399893388:True:=⟨⟩
theorem tw17149979933336599690:True:=⟨⟩
theorem tw165932365614257507:True:=⟨⟩
theorem tw10145672701043835974:True:=⟨⟩
theorem tw15271477745785516841:True:=⟨⟩
theorem tw3356457310011230154:True:=⟨⟩
theorem tw13170595746660695564:True:=⟨⟩
theorem tw6523880012763818166:True:=⟨⟩
theorem tw5250961867106261114:True:=⟨⟩
theorem tw8006859400109840664:True:=⟨⟩
theorem tw17142955953045606057:True:=⟨⟩
theorem tw15442742621554616747:True:=⟨⟩
theorem tw1520809361914864758:True:=⟨⟩
theorem tw10806085509600199591:True:=⟨⟩
theorem tw537339855394300490:True:=⟨⟩
theorem tw12580300788034773645:True:=⟨⟩
theorem tw17585091517615628637:True:=⟨⟩
theorem tw1787761290930888318:True:=⟨⟩
theorem tw5150017175976815442:True:=⟨⟩
theorem tw4986522300587698104:True:=⟨⟩
theorem tw12751814530280855791:True:=⟨⟩
theorem tw8269391900199135338:True:=⟨⟩
theorem tw9566523955447782355:True:=⟨⟩
theorem tw7247576151377463746:True:=⟨⟩
theorem tw6654425124794004566:True:=⟨⟩
theorem tw14998125846048791180:True:=⟨⟩
theorem tw9692792143885581660:True:=⟨⟩
theorem tw2623507075769074293:True:=⟨⟩
theorem tw15352490148716938460:True:=⟨⟩
theorem tw1997104927643556181:True:=⟨⟩
theorem tw14788307984832979885:True:=⟨⟩
theorem tw1489221534587847906:True:=⟨⟩
theorem tw4470482424692443511:True:=⟨⟩
theorem tw8235645056348259674:True:=⟨⟩
theorem tw16289564860063074514:True:=⟨⟩
theorem tw13768875234911871128:True:=⟨⟩
theorem tw10666633089758425780:True:=⟨⟩
theorem tw4482154489773449971:True:=⟨⟩
theorem tw5381142770286992853:True:=⟨⟩
theorem tw1619602396286557735:True:=⟨⟩
theorem tw2183578610446070868:True:=⟨⟩
theorem tw14861900038808820964:True:=⟨⟩
theorem tw11808630122568406616:True:=⟨⟩
theorem tw17130049829372506651:True:=⟨⟩
theorem tw11858966245392364903:True:=⟨⟩
theorem tw5506855588011826855:True:=⟨⟩
theorem tw8880225664067160811:True:=⟨⟩
theorem tw220303873396540773:True:=⟨⟩
theorem tw15378289749790382759:True:=⟨⟩
theorem tw17304353328317095872:True:=⟨⟩
theorem tw18051674379464018613:True:=⟨⟩
theorem tw8374826424178713577:True:=⟨⟩
theorem tw17081775300665929400:True:=⟨⟩
theorem tw17313501335739172417:True:=⟨⟩
theorem tw14822852427591402130:True:=⟨⟩
theorem tw12968067322439934425:True:=⟨⟩
theorem tw16617358362609105000:True:=⟨⟩
theorem tw12687031005954012045:True:=⟨⟩
theorem tw1935317536839960691:True:=⟨⟩
theorem tw10093022765178181272:True:=⟨⟩
theorem tw8740815711760575871:True:=⟨⟩
theorem tw3468476826197804819:True:=⟨⟩
theorem tw6826767385885957657:True:=⟨⟩
theorem tw10301473994267353507:True:=⟨⟩
theorem tw3644628795867374201:True:=⟨⟩
theorem tw7731060619895641366:True:=⟨⟩
theorem tw14817847412204066841:True:=⟨⟩
theorem tw13312284275793813015:True:=⟨⟩
theorem tw1505970067136714487:True:=⟨⟩
theorem tw7565179688163074059:True:=⟨⟩
theorem tw16916649635783214691:True:=⟨⟩
theorem tw4339703559699329546:True:=⟨⟩
theorem tw9557856505351115264:True:=⟨⟩
theorem tw3202660704905915197:True:=⟨⟩
theorem tw5236335410611732991:True:=⟨⟩
theorem tw16633211826121731172:True:=⟨⟩
theorem tw4534884762438573884:True:=⟨⟩
theorem tw9030083065773517369:True:=⟨⟩
theorem tw17844157391508113707:True:=⟨⟩
theorem tw10383476536211362197:True:=⟨⟩
theorem tw10079752153212131570:True:=⟨⟩
theorem tw12554113690660838598:True:=⟨⟩
theorem tw12099618375495749695:True:=⟨⟩
theorem tw8865914463477348075:True:=⟨⟩
theorem tw6433835771088390112:True:=⟨⟩
theorem tw885879240042707427:True:=⟨⟩
theorem tw12911681607385855286:True:=⟨⟩
theorem tw15110400335425447395:True:=⟨⟩
theorem tw18417741203989945379:True:=⟨⟩
theorem tw9234729168613717979:True:=⟨⟩
theorem tw13697136855428582757:True:=⟨⟩
theorem tw1909785642558140098:True:=⟨⟩
theorem tw10360535843966251840:True:=⟨⟩
theorem tw5293925431893719092:True:=⟨⟩
theorem tw13766031397551917571:True:=⟨⟩
theorem tw8065851819844010131:True:=⟨⟩
theorem tw7227874499729274788:True:=⟨⟩
theorem tw2290168862997858206:True:=⟨⟩
theorem tw18193886166115899933:True:=⟨⟩
theorem tw12501706066654292219:True:=⟨⟩
theorem tw16771186659309416472:True:=⟨⟩
theorem tw1003263641894823509:True:=⟨⟩
theorem tw12425546313617101910:True:=⟨⟩
theorem tw3241160349922251781:True:=⟨⟩
theorem tw7480664447817381275:True:=⟨⟩
theorem tw8436607001355094974:True:=⟨⟩
theorem tw1863054346547387268:True:=⟨⟩
theorem tw14887912832275674849:True:=⟨⟩
theorem tw4136012151057083353:True:=⟨⟩
theorem tw2331008334238325607:True:=⟨⟩
theorem tw1976878416034951627:True:=⟨⟩
theorem tw11886118393436536228:True:=⟨⟩
theorem tw3157157067845663392:True:=⟨⟩
theorem tw5786896752989776576:True:=⟨⟩
theorem tw14939525105098405936:True:=⟨⟩
theorem tw563407987707677041:True:=⟨⟩
theorem tw13162815524414113834:True:=⟨⟩
theorem tw14833190768475372331:True:=⟨⟩
theorem tw10744454761256002685:True:=⟨⟩
theorem tw5018383507687693982:True:=⟨⟩
theorem tw9060343117491793834:True:=⟨⟩
theorem tw6985218532863665046:True:=⟨⟩
theorem tw12434816809840249486:True:=⟨⟩
theorem tw12466773587236661786:True:=⟨⟩
theorem tw13635312476280050021:True:=⟨⟩
theorem tw2730380513944285303:True:=⟨⟩
theorem tw17047151278299579084:True:=⟨⟩
theorem tw8844539425579231078:True:=⟨⟩
theorem tw735458933024839418:True:=⟨⟩
theorem tw3199234756029852028:True:=⟨⟩
theorem tw16791917572743975901:True:=⟨⟩
theorem tw17414271194069601105:True:=⟨⟩
theorem tw10991299664537860380:True:=⟨⟩
theorem tw333428532814778521:True:=⟨⟩
theorem tw5935144242490578337:True:=⟨⟩
theorem tw6727789753133388713:True:=⟨⟩
theorem tw13444297048616498438:True:=⟨⟩
theorem tw15704134411841525942:True:=⟨⟩
theorem tw2684668154545160251:True:=⟨⟩
theorem tw18005265497134895539:True:=⟨⟩
theorem tw11636861072522841108:True:=⟨⟩
theorem tw17007163370361508176:True:=⟨⟩
theorem tw12683001104823929121:True:=⟨⟩
theorem tw3192500830483082762:True:=⟨⟩
theorem tw10706713821126876067:True:=⟨⟩
theorem tw2341755709182678752:True:=⟨⟩
theorem tw15173792691694676812:True:=⟨⟩
theorem tw10392855127027845396:True:=⟨⟩
theorem tw10263914928000536134:True:=⟨⟩
theorem tw7739015951003946850:True:=⟨⟩
theorem tw16705864983734344526:True:=⟨⟩
theorem tw10272772584803894524:True:=⟨⟩
theorem tw12039354725203210797:True:=⟨⟩
theorem tw12261198951166796687:True:=⟨⟩
theorem tw14342580606220143046:True:=⟨⟩
theorem tw6335107781196790513:True:=⟨⟩
theorem tw17983723125350281077:True:=⟨⟩
theorem tw734633284641387689:True:=⟨⟩
theorem tw5480762631216013933:True:=⟨⟩
theorem tw1386277679703014416:True:=⟨⟩
theorem tw763388331222703480:True:=⟨⟩
theorem tw15291320400113776184:True:=⟨⟩
theorem tw1032843323036566331:True:=⟨⟩
theorem tw15989832115310774332:True:=⟨⟩
theorem tw18367688861690720845:True:=⟨⟩
theorem tw3231304084998413415:True:=⟨⟩
theorem tw17971443411627580558:True:=⟨⟩
theorem tw5272585545272146486:True:=⟨⟩
theorem tw7752372201841242672:True:=⟨⟩
theorem tw6006181309005182836:True:=⟨⟩
theorem tw55607396526106977:True:=⟨⟩
theorem tw18312043876966400468:True:=⟨⟩
theorem tw12528716281165417451:True:=⟨⟩
theorem tw8033734100024721556:True:=⟨⟩
theorem tw593880118170195310:True:=⟨⟩
theorem tw496918402663604591:True:=⟨⟩
theorem tw6718111456414773483:True:=⟨⟩
theorem tw12358038186195062226:True:=⟨⟩
theorem tw7218881234511280956:True:=⟨⟩
theorem tw17415303052053095784:True:=⟨⟩
theorem tw17154464714986587404:True:=⟨⟩
theorem tw4877783700938437086:True:=⟨⟩
theorem tw15208113223592336379:True:=⟨⟩
theorem tw15644325043196869005:True:=⟨⟩
theorem tw1076248274595971263:True:=⟨⟩
theorem tw1910539815464360657:True:=⟨⟩
theorem tw8996479975297183944:True:=⟨⟩
theorem tw10383524548708789777:True:=⟨⟩
theorem tw3168399777490588515:True:=⟨⟩
theorem tw1942724279473452841:True:=⟨⟩
theorem tw7369966113030148815:True:=⟨⟩
theorem tw2229946536716435360:True:=⟨⟩
theorem tw11733481668653251274:True:=⟨⟩
theorem tw232895017681259863:True:=⟨⟩
theorem tw3996814622440940861:True:=⟨⟩
theorem tw9178447152694605359:True:=⟨⟩
theorem tw14594564023281871809:True:=⟨⟩
theorem tw5296060203790821902:True:=⟨⟩
theorem tw16066228932003094494:True:=⟨⟩
theorem tw14686837934422546615:True:=⟨⟩
theorem tw10510122171135909860:True:=⟨⟩
theorem tw2649781233481127527:True:=⟨⟩
theorem tw10903109540234210708:True:=⟨⟩
theorem tw11883153931115997500:True:=⟨⟩
theorem tw10747489054592075467:True:=⟨⟩
theorem tw12484154373126971508:True:=⟨⟩
theorem tw8018312643286630970:True:=⟨⟩
theorem tw14888089762894650475:True:=⟨⟩
theorem tw16457211209562306832:True:=⟨⟩
theorem tw10241007629101191326:True:=⟨⟩
theorem tw15505365021111271095:True:=⟨⟩
theorem tw622305421618594425:True:=⟨⟩
theorem tw1444440135474070075:True:=⟨⟩
theorem tw3248076768158890728:True:=⟨⟩
theorem tw4254335569860116125:True:=⟨⟩
theorem tw16499565783291953072:True:=⟨⟩
theorem tw13400441405455996033:True:=⟨⟩
theorem tw16253987971922178028:True:=⟨⟩
theorem tw8667247941962200066:True:=⟨⟩
theorem tw10622391581404431582:True:=⟨⟩
theorem tw16986057737839748948:True:=⟨⟩
theorem tw4866529548692751282:True:=⟨⟩
theorem tw11818442767299857642:True:=⟨⟩
theorem tw15161419035603776266:True:=⟨⟩
theorem tw13650851605640620520:True:=⟨⟩
theorem tw2250516460714276958:True:=⟨⟩
theorem tw15717762271390065686:True:=⟨⟩
theorem tw8946558206114420275:True:=⟨⟩
theorem tw16296067290166642335:True:=⟨⟩
theorem tw6222138239097249262:True:=⟨⟩
theorem tw6504877948224729956:True:=⟨⟩
theorem tw5107720762453236676:True:=⟨⟩
theorem tw4384171828855458497:True:=⟨⟩
theorem tw17696548171621591989:True:=⟨⟩
theorem tw8156805644684496222:True:=⟨⟩
theorem tw8212957566839840021:True:=⟨⟩
theorem tw9695967570677394470:True:=⟨⟩
theorem tw15776288704453476735:True:=⟨⟩
theorem tw7114538484913203130:True:=⟨⟩
theorem tw10871212253301160404:True:=⟨⟩
theorem tw16910883158370928493:True:=⟨⟩
theorem tw1341185573248495567:True:=⟨⟩
theorem tw2235074827555887178:True:=⟨⟩
theorem tw90503261418583699:True:=⟨⟩
theorem tw17959656718955774163:True:=⟨⟩
theorem tw11667869617174447709:True:=⟨⟩
theorem tw5524305674342914610:True:=⟨⟩
theorem tw14107931063387763046:True:=⟨⟩
theorem tw18388333365271592090:True:=⟨⟩
theorem tw5025958316758122076:True:=⟨⟩
theorem tw1595972307316097103:True:=⟨⟩
theorem tw32522111057463545:True:=⟨⟩
theorem tw6189213310659382204:True:=⟨⟩
theorem tw402651304936567161:True:=⟨⟩
theorem tw12005222720998105849:True:=⟨⟩
theorem tw11174228389967080086:True:=⟨⟩
theorem tw8820450685144891857:True:=⟨⟩
theorem tw11237372735114035931:True:=⟨⟩
theorem tw9353670794185455838:True:=⟨⟩
theorem tw7160915840479329575:True:=⟨⟩
theorem tw7140078810457539764:True:=⟨⟩
theorem tw5968184155959672710:True:=⟨⟩
theorem tw9915209177835332078:True:=⟨⟩
theorem tw6552620590701305207:True:=⟨⟩
theorem tw2400447374012550452:True:=⟨⟩
theorem tw7128966471238075169:True:=⟨⟩
theorem tw1435591422723803084:True:=⟨⟩
theorem tw17690794081459551350:True:=⟨⟩
theorem tw10252134433212838402:True:=⟨⟩
theorem tw13384433437290512881:True:=⟨⟩
theorem tw6460417855620061073:True:=⟨⟩
theorem tw10111312136261894765:True:=⟨⟩
theorem tw15813063200308927281:True:=⟨⟩
theorem tw17831716376430199396:True:=⟨⟩
theorem tw101041087702457904:True:=⟨⟩
theorem tw11049299353231010424:True:=⟨⟩
theorem tw521047591097249419:True:=⟨⟩
theorem tw5900234849335412840:True:=⟨⟩
theorem tw2132613098981253317:True:=⟨⟩
theorem tw3760199936562137997:True:=⟨⟩
theorem tw4351680804615305705:True:=⟨⟩
theorem tw18424355597641598530:True:=⟨⟩
theorem tw2980639835392908229:True:=⟨⟩
theorem tw8899499074579488126:True:=⟨⟩
theorem tw18412209470390293426:True:=⟨⟩
theorem tw9779664457168377592:True:=⟨⟩
theorem tw13897164828918810706:True:=⟨⟩
theorem tw11391031360288678349:True:=⟨⟩
theorem tw8591987019127424796:True:=⟨⟩
theorem tw13309489205103631947:True:=⟨⟩
theorem tw11970665417900345971:True:=⟨⟩
theorem tw15437352426557854470:True:=⟨⟩
theorem tw1808859036645578109:True:=⟨⟩
theorem tw6602815505063476238:True:=⟨⟩
theorem tw15648364054427486478:True:=⟨⟩
theorem tw2125352762925668449:True:=⟨⟩
theorem tw4698667572044295981:True:=⟨⟩
theorem tw14821936039021965399:True:=⟨⟩
theorem tw674985084136377837:True:=⟨⟩
theorem tw14811771008786699973:True:=⟨⟩
theorem tw7753183551272455086:True:=⟨⟩
theorem tw13163191396762818039:True:=⟨⟩
theorem tw4359629333794791527:True:=⟨⟩
theorem tw5460988448790992511:True:=⟨⟩
theorem tw18414555437323601860:True:=⟨⟩
theorem tw13886938771197069045:True:=⟨⟩
theorem tw2379820489670096217:True:=⟨⟩
theorem tw8935359302326817146:True:=⟨⟩
theorem tw11387425415538479326:True:=⟨⟩
theorem tw9823593496184237896:True:=⟨⟩
theorem tw6355366842176592239:True:=⟨⟩
theorem tw630263712332728518:True:=⟨⟩
theorem tw17852836457719039587:True:=⟨⟩
theorem tw9303152165652212828:True:=⟨⟩
theorem tw16368028136619872572:True:=⟨⟩
theorem tw13124616459249873497:True:=⟨⟩
theorem tw13260789386932730063:True:=⟨⟩
theorem tw17148534648249044995:True:=⟨⟩
theorem tw9382941599035394523:True:=⟨⟩
theorem tw2384611344033603184:True:=⟨⟩
theorem tw837030252093788497:True:=⟨⟩
theorem tw13684506872731147418:True:=⟨⟩
theorem tw7227036050337712260:True:=⟨⟩
theorem tw2748475603197274750:True:=⟨⟩
theorem tw175109583173815259:True:=⟨⟩
theorem tw17163172455641472642:True:=⟨⟩
theorem tw8199764985606647887:True:=⟨⟩
theorem tw562825812087946167:True:=⟨⟩
theorem tw5158208639234804763:True:=⟨⟩
theorem tw1860114071392357742:True:=⟨⟩
theorem tw6676478726720251381:True:=⟨⟩
theorem tw2239638238429186564:True:=⟨⟩
theorem tw15959769663615884937:True:=⟨⟩
theorem tw5894657894921262582:True:=⟨⟩
theorem tw11751214582825821295:True:=⟨⟩
theorem tw4236401495220460536:True:=⟨⟩
theorem tw2949270455385409020:True:=⟨⟩
theorem tw5010817206199610734:True:=⟨⟩
theorem tw18121077527062402413:True:=⟨⟩
theorem tw13228747514611909538:True:=⟨⟩
theorem tw6815210391746928124:True:=⟨⟩
theorem tw11081256818881743468:True:=⟨⟩
theorem tw14250843949610307300:True:=⟨⟩
theorem tw11456116921625944867:True:=⟨⟩
theorem tw1543491443075369797:True:=⟨⟩
theorem tw15884449130635123080:True:=⟨⟩
theorem tw442533800346205434:True:=⟨⟩
theorem tw6314409780899576610:True:=⟨⟩
theorem tw15176672583364487161:True:=⟨⟩
theorem tw14524284236988537565:True:=⟨⟩
theorem tw6368226021125579375:True:=⟨⟩
theorem tw7422703064994039397:True:=⟨⟩
theorem tw5499910793742561429:True:=⟨⟩
theorem tw6819673447401007104:True:=⟨⟩
theorem tw14078174918965225603:True:=⟨⟩
theorem tw13303744932834278739:True:=⟨⟩
theorem tw17610023445318247383:True:=⟨⟩
theorem tw10088504024309026110:True:=⟨⟩
theorem tw3621270667139059588:True:=⟨⟩
theorem tw6009688105174031872:True:=⟨⟩
theorem tw14157160328222140798:True:=⟨⟩
theorem tw16262723031764260620:True:=⟨⟩
theorem tw14228697092420482526:True:=⟨⟩
theorem tw3856400816912930968:True:=⟨⟩
theorem tw12021982944904547264:True:=⟨⟩
theorem tw13619548112358091664:True:=⟨⟩
theorem tw13514766209153497511:True:=⟨⟩
theorem tw10628401907142525191:True:=⟨⟩
theorem tw2780894948779264762:True:=⟨⟩
theorem tw9250895064746319272:True:=⟨⟩
theorem tw4987636919662039959:True:=⟨⟩
theorem tw9486560165477200163:True:=⟨⟩
theorem tw13818045471477145132:True:=⟨⟩
theorem tw2348690137466451480:True:=⟨⟩
theorem tw18418512666878738487:True:=⟨⟩
theorem tw12212480016720595680:True:=⟨⟩
theorem tw18248147197437350449:True:=⟨⟩
theorem tw13434019930319771924:True:=⟨⟩
theorem tw15012236959661361180:True:=⟨⟩
theorem tw1299161043785182044:True:=⟨⟩
theorem tw13149192797513444932:True:=⟨⟩
theorem tw12906163079172978134:True:=⟨⟩
theorem tw1373332207738206599:True:=⟨⟩
theorem tw14194125027541112797:True:=⟨⟩
theorem tw11278946215007496617:True:=⟨⟩
theorem tw1016670596637295103:True:=⟨⟩
theorem tw14163117343867048754:True:=⟨⟩
theorem tw2403368290362765634:True:=⟨⟩
theorem tw18385055089987311653:True:=⟨⟩
theorem tw13121207220110486336:True:=⟨⟩
theorem tw7790720176581593280:True:=⟨⟩
theorem tw17345903713890797570:True:=⟨⟩
theorem tw10451374286423379917:True:=⟨⟩
theorem tw7629001758538569082:True:=⟨⟩
theorem tw8592930759312109446:True:=⟨⟩
theorem tw17850146363913321964:True:=⟨⟩
theorem tw13695168601640147472:True:=⟨⟩
theorem tw5034723987699173382:True:=⟨⟩
theorem tw12329224695775602837:True:=⟨⟩
theorem tw5685695710063805533:True:=⟨⟩
theorem tw8808935482714438731:True:=⟨⟩
theorem tw7313264215350837002:True:=⟨⟩
theorem tw9514616225478430594:True:=⟨⟩
theorem tw10942033058075514817:True:=⟨⟩
theorem tw16873221599792419055:True:=⟨⟩
theorem tw710885876865845836:True:=⟨⟩
theorem tw12865084311106458185:True:=⟨⟩
theorem tw2816443026691090857:True:=⟨⟩
theorem tw13105738992604535549:True:=⟨⟩
theorem tw18192534542955315565:True:=⟨⟩
theorem tw17237646537067781763:True:=⟨⟩
theorem tw3623368656732710881:True:=⟨⟩
theorem tw4222025404068306701:True:=⟨⟩
theorem tw18195350866518933986:True:=⟨⟩
theorem tw4285178136021759769:True:=⟨⟩
theorem tw11921682110192740759:True:=⟨⟩
theorem tw5542873789161101442:True:=⟨⟩
theorem tw4479011239912934169:True:=⟨⟩
theorem tw13810677373062009955:True:=⟨⟩
theorem tw13366119217861580157:True:=⟨⟩
theorem tw12225221494049422591:True:=⟨⟩
theorem tw3401203273196837721:True:=⟨⟩
theorem tw4222651890790745610:True:=⟨⟩
theorem tw13568015948485809419:True:=⟨⟩
theorem tw7642066950433868171:True:=⟨⟩
theorem tw6094729067435387435:True:=⟨⟩
theorem tw1685360708467948208:True:=⟨⟩
theorem tw17377126412373271015:True:=⟨⟩
theorem tw4531429069147537543:True:=⟨⟩
theorem tw13469318545472341388:True:=⟨⟩
theorem tw8779171860619232142:True:=⟨⟩
theorem tw17442912257199536875:True:=⟨⟩
theorem tw2990311732965359710:True:=⟨⟩
theorem tw5801848462154069194:True:=⟨⟩
theorem tw6943482231213170573:True:=⟨⟩
theorem tw14510660280629541473:True:=⟨⟩
theorem tw7973587357895806194:True:=⟨⟩
theorem tw15103536972353563874:True:=⟨⟩
theorem tw9191870808126483431:True:=⟨⟩
theorem tw1617209985155744843:True:=⟨⟩
theorem tw3060460626397212543:True:=⟨⟩
theorem tw6493008303388371505:True:=⟨⟩
theorem tw12088158544583717705:True:=⟨⟩
theorem tw3402980386217941748:True:=⟨⟩
theorem tw15090820541666047761:True:=⟨⟩
theorem tw12359412462722100798:True:=⟨⟩
theorem tw10191696753133945466:True:=⟨⟩
theorem tw12395118295190747207:True:=⟨⟩
theorem tw5909614296626568523:True:=⟨⟩
theorem tw9931816716460518110:True:=⟨⟩
theorem tw3047423576518684788:True:=⟨⟩
theorem tw6453274599589080968:True:=⟨⟩
theorem tw14214826911036437146:True:=⟨⟩
theorem tw16738429296978607853:True:=⟨⟩
theorem tw8108540578436229937:True:=⟨⟩
theorem tw2356631879924157746:True:=⟨⟩
theorem tw8147967592418592009:True:=⟨⟩
theorem tw2769112049811719188:True:=⟨⟩
theorem tw7468408902884150124:True:=⟨⟩
theorem tw2108963761862365243:True:=⟨⟩
theorem tw14064317837418037555:True:=⟨⟩
theorem tw9119293857461180547:True:=⟨⟩
theorem tw11081427018123450144:True:=⟨⟩
theorem tw14980709473232062795:True:=⟨⟩
theorem tw3660936679093931993:True:=⟨⟩
theorem tw9382765649899103710:True:=⟨⟩
theorem tw7651836234707599437:True:=⟨⟩
theorem tw1931574838157158332:True:=⟨⟩
theorem tw1879348650351245959:True:=⟨⟩
theorem tw11532536539183473556:True:=⟨⟩
theorem tw984329317987220789:True:=⟨⟩
theorem tw3463541937081877319:True:=⟨⟩
theorem tw7364602861681324575:True:=⟨⟩
theorem tw2990069970978321087:True:=⟨⟩
theorem tw2449889144314765574:True:=⟨⟩
theorem tw25057201429987798:True:=⟨⟩
theorem tw11979136065424681370:True:=⟨⟩
theorem tw16638332994763977700:True:=⟨⟩
theorem tw13646780889659836927:True:=⟨⟩
theorem tw17063568424206148002:True:=⟨⟩
theorem tw16540930881471524469:True:=⟨⟩
theorem tw2126447280774793394:True:=⟨⟩
theorem tw9749753934752944884:True:=⟨⟩
theorem tw1032505069526019670:True:=⟨⟩
theorem tw5928500721221391525:True:=⟨⟩
theorem tw4531247541445559991:True:=⟨⟩
theorem tw6393464757489032917:True:=⟨⟩
theorem tw6360799348238518018:True:=⟨⟩
theorem tw9456819424216790232:True:=⟨⟩
theorem tw6037777791403246197:True:=⟨⟩
theorem tw1787107200673103788:True:=⟨⟩
theorem tw16715680138880398560:True:=⟨⟩
theorem tw3792150083703065982:True:=⟨⟩
theorem tw9942854315240220709:True:=⟨⟩
theorem tw8642559067746812850:True:=⟨⟩
theorem tw8363148757629523540:True:=⟨⟩
theorem tw18141258880019740379:True:=⟨⟩
theorem tw16455203134660202841:True:=⟨⟩
theorem tw13468385251864456823:True:=⟨⟩
theorem tw4948855421719490634:True:=⟨⟩
theorem tw4001457511019473039:True:=⟨⟩
theorem tw894107782708185654:True:=⟨⟩
theorem tw10949718306181768204:True:=⟨⟩
theorem tw7766908410797594312:True:=⟨⟩
theorem tw6758173574556093506:True:=⟨⟩
theorem tw8800431041070509783:True:=⟨⟩
theorem tw11253710270555237016:True:=⟨⟩
theorem tw7984481551674939038:True:=⟨⟩
theorem tw3486723893036766803:True:=⟨⟩
theorem tw16891520828879567593:True:=⟨⟩
theorem tw5091350914867752614:True:=⟨⟩
theorem tw15301353225578624313:True:=⟨⟩
theorem tw12784137488840344209:True:=⟨⟩
theorem tw5925304531832806970:True:=⟨⟩
theorem tw4272443717928200365:True:=⟨⟩
theorem tw12698942917634718603:True:=⟨⟩
theorem tw250724271940551965:True:=⟨⟩
theorem tw809971023409056296:True:=⟨⟩
theorem tw18251150534381370768:True:=⟨⟩
theorem tw13207445499870322669:True:=⟨⟩
theorem tw2136888268932245013:True:=⟨⟩
theorem tw16631638761024028562:True:=⟨⟩
theorem tw12800997404657656192:True:=⟨⟩
theorem tw5203767396539817749:True:=⟨⟩
theorem tw3097166518061201704:True:=⟨⟩
theorem tw4717654017078143654:True:=⟨⟩
theorem tw18019478846407220815:True:=⟨⟩
theorem tw6238162074121691997:True:=⟨⟩
theorem tw13768295445995168912:True:=⟨⟩
theorem tw4020321512730744655:True:=⟨⟩
theorem tw2367618826561235696:True:=⟨⟩
theorem tw615674736870440945:True:=⟨⟩
theorem tw8065920497598899776:True:=⟨⟩
theorem tw15191579460534920666:True:=⟨⟩
theorem tw9834896265840584545:True:=⟨⟩
theorem tw7418778976871387198:True:=⟨⟩
theorem tw2623130213553390851:True:=⟨⟩
theorem tw17048861347830081487:True:=⟨⟩
theorem tw8345366104957642123:True:=⟨⟩
theorem tw16730665260891833016:True:=⟨⟩
theorem tw1662680480027834859:True:=⟨⟩
theorem tw9161326649123853763:True:=⟨⟩
theorem tw14342148964104363333:True:=⟨⟩
theorem tw3286963306034259099:True:=⟨⟩
theorem tw1025421055911521426:True:=⟨⟩
theorem tw3007781595536754481:True:=⟨⟩
theorem tw11153258991729135738:True:=⟨⟩
theorem tw14472753914779276088:True:=⟨⟩
theorem tw13495733576126578748:True:=⟨⟩
theorem tw15503824498591061530:True:=⟨⟩
theorem tw1352925565111561755:True:=⟨⟩
theorem tw10686981873337859931:True:=⟨⟩
theorem tw2671421366383193887:True:=⟨⟩
theorem tw12663200494614407574:True:=⟨⟩
theorem tw18376440725419151620:True:=⟨⟩
theorem tw17308713692068450198:True:=⟨⟩
theorem tw5858988257725350915:True:=⟨⟩
theorem tw1836901660661362197:True:=⟨⟩
theorem tw8963739474331904773:True:=⟨⟩
theorem tw9578079572458828633:True:=⟨⟩
theorem tw5436434674326394315:True:=⟨⟩
theorem tw16565451473518323588:True:=⟨⟩
theorem tw16686898776239975625:True:=⟨⟩
theorem tw1143031499663966400:True:=⟨⟩
theorem tw754285140521276078:True:=⟨⟩
theorem tw15210545484547487261:True:=⟨⟩
theorem tw17889488521886093340:True:=⟨⟩
theorem tw12727422269933815505:True:=⟨⟩
theorem tw3770970180215259587:True:=⟨⟩
theorem tw1262596891074001743:True:=⟨⟩
theorem tw6671275844181521660:True:=⟨⟩
theorem tw6173785857712799246:True:=⟨⟩
theorem tw6108121840772634480:True:=⟨⟩
theorem tw401881018233993473:True:=⟨⟩
theorem tw14401057463952056089:True:=⟨⟩
theorem tw10388262933293890799:True:=⟨⟩
theorem tw10783180990234680451:True:=⟨⟩
theorem tw13116479308923629230:True:=⟨⟩
theorem tw13177813741639216242:True:=⟨⟩
theorem tw5162195762927539322:True:=⟨⟩
theorem tw14482411036446648992:True:=⟨⟩
theorem tw2896239165755899801:True:=⟨⟩
theorem tw11689101747017851002:True:=⟨⟩
theorem tw2693518484206568101:True:=⟨⟩
theorem tw13948321209307596347:True:=⟨⟩
theorem tw17809598279345394790:True:=⟨⟩
theorem tw10272945827294731763:True:=⟨⟩
theorem tw7144204963605084020:True:=⟨⟩
theorem tw7564388264429737131:True:=⟨⟩
theorem tw16002275771583573063:True:=⟨⟩
theorem tw4412774973255168245:True:=⟨⟩
theorem tw9576509576237968856:True:=⟨⟩
theorem tw16551099636954766609:True:=⟨⟩
theorem tw14136071263411553132:True:=⟨⟩
theorem tw9385338347493957240:True:=⟨⟩
theorem tw15094513730231002278:True:=⟨⟩
theorem tw14273107555417637312:True:=⟨⟩
theorem tw4138052882804363771:True:=⟨⟩
theorem tw8651155517412177002:True:=⟨⟩
theorem tw15423517189023148729:True:=⟨⟩
theorem tw4080356022357140193:True:=⟨⟩
theorem tw2938485121324201371:True:=⟨⟩
theorem tw9904148209474510085:True:=⟨⟩
theorem tw4390364239675586117:True:=⟨⟩
theorem tw14985072899513622881:True:=⟨⟩
theorem tw15409490714596824324:True:=⟨⟩
theorem tw4080911265041974390:True:=⟨⟩
theorem tw17434558074447078469:True:=⟨⟩
theorem tw8648657475505837473:True:=⟨⟩
theorem tw13808098181718039452:True:=⟨⟩
theorem tw5075845328937122775:True:=⟨⟩
theorem tw8309074012945944319:True:=⟨⟩
theorem tw2998908863845618366:True:=⟨⟩
theorem tw17940350126747785721:True:=⟨⟩
theorem tw11441457520234764932:True:=⟨⟩
theorem tw3417371867481628934:True:=⟨⟩
theorem tw17229596565132584786:True:=⟨⟩
theorem tw251428691436539198:True:=⟨⟩
theorem tw17333751506050260841:True:=⟨⟩
theorem tw11967794556566744701:True:=⟨⟩
theorem tw1230165769213727595:True:=⟨⟩
theorem tw2780089739463094493:True:=⟨⟩
theorem tw347690199843504371:True:=⟨⟩
theorem tw874560916049252497:True:=⟨⟩
theorem tw9025149566346154062:True:=⟨⟩
theorem tw10394020385760895458:True:=⟨⟩
theorem tw14561612689546069011:True:=⟨⟩
theorem tw7706799133477932308:True:=⟨⟩
theorem tw17123624166458819686:True:=⟨⟩
theorem tw13768616753378389029:True:=⟨⟩
theorem tw12537377171073117298:True:=⟨⟩
theorem tw4013735811783285400:True:=⟨⟩
theorem tw8077335385857423075:True:=⟨⟩
theorem tw7233293890168616231:True:=⟨⟩
theorem tw10717248800571377769:True:=⟨⟩
theorem tw6070952261226161663:True:=⟨⟩
theorem tw5693816991731773788:True:=⟨⟩
theorem tw9874975876783469125:True:=⟨⟩
theorem tw5992752038692463406:True:=⟨⟩
theorem tw992009045571396808:True:=⟨⟩
theorem tw10739083370922719757:True:=⟨⟩
theorem tw6702375812892037697:True:=⟨⟩
theorem tw8278277071617436480:True:=⟨⟩
theorem tw455246448094233425:True:=⟨⟩
theorem tw7357430904608827199:True:=⟨⟩
end hd2
end Mine
open PySem PySem.W PyProof.Rows PySem.Calls
set_option maxRecDepth 100000
set_option maxHeartbeats 0
set_option Elab.async true
theorem Mine.hd2:PySem.Challenge.rw_nz0102_01.Holds:=by
 w_on;o_law;k_head;(case hw=>w_witness2)
 k_fill
 intro w s₀ s₁ mg mb G Y fa o pm cd doc dV kV ho hd hcd hD hmg hg args vals as hpre hlay hrd hwl hlo
 have KX:=kIn_of Y
 have T:=G.T
 have hlow:∃ b o,sysModules < b∧s₁.heap.get? b=some o:=by
  obtain ⟨_,⟨o,_,_,ho,_⟩,_⟩:=T.nodigits
  exact ⟨_,o,by decide,ho⟩
 clear hd hcd hD ho
 have hlo0:=hlo
 wrow_args hpre hlay hrd hwl hlo
 x_fa T KX hmg
 rename_i ns _ _ _ _ _ as1 as2 la xs as0 hL ra hW r0 hI hr hc _
 obtain ⟨vs,e1,e2⟩:=Mine.Z.well_list (xs:=ofPys (ns.map .int)) hW
 have hi:=Mine.Z.well_ints e2
 have hsys:(la==sysModules)=false:=by
  cases r0 with
  | list _ _ _ _=>exact hlo0 _ (List.mem_append_left _ (.head _))
 refine Mine.Z.run_law (by kernel_rfl) (by kernel_rfl) KX T.nolimit T.g T.b T.builtins e1 hi (by omega) hsys hlow fun h' t' hk=>?_
 exact GoodW.toG ⟨.inl ⟨_,_,[],rfl,fun _=>rfl,ReadsW.bool true,by wrow_post,fun _=>⟨List.nodup_nil,fun _ hm=>nomatch hm⟩⟩,hk,rfl,hg⟩
theorem PySem.Challenge.cw_nz0102_01_holds : PySem.Challenge.rw_nz0102_01.Holds :=
 Mine.hd2

