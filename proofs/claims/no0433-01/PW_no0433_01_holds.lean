import PyProof.Rows.All
import Wide.All
import OpenK.AllK
import Wide.FinOn
import PySem.Challenge.RW_no0433_01
set_option Elab.async false
set_option maxRecDepth 100000
set_option maxHeartbeats 0
set_option linter.all false
namespace Mine
section
open PySem PySem.W PyProof.Rows PySem.Calls
inductive SV where
 |none|bool (b:Bool)|int (i:Int)|bytes (b:List UInt8)|ref (n:Nat)|tup (vs:List SV)
inductive SO where
 |inst (C:Addr) (fs:List (Nat×SV))|list (vs:List SV)|dict (es:List (Int×SV))|rod (es:List (Int×SV)) (i:Nat)
abbrev Hp:=List SO
abbrev Loc:=Nat→Option SV
def upd (l:Loc) (x:Nat) (v:SV):Loc:=fun y=>if y=x then some v else l y
inductive R (α:Type) where
 |ok (a:α) (H:Hp)|exc (H:Hp)|fail
def R.bind {α β:Type}:R α→(α→Hp→R β)→R β
 | .ok a H,f=>f a H
 | .exc H,_=> .exc H
 | .fail,_=> .fail
abbrev FT:=Addr→Option (List SV→Hp→R SV)
inductive Fl where
 |next|brk|cont|ret (v:SV)
mutual
inductive ME where
 |loc (x:Nat)|con (v:SV)|glo (n:Nat) (v:SV)
 |attr (e:ME) (f:Nat)
 |bin (op:Operator) (a b:ME)
 |neg (e:ME)
 |cmp (op:CmpOp) (a b:ME)
 |boo (op:BoolOp) (es:MEs)
 |not (e:ME)
 |tup (es:MEs)|lst (es:MEs)|dic
 |idx (a i:ME)|slc (a lo hi:ME)
 |nul
 |call (n:Nat) (f:Addr) (es:MEs)|new (n:Nat) (C:Addr) (es:MEs)|meth (o:ME) (m:Nat) (es:MEs)
 |bui (n:Nat) (es:MEs)
 |compA (x f:Nat) (src:ME)
inductive MEs where
 |nil|cons (e:ME) (r:MEs)
end
inductive Tg where
 |one (x:Nat)|two (x y:Nat)
mutual
inductive MS where
 |asg (x:Nat) (e:ME)|asgG (y x u s:Nat) (src:ME)|asgA (o:ME) (f:Nat) (e:ME)|asgI (o i:ME) (e:ME)|asgT (xs:List Nat) (e:ME)
 |augN (x:Nat) (op:Operator) (e:ME)|augA (o:ME) (f:Nat) (op:Operator) (e:ME)|augI (o i:ME) (op:Operator) (e:ME)
 |ex (e:ME)|exd (e:ME)|ret (e:ME)
 |ite (c:ME) (a b:MSs)|whl (c:ME) (b:MSs)
 |forR (x:Nat) (args:MEs) (b:MSs)|forE (t:Tg) (e:ME) (b:MSs)
 |brk|cont|del (o i:ME)|rai|try1 (b h:MSs)
inductive MSs where
 |nil|cons (s:MS) (r:MSs)
end
def isI (a:Int):Bool:=decide (-(2 ^ 62)<a) && decide (a<2 ^ 62)
def gk (f:Nat) (v:SV):List (Nat×SV)→List (Nat×SV)
 |[]=>[(f,v)]
 |(g,w)::r=>if g=f then(g,v)::r else(g,w)::gk f v r
def gZ (f:Nat):List (Nat×SV)→Option SV
 |[]=>none
 |(g,w)::r=>if g=f then some w else gZ f r
def hW (k:Int) (v:SV):List (Int×SV)→List (Int×SV)
 |[]=>[(k,v)]
 |(g,w)::r=>if g=k then(g,v)::r else(g,w)::hW k v r
def getD (k:Int):List (Int×SV)→Option SV
 |[]=>none
 |(g,w)::r=>if g=k then some w else getD k r
def ml (k:Int):List (Int×SV)→List (Int×SV)
 |[]=>[]
 |(g,w)::r=>if g=k then r else(g,w)::ml k r
def alloc (o:SO) (H:Hp):R SV:= .ok (.ref H.length) (H++[o])
def ag:Nat:=4000
def bp (vs:List SV) (H:Hp):R SV:=if vs.length≤ag then alloc (.list vs) H else .fail
def ltB:List UInt8→List UInt8→Bool
 |_,[]=>false
 |[],_::_=>true
 |a::r,b::t=>if a=b then ltB r t else decide (a<b)
def zp (op:CmpOp) (a b:Int):Option Bool:=match op with
 | .Eq=>some (decide (a=b))| .NotEq=>some (!decide (a=b))| .Lt=>some (decide (a<b))| .LtE=>some (decide (a≤b))| .Gt=>some (decide (b<a))| .GtE=>some (decide (b≤a))
 |_=>none
def cmpB (op:CmpOp) (a b:List UInt8):Option Bool:=match op with
 | .Eq=>some (decide (a=b))| .NotEq=>some (!decide (a=b))| .Lt=>some (ltB a b)| .LtE=>some (!ltB b a)| .Gt=>some (ltB b a)| .GtE=>some (!ltB a b)
 |_=>none
def bE:List SV→Option (List Int)
 |[]=>some []
 | .int i::r=>(bE r).map (i::·)
 |_::_=>none
def isNone:SV→Bool
 | .none=>true
 |_=>false
def R.ofOpt (x:Option Bool) (H:Hp):R Bool:=match x with
 |some b=> .ok b H
 |none=> .fail
def dO (op:CmpOp) (a b:SV) (H:Hp):R Bool:=match op,a,b with
 | .Is,a,.none=> .ok (isNone a) H
 | .IsNot,a,.none=> .ok (!isNone a) H
 |op,.int x,.int y=>R.ofOpt (zp op x y) H
 |op,.bytes x,.bytes y=>R.ofOpt (cmpB op x y) H
 | .NotEq,.bool x,.bool y=> .ok (x != y) H
 | .NotEq,.none,.none=> .ok false H
 | .NotEq,.none,.bytes _=> .ok true H
 | .NotEq,.bytes _,.none=> .ok true H
 | .GtE,.tup [.int a,.int b],.tup [.int c,.int d]=> .ok (decide (c<a) || (decide (a=c) && decide (d≤b))) H
 | .In,.int k,.ref d=>(match H[d]? with|some (.dict es)=> .ok (getD k es).isSome H|_=> .fail)
 | .NotEq,.ref x,.ref y=>(match H[x]?,H[y]? with
   |some (.list u),some (.list v)=>(match bE u,bE v with|some p,some q=> .ok (!decide (p=q)) H|_,_=> .fail)
   |_,_=> .fail)
 | .Eq,.ref x,.ref y=>(match H[x]?,H[y]? with
   |some (.list u),some (.list v)=>(match bE u,bE v with|some p,some q=> .ok (decide (p=q)) H|_,_=> .fail)
   |_,_=> .fail)
 |_,_,_=> .fail
def uR (x y:Int):Option Int:=if 1≤x∧x≤8∧0≤y∧y≤8 then some (x ^ y.toNat) else none
def gH (op:Operator) (a b:SV) (H:Hp):R SV:=match op,a,b with
 | .Add,.int x,.int y=> .ok (.int (x+y)) H
 | .Sub,.int x,.int y=> .ok (.int (x - y)) H
 | .Mult,.int x,.int y=>if isI x then .ok (.int (x*y)) H else .fail
 | .FloorDiv,.int x,.int y=>if isI x && isI y && decide (0<y) then .ok (.int (x.fdiv y)) H else .fail
 | .Mod,.int x,.int y=>if 0<y then .ok (.int (x.fmod y)) H else .fail
 | .Pow,.int x,.int y=>(match uR x y with|some z=> .ok (.int z) H|none=> .fail)
 | .BitAnd,.int x,.int y=> .ok (.int (Builtin.bitAnd x y)) H
 | .BitOr,.int x,.int y=> .ok (.int (Builtin.bitOr x y)) H
 | .LShift,.int x,.int y=>if isI x && decide (0≤y) && decide (y≤64) then .ok (.int (x*2 ^ y.toNat)) H else .fail
 | .RShift,.int x,.int y=>if 0≤y then .ok (.int (x.fdiv (2 ^ y.toNat))) H else .fail
 | .Add,.bytes x,.bytes y=>if x.length+y.length≤ag then .ok (.bytes (x++y)) H else .fail
 | .Add,.ref x,.ref y=>(match H[x]?,H[y]? with
   |some (.list u),some (.list v)=>bp (u++v) H
   |_,_=> .fail)
 | .Mult,.ref x,.int y=>(match H[x]? with
   |some (.list [v])=>if 0≤y∧y≤100 then bp (List.replicate y.toNat v) H else .fail
   |_=> .fail)
 |_,_,_=> .fail
def dv {α:Type} (vs:List α) (i:Int):Option α:=if 0≤i then vs[i.toNat]? else none
def tF (b:UInt8):SV:= .int (b.toNat:Int)
def j4 (a i:SV) (H:Hp):R SV:=match a,i with
 | .tup vs,.int i=>if i<2 ^ 62 then(match dv vs i with|some v=> .ok v H|none=> .fail) else .fail
 | .bytes bs,.int i=>if bs.length≤ag then(match dv bs i with|some b=> .ok (tF b) H|none=> .fail) else .fail
 | .ref n,.int i=>(match H[n]? with
   |some (.list vs)=>if i<2 ^ 62 then(match dv vs i with|some v=> .ok v H|none=> .fail) else .fail
   |some (.dict es)=>(match getD i es with|some v=> .ok v H|none=> .fail)
   |some (.rod es _)=>(match getD i es with|some v=> .ok v H|none=> .fail)
   |_=> .fail)
 |_,_=> .fail
def ss {α:Type} (vs:List α) (lo hi:Option Int):Option (List α):=match lo,hi with
 |none,some h=>if 0≤h∧h<2 ^ 62 then some (vs.take h.toNat) else none
 |some l,none=>if 0≤l∧l<2 ^ 62 then some (vs.drop l.toNat) else none
 |_,_=>none
def zo:SV→Option (Option Int)
 | .none=>some none
 | .int i=>some (some i)
 |_=>none
def oh (a lo hi:SV) (H:Hp):R SV:=match zo lo,zo hi with
 |some l,some h=>(match a with
  | .bytes bs=>if bs.length≤ag then(match ss bs l h with|some x=> .ok (.bytes x) H|none=> .fail) else .fail
  | .ref n=>(match H[n]? with
    |some (.list vs)=>if vs.length≤ag then(match ss vs l h with|some x=>bp x H|none=> .fail) else .fail
    |_=> .fail)
  |_=> .fail)
 |_,_=> .fail
def vZ (i:Int):Option UInt8:=if 0≤i∧i<256 then some (UInt8.ofNat i.toNat) else none
def aX:List Int→Option (List UInt8)
 |[]=>some []
 |i::r=>match vZ i,aX r with
  |some b,some bs=>some (b::bs)
  |_,_=>none
def fM:List Int→List Int→Bool
 |[],_=>true
 |_::_,[]=>false
 |a::r,b::t=>if a=b then fM r t else decide (a<b)
def fK {α:Type} (le:α→α→Bool) (x:α):List α→List α
 |[]=>[x]
 |y::r=>if le x y then x::y::r else y::fK le x r
def cd {α:Type} (le:α→α→Bool):List α→List α
 |[]=>[]
 |x::r=>fK le x (cd le r)
def iy:List SV→Option (List (List Int))
 |[]=>some []
 | .tup vs::r=>(match bE vs,iy r with|some i,some l=>some (i::l)|_,_=>none)
 |_::_=>none
def mX (vs:List SV):Option (List SV):=match bE vs with
 |some is=>some ((cd (fun a b=>decide (a≤b)) is).map SV.int)
 |none=>(match iy vs with
  |some ls=>if ls.length<7∧ls.Nodup∧ls.all (fun l=> !l.isEmpty)=true then some ((cd fM ls).map fun l=>SV.tup (l.map SV.int)) else none
  |none=>none)
structure Tb where
 meth:Addr→Nat→Option Addr
 init:Addr→Option Addr
 plain:Addr→Bool
 fld:Addr→Nat→Bool
 nLen:Nat
 nSorted:Nat
 nBytes:Nat
 nMin:Nat
 nSum:Nat
 nAppend:Nat
 nInsert:Nat
 nGet:Nat
def iF {α:Type} (vs:List α) (i:Nat) (v:α):List α:=vs.take i++v::vs.drop i
section
variable (T:Tb) (Γ:FT)
def gC (v:SV) (f:Nat) (H:Hp):R SV:=match v with
 | .ref n=>(match H[n]? with
   |some (.inst C fs)=>if T.fld C f then(match gZ f fs with|some w=> .ok w H|none=> .fail) else .fail
   |_=> .fail)
 |_=> .fail
def qJ (v:SV) (f:Nat) (w:SV) (H:Hp):R Unit:=match v with
 | .ref n=>(match H[n]? with
   |some (.inst C fs)=>if T.fld C f && decide (fs.length≤100) then .ok () (H.set n (.inst C (gk f w fs))) else .fail
   |_=> .fail)
 |_=> .fail
def qI (v i w:SV) (H:Hp):R Unit:=match v,i with
 | .ref n,.int k=>(match H[n]? with
   |some (.dict es)=>if es.length≤ag then .ok () (H.set n (.dict (hW k w es))) else .fail
   |some (.list vs)=>if 0≤k∧k<(vs.length:Int)∧k<2 ^ 62 then .ok () (H.set n (.list (vs.set k.toNat w))) else .fail
   |_=> .fail)
 |_,_=> .fail
def tK (v i:SV) (H:Hp):R Unit:=match v,i with
 | .ref n,.int k=>(match H[n]? with
   |some (.dict es)=>if(getD k es).isSome && decide (es.length≤ag) then .ok () (H.set n (.dict (ml k es))) else .fail
   |_=> .fail)
 |_,_=> .fail
inductive MK where
 |fn (f:Addr)|app|ins|get
def jn (v:SV) (m:Nat) (H:Hp):R MK:=match v with
 | .ref n=>(match H[n]? with
   |some (.inst C fs)=>(match T.meth C m with
    |some f=>if(gZ m fs).isNone then .ok (.fn f) H else .fail
    |none=> .fail)
   |some (.list _)=>if m=T.nAppend then .ok .app H else if m=T.nInsert then .ok .ins H else .fail
   |some (.dict _)=>if m=T.nGet then .ok .get H else .fail
   |_=> .fail)
 |_=> .fail
def fN (k:MK) (v:SV) (vs:List SV) (H:Hp):R SV:=match k,v with
 | .fn f,v=>(match Γ f with|some D=>D (v::vs) H|none=> .fail)
 | .app,.ref n=>(match H[n]?,vs with
   |some (.list its),[x]=>if its.length<ag then .ok .none (H.set n (.list (its++[x]))) else .fail
   |_,_=> .fail)
 | .ins,.ref n=>(match H[n]?,vs with
   |some (.list its),[.int i,x]=>if 0≤i∧i≤(its.length:Int)∧its.length<ag then .ok .none (H.set n (.list (iF its i.toNat x))) else .fail
   |_,_=> .fail)
 | .get,.ref n=>(match H[n]?,vs with
   |some (.dict es),[.int k,d]=> .ok ((getD k es).getD d) H
   |_,_=> .fail)
 |_,_=> .fail
def gI (n:Nat) (vs:List SV) (H:Hp):R SV:=
 if n=T.nLen then(match vs with
  |[.bytes b]=>if b.length≤ag then .ok (.int (b.length:Int)) H else .fail
  |[.ref r]=>(match H[r]? with
   |some (.list its)=>if its.length≤ag then .ok (.int (its.length:Int)) H else .fail
   |_=> .fail)
  |_=> .fail)
 else if n=T.nSorted then(match vs with
  |[.ref r]=>(match H[r]? with
   |some (.list its)=>if its.length<64 then(match mX its with|some x=>bp x H|none=> .fail) else .fail
   |some (.dict es)=>if es.length<64 then bp ((cd (fun a b=>decide (a≤b)) (es.map (·.1))).map SV.int) H else .fail
   |_=> .fail)
  |_=> .fail)
 else if n=T.nBytes then(match vs with
  |[.bytes b]=> .ok (.bytes b) H
  |[.ref r]=>(match H[r]? with
   |some (.list its)=>(match bE its with
    |some is=>if is.length≤ag then(match aX is with|some b=> .ok (.bytes b) H|none=> .fail) else .fail
    |none=> .fail)
   |_=> .fail)
  |_=> .fail)
 else if n=T.nMin then(match vs with
  |[.int a,.int b]=> .ok (.int (if b<a then b else a)) H
  |_=> .fail)
 else if n=T.nSum then(match vs with
  |[.ref r]=>(match H[r]? with
   |some (.list its)=>(match bE its with
    |some is=>if is.length≤ag then .ok (.int is.sum) H else .fail
    |none=> .fail)
   |_=> .fail)
  |_=> .fail)
 else .fail
def fC (C:Addr) (vs:List SV) (H:Hp):R SV:=if T.plain C then(match vs with|[]=>alloc (.inst C []) H|_=> .fail) else match T.init C with
 |some f=>(match Γ f with
  |some D=>(D (.ref H.length::vs) (H++[.inst C []])).bind fun r H'=>match r with
   | .none=> .ok (.ref H.length) H'
   |_=> .fail
  |none=> .fail)
 |none=> .fail
def e6:List SV→Bool
 |[]=>true
 | .tup _::_=>false
 |_::r=>e6 r
def iT (v:SV) (H:Hp):R Bool:=match v with
 | .bool b=> .ok b H
 |_=> .fail
def fW (f:Nat) (H:Hp):List SV→Option (List SV)
 |[]=>some []
 |v::r=>match gC T v f H with
  | .ok w _=>(fW f H r).map (w::·)
  |_=>none
mutual
def evE:ME→Loc→Hp→R SV
 | .loc x,l,H=>(match l x with|some v=> .ok v H|none=> .fail)
 | .con v,_,H=> .ok v H
 | .glo _ v,_,H=> .ok v H
 | .attr e f,l,H=>(evE e l H).bind fun v H₁=>gC T v f H₁
 | .bin op a b,l,H=>(evE a l H).bind fun v H₁=>(evE b l H₁).bind fun w H₂=>gH op v w H₂
 | .neg e,l,H=>(evE e l H).bind fun v H₁=>(match v with| .int i=> .ok (.int (-i)) H₁|_=> .fail)
 | .cmp op a b,l,H=>(evE a l H).bind fun v H₁=>(evE b l H₁).bind fun w H₂=>(dO op v w H₂).bind fun c H₃=> .ok (.bool c) H₃
 | .boo op es,l,H=>evB op es l H
 | .not e,l,H=>(evE e l H).bind fun v H₁=>(iT v H₁).bind fun b H₂=> .ok (.bool (!b)) H₂
 | .tup es,l,H=>(dB es l H).bind fun vs H₁=>if e6 vs && decide (vs.length≤ag) then .ok (.tup vs) H₁ else .fail
 | .lst es,l,H=>(dB es l H).bind fun vs H₁=>bp vs H₁
 | .dic,_,H=>alloc (.dict []) H
 | .idx a i,l,H=>(evE a l H).bind fun v H₁=>(evE i l H₁).bind fun w H₂=>j4 v w H₂
 | .slc a lo hi,l,H=>(evE a l H).bind fun v H₁=>(evE lo l H₁).bind fun x H₂=>(evE hi l H₂).bind fun y H₃=>oh v x y H₃
 | .nul,_,H=> .ok .none H
 | .call _ f es,l,H=>(dB es l H).bind fun vs H₁=>(match Γ f with|some D=>D vs H₁|none=> .fail)
 | .new _ C es,l,H=>(dB es l H).bind fun vs H₁=>fC T Γ C vs H₁
 | .meth o m es,l,H=>(evE o l H).bind fun v H₁=>(jn T v m H₁).bind fun k H₁'=>(dB es l H₁').bind fun vs H₂=>fN Γ k v vs H₂
 | .bui n es,l,H=>(dB es l H).bind fun vs H₁=>gI T n vs H₁
 | .compA _ f src,l,H=>(evE src l H).bind fun v H₁=>(match v with
   | .ref r=>(match H₁[r]? with
     |some (.list its)=>if its.length≤ag then(match fW T f H₁ its with|some vs=>bp vs H₁|none=> .fail) else .fail
     |_=> .fail)
   |_=> .fail)
def dB:MEs→Loc→Hp→R (List SV)
 | .nil,_,H=> .ok [] H
 | .cons e r,l,H=>(evE e l H).bind fun v H₁=>(dB r l H₁).bind fun vs H₂=> .ok (v::vs) H₂
def evB (op:BoolOp):MEs→Loc→Hp→R SV
 | .nil,_,_=> .fail
 | .cons e .nil,l,H=>evE e l H
 | .cons e r,l,H=>(evE e l H).bind fun v H₁=>(iT v H₁).bind fun b H₂=>(match op,b with
   | .And,false=> .ok v H₂
   | .Or,true=> .ok v H₂
   |_,_=>evB op r l H₂)
def evC:ME→Loc→Hp→R Bool
 | .not e,l,H=>(evC e l H).bind fun b H₁=> .ok (!b) H₁
 | .boo op es,l,H=>iB op es l H
 | .cmp op a b,l,H=>(evE a l H).bind fun v H₁=>(evE b l H₁).bind fun w H₂=>dO op v w H₂
 | .nul,_,H=> .ok true H
 |e,l,H=>(evE e l H).bind fun v H₁=>iT v H₁
def iB (op:BoolOp):MEs→Loc→Hp→R Bool
 | .nil,_,H=> .ok (match op with| .And=>true| .Or=>false) H
 | .cons e r,l,H=>(evC e l H).bind fun b H₁=>(match op,b with
   | .And,false=> .ok false H₁
   | .Or,true=> .ok true H₁
   |_,_=>iB op r l H₁)
end
end
abbrev FR:=R (Fl×Loc)
abbrev fv:=Loc→Hp→FR
def aP (t:Loc→Hp→R Bool) (b:fv):Nat→Loc→Hp→FR
 |0,_,_=> .fail
 |k+1,l,H=>(t l H).bind fun c H₁=>if c then(b l H₁).bind fun q H₂=>(match q with
   |(.next,l')=>aP t b k l' H₂
   |(.cont,l')=>aP t b k l' H₂
   |(.brk,l')=> .ok (.next,l') H₂
   |(.ret v,l')=> .ok (.ret v,l') H₂)
  else .ok (.next,l) H₁
def R.bad {α:Type}:R α→Bool
 | .fail=>true
 |_=>false
open Classical in
noncomputable def cx (t:Loc→Hp→R Bool) (b:fv) (l:Loc) (H:Hp):FR:=
 if h:∃n,(aP t b n l H).bad=false then aP t b h.choose l H else .fail
def Tg.put:Tg→SV→Loc→Option Loc
 | .one x,v,l=>some (upd l x v)
 | .two x y,.tup [a,b],l=>some (upd (upd l x a) y b)
 |_,_,_=>none
def gJ (tg:Tg) (b:fv) (n:Nat):Nat→Nat→Loc→Hp→FR
 |0,_,_,_=> .fail
 |k+1,i,l,H=>(match H[n]? with
  |some (.list vs)=>(match vs[i]? with
   |none=> .ok (.next,l) H
   |some v=>(match tg.put v l with
    |none=> .fail
    |some l₁=>(b l₁ H).bind fun q H₂=>(match q with
     |(.next,l')=>gJ tg b n k (i+1) l' H₂
     |(.cont,l')=>gJ tg b n k (i+1) l' H₂
     |(.brk,l')=> .ok (.next,l') H₂
     |(.ret v,l')=> .ok (.ret v,l') H₂)))
  |_=> .fail)
def lg (x:Nat) (b:fv) (n:Nat):Nat→Loc→Hp→FR
 |0,_,_=> .fail
 |k+1,l,H=>(match H[n]? with
  |some (.rod es i)=>(match es[i]? with
   |none=> .ok (.next,l) (H.set n (.dict es))
   |some p=>(match b (upd l x (.int p.1)) (H.set n (.rod es (i+1))) with
     | .ok (.next,l') H₂=>lg x b n k l' H₂
     | .ok (.cont,l') H₂=>lg x b n k l' H₂
     |_=> .fail))
  |_=> .fail)
def ln (op:Operator) (a b:SV) (H:Hp):R SV:=match op,a,b with
 | .Add,.int x,.int y=> .ok (.int (x+y)) H
 | .Sub,.int x,.int y=> .ok (.int (x - y)) H
 | .Mult,.int x,.int y=>if isI x then .ok (.int (x*y)) H else .fail
 |_,_,_=> .fail
def jC (x:Nat) (b:fv):List Int→Loc→Hp→FR
 |[],l,H=> .ok (.next,l) H
 |k::r,l,H=>(b (upd l x (.int k)) H).bind fun q H₂=>(match q with
   |(.next,l')=>jC x b r l' H₂
   |(.cont,l')=>jC x b r l' H₂
   |(.brk,l')=> .ok (.next,l') H₂
   |(.ret v,l')=> .ok (.ret v,l') H₂)
def dy (a d:Int):Nat→List Int
 |0=>[]
 |n+1=>a::dy (a+d) d n
def cT (i:Int):Bool:=decide (-(2 ^ 40)<i) && decide (i<2 ^ 40)
def bH:List SV→Option (List Int)
 |[.int b]=>if cT b then some (dy 0 1 b.toNat) else none
 |[.int a,.int b]=>if cT a && cT b then some (dy a 1 (b - a).toNat) else none
 |[.int a,.int b,.int d]=>if d= -1 && cT a && cT b then some (dy a (-1) (a - b).toNat) else none
 |_=>none
def dR:List Nat→List SV→Loc→Option Loc
 |[],[],l=>some l
 |x::xs,v::vs,l=>dR xs vs (upd l x v)
 |_,_,_=>none
def geL (u s:Int):List SV→Option (List SV)
 |[]=>some []
 | .tup (.int a:: .int b::t)::r=>(geL u s r).map fun z=>if decide (u<a) || (decide (a=u) && decide (0 - s≤b)) then .tup (.int a:: .int b::t)::z else z
 |_=>none
section
variable (T:Tb) (Γ:FT)
mutual
noncomputable def exS:MS→Loc→Hp→FR
 | .asg x e,l,H=>(evE T Γ e l H).bind fun v H₁=> .ok (.next,upd l x v) H₁
 | .asgG y _ u s src,l,H=>(match l u,l s with
   |some (.int i),some (.int j)=>(evE T Γ src l H).bind fun v H₁=>(match v with
    | .ref r=>(match H₁[r]? with
      |some (.list its)=>if its.length≤ag then(match geL i j its with|some vs=>(bp vs H₁).bind fun w H₂=> .ok (.next,upd l y w) H₂|none=> .fail) else .fail
      |_=> .fail)
    |_=> .fail)
   |_,_=> .fail)
 | .asgA o f e,l,H=>(evE T Γ e l H).bind fun v H₁=>(evE T Γ o l H₁).bind fun ov H₂=>(qJ T ov f v H₂).bind fun _ H₃=> .ok (.next,l) H₃
 | .asgI o i e,l,H=>(evE T Γ e l H).bind fun v H₁=>(evE T Γ o l H₁).bind fun ov H₂=>(evE T Γ i l H₂).bind fun iv H₃=>(qI ov iv v H₃).bind fun _ H₄=> .ok (.next,l) H₄
 | .asgT xs e,l,H=>(evE T Γ e l H).bind fun v H₁=>(match v with
   | .tup vs=>(match dR xs vs l with|some l'=> .ok (.next,l') H₁|none=> .fail)
   |_=> .fail)
 | .augN x op e,l,H=>(match l x with
   |some old=>(evE T Γ e l H).bind fun v H₁=>(ln op old v H₁).bind fun w H₂=> .ok (.next,upd l x w) H₂
   |none=> .fail)
 | .augA o f op e,l,H=>(evE T Γ o l H).bind fun ov H₁=>(gC T ov f H₁).bind fun old H₂=>(evE T Γ e l H₂).bind fun v H₃=>(ln op old v H₃).bind fun w H₄=>(qJ T ov f w H₄).bind fun _ H₅=> .ok (.next,l) H₅
 | .augI o i op e,l,H=>(evE T Γ o l H).bind fun ov H₁=>(evE T Γ i l H₁).bind fun iv H₂=>(j4 ov iv H₂).bind fun old H₃=>(evE T Γ e l H₃).bind fun v H₄=>(ln op old v H₄).bind fun w H₅=>(qI ov iv w H₅).bind fun _ H₆=> .ok (.next,l) H₆
 | .ex e,l,H=>(evE T Γ e l H).bind fun v H₁=>(match v with| .none=> .ok (.next,l) H₁|_=> .fail)
 | .exd e,l,H=>(evE T Γ e l H).bind fun _ H₁=> .ok (.next,l) H₁
 | .ret e,l,H=>(evE T Γ e l H).bind fun v H₁=> .ok (.ret v,l) H₁
 | .ite c a b,l,H=>(evC T Γ c l H).bind fun t H₁=>if t then aM a l H₁ else aM b l H₁
 | .whl c b,l,H=>cx (evC T Γ c) (aM b) l H
 | .forR x args b,l,H=>(dB T Γ args l H).bind fun vs H₁=>(match bH vs with
   |some is=>jC x (aM b) is l H₁
   |none=> .fail)
 | .forE tg e b,l,H=>(evE T Γ e l H).bind fun v H₁=>(match v with
   | .ref n=>(match H₁[n]? with
     |some (.list vs)=>gJ tg (aM b) n (vs.length+1) 0 l H₁
     |some (.dict es)=>(match tg with| .one x=>lg x (aM b) n (es.length+1) l (H₁.set n (.rod es 0))|_=> .fail)
     |_=> .fail)
   |_=> .fail)
 | .brk,l,H=> .ok (.brk,l) H
 | .cont,l,H=> .ok (.cont,l) H
 | .del o i,l,H=>(evE T Γ o l H).bind fun ov H₁=>(evE T Γ i l H₁).bind fun iv H₂=>(tK ov iv H₂).bind fun _ H₃=> .ok (.next,l) H₃
 | .rai,_,_=> .fail
 | .try1 b h,l,H=>(match aM b l H with
   | .exc H₁=>aM h l H₁
   |r=>r)
noncomputable def aM:MSs→Loc→Hp→FR
 | .nil,l,H=> .ok (.next,l) H
 | .cons s r,l,H=>(exS s l H).bind fun q H₁=>(match q with
   |(.next,l')=>aM r l' H₁
   |q=> .ok q H₁)
end
def aN:List Nat→List SV→Loc
 |x::xs,v::vs=>fun y=>if y=x then some v else aN xs vs y
 |_,_=>fun _=>none
noncomputable def aj (ps:List Nat) (b:MSs) (vs:List SV) (H:Hp):R SV:=
 if ps.length=vs.length then(aM T Γ b (aN ps vs) H).bind fun q H₁=>(match q with
  |(.ret v,_)=> .ok v H₁
  |(.next,_)=> .ok .none H₁
  |_=> .fail) else .fail
end
theorem fq (t:Loc→Hp→R Bool) (b:fv):∀(k:Nat) (l:Loc) (H:Hp),(aP t b k l H).bad=false→∀j,k≤j→aP t b j l H=aP t b k l H
 |0,_,_,h,_,_=>by cases h
 |k+1,l,H,h,j,hj=>by
  obtain⟨j,rfl⟩:∃i,j=i+1:=⟨j - 1,by omega⟩
  have hj':k≤j:=by omega
  unfold aP at h⊢
  cases ht:t l H with
  |fail=>rfl
  |exc H₁=>rfl
  |ok c H₁=>
   rw[ht] at h
   simp only[R.bind] at h⊢
   cases c with
   |false=>rfl
   |true=>
    simp only[if_true] at h⊢
    cases hb:b l H₁ with
    |fail=>rfl
    |exc H₂=>rfl
    |ok q H₂=>
     rw[hb] at h
     obtain⟨f,l'⟩:=q
     cases f with
     |next=>exact fq t b k l' H₂ h j hj'
     |cont=>exact fq t b k l' H₂ h j hj'
     |brk=>rfl
     |ret v=>rfl
theorem dW (t:Loc→Hp→R Bool) (b:fv) {k:Nat} {l:Loc} {H:Hp} (h:(aP t b k l H).bad=false):cx t b l H=aP t b k l H:=by
 have hx:∃n,(aP t b n l H).bad=false:=⟨k,h⟩
 unfold cx
 rw[dif_pos hx]
 rcases Nat.le_total k hx.choose with q|q
 ·exact fq t b k l H h _ q
 ·exact(fq t b _ l H hx.choose_spec _ q).symm
theorem pW (t:Loc→Hp→R Bool) (b:fv) {l:Loc} {H:Hp} (h:(cx t b l H).bad=false):∃k,cx t b l H=aP t b k l H∧(aP t b k l H).bad=false:=by
 unfold cx at h⊢
 split at h
 ·rename_i q
  exact⟨q.choose,dif_pos q,q.choose_spec⟩
 ·cases h
theorem ib (t:Loc→Hp→R Bool) (b:fv) (l:Loc) (H:Hp):cx t b l H=(t l H).bind fun c H₁=>if c then(b l H₁).bind fun q H₂=>(match q with
 |(.next,l')=>cx t b l' H₂
 |(.cont,l')=>cx t b l' H₂
 |(.brk,l')=> .ok (.next,l') H₂
 |(.ret v,l')=> .ok (.ret v,l') H₂)
 else .ok (.next,l) H₁:=by
 have key:∀l' H',(∃k,(aP t b k l' H').bad=false)∨∀k,aP t b k l' H'= .fail:=fun l' H'=>by
  by_cases q:∃k,(aP t b k l' H').bad=false
  ·exact .inl q
  ·refine .inr fun k=> ?_
   have:¬(aP t b k l' H').bad=false:=fun e=>q ⟨k,e⟩
   cases z:aP t b k l' H' with
   |fail=>rfl
   |ok a H=>rw[z] at this;exact absurd rfl this
   |exc H=>rw[z] at this;exact absurd rfl this
 have nofuel:∀l' H',(∀k,aP t b k l' H'= .fail)→cx t b l' H'= .fail:=fun l' H' h=>by
  unfold cx
  rw[dif_neg]
  rintro⟨k,hk⟩
  rw[h k] at hk;cases hk
 cases ht:t l H with
 |fail=>
  refine nofuel l H fun k=> ?_
  cases k with
  |zero=>rfl
  |succ k=>unfold aP;rw[ht];rfl
 |exc H₁=>
  have e:aP t b 1 l H= .exc H₁:=by unfold aP;rw[ht];rfl
  rw[dW t b (k:=1) (by rw[e];rfl),e];rfl
 |ok c H₁=>
  cases c with
  |false=>
   have e:aP t b 1 l H= .ok (.next,l) H₁:=by unfold aP;rw[ht];rfl
   rw[dW t b (k:=1) (by rw[e];rfl),e];rfl
  |true=>
   cases hb:b l H₁ with
   |fail=>
    refine(nofuel l H fun k=> ?_).trans (by simp[R.bind,hb])
    cases k with
    |zero=>rfl
    |succ k=>unfold aP;rw[ht];simp[R.bind,hb]
   |exc H₂=>
    have e:aP t b 1 l H= .exc H₂:=by unfold aP;rw[ht];simp[R.bind,hb]
    rw[dW t b (k:=1) (by rw[e];rfl),e];simp[R.bind,hb]
   |ok q H₂=>
    obtain⟨f,l'⟩:=q
    have go:∀l',(∀k,aP t b (k+1) l H=aP t b k l' H₂)→cx t b l H=cx t b l' H₂:=fun l' h=>by
     rcases key l' H₂ with⟨k,hk⟩|hn
     ·rw[dW t b hk,dW t b (k:=k+1) (by rw[h k];exact hk),h k]
     ·rw[nofuel l' H₂ hn]
      refine nofuel l H fun k=> ?_
      cases k with
      |zero=>rfl
      |succ k=>rw[h k,hn k]
    cases f with
    |next=>
     refine(go l' fun k=> ?_).trans (by simp[R.bind,hb])
     conv=>lhs;unfold aP
     rw[ht];simp[R.bind,hb]
    |cont=>
     refine(go l' fun k=> ?_).trans (by simp[R.bind,hb])
     conv=>lhs;unfold aP
     rw[ht];simp[R.bind,hb]
    |brk=>
     have e:aP t b 1 l H= .ok (.next,l') H₂:=by unfold aP;rw[ht];simp[R.bind,hb]
     rw[dW t b (k:=1) (by rw[e];rfl),e];simp[R.bind,hb]
    |ret v=>
     have e:aP t b 1 l H= .ok (.ret v,l') H₂:=by unfold aP;rw[ht];simp[R.bind,hb]
     rw[dW t b (k:=1) (by rw[e];rfl),e];simp[R.bind,hb]
def A2 {α β:Type} (p:α→β→Prop):List α→List β→Prop
 |[],[]=>True
 |a::l,b::r=>p a b∧A2 p l r
 |_,_=>False
theorem A2.len {α β:Type} {p:α→β→Prop}:∀{l:List α} {r:List β},A2 p l r→l.length=r.length
 |[],[],_=>rfl
 |_::_,_::_,h=>by simp[A2.len h.2]
theorem A2.imp {α β:Type} {p q:α→β→Prop} (f:∀a b,p a b→q a b):∀{l:List α} {r:List β},A2 p l r→A2 q l r
 |[],[],_=>trivial
 |_::_,_::_,h=>⟨f _ _ h.1,A2.imp f h.2⟩
theorem A2.get {α β:Type} {p:α→β→Prop}:∀{l:List α} {r:List β} {i:Nat} {a:α},A2 p l r→l[i]? =some a→∃b,r[i]? =some b∧p a b
 |x::_,y::_,0,a,h,e=>by cases e;exact⟨y,rfl,h.1⟩
 |_::_,_::_,i+1,a,h,e=>A2.get (i:=i) h.2 (by simpa using e)
 |[],[],i,a,h,e=>by simp at e
theorem A2.append {α β:Type} {p:α→β→Prop}:∀{l l':List α} {r r':List β},A2 p l r→A2 p l' r'→A2 p (l++l') (r++r')
 |[],_,[],_,_,h=>h
 |_::_,_,_::_,_,h,h'=>⟨h.1,A2.append h.2 h'⟩
theorem A2.set {α β:Type} {p:α→β→Prop}:∀{l:List α} {r:List β} (i:Nat) {a:α} {b:β},A2 p l r→p a b→A2 p (l.set i a) (r.set i b)
 |[],[],_,_,_,_,_=>trivial
 |_::_,_::_,0,_,_,h,q=>⟨q,h.2⟩
 |_::_,_::_,i+1,_,_,h,q=>⟨h.1,A2.set i h.2 q⟩
theorem A2.take {α β:Type} {p:α→β→Prop}:∀{l:List α} {r:List β} (i:Nat),A2 p l r→A2 p (l.take i) (r.take i)
 |[],[],i,_=>by simp[A2]
 |_::_,_::_,0,_=>trivial
 |_::_,_::_,i+1,h=>⟨h.1,A2.take i h.2⟩
theorem A2.drop {α β:Type} {p:α→β→Prop}:∀{l:List α} {r:List β} (i:Nat),A2 p l r→A2 p (l.drop i) (r.drop i)
 |[],[],i,_=>by simp[A2]
 |_::_,_::_,0,h=>h
 |_::_,_::_,i+1,h=>A2.drop i h.2
theorem A2.rep {α β:Type} {p:α→β→Prop} {a:α} {b:β} (h:p a b):∀n,A2 p (List.replicate n a) (List.replicate n b)
 |0=>trivial
 |n+1=>⟨h,A2.rep h n⟩
abbrev Rh:=List (Addr×Addr)
abbrev Led:=List (Addr×Obj)
def gQ (ws:List Value) (n:Nat):Obj:={cls:= .type "tuple",data:= .seq ws.toArray n}
def V0 (ρ:Rh):SV→Value→Prop
 | .none,.none=>True
 | .bool b,.bool c=>b=c
 | .int i,.int j _=>i=j
 | .bytes b,.bytes a _=>a=b.toArray
 | .ref n,.ref a=>∃d,ρ[n]? =some (a,d)
 |_,_=>False
def V (ρ:Rh) (news:Led):SV→Value→Prop
 | .tup vs,.ref a=>∃ws n,(a,gQ ws n)∈news∧A2 (V0 ρ) vs ws
 | .tup _,_=>False
 |v,w=>V0 ρ v w
structure Ext0 (ρ:Rh) (news:Led) (ρ':Rh) (news':Led):Prop where
 rh:∀(i:Nat) (p:Addr×Addr),ρ[i]? =some p→ρ'[i]? =some p
 tp:∀a ws n,(a,gQ ws n)∈news→(a,gQ ws n)∈news'
def Fo (ρ:Rh) (a:Addr):Prop:=∀(i:Nat) (q:Addr×Addr),ρ[i]? =some q→q.2≠a
structure Ext (ρ:Rh) (news:Led) (ρ':Rh) (news':Led):Prop extends Ext0 ρ news ρ' news' where
 fo:∀p∈news,Fo ρ p.1→p∈news'
 nf:∀(i:Nat) (q:Addr×Addr),ρ'[i]? =some q→ρ[i]? =some q∨∀p∈news,Fo ρ p.1→q.2≠p.1
theorem Ext.refl (ρ:Rh) (news:Led):Ext ρ news ρ news:=⟨⟨fun _ _ h=>h,fun _ _ _ h=>h⟩,fun _ h _=>h,fun _ _ h=> .inl h⟩
theorem Ext.foreign {ρ ρ':Rh} {n n':Led} (a:Ext ρ n ρ' n') {p:Addr×Obj} (hp:p∈n) (f:Fo ρ p.1):Fo ρ' p.1:=fun i q h=>(a.nf i q h).elim (fun h=>f i q h) fun h=>h p hp f
theorem Ext.trans {ρ ρ' ρ'':Rh} {n n' n'':Led} (a:Ext ρ n ρ' n') (b:Ext ρ' n' ρ'' n''):Ext ρ n ρ'' n'':=
 ⟨⟨fun i p h=>b.rh i p (a.rh i p h),fun x ws k h=>b.tp x ws k (a.tp x ws k h)⟩,fun p hp f=>b.fo p (a.fo p hp f) (a.foreign hp f),
   fun i q h=>(b.nf i q h).elim (fun h=>a.nf i q h) fun h=> .inr fun p hp f=>h p (a.fo p hp f) (a.foreign hp f)⟩
theorem V0.ext {ρ ρ':Rh} (h:∀(i:Nat) (p:Addr×Addr),ρ[i]? =some p→ρ'[i]? =some p):∀v w,V0 ρ v w→V0 ρ' v w:=fun v w q=>by
 cases v<;>cases w<;>first|exact q|(obtain⟨d,q⟩:=q;exact⟨d,h _ _ q⟩)
theorem V.ext {ρ ρ':Rh} {n n':Led} (x:Ext0 ρ n ρ' n'):∀v w,V ρ n v w→V ρ' n' v w:=fun v w q=>by
 cases v with
 |tup vs=>
  cases w with
  |ref a=>obtain⟨ws,k,h1,h2⟩:=q;exact⟨ws,k,x.tp _ _ _ h1,h2.imp (V0.ext x.rh)⟩
  |_=>exact q
 |_=>exact V0.ext x.rh _ _ q
section
variable (prog:Program) (w:World) (nm:Nat→Str)
def FE (ρ:Rh) (news:Led) (f:Nat×SV) (e:DictEntry):Prop:=∃t,e.key= .str (nm f.1) t∧V ρ news f.2 e.val
def DE (ρ:Rh) (news:Led) (f:Int×SV) (e:Int×Value):Prop:=f.1=e.1∧V ρ news f.2 e.2
def gR (ws:List Value) (o:Obj):Prop:=∃n,o=listOf ws.toArray n
def Ob (ρ:Rh) (news:Led) (o:SO) (p:Addr×Addr):Prop:=match o with
 | .inst C fs=>(p.1,instObj C p.2)∈news∧∃es n,(p.2,dictOf es n)∈news∧A2 (FE nm ρ news) fs es
 | .list vs=>p.1=p.2∧∃ws o,(p.2,o)∈news∧gR ws o∧A2 (V ρ news) vs ws
 | .dict es=>p.1=p.2∧(p.2 == sysModules)=false∧∃kvs o,(p.2,o)∈news∧o.IsDictOf (intKind prog w) kvs∧A2 (DE ρ news) es kvs
 | .rod es i=>(p.1 == sysModules)=false∧Fo ρ p.1∧∃ep io kvs o,(p.2,io)∈news∧KdkIter io p.1 i es.length ep∧(p.1,o)∈news∧KdkAt (intKind prog w) o kvs ep∧A2 (DE ρ news) es kvs
structure St (ρ:Rh) (H:Hp) (news:Led):Prop where
 len:ρ.length=H.length
 nd:∀(i j:Nat) (p q:Addr×Addr),ρ[i]? =some p→ρ[j]? =some q→p.2=q.2→i=j
 n1:∀(i j:Nat) (p q:Addr×Addr),ρ[i]? =some p→ρ[j]? =some q→p.1=q.1→i=j
 ob:∀(i:Nat) (o:SO) (p:Addr×Addr),H[i]? =some o→ρ[i]? =some p→Ob prog w nm ρ news o p
def LR (ρ:Rh) (news:Led) (l:Loc) (m:Str→Option Value):Prop:=∀x v,l x=some v→∃w,m (nm x)=some w∧V ρ news v w
theorem LR.ext {ρ ρ':Rh} {n n':Led} {l:Loc} {m:Str→Option Value} (h:LR nm ρ n l m) (x:Ext0 ρ n ρ' n'):LR nm ρ' n' l m:=fun y v e=>by
 obtain⟨w,b,c⟩:=h y v e
 exact⟨w,b,V.ext x _ _ c⟩
theorem LR.put (inj:∀x y,nm x=nm y→x=y) {ρ:Rh} {n:Led} {l:Loc} {m:Str→Option Value} (h:LR nm ρ n l m) {x:Nat} {v:SV} {w:Value} (q:V ρ n v w):
 LR nm ρ n (upd l x v) (fun y=>if y=nm x then some w else m y):=fun y u e=>by
 unfold upd at e
 by_cases c:y=x
 ·subst c
  rw[if_pos rfl] at e;cases e
  exact⟨w,if_pos rfl,q⟩
 ·rw[if_neg c] at e
  obtain⟨w',b,d⟩:=h y u e
  refine⟨w',?_,d⟩
  show(if nm y=nm x then some w else m (nm y))=some w'
  rw[if_neg fun z=>c (inj _ _ z)];exact b
end
section
variable {h₀ h:Heap} {L:Addr} {news:Led}
theorem du (N:News h₀ L h news) {a:Addr} {o o':Obj} (x:(a,o)∈news) (y:(a,o')∈news):o=o':=
 Option.some.inj ((N _ x).1.symm.trans (N _ y).1)
def but (news:Led) (d:Addr):Led:=news.filter fun p=> !(p.1 == d)
theorem aZ {d:Addr} {p:Addr×Obj}:p∈but news d↔p∈news∧p.1≠d:=by
 unfold but
 rw[List.mem_filter]
 constructor
 ·rintro⟨a,b⟩;exact⟨a,fun e=>by rw[e] at b;simp at b⟩
 ·rintro⟨a,b⟩;refine⟨a,?_⟩;simp[b]
theorem lK (N:News h₀ L h news) {d:Addr} {o:Obj} (x:(d,o)∈news):News h₀ L h ([]++(d,o)::but news d):=fun p hp=>by
 rcases List.mem_cons.mp hp with rfl|hp
 ·exact N _ x
 ·exact N _ (aZ.mp hp).1
theorem tE (news:Led) (d:Addr):∀p∈but news d,p.1≠d:=fun _ hp=>(aZ.mp hp).2
theorem wx (news:Led) (d:Addr) (o o':Obj):Upd d o o' ((d,o)::but news d) ((d,o')::but news d):= .head (tE news d)
end
def isTup (o:Obj):Prop:=∃ws n,o=gQ ws n
structure cE (news news':Led) (d:Addr):Prop where
 keep:∀p∈news,p.1≠d→p∈news'
theorem cE.of_but {news:Led} {d:Addr} {o:Obj}:cE news ((d,o)::but news d) d:=⟨fun p hp e=>List.mem_cons_of_mem _ (aZ.mpr ⟨hp,e⟩)⟩
section
variable {prog:Program} {w:World} {nm:Nat→Str} {h₀ h:Heap} {L:Addr} {news news':Led} {ρ:Rh} {H:Hp}
theorem AC (N:News h₀ L h news) {a d:Addr} {ws:List Value} {n:Nat} {o:Obj} (x:(a,gQ ws n)∈news) (y:(d,o)∈news) (ho:o.cls≠.type "tuple"):a≠d:=fun e=>by
 subst e
 have:=du N x y
 rw[←this] at ho;exact ho rfl
theorem cE.ext (N:News h₀ L h news) {d:Addr} {o:Obj} (y:(d,o)∈news) (ho:o.cls≠.type "tuple") (t:cE news news' d):Ext0 ρ news ρ news':=
 ⟨fun _ _ h=>h,fun _ _ _ x=>t.keep _ x (AC N x y ho)⟩
theorem fP {o:SO} {p:Addr×Addr} (b:Ob prog w nm ρ news o p):∃x,(p.2,x)∈news∧x.cls≠.type "tuple"∧(∀C d,x≠instObj C d):=by
 cases o with
 |inst C fs=>
  obtain⟨_,es,n,h,_⟩:=b
  refine⟨_,h,fun e=> ?_,fun C d e=> ?_⟩
  ·have:("dict":String)="tuple":=by injection e
   exact absurd this (by decide)
  ·have:=congrArg Obj.cls e;cases this
 |list vs=>
  obtain⟨_,ws,x,h,⟨n,rfl⟩,_⟩:=b
  refine⟨_,h,fun e=> ?_,fun C d e=> ?_⟩
  ·have:("list":String)="tuple":=by injection e
   exact absurd this (by decide)
  ·have:=congrArg Obj.cls e;cases this
 |dict es=>
  obtain⟨_,_,kvs,x,h,q,_⟩:=b
  have hc:x.cls= .type "dict":=by
   obtain⟨_,_,hc,_⟩:=q
   exact hc.1
  refine⟨x,h,fun e=> ?_,fun C d e=> ?_⟩
  ·rw[hc] at e
   have:("dict":String)="tuple":=by injection e
   exact absurd this (by decide)
  ·rw[e] at hc;cases hc
 |rod es i=>
  obtain⟨_,_,ep,io,kvs,o,h,q,_⟩:=b
  have hc:=q.1
  refine⟨io,h,fun e=> ?_,fun C d e=> ?_⟩
  ·rw[hc] at e
   have:("dict_keyiterator":String)="tuple":=by injection e
   exact absurd this (by decide)
  ·rw[e] at hc;cases hc
theorem po {o:SO} {p:Addr×Addr} (b:Ob prog w nm ρ news o p):∃x,(p.1,x)∈news:=by
 cases o with
 |inst C fs=>exact⟨_,b.1⟩
 |list vs=>
  obtain⟨e,ws,x,h,_⟩:=b
  exact⟨x,by rw[e];exact h⟩
 |dict es=>
  obtain⟨e,_,kvs,x,h,_⟩:=b
  exact⟨x,by rw[e];exact h⟩
 |rod es i=>
  obtain⟨_,_,ep,io,kvs,o,_,_,h,_⟩:=b
  exact⟨o,h⟩
theorem St.turn (N:News h₀ L h news) (S:St prog w nm ρ H news) {i:Nat} {o o':SO} {p:Addr×Addr} (hi:H[i]? =some o) (hp:ρ[i]? =some p) (t:cE news news' p.2)
 (hb:Ob prog w nm ρ news' o' p):St prog w nm ρ (H.set i o') news'∧Ext ρ news ρ news':=by
 obtain⟨x,hx,hx1,hx2⟩:=fP (S.ob i o p hi hp)
 have X:Ext0 ρ news ρ news':=t.ext N hx hx1
 refine⟨⟨by rw[S.len,List.length_set],S.nd,S.n1,fun j oj q hj hq=> ?_⟩,⟨X,fun z hz f=>t.keep z hz (fun e=>f i p hp e.symm),fun _ _ h=> .inl h⟩⟩
 by_cases e:i=j
 ·subst e
  rw[hp] at hq;cases hq
  rw[List.getElem?_set_self (by rw[List.getElem?_eq_some_iff] at hi;exact hi.1)] at hj
  cases hj;exact hb
 ·rw[List.getElem?_set_ne e] at hj
  have b:=S.ob j oj q hj hq
  have hne:q.2≠p.2:=fun z=>e (S.nd j i q p hq hp z).symm
  cases oj with
  |inst C fs=>
   obtain⟨b1,es,n,b2,b3⟩:=b
   refine⟨t.keep _ b1 fun z=> ?_,es,n,t.keep _ b2 hne,b3.imp fun f e ⟨u,a,c⟩=>⟨u,a,V.ext X _ _ c⟩⟩
   have z':q.1=p.2:=z
   rw[z'] at b1
   exact hx2 _ _ (du N hx b1)
  |list vs=>
   obtain⟨b1,ws,x,b2,b0,b3⟩:=b
   exact⟨b1,ws,x,t.keep _ b2 hne,b0,b3.imp (V.ext X)⟩
  |dict es=>
   obtain⟨b1,b0,kvs,y,b2,b3,b4⟩:=b
   exact⟨b1,b0,kvs,y,t.keep _ b2 hne,b3,b4.imp fun f e ⟨a,c⟩=>⟨a,V.ext X _ _ c⟩⟩
  |rod es k=>
   obtain⟨b0,b1,ep,io,kvs,y,b2,b3,b4,b5,b6⟩:=b
   exact⟨b0,b1,ep,io,kvs,y,t.keep _ b2 hne,b3,t.keep _ b4 (fun e=>b1 i p hp e.symm),b5,b6.imp fun f e ⟨a,c⟩=>⟨a,V.ext X _ _ c⟩⟩
theorem Ob.ext {ρ':Rh} {o:SO} {p:Addr×Addr} (b:Ob prog w nm ρ news o p) (X:Ext0 ρ news ρ' news') (k:∀q∈news,q∈news') (hf:∀q∈news,Fo ρ q.1→Fo ρ' q.1):Ob prog w nm ρ' news' o p:=by
 cases o with
 |inst C fs=>
  obtain⟨b1,es,n,b2,b3⟩:=b
  exact⟨k _ b1,es,n,k _ b2,b3.imp fun f e ⟨u,a,c⟩=>⟨u,a,V.ext X _ _ c⟩⟩
 |list vs=>
  obtain⟨b1,ws,x,b2,b0,b3⟩:=b
  exact⟨b1,ws,x,k _ b2,b0,b3.imp (V.ext X)⟩
 |dict es=>
  obtain⟨b1,b0,kvs,y,b2,b3,b4⟩:=b
  exact⟨b1,b0,kvs,y,k _ b2,b3,b4.imp fun f e ⟨a,c⟩=>⟨a,V.ext X _ _ c⟩⟩
 |rod es i=>
  obtain⟨b0,b1,ep,io,kvs,y,b2,b3,b4,b5,b6⟩:=b
  exact⟨b0,hf _ b4 b1,ep,io,kvs,y,k _ b2,b3,k _ b4,b5,b6.imp fun f e ⟨a,c⟩=>⟨a,V.ext X _ _ c⟩⟩
theorem St.more (S:St prog w nm ρ H news) (k:∀q∈news,q∈news'):St prog w nm ρ H news':=
 ⟨S.len,S.nd,S.n1,fun i o p a b=>(S.ob i o p a b).ext ⟨fun _ _ h=>h,fun _ _ _ h=>k _ h⟩ k fun _ _ h=>h⟩
theorem St.alloc (N:News h₀ L h news) (S:St prog w nm ρ H news) {o:SO} {p:Addr×Addr} (k:∀q∈news,q∈news') (hn:∀q∈news,q.1≠p.2) (hb:Ob prog w nm (ρ++[p]) news' o p) (hm:∀q∈news,q.1≠p.1:=by assumption):
 St prog w nm (ρ++[p]) (H++[o]) news'∧Ext ρ news (ρ++[p]) news'∧(ρ++[p])[H.length]? =some p:=by
 have X:Ext0 ρ news (ρ++[p]) news':=⟨fun i q e=>by rw[List.getElem?_append_left (by rw[List.getElem?_eq_some_iff] at e;exact e.1)];exact e,fun _ _ _ h=>k _ h⟩
 have at_:(ρ++[p])[H.length]? =some p:=by rw[←S.len];simp
 have old:∀(i:Nat) (q:Addr×Addr),ρ[i]? =some q→q.2≠p.2:=fun i q e=>by
  have hl:i<H.length:=by rw[←S.len];rw[List.getElem?_eq_some_iff] at e;exact e.1
  obtain⟨x,hx,_⟩:=fP (S.ob i _ q (List.getElem?_eq_getElem hl) e)
  exact hn _ hx
 have cut:∀(i:Nat) (q:Addr×Addr),(ρ++[p])[i]? =some q→(i<H.length∧ρ[i]? =some q)∨(i=H.length∧q=p):=fun i q e=>by
  by_cases c:i<ρ.length
  ·rw[List.getElem?_append_left c] at e;exact .inl ⟨by rw[←S.len];exact c,e⟩
  ·rw[List.getElem?_append_right (by omega)] at e
   have z:i - ρ.length=0:=by
    rw[List.getElem?_eq_some_iff] at e
    obtain⟨a,_⟩:=e
    simp at a;omega
   rw[z] at e
   exact .inr ⟨by rw[←S.len];omega,(Option.some.inj e).symm⟩
 have old1:∀(i:Nat) (q:Addr×Addr),ρ[i]? =some q→q.1≠p.1:=fun i q e=>by
  have hl:i<H.length:=by rw[←S.len];rw[List.getElem?_eq_some_iff] at e;exact e.1
  obtain⟨x,hx⟩:=po (S.ob i _ q (List.getElem?_eq_getElem hl) e)
  exact hm _ hx
 refine⟨⟨by simp[S.len],fun i j q r hq hr e=> ?_,fun i j q r hq hr e=> ?_,fun i oi q hi hq=> ?_⟩,⟨X,fun z hz _=>k z hz,fun i q h=>(cut i q h).elim (fun h=> .inl h.2) fun h=> .inr fun z hz _ e=>hn z hz (by rw[←h.2];exact e.symm)⟩,at_⟩
 ·rcases cut i q hq with⟨a,b⟩|⟨a,b⟩<;>rcases cut j r hr with⟨c,d⟩|⟨c,d⟩
  ·exact S.nd i j q r b d e
  ·subst d;exact absurd e (old i q b)
  ·subst b;exact absurd e.symm (old j r d)
  ·rw[a,c]
 ·rcases cut i q hq with⟨a,b⟩|⟨a,b⟩<;>rcases cut j r hr with⟨c,d⟩|⟨c,d⟩
  ·exact S.n1 i j q r b d e
  ·subst d;exact absurd e (old1 i q b)
  ·subst b;exact absurd e.symm (old1 j r d)
  ·rw[a,c]
 ·rcases cut i q hq with⟨a,b⟩|⟨a,b⟩
  ·rw[List.getElem?_append_left a] at hi
   exact(S.ob i oi q hi b).ext X k fun z hz f j r hr e=>(cut j r hr).elim (fun h=>f j r h.2 e) fun h=>hn z hz (by rw[←h.2];exact e.symm)
  ·subst a;subst b
   rw[List.getElem?_append_right (Nat.le_refl _)] at hi
   simp at hi;subst hi;exact hb
end
def PS {α β:Type} (prog:Program) (w:World) (nm:Nat→Str) (h₀:Heap) (L:Addr) (m:Str→Option Value) (VR:Rh→Led→α→β→Prop) (ρ:Rh) (news:Led)
    (r:R α) (Q:β→Shared→Prop) (X:Hp→Prop) (s:Shared):Prop:=match r with
 | .ok v H'=>∀ρ' news' h' tk x,Fr h₀ L h' m→News h₀ L h' news'→St prog w nm ρ' H' news'→Ext ρ news ρ' news'→VR ρ' news' v x→Q x {s with heap:=h',toks:=tk}
 | .exc H'=>X H'
 | .fail=>False
def VU (_:Rh) (_:Led) (_:Unit) (_:Unit):Prop:=True
def VB (_:Rh) (_:Led) (a b:Bool):Prop:=a=b
def VOB (_:Rh) (_:Led) (a:Bool) (v:Value):Prop:=v= .bool a
section
variable {prog:Program} {w:World} {nm:Nat→Str} {A:Around} {E:Value→Shared→Prop} {s:Shared} {h₀:Heap} {L:Addr} {m:Str→Option Value} {news:Led} {ρ:Rh} {H:Hp} {X:Hp→Prop}
theorem PS.here {α β:Type} {VR:Rh→Led→α→β→Prop} {v:α} {x:β} {Q:β→Shared→Prop} {tk:Nat} (F:Fr h₀ L s.heap m) (N:News h₀ L s.heap news) (S:St prog w nm ρ H news)
 (q:PS prog w nm h₀ L m VR ρ news (.ok v H) Q X s) (hv:VR ρ news v x):Q x {s with toks:=tk}:=q ρ news s.heap tk x F N S (Ext.refl _ _) hv
theorem V.int_inv {a:Int} {x:Value} (h:V ρ news (.int a) x):∃t,x= .int a t:=by
 cases x<;>first|exact h.elim|(cases h;exact⟨_,rfl⟩)
theorem V.bool_inv {a:Bool} {x:Value} (h:V ρ news (.bool a) x):x= .bool a:=by
 cases x<;>first|exact h.elim|(cases h;rfl)
theorem V.none_inv {x:Value} (h:V ρ news .none x):x= .none:=by
 cases x<;>first|exact h.elim|rfl
theorem V.bytes_inv {a:List UInt8} {x:Value} (h:V ρ news (.bytes a) x):∃t,x= .bytes a.toArray t:=by
 cases x<;>first|exact h.elim|(cases h;exact⟨_,rfl⟩)
theorem V.ref_inv {n:Nat} {x:Value} (h:V ρ news (.ref n) x):∃a d,x= .ref a∧ρ[n]? =some (a,d):=by
 cases x<;>first|exact h.elim|(obtain⟨d,h⟩:=h;exact⟨_,d,rfl,h⟩)
theorem V.tup_inv {vs:List SV} {x:Value} (h:V ρ news (.tup vs) x):∃a ws n,x= .ref a∧(a,gQ ws n)∈news∧A2 (V0 ρ) vs ws:=by
 cases x<;>first|exact h.elim|(obtain⟨ws,n,h1,h2⟩:=h;exact⟨_,ws,n,rfl,h1,h2⟩)
theorem V.of0 {v:SV} {x:Value} (h:V0 ρ v x):V ρ news v x:=by
 cases v<;>first|exact h|(cases x<;>exact h.elim)
theorem St.list (S:St prog w nm ρ H news) {n:Nat} {vs:List SV} {a d:Addr} (hn:H[n]? =some (.list vs)) (hr:ρ[n]? =some (a,d)):a=d∧∃ws o,(a,o)∈news∧gR ws o∧A2 (V ρ news) vs ws:=by
 obtain⟨e,ws,o,h1,h2,h3⟩:=S.ob n _ _ hn hr
 have e':a=d:=e
 subst e'
 exact⟨rfl,ws,o,h1,h2,h3⟩
theorem St.dict (S:St prog w nm ρ H news) {n:Nat} {es:List (Int×SV)} {a d:Addr} (hn:H[n]? =some (.dict es)) (hr:ρ[n]? =some (a,d)):a=d∧(a == sysModules)=false∧∃kvs o,(a,o)∈news∧o.IsDictOf (intKind prog w) kvs∧A2 (DE ρ news) es kvs:=by
 obtain⟨e,e2,kvs,o,h1,h2,h3⟩:=S.ob n _ _ hn hr
 have e':a=d:=e
 subst e'
 exact⟨rfl,e2,kvs,o,h1,h2,h3⟩
theorem St.rod (S:St prog w nm ρ H news) {n i:Nat} {es:List (Int×SV)} {a d:Addr} (hn:H[n]? =some (.rod es i)) (hr:ρ[n]? =some (a,d)):(a == sysModules)=false∧Fo ρ a∧∃ep io kvs o,(d,io)∈news∧KdkIter io a i es.length ep∧(a,o)∈news∧KdkAt (intKind prog w) o kvs ep∧A2 (DE ρ news) es kvs:=
 S.ob n _ _ hn hr
theorem St.inst (S:St prog w nm ρ H news) {n:Nat} {C:Addr} {fs:List (Nat×SV)} {a d:Addr} (hn:H[n]? =some (.inst C fs)) (hr:ρ[n]? =some (a,d)):(a,instObj C d)∈news∧∃es k,(d,dictOf es k)∈news∧A2 (FE nm ρ news) fs es:=
 S.ob n _ _ hn hr
theorem aV (N:News h₀ L s.heap news) {a:Addr} {ws:List Value} {o:Obj} (h:(a,o)∈news) (q:gR ws o):s.heap.IsList a ws.toArray:=(by obtain⟨n,rfl⟩:=q;exact⟨_,(N _ h).1,rfl,n,rfl⟩)
theorem dP (N:News h₀ L s.heap news) {a:Addr} {kvs:List (Int×Value)} {o:Obj} (h:(a,o)∈news) (q:o.IsDictOf (intKind prog w) kvs):s.heap.DictOf (intKind prog w) a kvs:=Heap.dictOf_iff.mpr ⟨o,(N _ h).1,q⟩
theorem lq (N:News h₀ L s.heap news) {a:Addr} {ws:List Value} {n:Nat} (h:(a,gQ ws n)∈news):IsTup s.heap a ws.toArray:=⟨_,(N _ h).1,rfl,n,rfl⟩
theorem PS.newList {vs:List SV} {ws:List Value} {Q:Value→Shared→Prop} {tk:Nat} {a:Addr} {h':Heap} {o:Obj} (_F:Fr h₀ L s.heap m) (N:News h₀ L s.heap news) (S:St prog w nm ρ H news)
 (q:PS prog w nm h₀ L m (V) ρ news (bp vs H) Q X s) (F':Fr h₀ L h' m) (N':News h₀ L h' ((a,o)::news)) (ho:gR ws o) (hn:∀p∈news,p.1≠a) (hv:A2 (V ρ news) vs ws):
 Q (.ref a) {s with heap:=h',toks:=tk}:=by
 unfold bp at q
 split at q
 ·obtain⟨S',X',r⟩:=St.alloc (p:=(a,a)) (o:= .list vs) N S (fun _ h=>List.mem_cons_of_mem _ h) hn ⟨rfl,ws,o,List.mem_cons_self ..,ho,hv.imp (V.ext ⟨fun i q e=>by rw[List.getElem?_append_left (by rw[List.getElem?_eq_some_iff] at e;exact e.1)];exact e,fun _ _ _ h=>List.mem_cons_of_mem _ h⟩)⟩
  exact q _ _ h' tk _ F' N' S' X' ⟨a,r⟩
 ·exact q.elim
theorem lY (N:News h₀ L s.heap news):∀p∈news,p.1≠s.heap.objs.size:=fun p hp=>Nat.ne_of_lt (Heap.lt_size (N p hp).1)
theorem nO {a:Int} (h:isI a=true): -(2 ^ 62)<a∧a<2 ^ 62:=by
 unfold isI at h
 simp only[Bool.and_eq_true,decide_eq_true_eq] at h;exact h
theorem PS.tk {α β:Type} {VR:Rh→Led→α→β→Prop} {r:R α} {Q:β→Shared→Prop} {tk:Nat} (q:PS prog w nm h₀ L m VR ρ news r Q X s):PS prog w nm h₀ L m VR ρ news r Q X {s with toks:=tk}:=by
 cases r<;>exact q
theorem As {x y z:Int} {t u:Tok} {Q:Value→Shared→Prop} (h:uR x y=some z) (q:∀t tk,Q (.int z t) {s with toks:=tk}):wpAny (model prog w) A (binaryOp .Pow (.int x t) (.int y u)) Q E s:=by
 unfold uR at h
 split at h
 ·rename_i c
  cases h
  obtain⟨h1,h2,h3,h4⟩:=c
  by_cases c0:y=0
  ·subst c0
   exact AutoIntOps.pow_0 (by decide) (by decide) (show Q (.int 1 _) _ from(Int.pow_zero x▸q s.toks (s.toks+1):))
  ·by_cases c1:x=1
   ·subst c1
    refine AutoIntOps.pow_1 h3 (by simpa using c0) (by decide) ?_
    have e:(1:Int) ^ y.toNat=1:=Int.one_pow
    have:=q s.toks (s.toks+1)
    rw[e] at this
    exact this
   ·have hx:¬(x == 0 || x == 1)=true:=by simp;omega
    have hy:¬(y == 0)=true:=by simpa using c0
    have hz:¬(x == -1)=true:=by simp;omega
    refine AutoIntOps.pow_4 h3 hy hx hz ?_ (q _ _)
    have:∀a b:Fin 9,¬Builtin.Int.intTooBig (((Builtin.Int.intBits (a.1:Int):Nat):Int)*(b.1:Int))=true:=by decide+kernel
    have:=this ⟨x.toNat,by omega⟩ ⟨y.toNat,by omega⟩
    simp only at this
    rwa [Int.toNat_of_nonneg (by omega),Int.toNat_of_nonneg (by omega)] at this
 ·cases h
theorem xr {a:Addr} {v:Value} {y:Int} {u:Tok} {o:Obj} {Q:Value→Shared→Prop} (Fm:Fr h₀ L s.heap m) (N:News h₀ L s.heap news) (ha:(a,o)∈news) (ho:gR [v] o) (h0:0≤y) (h1:y≤100)
 (q:∀h' o',Fr h₀ L h' m→News h₀ L h' ((s.heap.objs.size,o')::news)→gR (List.replicate y.toNat v) o'→Q (.ref s.heap.objs.size) {s with heap:=h'}):
 wpAny (model prog w) A (binaryOp .Mult (.ref a) (.int y u)) Q E s:=by
 obtain⟨o1,hl,hcl,k,hd'⟩:=aV N ha ho
 obtain⟨cls,d,data,sl⟩:=o1
 simp only at hcl hd'
 subst hcl hd'
 have hy:¬[v].toArray.size*y.toNat>(2 ^ 63 - 1) / 8:=by
  have:y.toNat≤100:=by omega
  have e:[v].toArray.size=1:=rfl
  rw[e,Nat.one_mul];omega
 have hz:¬Builtin.List.listTooLong ([v].toArray.size*y.toNat)=true:=by
  have:y.toNat≤100:=by omega
  have e:[v].toArray.size=1:=rfl
  rw[e,Nat.one_mul]
  simp[Builtin.List.listTooLong,sizeLine];omega
 refine wpAny_binaryOp_repeat_ref (T:="list") (U:="int") (by decide) ⟨_,hl,rfl⟩ (fun s'=>typeIs_int s' y u) noFill_list_mul F.fills_int_mul F.slot_int_rmul repeat_list F.slot_int_index.lookup
  (call_meets F.slot_int_rmul (typeIs_int s y u) F.entry_int_rmul (F.args_int_rmul_2 _ _) (lm_int_rmul_list_any y u a [v].toArray k d sl)
    ⟨hl,rfl,⟨_,hl,rfl⟩,call_meets F.slot_list_mul ⟨_,hl,rfl⟩ F.entry_list_mul (F.args_list_mul_2 _ _)
      (lm_list_mul_any a [v].toArray k d sl y u (by simp[Builtin.List.listFitsIndex];omega) hy hz)
      ⟨hl,?_⟩⟩)
 refine q _ _ (Fm.push _) (News.push Fm N _) ⟨0,?_⟩
 rw[listMul_foldl_if]
 congr 3
 have:∀n:Nat,(List.replicate n [v]).flatten=List.replicate n v:=fun n=>by
  induction n with
  |zero=>rfl
  |succ n ih=>rw[List.replicate_succ,List.flatten_cons,ih];rfl
 exact this _
theorem wv {op:Operator} {a b:SV} {x y:Value} {Q:Value→Shared→Prop} (F:Fr h₀ L s.heap m) (N:News h₀ L s.heap news) (S:St prog w nm ρ H news) (va:V ρ news a x) (vb:V ρ news b y)
 (q:PS prog w nm h₀ L m V ρ news (gH op a b H) Q X s):wpAny (model prog w) A (binaryOp op x y) Q E s:=by
 unfold gH at q
 split at q
 ·obtain⟨t,rfl⟩:=va.int_inv;obtain⟨u,rfl⟩:=vb.int_inv
  exact add_int (PS.here F N S q rfl)
 ·obtain⟨t,rfl⟩:=va.int_inv;obtain⟨u,rfl⟩:=vb.int_inv
  exact sub_int (PS.here F N S q rfl)
 ·obtain⟨t,rfl⟩:=va.int_inv;obtain⟨u,rfl⟩:=vb.int_inv
  split at q
  ·rename_i c
   have:=nO c
   exact mul_int (PS.here F N S q rfl) (IntMulOk.of_left (intBits_le_64 (by omega) (by omega)))
  ·exact q.elim
 ·obtain⟨t,rfl⟩:=va.int_inv;obtain⟨u,rfl⟩:=vb.int_inv
  split at q
  ·rename_i x y c
   simp only[Bool.and_eq_true,decide_eq_true_eq] at c
   have h1:=nO c.1.2
   refine floordiv_int (by omega) (PS.here F N S q rfl) (.inl (PyProof.noPylong_of_log2 ?_))
   by_cases h0:y.natAbs=0
   ·rw[h0];decide+kernel
   ·have h30:y.natAbs.log2<62:=(Nat.log2_lt h0).mpr (by omega)
    omega
  ·exact q.elim
 ·obtain⟨t,rfl⟩:=va.int_inv;obtain⟨u,rfl⟩:=vb.int_inv
  split at q
  ·exact mod_int' (by omega) (PS.here F N S q rfl)
  ·exact q.elim
 ·obtain⟨t,rfl⟩:=va.int_inv;obtain⟨u,rfl⟩:=vb.int_inv
  split at q
  ·rename_i c
   exact As c fun t tk=>PS.here F N S q rfl
  ·exact q.elim
 ·obtain⟨t,rfl⟩:=va.int_inv;obtain⟨u,rfl⟩:=vb.int_inv
  exact and_int (PS.here F N S q rfl)
 ·obtain⟨t,rfl⟩:=va.int_inv;obtain⟨u,rfl⟩:=vb.int_inv
  exact or_int (PS.here F N S q rfl)
 ·obtain⟨t,rfl⟩:=va.int_inv;obtain⟨u,rfl⟩:=vb.int_inv
  split at q
  ·rename_i c
   simp only[Bool.and_eq_true,decide_eq_true_eq] at c
   have h1:=nO c.1.1
   exact lshift_int_small c.1.2 (by omega) (by omega) (PS.here F N S q rfl)
  ·exact q.elim
 ·obtain⟨t,rfl⟩:=va.int_inv;obtain⟨u,rfl⟩:=vb.int_inv
  split at q
  ·rename_i c
   exact rshift_int c (PS.here F N S q rfl)
  ·exact q.elim
 ·obtain⟨t,rfl⟩:=va.bytes_inv;obtain⟨u,rfl⟩:=vb.bytes_inv
  split at q
  ·rename_i c
   refine KBy.add_bytes (by simp only[List.size_toArray];unfold ag at c;omega) fun t' k=> ?_
   exact PS.here F N S q (by show _=_;simp)
  ·exact q.elim
 ·obtain⟨a1,d1,rfl,r1⟩:=va.ref_inv;obtain⟨a2,d2,rfl,r2⟩:=vb.ref_inv
  split at q
  ·rename_i u v hu hv
   obtain⟨_,ws1,o1,m1,l1,p1⟩:=S.list hu r1
   obtain⟨_,ws2,o2,m2,l2,p2⟩:=S.list hv r2
   have hz:u.length+v.length≤ag:=by
    unfold bp at q;split at q
    ·rename_i c;simpa using c
    ·exact q.elim
   refine add_lists F N (aV N m1 l1) (aV N m2 l2) (fun h' F' N'=> ?_) (by rw[←p1.len,←p2.len,sizeLine_eq];unfold ag at hz;omega)
   exact PS.newList (tk:=s.toks) F N S q F' N' ⟨0,rfl⟩ (lY N) (p1.append p2)
  ·exact q.elim
 ·obtain⟨a1,d1,rfl,r1⟩:=va.ref_inv;obtain⟨u,rfl⟩:=vb.int_inv
  split at q
  ·rename_i v hv
   split at q
   ·rename_i c
    obtain⟨_,ws1,o1,m1,l1,p1⟩:=S.list hv r1
    obtain⟨w1,rfl⟩:∃w1,ws1=[w1]:=by
     match ws1,p1 with
     |[w1],_=>exact⟨w1,rfl⟩
     |[],h=>exact h.elim
     |_::_::_,h=>exact h.2.elim
    refine xr F N m1 l1 c.1 c.2 fun h' o' F' N' lo=> ?_
    exact PS.newList (tk:=s.toks) F N S q F' N' lo (lY N) (A2.rep p1.1 _)
   ·exact q.elim
  ·exact q.elim
 ·exact q.elim
end
namespace BO
open Builtin PySem.W.FB
theorem xI:Slot "bytes" (cmpInfo .Lt).2.1 "bytes.__lt__":=
 .of (owner:="bytes") (n:="__lt__") (by rw[typeLookup_type,builtinLookup_eq_fast];kernel_rfl) (by decide+kernel) (by decide+kernel) (by decide+kernel)
   (by first|exact .inl (by decide+kernel)|exact .inr (by decide+kernel)) (by rw[isSubtype_type];kernel_rfl)
theorem tS:entryFor table "bytes.__lt__"=some Builtin.«bytes.__lt__»:=entryFor_of_tree (by kernel_rfl)
theorem wr (a b:Value):argsOk "bytes.__lt__" ⟨[a,b],[]⟩:=by
 unfold argsOk;rw[signature?_of (id:="bytes.__lt__") (n:=['_','_','t','l','_','_']) (o:=['s','e','t','y','b']) (by kernel_rfl) owner_bytes];kernel_rfl
theorem xH:Slot "bytes" (cmpInfo .LtE).2.1 "bytes.__le__":=
 .of (owner:="bytes") (n:="__le__") (by rw[typeLookup_type,builtinLookup_eq_fast];kernel_rfl) (by decide+kernel) (by decide+kernel) (by decide+kernel)
   (by first|exact .inl (by decide+kernel)|exact .inr (by decide+kernel)) (by rw[isSubtype_type];kernel_rfl)
theorem tR:entryFor table "bytes.__le__"=some Builtin.«bytes.__le__»:=entryFor_of_tree (by kernel_rfl)
theorem wq (a b:Value):argsOk "bytes.__le__" ⟨[a,b],[]⟩:=by
 unfold argsOk;rw[signature?_of (id:="bytes.__le__") (n:=['_','_','e','l','_','_']) (o:=['s','e','t','y','b']) (by kernel_rfl) owner_bytes];kernel_rfl
theorem xG:Slot "bytes" (cmpInfo .Gt).2.1 "bytes.__gt__":=
 .of (owner:="bytes") (n:="__gt__") (by rw[typeLookup_type,builtinLookup_eq_fast];kernel_rfl) (by decide+kernel) (by decide+kernel) (by decide+kernel)
   (by first|exact .inl (by decide+kernel)|exact .inr (by decide+kernel)) (by rw[isSubtype_type];kernel_rfl)
theorem tQ:entryFor table "bytes.__gt__"=some Builtin.«bytes.__gt__»:=entryFor_of_tree (by kernel_rfl)
theorem wp (a b:Value):argsOk "bytes.__gt__" ⟨[a,b],[]⟩:=by
 unfold argsOk;rw[signature?_of (id:="bytes.__gt__") (n:=['_','_','t','g','_','_']) (o:=['s','e','t','y','b']) (by kernel_rfl) owner_bytes];kernel_rfl
theorem xF:Slot "bytes" (cmpInfo .GtE).2.1 "bytes.__ge__":=
 .of (owner:="bytes") (n:="__ge__") (by rw[typeLookup_type,builtinLookup_eq_fast];kernel_rfl) (by decide+kernel) (by decide+kernel) (by decide+kernel)
   (by first|exact .inl (by decide+kernel)|exact .inr (by decide+kernel)) (by rw[isSubtype_type];kernel_rfl)
theorem tP:entryFor table "bytes.__ge__"=some Builtin.«bytes.__ge__»:=entryFor_of_tree (by kernel_rfl)
theorem wo (a b:Value):argsOk "bytes.__ge__" ⟨[a,b],[]⟩:=by
 unfold argsOk;rw[signature?_of (id:="bytes.__ge__") (n:=['_','_','e','g','_','_']) (o:=['s','e','t','y','b']) (by kernel_rfl) owner_bytes];kernel_rfl
theorem lT:∀a b:List UInt8,(Bytes.order a b == .lt)=ltB a b
 |[],[]=>rfl
 |[],_::_=>rfl
 |_::_,[]=>rfl
 |x::a,y::b=>by
  simp only[Bytes.order,ltB]
  by_cases h1:x<y
  ·have:x≠y:=fun e=>by subst e;exact absurd h1 (UInt8.lt_irrefl _)
   simp[h1,this]
  ·by_cases h2:x>y
   ·have:x≠y:=fun e=>by subst e;exact absurd h2 (UInt8.lt_irrefl _)
    simp[h1,h2,this]
   ·have:x=y:=UInt8.le_antisymm (UInt8.not_lt.mp h2) (UInt8.not_lt.mp h1)
    subst this
    simp[lT a b]
theorem lS:∀a b:List UInt8,(Bytes.order a b == .gt)=ltB b a
 |[],[]=>rfl
 |[],_::_=>rfl
 |_::_,[]=>rfl
 |x::a,y::b=>by
  simp only[Bytes.order,ltB]
  by_cases h1:x<y
  ·have:y≠x:=fun e=>by subst e;exact absurd h1 (UInt8.lt_irrefl _)
   have h3:¬y<x:=fun q=>absurd (UInt8.lt_trans h1 q) (UInt8.lt_irrefl _)
   simp[h1,this,h3]
  ·by_cases h2:x>y
   ·have:y≠x:=fun e=>by subst e;exact absurd h2 (UInt8.lt_irrefl _)
    have h3:y<x:=h2
    simp[h1,this,h3]
   ·have:x=y:=UInt8.le_antisymm (UInt8.not_lt.mp h2) (UInt8.not_lt.mp h1)
    subst this
    simp[lS a b]
section
variable {prog:Program} {w:World} {A:Around} {E:Value→Shared→Prop} {s:Shared} {b c:Array UInt8} {t u:Tok} {Q:Value→Shared→Prop}
theorem g_lt (b c:Array UInt8) (t u:Tok):Gives («bytes.__lt__» ⟨[.bytes b t,.bytes c u],[]⟩) (.val (.bool (ltB b.toList c.toList))):=by
 refine .of_wp fun M A E s Q hq=> ?_
 show wpAny M A (isInstance (.bytes c u) (.type "bytes")>>= fun r=>_) _ E s
 refine wpAny_bind (wpAny_isInstance (typeIs_bytes s c u) F.sub_bytes_bytes ?_)
 exact wpAny_pure ⟨_,rfl,by rw[←lT] at hq;exact hq⟩
theorem g_gt (b c:Array UInt8) (t u:Tok):Gives («bytes.__gt__» ⟨[.bytes b t,.bytes c u],[]⟩) (.val (.bool (ltB c.toList b.toList))):=by
 refine .of_wp fun M A E s Q hq=> ?_
 show wpAny M A (isInstance (.bytes c u) (.type "bytes")>>= fun r=>_) _ E s
 refine wpAny_bind (wpAny_isInstance (typeIs_bytes s c u) F.sub_bytes_bytes ?_)
 exact wpAny_pure ⟨_,rfl,by rw[←lS] at hq;exact hq⟩
theorem g_le (b c:Array UInt8) (t u:Tok):Gives («bytes.__le__» ⟨[.bytes b t,.bytes c u],[]⟩) (.val (.bool (!ltB c.toList b.toList))):=by
 refine .of_wp fun M A E s Q hq=> ?_
 show wpAny M A (isInstance (.bytes c u) (.type "bytes")>>= fun r=>_) _ E s
 refine wpAny_bind (wpAny_isInstance (typeIs_bytes s c u) F.sub_bytes_bytes ?_)
 exact wpAny_pure ⟨_,rfl,by rw[←lS] at hq;exact hq⟩
theorem g_ge (b c:Array UInt8) (t u:Tok):Gives («bytes.__ge__» ⟨[.bytes b t,.bytes c u],[]⟩) (.val (.bool (!ltB b.toList c.toList))):=by
 refine .of_wp fun M A E s Q hq=> ?_
 show wpAny M A (isInstance (.bytes c u) (.type "bytes")>>= fun r=>_) _ E s
 refine wpAny_bind (wpAny_isInstance (typeIs_bytes s c u) F.sub_bytes_bytes ?_)
 exact wpAny_pure ⟨_,rfl,by rw[←lT] at hq;exact hq⟩
theorem lt_bytes (h:Q (.bool (ltB b.toList c.toList)) s):wpAny (model prog w) A (compareOp .Lt (.bytes b t) (.bytes c u)) Q E s:=
 compareOp_gives (op:= .Lt) (typeIs_bytes s b t) (typeIs_bytes s c u) xI tS (wr _ _) (g_lt b c t u) (fun e=>nomatch e) h
theorem gt_bytes (h:Q (.bool (ltB c.toList b.toList)) s):wpAny (model prog w) A (compareOp .Gt (.bytes b t) (.bytes c u)) Q E s:=
 compareOp_gives (op:= .Gt) (typeIs_bytes s b t) (typeIs_bytes s c u) xG tQ (wp _ _) (g_gt b c t u) (fun e=>nomatch e) h
theorem le_bytes (h:Q (.bool (!ltB c.toList b.toList)) s):wpAny (model prog w) A (compareOp .LtE (.bytes b t) (.bytes c u)) Q E s:=
 compareOp_gives (op:= .LtE) (typeIs_bytes s b t) (typeIs_bytes s c u) xH tR (wq _ _) (g_le b c t u) (fun e=>nomatch e) h
theorem ge_bytes (h:Q (.bool (!ltB b.toList c.toList)) s):wpAny (model prog w) A (compareOp .GtE (.bytes b t) (.bytes c u)) Q E s:=
 compareOp_gives (op:= .GtE) (typeIs_bytes s b t) (typeIs_bytes s c u) xF tP (wo _ _) (g_ge b c t u) (fun e=>nomatch e) h
theorem jt:Slot "bytes" (cmpInfo .NotEq).2.2 "bytes.__ne__":=slot_bytes_ne
theorem vX:isSubtype (.type "NoneType") (.type "bytes")=pure false:=by rw[isSubtype_type];kernel_rfl
theorem Az:isSubtype (.type "bytes") (.type "NoneType")=pure false:=by rw[isSubtype_type];kernel_rfl
theorem jg (b:Array UInt8) (t:Tok):Gives (Builtin.«NoneType.__ne__» ⟨[.none,.bytes b t],[]⟩) (.val (Value.notImplemented)):=
 .of_wp fun M A E s Q h=>by obtain⟨hp,g,d,tk,os⟩:=s;wp_walk;exact⟨_,rfl,h⟩
theorem jf (b:Array UInt8) (t:Tok):Gives (Builtin.«bytes.__ne__» ⟨[.bytes b t,.none],[]⟩) (.val (Value.notImplemented)):=by
 refine .of_wp fun M A E s Q hq=> ?_
 show wpAny M A (isInstance .none (.type "bytes")>>= fun r=>_) _ E s
 refine wpAny_bind (wpAny_isInstance (T:="NoneType") (b:=false) rfl vX ?_)
 show wpAny M A (rule _>>= fun _=>ret .notImplemented) _ E s
 exact wpAny_bind (wpAny_rule (wpAny_pure ⟨_,rfl,hq⟩))
theorem ne_bytes_none (h:Q (.bool true) s):wpAny (model prog w) A (compareOp .NotEq (.bytes b t) .none) Q E s:=by
 show wpAny _ A (richCompare .NotEq _ _) Q E s
 exact EqNone.wpAny_richCompare_ne_decline (k:=false) (fun s'=>typeIs_bytes s' b t) (fun _=>rfl) (by decide) vX slot_bytes_ne F.slot_NoneType_ne_refl rfl
  (call_gives slot_bytes_ne (typeIs_bytes s b t) entry_bytes_ne (args_bytes_ne_2 _ _) (jf b t)
    ⟨rfl,call_gives F.slot_NoneType_ne_refl rfl F.entry_NoneType_ne (F.args_NoneType_ne_2 _ _) (jg b t) ⟨rfl,h⟩⟩)
theorem ne_none_bytes (h:Q (.bool true) s):wpAny (model prog w) A (compareOp .NotEq .none (.bytes b t)) Q E s:=by
 show wpAny _ A (richCompare .NotEq _ _) Q E s
 exact EqNone.wpAny_richCompare_ne_decline (k:=false) (fun _=>rfl) (fun s'=>typeIs_bytes s' b t) (by decide) Az F.slot_NoneType_ne jt rfl
  (call_gives F.slot_NoneType_ne rfl F.entry_NoneType_ne (F.args_NoneType_ne_2 _ _) (jg b t)
    ⟨rfl,call_gives jt (typeIs_bytes s b t) entry_bytes_ne (args_bytes_ne_2 _ _) (jf b t) ⟨rfl,h⟩⟩)
end
end BO
section
variable {prog:Program} {w:World} {A:Around} {E:Value→Shared→Prop} {s:Shared}
theorem sJ (a b:Addr) (x₀ x₁ y₀ y₁:Int) (t₀ t₁ u₀ u₁:Tok) (n k:Nat):
 Meets (Builtin.«tuple.__ge__» ⟨[.ref a,.ref b],[]⟩) (fun _ R s=>s.heap.get? a=some (gQ [.int x₀ t₀,.int x₁ t₁] n)∧s.heap.get? b=some (gQ [.int y₀ u₀,.int y₁ u₁] k)∧
  R (.ok (.ret (.bool (decide (y₀<x₀) || (decide (x₀=y₀) && decide (y₁≤x₁)))))) s):=by
 refine .of_wp fun prog w A R s h=> ?_
 obtain⟨ha,hb,hr⟩:=h
 show wpAny _ _ (isInstance (.ref b) (.type "tuple")>>= _) _ _ s
 refine wpAny_bind (wpAny_isInstance (T:="tuple") (b:=true) ⟨_,hb,rfl⟩ (by rw[isSubtype_type];kernel_rfl) ?_)
 show wpAny _ _ (Builtin.Tuple.tupleItemsOf (.ref a)>>= _) _ _ s
 unfold Builtin.Tuple.tupleItemsOf
 refine wpAny_bind (wpAny_bind (wpAny_seqItems ha rfl (wpAny_pure ?_)))
 refine wpAny_bind (wpAny_bind (wpAny_seqItems hb rfl (wpAny_pure ?_)))
 show wpAny _ _ (forIn [((Value.int x₀ t₀),(Value.int y₀ u₀)),((Value.int x₁ t₁),(Value.int y₁ u₁))] _ _>>= _) _ _ s
 rw[List.forIn_cons]
 refine wpAny_bind (wpAny_bind (wpAny_bind ((intKind prog w).eqBool (intKind_is prog w x₀ t₀) (intKind_is prog w y₀ u₀) ?_)))
 by_cases e₀:x₀=y₀
 ·rw[decide_eq_true e₀]
  refine wpAny_pure ?_
  dsimp only
  rw[List.forIn_cons]
  refine wpAny_bind (wpAny_bind ((intKind prog w).eqBool (intKind_is prog w x₁ t₁) (intKind_is prog w y₁ u₁) ?_))
  by_cases e₁:x₁=y₁
  ·rw[decide_eq_true e₁]
   refine wpAny_pure ?_
   dsimp only
   rw[List.forIn_nil]
   refine wpAny_pure (wpAny_pure ⟨_,rfl,?_⟩)
   have:(decide (y₀<x₀) || (decide (x₀=y₀) && decide (y₁≤x₁)))=true:=by simp[e₀,e₁]
   rw[this] at hr
   exact hr
  ·rw[decide_eq_false e₁]
   refine wpAny_bind (wpAny_rule (wpAny_bind ?_))
   refine wpAny_mono (ge_int (Q:=fun v s'=>v= .bool (decide (y₁≤x₁))∧s'=s) (E:=fun _ _=>False) ⟨rfl,rfl⟩) (fun v s' hv=> ?_) fun _ _ z=>z.elim
   obtain⟨rfl,rfl⟩:=hv
   refine wpAny_bind (wpAny_pure (wpAny_pure (wpAny_pure (wpAny_pure ⟨_,rfl,?_⟩))))
   have:(decide (y₀<x₀) || (decide (x₀=y₀) && decide (y₁≤x₁)))=decide (y₁≤x₁):=by simp[e₀]
   rw[this] at hr
   exact hr
 ·rw[decide_eq_false e₀]
  refine wpAny_bind (wpAny_rule (wpAny_bind ?_))
  refine wpAny_mono (ge_int (Q:=fun v s'=>v= .bool (decide (y₀≤x₀))∧s'=s) (E:=fun _ _=>False) ⟨rfl,rfl⟩) (fun v s' hv=> ?_) fun _ _ z=>z.elim
  obtain⟨rfl,rfl⟩:=hv
  refine wpAny_bind (wpAny_pure (wpAny_pure (wpAny_pure (wpAny_pure ⟨_,rfl,?_⟩))))
  have:(decide (y₀<x₀) || (decide (x₀=y₀) && decide (y₁≤x₁)))=decide (y₀≤x₀):=by
   simp only[e₀,decide_false,Bool.false_and,Bool.or_false]
   have:y₀<x₀↔y₀≤x₀:=by omega
   simp[this]
  rw[this] at hr
  exact hr
theorem ge2 {a b:Addr} {x₀ x₁ y₀ y₁:Int} {t₀ t₁ u₀ u₁:Tok} {n k:Nat} {Q:Value→Shared→Prop} (ha:s.heap.get? a=some (gQ [.int x₀ t₀,.int x₁ t₁] n)) (hb:s.heap.get? b=some (gQ [.int y₀ u₀,.int y₁ u₁] k))
 (hu:A.units<cLine) (h:Q (.bool (decide (y₀<x₀) || (decide (x₀=y₀) && decide (y₁≤x₁)))) s):wpAny (model prog w) A (compareOp .GtE (.ref a) (.ref b)) Q E s:=by
 show wpAny _ A (richCompare .GtE _ _) Q E s
 exact richCompare_meets_room (op:= .GtE) ⟨_,ha,rfl⟩ ⟨_,hb,rfl⟩ F.slot_tuple_ge F.entry_tuple_ge (F.args_tuple_ge_2 _ _) (sJ a b x₀ x₁ y₀ y₁ t₀ t₁ u₀ u₁ n k) ⟨ha,hb,nofun,h⟩ hu
theorem cA {nm:Nat→Str} {ρ:Rh} {news:Led}:∀{vs:List SV} {is:List Int} {ws:List Value},bE vs=some is→A2 (V ρ news) vs ws→IntsAre ws is
 |[],_,[],h,_=>by cases h;exact .nil
 | .int i::r,_,x::ws,h,q=>by
   unfold bE at h
   obtain⟨l,hl,rfl⟩:=Option.map_eq_some_iff.mp h
   obtain⟨t,rfl⟩:=q.1.int_inv
   exact .cons i t (cA (nm:=nm) hl q.2)
 | .none::_,_,_::_,h,_=>nomatch h
 | .bool _::_,_,_::_,h,_=>nomatch h
 | .bytes _::_,_,_::_,h,_=>nomatch h
 | .ref _::_,_,_::_,h,_=>nomatch h
 | .tup _::_,_,_::_,h,_=>nomatch h
 |[],_,_::_,_,q=>q.elim
 |_::_,_,[],_,q=>q.elim
theorem eL {ρ:Rh} {news:Led} (k:Int):∀{es:List (Int×SV)} {kvs:List (Int×Value)},A2 (DE ρ news) es kvs→
 (match getD k es with|some v=>∃x,valueAt kvs k=some x∧V ρ news v x|none=>valueAt kvs k=none)
 |[],[],_=>by unfold getD;rfl
 |(g,v)::r,(h,x)::q,a=>by
  have e:g=h:=a.1.1
  subst e
  unfold getD
  by_cases c:g=k
  ·rw[if_pos c]
   exact⟨x,by unfold valueAt;simp[c],a.1.2⟩
  ·rw[if_neg c]
   have ih:=eL k a.2
   have e:valueAt ((g,x)::q) k=valueAt q k:=by unfold valueAt;simp[c]
   rw[e]
   exact ih
theorem getD_some {ρ:Rh} {news:Led} {k:Int} {es:List (Int×SV)} {kvs:List (Int×Value)} {v:SV} (a:A2 (DE ρ news) es kvs) (h:getD k es=some v):∃x,valueAt kvs k=some x∧V ρ news v x:=by
 have:=eL k a
 rw[h] at this;exact this
theorem jT {ρ:Rh} {news:Led} {k:Int} {es:List (Int×SV)} {kvs:List (Int×Value)} (a:A2 (DE ρ news) es kvs):(valueAt kvs k).isSome=(getD k es).isSome:=by
 have:=eL k a
 cases h:getD k es with
 |some v=>rw[h] at this;obtain⟨x,e,_⟩:=this;rw[e];rfl
 |none=>rw[h] at this;rw[this];rfl
theorem wB {op:CmpOp} {x y:Int} {b:Bool} {t u:Tok} {Q:Value→Shared→Prop} (h:zp op x y=some b) (q:Q (.bool b) s):wpAny (model prog w) A (compareOp op (.int x t) (.int y u)) Q E s:=by
 cases op<;>(try (cases h;done))<;>cases h
 ·exact eq_int (by simpa[BEq.beq] using q)
 ·refine ne_int ?_
  have:(x != y)= !decide (x=y):=by
   by_cases e:x=y<;>simp[e]
  rw[this];exact q
 ·exact lt_int q
 ·exact le_int q
 ·exact gt_int q
 ·exact ge_int q
theorem wA {op:CmpOp} {x y:List UInt8} {b:Bool} {t u:Tok} {Q:Value→Shared→Prop} (h:cmpB op x y=some b) (q:Q (.bool b) s):wpAny (model prog w) A (compareOp op (.bytes x.toArray t) (.bytes y.toArray u)) Q E s:=by
 cases op<;>(try (cases h;done))<;>cases h
 ·refine eq_bytes ?_
  have:(x.toArray.toList == y.toArray.toList)=decide (x=y):=by
   by_cases e:x=y<;>simp[e]
  rw[this];exact q
 ·refine ne_bytes ?_
  have:(x.toArray.toList != y.toArray.toList)= !decide (x=y):=by
   by_cases e:x=y<;>simp[e]
  rw[this];exact q
 ·exact BO.lt_bytes q
 ·exact BO.le_bytes q
 ·exact BO.gt_bytes q
 ·exact BO.ge_bytes q
variable {nm:Nat→Str} {h₀:Heap} {L:Addr} {m:Str→Option Value} {news:Led} {ρ:Rh} {H:Hp} {X:Hp→Prop}
theorem q7 {op:CmpOp} {a b:SV} {x y:Value} {Q:Value→Shared→Prop} (hu:A.units+64<cLine) (Fm:Fr h₀ L s.heap m) (N:News h₀ L s.heap news) (S:St prog w nm ρ H news) (va:V ρ news a x) (vb:V ρ news b y)
 (q:PS prog w nm h₀ L m VOB ρ news (dO op a b H) Q X s):wpAny (model prog w) A (compareOp op x y) Q E s:=by
 unfold dO at q
 split at q
 ·have:=vb.none_inv
  subst this
  refine is_none ?_
  have e:(x == Value.none)=isNone a:=by
   cases a with
   |none=>rw[va.none_inv];rfl
   |bool b=>rw[va.bool_inv];rfl
   |int b=>obtain⟨t,rfl⟩:=va.int_inv;rfl
   |bytes b=>obtain⟨t,rfl⟩:=va.bytes_inv;rfl
   |ref n=>obtain⟨a,d,rfl,_⟩:=va.ref_inv;rfl
   |tup vs=>obtain⟨a,ws,n,rfl,_⟩:=va.tup_inv;rfl
  rw[e]
  exact PS.here (tk:=s.toks) Fm N S q rfl
 ·have:=vb.none_inv
  subst this
  refine isNot_none ?_
  have e:(x == Value.none)=isNone a:=by
   cases a with
   |none=>rw[va.none_inv];rfl
   |bool b=>rw[va.bool_inv];rfl
   |int b=>obtain⟨t,rfl⟩:=va.int_inv;rfl
   |bytes b=>obtain⟨t,rfl⟩:=va.bytes_inv;rfl
   |ref n=>obtain⟨a,d,rfl,_⟩:=va.ref_inv;rfl
   |tup vs=>obtain⟨a,ws,n,rfl,_⟩:=va.tup_inv;rfl
  rw[e]
  exact PS.here (tk:=s.toks) Fm N S q rfl
 ·obtain⟨t,rfl⟩:=va.int_inv;obtain⟨u,rfl⟩:=vb.int_inv
  unfold R.ofOpt at q
  split at q
  ·rename_i h
   exact wB h (PS.here (tk:=s.toks) Fm N S q rfl)
  ·exact q.elim
 ·obtain⟨t,rfl⟩:=va.bytes_inv;obtain⟨u,rfl⟩:=vb.bytes_inv
  unfold R.ofOpt at q
  split at q
  ·rename_i h
   exact wA h (PS.here (tk:=s.toks) Fm N S q rfl)
  ·exact q.elim
 ·have:=va.bool_inv;subst this;have:=vb.bool_inv;subst this
  exact ne_bool (PS.here (tk:=s.toks) Fm N S q rfl)
 ·have:=va.none_inv;subst this;have:=vb.none_inv;subst this
  exact EqNone.ne_none_none (PS.here (tk:=s.toks) Fm N S q rfl)
 ·have:=va.none_inv;subst this;obtain⟨u,rfl⟩:=vb.bytes_inv
  exact BO.ne_none_bytes (PS.here (tk:=s.toks) Fm N S q rfl)
 ·obtain⟨u,rfl⟩:=va.bytes_inv;have:=vb.none_inv;subst this
  exact BO.ne_bytes_none (PS.here (tk:=s.toks) Fm N S q rfl)
 ·obtain⟨p,ws,n,rfl,hp,h1⟩:=va.tup_inv
  obtain⟨r,us,k,rfl,hr,h2⟩:=vb.tup_inv
  match ws,h1 with
  |[w₀,w₁],h1=>
   match us,h2 with
   |[z₀,z₁],h2=>
    obtain⟨t₀,rfl⟩:=(V.of0 (news:=news) h1.1).int_inv
    obtain⟨t₁,rfl⟩:=(V.of0 (news:=news) h1.2.1).int_inv
    obtain⟨u₀,rfl⟩:=(V.of0 (news:=news) h2.1).int_inv
    obtain⟨u₁,rfl⟩:=(V.of0 (news:=news) h2.2.1).int_inv
    exact ge2 (N _ hp).1 (N _ hr).1 (by omega) (PS.here (tk:=s.toks) Fm N S q rfl)
   |[],h2=>exact h2.elim
   |[_],h2=>exact h2.2.elim
   |_::_::_::_,h2=>exact h2.2.2.elim
  |[],h1=>exact h1.elim
  |[_],h1=>exact h1.2.elim
  |_::_::_::_,h1=>exact h1.2.2.elim
 ·obtain⟨t,rfl⟩:=va.int_inv;obtain⟨p,d,rfl,r⟩:=vb.ref_inv
  split at q
  ·rename_i es he
   obtain⟨_,hs,kvs,o,h1,h2,h3⟩:=S.dict he r
   refine wpAny_in_of (intKind_is prog w _ t) hs (dP N h1 h2).mapOf ?_
   rw[jT h3]
   exact PS.here Fm N S q rfl
  ·exact q.elim
 ·obtain⟨p,d,rfl,r⟩:=va.ref_inv;obtain⟨p',d',rfl,r'⟩:=vb.ref_inv
  split at q
  ·rename_i u v hx hy
   split at q
   ·rename_i c e hp hq
    obtain⟨_,ws,o,a1,a2,a3⟩:=S.list hx r
    obtain⟨_,ws',o',b1,b2,b3⟩:=S.list hy r'
    exact ne_intsK (aV N a1 a2) (cA (nm:=nm) hp a3) (aV N b1 b2) (cA (nm:=nm) hq b3) hu (PS.here (tk:=s.toks) Fm N S q rfl)
   ·exact q.elim
  ·exact q.elim
 ·obtain⟨p,d,rfl,r⟩:=va.ref_inv;obtain⟨p',d',rfl,r'⟩:=vb.ref_inv
  split at q
  ·rename_i u v hx hy
   split at q
   ·rename_i c e hp hq
    obtain⟨_,ws,o,a1,a2,a3⟩:=S.list hx r
    obtain⟨_,ws',o',b1,b2,b3⟩:=S.list hy r'
    exact eq_intsK (aV N a1 a2) (cA (nm:=nm) hp a3) (aV N b1 b2) (cA (nm:=nm) hq b3) hu (PS.here (tk:=s.toks) Fm N S q rfl)
   ·exact q.elim
  ·exact q.elim
 ·exact q.elim
end
section
variable {prog:Program} {w:World} {nm:Nat→Str} {A:Around} {E:Value→Shared→Prop} {s:Shared} {h₀:Heap} {L:Addr} {m:Str→Option Value} {news:Led} {ρ:Rh} {H:Hp} {X:Hp→Prop}
def Sub (s:Shared) (o:Value):Prop:=∃T id,s.TypeIs o T∧typeLookup (.type T) "__getitem__"=pure (some (.builtin id))
theorem jw {value slice:Expr} {o i:Value} {Q:Value→Shared→Prop} (h:Sub s o) (g:wpAny (model prog w) A (getItem o i) Q E s):wpAny (model prog w) A (subscriptTail value slice o i) Q E s:=by
 obtain⟨T,id,a,b⟩:=h
 have:∃ops,subscripted slice false o i=operate ops (getItem o i):=by
  cases slice<;>(try exact⟨_,rfl⟩)
  rename_i a b c d
  cases c<;>exact⟨_,rfl⟩
 obtain⟨ops,e⟩:=this
 exact tail_any a b g e
theorem jO {α:Type} {vs:List α} {i:Int} {v:α} (h:dv vs i=some v):0≤i∧vs[i.toNat]? =some v:=by
 unfold dv at h
 split at h
 ·rename_i c;exact⟨c,h⟩
 ·cases h
theorem hZ {i:Int} {n:Nat} (h0:0≤i) (h:i.toNat<n):seqIndex? i n=some i.toNat:=by
 have a:¬i<0:=by omega
 have b:i<(n:Int):=by omega
 simp[seqIndex?,a,h0,b]
theorem ro {a i:SV} {x y:Value} {Q:Value→Shared→Prop} (F:Fr h₀ L s.heap m) (N:News h₀ L s.heap news) (S:St prog w nm ρ H news) (va:V ρ news a x) (vb:V ρ news i y)
 (q:PS prog w nm h₀ L m V ρ news (j4 a i H) Q X s):Sub s x∧wpAny (model prog w) A (getItem x y) Q E s:=by
 unfold j4 at q
 split at q
 ·obtain⟨p,ws,n,rfl,hp,h1⟩:=va.tup_inv;obtain⟨u,rfl⟩:=vb.int_inv
  split at q
  ·rename_i c
   split at q
   ·rename_i v hv
    obtain⟨h0,hv⟩:=jO hv
    obtain⟨z,hz,vz⟩:=h1.get hv
    have ht:=lq N hp
    have hl:_<ws.length:=(List.getElem?_eq_some_iff.mp hz).1
    exact⟨⟨_,_,ht.typeIs,PyProof.Rows.slot_tuple_getitem.lookup⟩,PyProof.Rows.getItem_tuple ht (by omega) (by omega) (hZ h0 (by simpa using hl)) (by simpa using hz) (PS.here (tk:=s.toks) F N S q (V.of0 vz))⟩
   ·exact q.elim
  ·exact q.elim
 ·obtain⟨u,rfl⟩:=va.bytes_inv;obtain⟨t,rfl⟩:=vb.int_inv
  split at q
  ·rename_i c
   split at q
   ·rename_i v hv
    obtain⟨h0,hv⟩:=jO hv
    rename_i bs _ _
    have hl:=(List.getElem?_eq_some_iff.mp hv).1
    refine⟨⟨_,_,typeIs_bytes _ _ _,FB.slot_bytes_getitem.lookup⟩,getItem_bytes (by unfold ag at c;omega) h0 (by omega) ?_⟩
    have e:∀(l:List UInt8) (n:Nat),l[n]? =some v→l.getD n 0=v:=fun l n h=>by simp[List.getD,h]
    rw[e _ _ hv]
    exact PS.here F N S q rfl
   ·exact q.elim
  ·exact q.elim
 ·obtain⟨p,d,rfl,r⟩:=va.ref_inv;obtain⟨t,rfl⟩:=vb.int_inv
  split at q
  ·rename_i vs hn
   obtain⟨_,ws,o,b1,b2,b3⟩:=S.list hn r
   split at q
   ·rename_i c
    split at q
    ·rename_i v hv
     obtain⟨h0,hv⟩:=jO hv
     obtain⟨z,hz,vz⟩:=b3.get hv
     have hl:=aV N b1 b2
     exact⟨⟨_,_,hl.typeIs,PySem.slot_list_getitem.lookup⟩,wpAny_getItem_list hl h0 (by omega) (by simpa using hz) (PS.here (tk:=s.toks) F N S q vz)⟩
    ·exact q.elim
   ·exact q.elim
  ·rename_i es hn
   obtain⟨_,hs,kvs,o,b1,b2,b3⟩:=S.dict hn r
   split at q
   ·rename_i v hv
    obtain⟨z,hz,vz⟩:=getD_some b3 hv
    have hd:=dP N b1 b2
    exact⟨⟨_,_,hd.typeIs,PySem.slot_dict_getitem.lookup⟩,wpAny_getItem_of (intKind_is prog w _ t) hd.mapOf hz (PS.here F N S q vz)⟩
   ·exact q.elim
  ·rename_i es i' hn
   obtain⟨_,_,ep,io,kvs,o,_,_,b1,b2,b3⟩:=S.rod hn r
   split at q
   ·rename_i v hv
    obtain⟨z,hz,vz⟩:=getD_some b3 hv
    have hd:s.heap.DictOf (intKind prog w) p kvs:=(b2.dictAt (N _ b1).1).dictOf
    exact⟨⟨_,_,hd.typeIs,PySem.slot_dict_getitem.lookup⟩,wpAny_getItem_of (intKind_is prog w _ t) hd.mapOf hz (PS.here F N S q vz)⟩
   ·exact q.elim
  ·exact q.elim
 ·exact q.elim
theorem mD {v:SV} {x:Value} {b:Option Int} (h:zo v=some b) (q:V ρ news v x):IsPart x b:=by
 cases v with
 |none=>cases h;rw[q.none_inv];exact .none
 |int i=>cases h;obtain⟨t,rfl⟩:=q.int_inv;exact .int i t
 |_=>cases h
theorem su {vs:List SV} {ws:List Value} {lo hi:Option Int} {r:List SV} (h:ss vs lo hi=some r) (a:A2 (V ρ news) vs ws):A2 (V ρ news) r (slicePick ws.toArray lo hi none).toList:=by
 unfold ss at h
 split at h
 ·rename_i x
  split at h
  ·rename_i c
   cases h
   obtain⟨n,rfl⟩:=Int.eq_ofNat_of_zero_le c.1
   rw[slicePick_upto']
   exact a.take n
  ·cases h
 ·split at h
  ·rename_i c
   cases h
   obtain⟨n,rfl⟩:=Int.eq_ofNat_of_zero_le c.1
   rw[slicePick_from']
   exact a.drop n
  ·cases h
 ·cases h
theorem qp {vs r:List UInt8} {lo hi:Option Int} (h:ss vs lo hi=some r):KBy.picked vs.toArray lo hi=r.toArray:=by
 rw[KBc.picked_eq]
 unfold ss at h
 split at h
 ·split at h
  ·rename_i c
   cases h
   obtain⟨n,rfl⟩:=Int.eq_ofNat_of_zero_le c.1
   simp only[Option.elim,clipAt_nat,List.drop_zero,Nat.sub_zero,Int.toNat_natCast,List.size_toArray]
   rcases Nat.le_total n vs.length with h|h
   ·rw[Nat.min_eq_left h]
   ·rw[Nat.min_eq_right h,List.take_of_length_le (by simp),List.take_of_length_le (by simpa using h)]
  ·cases h
 ·split at h
  ·rename_i c
   cases h
   obtain⟨n,rfl⟩:=Int.eq_ofNat_of_zero_le c.1
   simp only[Option.elim,clipAt_nat,Int.toNat_natCast,List.size_toArray]
   rcases Nat.le_total n vs.length with h|h
   ·rw[Nat.min_eq_left h,List.take_of_length_le (by simp)]
   ·rw[Nat.min_eq_right h,List.drop_of_length_le (by simp),List.drop_of_length_le (by simpa using h)];simp
  ·cases h
 ·cases h
theorem xE {a lo hi:SV} {x l u:Value} {sl:Addr} {Q:Value→Shared→Prop} (F:Fr h₀ L s.heap m) (N:News h₀ L s.heap news) (S:St prog w nm ρ H news) (va:V ρ news a x) (vl:V ρ news lo l) (vu:V ρ news hi u)
 (hs:s.heap.IsSliceOf sl l u .none) (q:PS prog w nm h₀ L m V ρ news (oh a lo hi H) Q X s):Sub s x∧wpAny (model prog w) A (getItem x (.ref sl)) Q E s:=by
 unfold oh at q
 split at q
 ·rename_i lb hb h1 h2
  have pl:=mD h1 vl
  have pu:=mD h2 vu
  split at q
  ·obtain⟨t,rfl⟩:=va.bytes_inv
   split at q
   ·rename_i c
    split at q
    ·rename_i r hr
     refine⟨⟨_,_,typeIs_bytes _ _ _,FB.slot_bytes_getitem.lookup⟩,getItem_meets (typeIs_bytes _ _ _) (by decide) FB.slot_bytes_getitem FB.entry_bytes_getitem (FB.args_bytes_getitem_2 _ _) (KBc.meets_slice2 _ t _ pl pu) ⟨hs,?_,fun t' k=> ?_⟩⟩
     ·exact Nat.le_trans (KBc.size_picked_le _ _ _) (by rw[List.size_toArray,sizeLine_eq];unfold ag at c;omega)
     ·rw[qp hr]
      show Q (Value.bytes r.toArray t') {s with toks:=k}
      exact PS.here F N S q rfl
    ·exact q.elim
   ·exact q.elim
  ·obtain⟨p,d,rfl,r⟩:=va.ref_inv
   split at q
   ·rename_i vs hn
    split at q
    ·rename_i c
     split at q
     ·rename_i z hz
      obtain⟨_,ws,o,b1,b2,b3⟩:=S.list hn r
      have hl:=aV N b1 b2
      refine⟨⟨_,_,hl.typeIs,PySem.slot_list_getitem.lookup⟩,wpAny_getItem_list_slice hl hs pl pu .none (by simp) ?_ (by rw[List.size_toArray,←b3.len,sizeLine_eq];unfold ag at c;omega)⟩
      exact PS.newList (tk:=s.toks) (ws:=(slicePick ws.toArray lb hb none).toList) F N S q (F.push _) (News.push F N _) ⟨0,by simp⟩ (lY N) (su hz b3)
     ·exact q.elim
    ·exact q.elim
   ·exact q.elim
  ·exact q.elim
 ·exact q.elim
end
structure TOk (K:Frag) (T:Tb) (nm:Nat→Str):Prop where
 inj:∀x y,nm x=nm y→x=y
 fld:∀C f,T.fld C f=true→plainGet K C (nm f)=true∧hasDictIn K C=true∧(∃attr,findIn K (.ref C) (nm f)=some attr∧noGet K attr=true)∧
  findIn K (.ref C) "__setattr__"=some (some (.builtin "object.__setattr__"))∧plainOver K C=true∧takerIn K C (nm f)=some none
 meth:∀C m f,T.meth C m=some f→plainGet K C (nm m)=true∧findIn K (.ref C) (nm m)=some (some (.ref f))∧isFn K (.ref f)=true∧keepIn K (.ref f)=true
 init:∀C f,T.init C=some f→makesIn K C=true∧findIn K (.ref C) "__init__"=some (some (.ref f))∧isFn K (.ref f)=true∧keepIn K (.ref C)=true
 plain:∀C,T.plain C=true→makesIn K C=true∧findIn K (.ref C) "__init__"=some (some (.builtin "object.__init__"))∧keepIn K (.ref C)=true
 nLen:nm T.nLen="len"
 nSorted:nm T.nSorted="sorted"
 nBytes:nm T.nBytes="bytes"
 nMin:nm T.nMin="min"
 nSum:nm T.nSum="sum"
 nAppend:nm T.nAppend="append"
 nInsert:nm T.nInsert="insert"
 nGet:nm T.nGet="get"
 bui:∀x,x=T.nLen∨x=T.nSorted∨x=T.nBytes∨x=T.nMin∨x=T.nSum→nsIn K mainGlobals (nm x)=some none
section
variable {K:Frag} {T:Tb} {prog:Program} {w:World} {nm:Nat→Str} {A:Around} {E:Value→Shared→Prop} {s:Shared} {h₀:Heap} {L:Addr} {m:Str→Option Value} {news:Led} {ρ:Rh} {H:Hp} {X:Hp→Prop}
theorem oY {v:SV} {x:Value} (h:V ρ news v x):handedIn x=true:=by
 cases v with
 |none=>rw[h.none_inv];rfl
 |bool b=>rw[h.bool_inv];rfl
 |int b=>obtain⟨t,rfl⟩:=h.int_inv;rfl
 |bytes b=>obtain⟨t,rfl⟩:=h.bytes_inv;rfl
 |ref n=>obtain⟨a,d,rfl,_⟩:=h.ref_inv;rfl
 |tup vs=>obtain⟨a,ws,n,rfl,_⟩:=h.tup_inv;rfl
theorem zP {fs:List (Nat×SV)} {es:List DictEntry} (a:A2 (FE nm ρ news) fs es):∀e∈es,∃f v,(f,v)∈fs∧FE nm ρ news (f,v) e:=by
 induction fs generalizing es with
 |nil=>cases es with|nil=>intro e h;cases h|cons=>exact a.elim
 |cons p r ih=>
  cases es with
  |nil=>exact a.elim
  |cons e es=>
   intro e' h
   rcases List.mem_cons.mp h with rfl|h
   ·exact⟨p.1,p.2,List.mem_cons_self ..,a.1⟩
   ·obtain⟨f,v,h1,h2⟩:=ih a.2 e' h
    exact⟨f,v,List.mem_cons_of_mem _ h1,h2⟩
theorem noRef {fs:List (Nat×SV)} {es:List DictEntry} (a:A2 (FE nm ρ news) fs es):es.any (·.refKey)=false:=by
 rw[List.any_eq_false]
 intro e he
 obtain⟨f,v,_,t,h,_⟩:=zP a e he
 simp[DictEntry.refKey,h]
theorem mE (inj:∀x y,nm x=nm y→x=y) {f g:Nat} {v:SV} {e:DictEntry} (h:FE nm ρ news (g,v) e):e.key.isStr (nm f)=decide (g=f):=by
 obtain⟨t,h,_⟩:=h
 rw[h]
 show(nm g == nm f)=_
 by_cases c:g=f
 ·subst c;simp
 ·have:nm g≠nm f:=fun z=>c (inj _ _ z)
  simp[c,this]
theorem li (inj:∀x y,nm x=nm y→x=y) (f:Nat):∀{fs:List (Nat×SV)} {es:List DictEntry},A2 (FE nm ρ news) fs es→
 (match gZ f fs with|some v=>∃x,getL (nm f) es=some (some x)∧V ρ news v x|none=>getL (nm f) es=some none)
 |[],[],_=>rfl
 |(g,v)::r,e::es,a=>by
  have hk:=mE (f:=f) inj a.1
  have ih:=li inj f a.2
  unfold gZ
  by_cases c:g=f
  ·rw[if_pos c]
   obtain⟨t,_,hv⟩:=a.1
   refine⟨e.val,?_,hv⟩
   unfold getL
   rw[List.find?_cons,hk,decide_eq_true c]
  ·rw[if_neg c]
   have hr:e.refKey=false:=by
    obtain⟨t,h,_⟩:=a.1
    simp[DictEntry.refKey,h]
   have e1:getL (nm f) (e::es)=getL (nm f) es:=by
    unfold getL
    rw[List.find?_cons,hk,decide_eq_false c,List.any_cons,hr,Bool.false_or]
   rw[e1];exact ih
theorem qD (inj:∀x y,nm x=nm y→x=y) (f:Nat) (hs:Int) {v:SV} {x:Value} (hv:V ρ news v x) (t:Tok):∀{fs:List (Nat×SV)} {es:List DictEntry},A2 (FE nm ρ news) fs es→
 A2 (FE nm ρ news) (gk f v fs) (putL (nm f) hs (.str (nm f) t) x es)
 |[],[],_=>⟨⟨t,rfl,hv⟩,trivial⟩
 |(g,u)::r,e::es,a=>by
  have hk:=mE (f:=f) inj a.1
  unfold gk putL
  by_cases c:g=f
  ·rw[if_pos c,hk,decide_eq_true c,if_pos rfl]
   obtain⟨t',h,_⟩:=a.1
   exact⟨⟨t',h,hv⟩,a.2⟩
  ·rw[if_neg c,hk,decide_eq_false c,if_neg (by decide)]
   exact⟨a.1,qD inj f hs hv t a.2⟩
theorem pC (f:Nat) (v:SV):∀fs:List (Nat×SV),(gk f v fs).length≤fs.length+1
 |[]=>Nat.le_refl _
 |(g,u)::r=>by
  unfold gk
  split
  ·simp
  ·have:=pC f v r
   simp only[List.length_cons];omega
theorem ow {v:SV} {x:Value} {f:Nat} {expr:Bool} {Q:Value→Shared→Prop} (tk:TOk K T nm) (F:Fr h₀ L s.heap m) (X₀:K.In h₀) (N:News h₀ L s.heap news) (S:St prog w nm ρ H news) (va:V ρ news v x)
 (q:PS prog w nm h₀ L m V ρ news (gC T v f H) Q X s):wpAny (model prog w) A (getAttr x (nm f) expr) Q E s:=by
 unfold gC at q
 split at q
 ·obtain⟨a,d,rfl,r⟩:=va.ref_inv
  split at q
  ·rename_i C fs hn
   obtain⟨b1,es,k,b2,b3⟩:=S.inst hn r
   split at q
   ·rename_i c
    obtain⟨t1,t2,⟨attr,t3,t4⟩,_⟩:=tk.fld _ _ c
    split at q
    ·rename_i u hu
     have g:=li tk.inj f b3
     rw[hu] at g
     obtain⟨z,g1,g2⟩:=g
     exact get_own F X₀ (InstAt.of_news N b1 b2) t1 t2 t3 t4 g1 (oY g2) (PS.here F N S q g2)
    ·exact q.elim
   ·exact q.elim
  ·exact q.elim
 ·exact q.elim
theorem rX {v u:SV} {x y:Value} {f:Nat} {Q:Unit→Shared→Prop} (tk:TOk K T nm) (F:Fr h₀ L s.heap m) (X₀:K.In h₀) (N:News h₀ L s.heap news) (S:St prog w nm ρ H news) (va:V ρ news v x) (vb:V ρ news u y)
 (q:PS prog w nm h₀ L m VU ρ news (qJ T v f u H) Q X s):wpAny (model prog w) A (setAttr x (nm f) y) Q E s:=by
 unfold qJ at q
 split at q
 ·obtain⟨a,d,rfl,r⟩:=va.ref_inv
  split at q
  ·rename_i n C fs hn
   obtain⟨b1,es,k,b2,b3⟩:=S.inst hn r
   split at q
   ·rename_i c
    simp only[Bool.and_eq_true,decide_eq_true_eq] at c
    obtain⟨t1,t2,⟨attr,t3,t4⟩,t5,t6,t7⟩:=tk.fld _ _ c.1
    have g:(getL (nm f) es).isSome=true:=by
     have:=li tk.inj f b3
     cases h:gZ f fs with
     |some z=>rw[h] at this;obtain⟨z,g1,_⟩:=this;rw[g1];rfl
     |none=>rw[h] at this;rw[this];rfl
    have hz:(putL (nm f) (PyData.keyHash w.params (nm f)) (.str (nm f) (s.toks+1)) y es).length≤1000:=by
     rw[←(qD tk.inj f _ vb _ b3).len]
     have:=pC f u fs
     omega
    have N₁:News h₀ L s.heap ((d,dictOf es k)::but news d):=lK N b2
    refine set_dict F X₀ N₁ (InstAt.of_news N b1 b2) rfl t5 t6 t7 t2 g rfl (wx news d _ _) hz fun h' F' N'=> ?_
    have hob:Ob prog w nm ρ ((d,dictOf (putL (nm f) (PyData.keyHash w.params (nm f)) (.str (nm f) (s.toks+1)) y es) (putN (nm f) es k))::but news d) (.inst C (gk f u fs)) (a,d):=by
     have ne:a≠d:=fun e=>by
      subst e
      have:=du N b1 b2
      exact absurd (congrArg Obj.data this) (fun z=>by cases z)
     have X':Ext0 ρ news ρ ((d,dictOf (putL (nm f) (PyData.keyHash w.params (nm f)) (.str (nm f) (s.toks+1)) y es) (putN (nm f) es k))::but news d):=cE.ext N b2 (fun z=>by injection z with z;exact absurd z (by decide)) cE.of_but
     exact⟨List.mem_cons_of_mem _ (aZ.mpr ⟨b1,ne⟩),_,_,List.mem_cons_self ..,(qD tk.inj f _ vb _ b3).imp fun p e ⟨t,h1,h2⟩=>⟨t,h1,V.ext X' _ _ h2⟩⟩
    obtain⟨S',X'⟩:=St.turn N S hn r cE.of_but hob
    exact q _ _ h' _ () F' N' S' X' trivial
   ·exact q.elim
  ·exact q.elim
 ·exact q.elim
theorem jV {k:Int} {v:SV} {x:Value} (hv:V ρ news v x):∀{es:List (Int×SV)} {kvs:List (Int×Value)},A2 (DE ρ news) es kvs→(kvs.map (·.1)).Nodup→A2 (DE ρ news) (hW k v es) (stored kvs k x)
 |[],[],_,_=>⟨⟨rfl,hv⟩,trivial⟩
 |(g,u)::r,(g',y)::kvs,a,hn=>by
  have e:g=g':=a.1.1
  subst e
  rw[List.map_cons,List.nodup_cons] at hn
  unfold hW
  by_cases c:g=k
  ·subst c
   rw[if_pos rfl]
   have:stored ((g,y)::kvs) g x=(g,x)::kvs:=by
    unfold stored
    rw[if_pos (by simp)]
    simp only[List.map_cons,if_true]
    congr 1
    have:∀l:List (Int×Value),g∉l.map (·.1)→l.map (fun kv=>if kv.1=g then(kv.1,x) else kv)=l:=fun l=>by
     induction l with
     |nil=>intro _;rfl
     |cons p l ih=>
      intro h
      rw[List.map_cons,List.mem_cons,not_or] at h
      rw[List.map_cons,if_neg (Ne.symm h.1),ih h.2]
    exact this kvs hn.1
   rw[this]
   exact⟨⟨rfl,hv⟩,a.2⟩
  ·rw[if_neg c]
   have ih:=jV (k:=k) hv a.2 hn.2
   have:stored ((g,y)::kvs) k x=(g,y)::stored kvs k x:=by
    unfold stored
    simp only[List.any_cons,c,decide_false,Bool.false_or]
    split
    ·simp[c]
    ·simp
   rw[this]
   exact⟨⟨rfl,a.1.2⟩,ih⟩
theorem ja {k:Int}:∀{es:List (Int×SV)} {kvs:List (Int×Value)},A2 (DE ρ news) es kvs→(kvs.map (·.1)).Nodup→A2 (DE ρ news) (ml k es) (without kvs k)
 |[],[],_,_=>trivial
 |(g,u)::r,(g',y)::kvs,a,hn=>by
  have e:g=g':=a.1.1
  subst e
  rw[List.map_cons,List.nodup_cons] at hn
  unfold ml
  by_cases c:g=k
  ·subst c
   rw[if_pos rfl]
   have:without ((g,y)::kvs) g=kvs:=by
    unfold without
    rw[List.filter_cons]
    simp only[ne_eq,not_true_eq_false,decide_false,Bool.false_eq_true,if_false]
    rw[List.filter_eq_self]
    intro p hp
    have:p.1≠g:=fun z=>hn.1 (by rw[←z];exact List.mem_map.mpr ⟨p,hp,rfl⟩)
    simp[this]
   rw[this];exact a.2
  ·rw[if_neg c]
   have:without ((g,y)::kvs) k=(g,y)::without kvs k:=by
    unfold without
    rw[List.filter_cons]
    simp[c]
   rw[this]
   exact⟨a.1,ja a.2 hn.2⟩
theorem pn {kvs:List (Int×Value)} {o:Obj} (h:o.IsDictOf (intKind prog w) kvs):(kvs.map (·.1)).Nodup:=by
 obtain⟨_,_,_,_,_,_,hn⟩:=h
 exact hn
theorem oM {kvs:List (Int×Value)} {o:Obj} (h:o.IsDictOf (intKind prog w) kvs):o.cls≠.type "tuple":=by
 obtain⟨_,_,hc,_⟩:=h
 rw[hc.1]
 intro z
 injection z with z
 exact absurd z (by decide)
theorem ii {h':Heap} {d:Addr} {o:Obj} (F:Fr h₀ L s.heap m) (N:News h₀ L s.heap news) (hm:(d,o)∈news) (hs:Heap.SameBut d s.heap h') {o':Obj} (ho:h'.get? d=some o'):Fr h₀ L h' m∧News h₀ L h' ((d,o')::but news d):=by
 have z:=N _ hm
 refine⟨F.change hs z.2.1 z.2.2,?_⟩
 have N₁:=lK N hm
 exact news_set (pre:=[]) N₁ (fun _ h=>nomatch h) (tE news d) hs ho
theorem uC {l:Addr} {items:Array Value} {n:Nat} {k:Int} {t:Tok} {v:Value} {Q:Unit→Shared→Prop} (ho:s.heap.get? l=some (listOf items n))
 (h0:0≤k) (hfit:k<2 ^ 63) (hn:k<items.size)
 (hQ:∀h',(∃n',h'.get? l=some (listOf (items.setIfInBounds k.toNat v) n'))→Heap.SameBut l s.heap h'→Q () {s with heap:=h'}):
 wpAny (model prog w) A (setItem (.ref l) (.int k t) v) Q E s:=by
 have hl:s.heap.IsList l items:=⟨_,ho,rfl,n,rfl⟩
 unfold setItem
 try with_reducible refine wpAny_holding ?_
 first|refine wpAny_bind (wpAny_pure ?_)|skip
 refine wpAny_bind (wpAny_sequenceKey hl.typeIs (by decide) ?_)
 refine wpAny_bind (wpAny_callSpecial?_slot (name:=Str.ofString "__setitem__") hl.typeIs PySem.slot_list_setitem
  (wpAny_call_entry PySem.slot_list_setitem hl.typeIs PySem.entry_list_setitem ?_ (PySem.args_list_setitem _ _ _)))
 show wpAny _ _ (Builtin.List.listSubscript? (.int k t)>>= _) _ _ s
 refine wpAny_bind (wpAny_listSubscript_int (fitsIndex_of h0 hfit) ?_)
 obtain⟨j,rfl⟩:=Int.eq_ofNat_of_zero_le h0
 have hj:j<items.size:=by omega
 have hx':items[j]? =some items[j]:=Array.getElem?_eq_getElem hj
 show wpAny _ _ ((seqItemAt l j>>= fun r=>pure (r.map (j,·)))>>= _) _ _ s
 refine wpAny_bind (wpAny_bind (wpAny_seqItemAt ho rfl (wpAny_pure ?_)))
 rw[hx']
 show wpAny _ _ (setSeqItemAt l j v>>= _) _ _ s
 have hfin:∃n',(s.heap.update l (Obj.mapSeq (·.setIfInBounds j v))).get? l=some (listOf (items.setIfInBounds j v) n'):=
  ⟨_,Heap.get?_update_self _ ho rfl⟩
 refine wpAny_bind (wpAny_setSeqItemAt ho rfl ?_)
 first
  |exact wpAny_bind (wpAny_pure (wpAny_pure ⟨.none,rfl,wpAny_pure (hQ _ hfin (Heap.SameBut.update ..))⟩))
  |exact wpAny_pure ⟨.none,rfl,wpAny_pure (hQ _ hfin (Heap.SameBut.update ..))⟩
theorem lz {ws:List Value} {o:Obj} (h:gR ws o):o.cls≠.type "tuple":=by
 obtain⟨n,rfl⟩:=h
 intro z
 injection z with z
 exact absurd z (by decide)
theorem rW {v i u:SV} {x y z:Value} {Q:Unit→Shared→Prop} (F:Fr h₀ L s.heap m) (N:News h₀ L s.heap news) (S:St prog w nm ρ H news) (va:V ρ news v x) (vi:V ρ news i y) (vb:V ρ news u z)
 (q:PS prog w nm h₀ L m VU ρ news (qI v i u H) Q X s):wpAny (model prog w) A (setItem x y z) Q E s:=by
 unfold qI at q
 split at q
 ·obtain⟨a,d,rfl,r⟩:=va.ref_inv;obtain⟨t,rfl⟩:=vi.int_inv
  split at q
  ·rename_i es hn
   obtain⟨e,hs,kvs,o,b1,b2,b3⟩:=S.dict hn r
   subst e
   split at q
   ·rename_i c
    refine wpAny_setItem_pairs (intKind_is prog w _ t) (dP N b1 b2) (fun h' hd hs'=> ?_) (by rw[←b3.len,sizeLine_eq];unfold ag at c;omega)
    obtain⟨o',ho',hd'⟩:=Heap.dictOf_iff.mp hd
    obtain⟨F',N'⟩:=ii F N b1 hs' ho'
    have X':Ext0 ρ news ρ ((a,o')::but news a):=cE.ext N b1 (oM b2) cE.of_but
    obtain⟨S',X'⟩:=St.turn N S hn r (news':=(a,o')::but news a) cE.of_but (o':= .dict (hW _ u es)) ⟨rfl,hs,_,o',List.mem_cons_self ..,hd',(jV vb b3 (pn b2)).imp fun p e ⟨h1,h2⟩=>⟨h1,V.ext X' _ _ h2⟩⟩
    exact q _ _ h' _ () F' N' S' X' trivial
   ·exact q.elim
  ·rename_i kk _ vs hn
   obtain⟨e,ws,o,b1,b2,b3⟩:=S.list hn r
   subst e
   split at q
   ·rename_i c
    obtain⟨n,rfl⟩:=id b2
    refine uC (N _ b1).1 c.1 (by omega) (by rw[List.size_toArray,←b3.len];exact c.2.1) (fun h' ⟨n',ho'⟩ hs'=> ?_)
    obtain⟨F',N'⟩:=ii F N b1 hs' ho'
    have X':Ext0 ρ news ρ ((a,listOf (ws.toArray.setIfInBounds kk.toNat z) n')::but news a):=cE.ext N b1 (lz b2) cE.of_but
    obtain⟨S',X'⟩:=St.turn N S hn r (news':=(a,listOf (ws.toArray.setIfInBounds kk.toNat z) n')::but news a) cE.of_but (o':= .list (vs.set kk.toNat u)) ⟨rfl,ws.set kk.toNat z,_,List.mem_cons_self ..,⟨n',by simp⟩,(A2.set _ b3 vb).imp (V.ext X')⟩
    exact q _ _ h' _ () F' N' S' X' trivial
   ·exact q.elim
  ·exact q.elim
 ·exact q.elim
theorem wE {v i:SV} {x y:Value} {Q:Unit→Shared→Prop} (F:Fr h₀ L s.heap m) (N:News h₀ L s.heap news) (S:St prog w nm ρ H news) (va:V ρ news v x) (vi:V ρ news i y)
 (q:PS prog w nm h₀ L m VU ρ news (tK v i H) Q X s):wpAny (model prog w) A (delItem x y) Q E s:=by
 unfold tK at q
 split at q
 ·obtain⟨a,d,rfl,r⟩:=va.ref_inv;obtain⟨t,rfl⟩:=vi.int_inv
  split at q
  ·rename_i es hn
   obtain⟨e,hs,kvs,o,b1,b2,b3⟩:=S.dict hn r
   subst e
   split at q
   ·rename_i c
    simp only[Bool.and_eq_true,decide_eq_true_eq] at c
    have hD:=dP N b1 b2
    unfold delItem
    try with_reducible refine wpAny_holding ?_
    refine wpAny_bind (wpAny_sequenceKey hD.typeIs (by decide) ?_)
    refine wpAny_bind (wpAny_callSpecial?_slot (name:=Str.ofString "__delitem__") hD.typeIs PySem.F.slot_dict_delitem
     (call_meetsIn PySem.F.slot_dict_delitem hD.typeIs PySem.F.entry_dict_delitem (PySem.F.args_dict_delitem_2 _ _) (meets_dict_delitem_pairs (intKind prog w) a (intKind_is prog w _ t)) ⟨kvs,hD,?_,by rw[jT b3];exact c.1,fun h' hmm hs'=> ?_⟩))
    ·rw[←b3.len,sizeLine_eq]
     have:=c.2
     unfold ag at this;omega
    ·obtain⟨o',ho',hd'⟩:=Heap.dictOf_iff.mp hmm
     obtain⟨F',N'⟩:=ii F N b1 hs' ho'
     have X':Ext0 ρ news ρ ((a,o')::but news a):=cE.ext N b1 (oM b2) cE.of_but
     obtain⟨S',X'⟩:=St.turn N S hn r (news':=(a,o')::but news a) cE.of_but (o':= .dict (ml _ es)) ⟨rfl,hs,_,o',List.mem_cons_self ..,hd',(ja b3 (pn b2)).imp fun p e ⟨h1,h2⟩=>⟨h1,V.ext X' _ _ h2⟩⟩
     exact wpAny_pure (q _ _ h' _ () F' N' S' X' trivial)
   ·exact q.elim
  ·exact q.elim
 ·exact q.elim
end
section
variable {α:Type} {le:α→α→Bool}
theorem iN (x:α):∀l:List α,(fK le x l).Perm (x::l)
 |[]=> .refl _
 |y::r=>by
  unfold fK
  split
  ·exact .refl _
  ·exact((iN x r).cons y).trans (.swap x y r)
theorem cy:∀l:List α,(cd le l).Perm l
 |[]=> .refl _
 |x::r=>by
  unfold cd
  exact(iN x _).trans ((cy r).cons x)
theorem jk (tot:∀a b,le a b=true∨le b a=true) (tr:∀a b c,le a b=true→le b c=true→le a c=true) (x:α):∀l:List α,l.Pairwise (fun a b=>le a b=true)→(fK le x l).Pairwise (fun a b=>le a b=true)
 |[],_=>by unfold fK;exact List.pairwise_singleton ..
 |y::r,h=>by
  rw[List.pairwise_cons] at h
  unfold fK
  split
  ·rename_i c
   rw[List.pairwise_cons]
   refine⟨fun z hz=> ?_,List.pairwise_cons.mpr h⟩
   rcases List.mem_cons.mp hz with rfl|hz
   ·exact c
   ·exact tr _ _ _ c (h.1 z hz)
  ·rename_i c
   rw[List.pairwise_cons]
   refine⟨fun z hz=> ?_,jk tot tr x r h.2⟩
   rcases List.mem_cons.mp ((iN x r).mem_iff.mp hz) with rfl|hz
   ·exact(tot z y).resolve_left c
   ·exact h.1 z hz
theorem d9 (tot:∀a b,le a b=true∨le b a=true) (tr:∀a b c,le a b=true→le b c=true→le a c=true):∀l:List α,(cd le l).Pairwise (fun a b=>le a b=true)
 |[]=> .nil
 |x::r=>by unfold cd;exact jk tot tr x _ (d9 tot tr r)
theorem fg (tot:∀a b,le a b=true∨le b a=true) (tr:∀a b c,le a b=true→le b c=true→le a c=true) (as:∀a b,le a b=true→le b a=true→a=b) {l l':List α} (p:l'.Perm l) (s:l'.Pairwise (fun a b=>le a b=true)):l'=cd le l:=
 List.Perm.eq_of_pairwise (le:=fun a b=>le a b=true) (fun a b _ _ h1 h2=>as a b h1 h2) s (d9 tot tr l) (p.trans (cy l).symm)
end
theorem kH (a b:Int):decide (a≤b)=true∨decide (b≤a)=true:=by simp;omega
theorem nS (a b c:Int) (h1:decide (a≤b)=true) (h2:decide (b≤c)=true):decide (a≤c)=true:=by simp at*;omega
theorem qw (a b:Int) (h1:decide (a≤b)=true) (h2:decide (b≤a)=true):a=b:=by simp at*;omega
theorem pd:∀a b:List Int,fM a b=true∨fM b a=true
 |[],_=> .inl rfl
 |_::_,[]=> .inr rfl
 |a::r,b::t=>by
  unfold fM
  by_cases e:a=b
  ·subst e;simpa using pd r t
  ·rw[if_neg e,if_neg (Ne.symm e)];simp;omega
theorem rG:∀a b c:List Int,fM a b=true→fM b c=true→fM a c=true
 |[],_,_,_,_=>rfl
 |_::_,[],_,h,_=>nomatch h
 |_::_,_::_,[],_,h=>nomatch h
 |a::r,b::t,c::u,h1,h2=>by
  unfold fM at*
  by_cases e:a=b
  ·subst e
   rw[if_pos rfl] at h1
   by_cases e2:a=c
   ·subst e2
    rw[if_pos rfl] at h2⊢
    exact rG r t u h1 h2
   ·rw[if_neg e2] at h2⊢;exact h2
  ·rw[if_neg e] at h1
   simp only[decide_eq_true_eq] at h1
   by_cases e2:b=c
   ·subst e2
    rw[if_neg e];simpa using h1
   ·rw[if_neg e2] at h2
    simp only[decide_eq_true_eq] at h2
    rw[if_neg (by omega)];simp;omega
theorem rF:∀a b:List Int,fM a b=true→fM b a=true→a=b
 |[],[],_,_=>rfl
 |_::_,[],h,_=>nomatch h
 |[],_::_,_,h=>nomatch h
 |a::r,b::t,h1,h2=>by
  unfold fM at*
  by_cases e:a=b
  ·subst e
   rw[if_pos rfl] at h1 h2
   rw[rF r t h1 h2]
  ·rw[if_neg e] at h1
   rw[if_neg (Ne.symm e)] at h2
   simp at h1 h2;omega
def dM:List Int→List Int→Bool
 |_,[]=>false
 |[],_::_=>true
 |a::r,b::t=>if a=b then dM r t else decide (a<b)
theorem rJ:∀a b:List Int,dM a b=true→fM a b=true
 |[],_,_=>rfl
 |_::_,[],h=>nomatch h
 |a::r,b::t,h=>by
  unfold dM at h;unfold fM
  split at h
  ·rename_i e;rw[if_pos e];exact rJ r t h
  ·rename_i e;rw[if_neg e];exact h
theorem lB:∀a b:List Int,a≠b→dM a b=false→dM b a=true
 |[],[],n,_=>absurd rfl n
 |[],_::_,_,h=>nomatch h
 |_::_,[],_,_=>rfl
 |a::r,b::t,n,h=>by
  unfold dM at*
  by_cases e:a=b
  ·subst e
   rw[if_pos rfl] at h⊢
   exact lB r t (fun z=>n (by rw[z])) h
  ·rw[if_neg e] at h
   rw[if_neg (Ne.symm e)]
   simp at h⊢;omega
theorem nT:∀a b c:List Int,dM a b=true→dM b c=true→dM a c=true
 |_,_,[],_,h=>by unfold dM at h;simp at h
 |_,[],_::_,h,_=>by unfold dM at h;simp at h
 |[],_::_,_::_,_,_=>rfl
 |a::r,b::t,c::u,h1,h2=>by
  unfold dM at*
  by_cases e:a=b
  ·subst e
   rw[if_pos rfl] at h1
   by_cases e2:a=c
   ·subst e2
    rw[if_pos rfl] at h2⊢
    exact nT r t u h1 h2
   ·rw[if_neg e2] at h2⊢;exact h2
  ·rw[if_neg e] at h1
   simp only[decide_eq_true_eq] at h1
   by_cases e2:b=c
   ·subst e2
    rw[if_neg e];simpa using h1
   ·rw[if_neg e2] at h2
    simp only[decide_eq_true_eq] at h2
    rw[if_neg (by omega)];simp;omega
theorem lA:∀a:List Int,dM a a=false
 |[]=>rfl
 |a::r=>by unfold dM;simpa using lA r
def lv {α:Type} (ans:Nat→Nat→Bool):KasT α→α
 | .ret a=>a
 | .ask i j k=>lv ans (k (ans i j))
abbrev kM:=List (Nat×Nat)
def lu (fs:kM):Nat→Nat→Nat→Bool
 |0,_,_=>false
 |f+1,i,j=>fs.any fun p=>p.1 == i && (p.2 == j || lu fs f p.2 j)
def nQ (fs:kM):List Nat→Bool
 |a::b::r=>(fs.any fun p=>p.1 == a && p.2 == b) && nQ fs (b::r)
 |_=>true
def g8 (n:Nat):KasT (Array Nat)→kM→Bool
 | .ret p,fs=>p.toList.isPerm (List.range n) && nQ fs p.toList
 | .ask i j k,fs=>decide (i<n) && decide (j<n) && !(i == j) &&
   (if lu fs n i j then g8 n (k true) fs else if lu fs n j i then g8 n (k false) fs else g8 n (k true) ((i,j)::fs) && g8 n (k false) ((j,i)::fs))
section
variable {lt:Nat→Nat→Prop}
theorem fL (tr:∀a b c,lt a b→lt b c→lt a c) {fs:kM} (hf:∀p∈fs,lt p.1 p.2):∀f i j,lu fs f i j=true→lt i j
 |0,_,_,h=>nomatch h
 |f+1,i,j,h=>by
  unfold lu at h
  obtain⟨p,hp,q⟩:=List.any_eq_true.mp h
  simp only[Bool.and_eq_true,beq_iff_eq,Bool.or_eq_true] at q
  obtain⟨rfl,q|q⟩:=q
  ·subst q;exact hf p hp
  ·exact tr _ _ _ (hf p hp) (fL tr hf f _ _ q)
theorem mF (tr:∀a b c,lt a b→lt b c→lt a c) {fs:kM} (hf:∀p∈fs,lt p.1 p.2):∀l:List Nat,nQ fs l=true→l.Pairwise lt
 |[],_=> .nil
 |[a],_=>List.pairwise_singleton ..
 |a::b::r,h=>by
  unfold nQ at h
  rw[Bool.and_eq_true] at h
  obtain⟨p,hp,q⟩:=List.any_eq_true.mp h.1
  simp only[Bool.and_eq_true,beq_iff_eq] at q
  obtain⟨rfl,rfl⟩:=q
  have ih:=mF tr hf _ h.2
  rw[List.pairwise_cons]
  refine⟨fun z hz=> ?_,ih⟩
  rcases List.mem_cons.mp hz with rfl|hz
  ·exact hf p hp
  ·exact tr _ _ _ (hf p hp) ((List.pairwise_cons.mp ih).1 z hz)
theorem jm {n:Nat} {ans:Nat→Nat→Bool} (tr:∀a b c,lt a b→lt b c→lt a c) (irr:∀a,¬lt a a) (ha:∀i j,i<n→j<n→i≠j→if ans i j=true then lt i j else lt j i):
 ∀(t:KasT (Array Nat)) (fs:kM),g8 n t fs=true→(∀p∈fs,lt p.1 p.2)→(lv ans t).toList.Perm (List.range n)∧(lv ans t).toList.Pairwise lt
 | .ret p,fs,h,hf=>by
   unfold g8 at h
   rw[Bool.and_eq_true] at h
   exact⟨List.isPerm_iff.mp h.1,mF tr hf _ h.2⟩
 | .ask i j k,fs,h,hf=>by
   unfold g8 at h
   simp only[Bool.and_eq_true,decide_eq_true_eq,Bool.not_eq_true',beq_eq_false_iff_ne] at h
   obtain⟨⟨⟨hi,hj⟩,hne⟩,h⟩:=h
   have a:=ha i j hi hj hne
   unfold lv
   split at h
   ·rename_i c
    have l:=fL tr hf _ _ _ c
    cases e:ans i j with
    |true=>exact jm tr irr ha (k true) fs h hf
    |false=>rw[e] at a;exact absurd (tr _ _ _ l a) (irr _)
   ·split at h
    ·rename_i c
     have l:=fL tr hf _ _ _ c
     cases e:ans i j with
     |true=>rw[e] at a;exact absurd (tr _ _ _ l a) (irr _)
     |false=>exact jm tr irr ha (k false) fs h hf
    ·rw[Bool.and_eq_true] at h
     cases e:ans i j with
     |true=>
      rw[e] at a
      exact jm tr irr ha (k true) _ h.1 fun p hp=>by
       rcases List.mem_cons.mp hp with rfl|hp
       ·exact a
       ·exact hf p hp
     |false=>
      rw[e] at a
      exact jm tr irr ha (k false) _ h.2 fun p hp=>by
       rcases List.mem_cons.mp hp with rfl|hp
       ·exact a
       ·exact hf p hp
end
theorem Ah:g8 2 (kas_sort 2) []=true:=by kernel_rfl
theorem Ai:g8 3 (kas_sort 3) []=true:=by kernel_rfl
theorem Aj:g8 4 (kas_sort 4) []=true:=by kernel_rfl
theorem Ak:g8 5 (kas_sort 5) []=true:=by kernel_rfl
theorem Al:g8 6 (kas_sort 6) []=true:=by kernel_rfl
theorem uB {n:Nat} (h2:2≤n) (h7:n<7):g8 n (kas_sort n) []=true:=by
 match n,h2,h7 with
 |2,_,_=>exact Ah
 |3,_,_=>exact Ai
 |4,_,_=>exact Aj
 |5,_,_=>exact Ak
 |6,_,_=>exact Al
 |0,h,_=>omega
 |1,h,_=>omega
section
variable {prog:Program} {w:World} {nm:Nat→Str} {A:Around} {E:Value→Shared→Prop} {s:Shared} {h₀:Heap} {L:Addr} {m:Str→Option Value} {news:Led} {ρ:Rh} {H:Hp} {X:Hp→Prop}
theorem qm {b:Array UInt8} {t:Tok} {Q:Value→Shared→Prop} (hQ:Q (.bytes b t) s):
 codeAny (model prog w) A (.call (.builtin "bytes.__new__") ⟨[.type "bytes",.bytes b t],[]⟩) (wants Q E) s:=by
 refine codeAny_of_tree ?_
 show wpAny _ A.in1 (do checkBuiltinCall "bytes.__new__" ⟨[.type "bytes",.bytes b t],[]⟩;again (.builtin "bytes.__new__" ⟨[.type "bytes",.bytes b t],[]⟩)) _ _ s
 refine wpAny_bind (wpAny_of_eq (F.bm_newCall _) (wpAny_pure ⟨plainId_quiet F.bm_plain _,codeAny_builtin F.bm_entry ?_⟩))
 rw[Around.under_plainId F.bm_plain _]
 unfold Builtin.«bytes.__new__»
 refine wpAny_bind (wpAny_of_eq (a:=true) rfl ?_)
 refine bm_if_false rfl ?_
 refine wpAny_bind (wpAny_of_eq F.bm_sub ?_)
 refine bm_if_false rfl ?_
 refine wpAny_bind (wpAny_of_eq (F.bm_bind _) ?_)
 refine wpAny_bind (wpAny_of_eq (a:=()) rfl ?_)
 refine wpAny_bind (wpAny_of_eq (a:=()) rfl ?_)
 refine bm_if_false rfl ?_
 refine wpAny_bind (wpAny_specialOf (typeIs_bytes s b t) (show typeLookup (.type "bytes") "__bytes__"=pure (some (.builtin "bytes.__bytes__")) by rw[typeLookup_type,builtinLookup_eq_fast];kernel_rfl) ?_)
 refine wpAny_bind (wpAny_rule ?_)
 refine wpAny_bind (wpAny_of_eq (a:=Value.type "bytes") rfl ?_)
 refine bm_if_true (by decide) ?_
 first
  |exact wpAny_pure ⟨_,rfl,hQ⟩
  |(show wpAny _ _ (if(Value.type "bytes" == Value.type "bytes")=true then _ else _) _ _ _
    refine bm_if_true (by decide) ?_
    first
     |exact wpAny_pure hQ
     |exact wpAny_bind (wpAny_pure (wpAny_pure hQ)))
theorem oF {b:Array UInt8} {t:Tok} {Q:Value→Shared→Prop} (hQ:Q (.bytes b t) s):wpAny (model prog w) A (call (.type "bytes") [.bytes b t]) Q E s:=by
 refine callType_codes (Q₁:=fun obj s₁=>s₁.TypeIs obj "bytes"∧Q obj s₁) F.bm_called (F.bm_typeCall _) F.entry_object_init (qm ⟨typeIs_bytes _ _ _,hQ⟩) fun obj s₁ h₁=> ?_
 exact⟨h₁.1,F.args_object_init_2 obj _,object_init_meets F.bm_called.init.lookup F.bm_called.made (by decide) prog w A.in1 _ s₁ ⟨h₁.1,rfl,h₁.2⟩⟩
theorem gD:∀{is:List Int} {b:List UInt8},aX is=some b→byteArr is=b.toArray∧∀n∈is,0≤n∧n<256
 |[],b,h=>by cases h;exact⟨rfl,fun _ h=>nomatch h⟩
 |i::r,b,h=>by
  unfold aX vZ at h
  split at h
  ·rename_i x bs h1 h2
   cases h
   split at h1
   ·rename_i c
    cases h1
    obtain⟨e,q⟩:=gD h2
    refine⟨?_,fun n hn=> ?_⟩
    ·unfold byteArr at*
     simp only[List.map_cons]
     have:(r.map fun n=>n.toNat.toUInt8).toArray=bs.toArray:=e
     have:=congrArg Array.toList this
     simp only at this
     rw[this]
    ·rcases List.mem_cons.mp hn with rfl|hn
     ·exact c
     ·exact q n hn
   ·cases h1
  ·cases h
def qT (news:Led) (l:List Int) (x:Value):Prop:=∃a ws n,x= .ref a∧(a,gQ ws n)∈news∧IntsAre ws l
theorem mc {nm:Nat→Str}:∀{vs:List SV} {ls:List (List Int)} {ws:List Value},iy vs=some ls→A2 (V ρ news) vs ws→A2 (qT news) ls ws
 |[],_,[],h,_=>by cases h;trivial
 | .tup us::r,ls,x::ws,h,q=>by
   unfold iy at h
   split at h
   ·rename_i i l h1 h2
    cases h
    obtain⟨a,zs,n,rfl,ha,hz⟩:=q.1.tup_inv
    exact⟨⟨a,zs,n,rfl,ha,cA (nm:=nm) h1 (hz.imp fun _ _ h=>V.of0 (news:=news) h)⟩,mc (nm:=nm) h2 q.2⟩
   ·cases h
 | .none::_,_,_::_,h,_=>nomatch h
 | .bool _::_,_,_::_,h,_=>nomatch h
 | .bytes _::_,_,_::_,h,_=>nomatch h
 | .ref _::_,_,_::_,h,_=>nomatch h
 | .int _::_,_,_::_,h,_=>nomatch h
 |[],_,_::_,_,q=>q.elim
 |_::_,_,[],_,q=>q.elim
theorem rD {b:Bool} {Q:Bool→Shared→Prop}:∀{xs ys:List Value} {as bs:List Int} (i:Nat),IntsAre xs as→IntsAre ys bs→(b=true)→Q (dM as bs) s→
 KatLex prog w A b (decide (xs.length<ys.length)) Q (xs.zip ys) i s
 |[],[],[],[],i,_,_,_,q=>by
  refine kat_nil ?_
  simpa[dM] using q
 |[],_::_,[],_::_,i,_,_,_,q=>by
  refine kat_nil ?_
  simpa[dM] using q
 |x::xs,[],as,[],i,_,_,_,q=>by
  refine kat_nil ?_
  have:dM as []=false:=by cases as<;>rfl
  rw[this] at q
  simpa using q
 |x::xs,y::ys,a::as,c::cs,i,hx,hy,hb,q=>by
  cases hx with
  |cons a t hx=>
   cases hy with
   |cons c u hy=>
    show KatLex prog w A b (decide (xs.length+1<ys.length+1)) Q ((_,_)::xs.zip ys) i s
    have el:decide (xs.length+1<ys.length+1)=decide (xs.length<ys.length):=by simp
    rw[el]
    refine kat_cons (wpAny_eqBool_int ?_)
    unfold dM at q
    by_cases e:a=c
    ·subst e
     rw[if_pos rfl] at q
     rw[beq_self_eq_true]
     exact kat_yes (rD (i+1) hx hy hb q)
    ·rw[if_neg e] at q
     have:(a == c)=false:=by simpa using e
     rw[this]
     refine kat_no ?_
     subst hb
     by_cases hi:i=0
     ·subst hi
      exact oneLt_int q
     ·have:(true && i == 0)=false:=by simpa using hi
      rw[this]
      refine kat_one _ _ (lt_int ?_)
      exact q
 |[],_,_::_,_,_,h,_,_,_=>nomatch h
 |_::_,_,[],_,_,h,_,_,_=>nomatch h
 |_,[],_,_::_,_,_,h,_,_=>nomatch h
 |_,_::_,_,[],_,_,h,_,_=>nomatch h
theorem o9 (N:News h₀ L s.heap news):∀{ls:List (List Int)} {ws:List Value},A2 (qT news) ls ws→(∀l∈ls,l≠[])→∃fs:List Value,KatTups s.heap ws fs∧fs.length=ws.length∧∀v∈fs,∃i t,v= .int i t
 |[],[],_,_=>⟨[],trivial,rfl,fun _ h=>nomatch h⟩
 |l::ls,x::ws,h,hne=>by
  obtain⟨⟨a,zs,n,rfl,ha,hi⟩,h2⟩:=h
  obtain⟨fs,h3,h4,h5⟩:=o9 N h2 fun l hl=>hne l (List.mem_cons_of_mem _ hl)
  have:=hne l (List.mem_cons_self ..)
  cases hi with
  |nil=>exact absurd rfl this
  |cons i t r=>
   rename_i zs' is'
   exact⟨.int i t::fs,KatTups.cons (N _ ha).1 rfl rfl rfl h3,by simp[h4],fun v hv=>by
    rcases List.mem_cons.mp hv with rfl|hv
    ·exact⟨i,t,rfl⟩
    ·exact h5 v hv⟩
 |[],_::_,h,_=>h.elim
 |_::_,[],h,_=>h.elim
theorem xj {α:Type} {cmp:Nat→Nat→(Bool→Shared→Prop)→Shared→Prop} {ans:Nat→Nat→Bool} {G:α→Shared→Prop} (hc:∀i j C,C (ans i j) s→cmp i j C s):∀t:KasT α,G (lv ans t) s→t.kasWp cmp G s
 | .ret _,h=>h
 | .ask i j k,h=>hc i j _ (xj hc (k (ans i j)) h)
theorem nA {α β:Type} {p:α→β→Prop} {l:List α} {r:List β} (h:A2 p l r) {i:Nat} (hi:i<l.length) (da:α) (db:β):p (l.getD i da) (r.getD i db):=by
 have e:l[i]? =some l[i]:=List.getElem?_eq_getElem hi
 obtain⟨b,hb,q⟩:=h.get e
 simp only[List.getD,e,hb]
 exact q
theorem to {α β:Type} {p:α→β→Prop} {l:List α} {r:List β} (h:A2 p l r) (da:α) (db:β):∀is:List Nat,(∀i∈is,i<l.length)→A2 p (is.map fun i=>l.getD i da) (is.map fun i=>r.getD i db)
 |[],_=>trivial
 |i::is,hi=>⟨nA h (hi i (List.mem_cons_self ..)) da db,to h da db is fun j hj=>hi j (List.mem_cons_of_mem _ hj)⟩
theorem qE {α:Type} (d:α) (l:List α):(List.range l.length).map (fun i=>l.getD i d)=l:=by
 apply List.ext_getElem
 ·simp
 ·intro i h1 h2
  simp[List.getD,h2]
theorem qK {l:Addr} {v:Value} {Q:Value→Shared→Prop} (Fm:Fr h₀ L s.heap m) (N:News h₀ L s.heap news) (hl:s.heap.IsList l [v].toArray)
 (h:∀h' e,Fr h₀ L h' m→News h₀ L h' ((s.heap.objs.size+1,seqObj "list" [v].toArray e)::news)→Q (.ref (s.heap.objs.size+1)) {s with heap:=h'}):
 wpAny (model prog w) A (call (.builtin "sorted") [.ref l]) Q E s:=by
 refine Calls.call_function_entry kind_sorted plain_sorted entry_sorted (args_sorted1 _) ?_
 unfold Builtin.«sorted»
 refine wpAny_bind (m:=checkCount "sorted" 1 1 _) (wpAny_pure ?_)
 refine wpAny_bind (collect_list hl ?_)
 refine wpAny_bind (wpAny_newList ?_)
 have hsz:((s.heap.push (seqObj "list" #[] 0)).update s.heap.objs.size (Obj.mapSeq (·++[v].toArray))).objs.size=s.heap.objs.size+1:=by
  rw[Heap.size_update,size_push']
 have hoL:(((s.heap.push (seqObj "list" #[] 0)).update s.heap.objs.size (Obj.mapSeq (·++[v].toArray))).push (seqObj "list" [v].toArray 0)).get? (s.heap.objs.size+1)=some (seqObj "list" [v].toArray 0):=by
  rw[←hsz];exact Heap.get?_push_size _ rfl
 show wpAny _ _ _ _ _ {s with heap:=((s.heap.push (seqObj "list" #[] 0)).update s.heap.objs.size (Obj.mapSeq (·++[v].toArray))).push (seqObj "list" [v].toArray 0)}
 rw[hsz]
 have fin:Q (.ref (s.heap.objs.size+1)) {s with heap:=sortedAll s.heap [v] [v].toArray}:=by
  obtain⟨e,he⟩:=sortedAll_at s.heap [v] [v].toArray
  exact h _ e (Fm.kept fun _ _=>sortedAll_old) (N.kept_cons Fm (fun _ _=>sortedAll_old) (Nat.le_succ _) he)
 refine wpAny_bind (wpAny_holding (wpAny_call_entry slot_list_sort ⟨_,hoL,rfl⟩ entry_list_sort ?_ (args_list_sort _)))
 rw[list_sort_plain]
 generalize hs₁:({s with heap:=((s.heap.push (seqObj "list" #[] 0)).update s.heap.objs.size (Obj.mapSeq (·++[v].toArray))).push (seqObj "list" [v].toArray 0)}:Shared)=s₁
 have ho:s₁.heap.get? (s.heap.objs.size+1)=some (seqObj "list" [v].toArray 0):=by rw[←hs₁];exact hoL
 have ha:=Heap.lt_size ho
 refine wpAny_bind (listItems_at ho rfl ?_)
 refine wpAny_bind (listUpdate_at ho rfl ?_)
 obtain⟨e1,ho1⟩:∃e1,(s₁.heap.update (s.heap.objs.size+1) (Obj.mapSeq fun _=> #[])).get? (s.heap.objs.size+1)=some (seqObj "list" #[] e1):=⟨_,get?_update_seq ho (fun _=> #[])⟩
 refine wpAny_bind (seqEpoch_at ho1 rfl ?_)
 refine wpAny_bind (wpAny_newTuple ?_)
 refine wpAny_bind (wpAny_newList ?_)
 refine wpAny_holding ?_
 have ho6:(((s₁.heap.update (s.heap.objs.size+1) (Obj.mapSeq fun _=> #[])).push (seqObj "tuple" [v].toArray 0)).push (seqObj "list" #[] 0)).get? (s.heap.objs.size+1)=some (seqObj "list" #[] e1):=by
  rw[Heap.get?_push_ne _ _ _ (by rw[size_push',Heap.size_update];exact Nat.ne_of_lt (Nat.lt_succ_of_lt ha)),Heap.get?_push_ne _ _ _ (by rw[Heap.size_update];exact Nat.ne_of_lt ha)]
  exact ho1
 show wpAny (model prog w) _ _ _ E {s₁ with heap:=((s₁.heap.update (s.heap.objs.size+1) (Obj.mapSeq fun _=> #[])).push (seqObj "tuple" [v].toArray 0)).push (seqObj "list" #[] 0)}
 dsimp only
 have h2:([v].toArray.size<2):=by simp
 rw[if_pos h2,if_pos h2]
 refine wpAny_bind (wpAny_pure ?_)
 rw[StateT.run_pure]
 refine wpAny_bind (wpAny_pure ?_)
 dsimp only
 refine wpAny_bind (seqEpoch_at ho6 rfl ?_)
 refine wpAny_bind (listUpdate_at ho6 rfl ?_ (hsz2:=by rw[Array.size_map];show(pairsOf [v]).size≤_;rw[pairsOf_size,sizeLine_eq];simp))
 simp only[bne_self_eq_false,Bool.false_eq_true,if_false]
 refine wpAny_pure ⟨_,rfl,?_⟩
 refine wpAny_pure ⟨_,rfl,?_⟩
 subst hs₁
 have e:(arrOf (SortSt.mk' general' (#[v].zip #[v]) #[] 7 none)).map (fun x=>x.2)= #[v]:=by show(#[v].zip #[v]).map (fun x=>x.2)= #[v];simp
 rw[e]
 exact fin
theorem vV {l:Addr} {ws:List Value} {ls:List (List Int)} {Q:Value→Shared→Prop} (Fm:Fr h₀ L s.heap m) (N:News h₀ L s.heap news) (hl:s.heap.IsList l ws.toArray) (ht:A2 (qT news) ls ws)
 (h7:ls.length<7) (h2:2≤ls.length) (hd:ls.Nodup) (hne:∀l∈ls,l≠[])
 (h:∀D h' (is:List Nat) c,Fr h₀ L h' m→News h₀ L h' ((D,listOf (is.map fun i=>ws.getD i .none).toArray c)::news)→(∀q∈news,q.1≠D)→(∀i∈is,i<ls.length)→(is.map fun i=>ls.getD i [])=cd fM ls→
   Q (.ref D) {s with heap:=h'}):
 wpAny (model prog w) A (call (.builtin "sorted") [.ref l]) Q E s:=by
 have hz:=ht.len
 refine kat_sorted Fm N hl (by omega) (by omega) fun D e1 h' F' N' hD=> ?_
 have N₀:News h₀ L h' news:=fun p hp=>N' p (List.mem_cons_of_mem _ hp)
 obtain⟨fs,t1,t2,t3⟩:=o9 (s:={s with heap:=h'}) N₀ ht hne
 refine kat_kind (T:= .type "int") t1 (by omega) (fun v hv=> ?_) (by decide) ?_
 ·obtain⟨i,t,rfl⟩:=t3 v hv
  exact Looks.of_pure rfl
 ·have hb:(Value.type "int" != Value.type "tuple")=true:=by decide
  rw[hb]
  let key:=fun i=>ls.getD i []
  let ans:=fun i j=>dM (key i) (key j)
  have hc:∀i j C,i<ls.length→j<ls.length→C (ans i j) {s with heap:=h'}→kas_ask prog w A.in1.in1 (tuples' true) ws i j C {s with heap:=h'}:=fun i j C hi hj hC=>by
   unfold kas_ask
   obtain⟨a,zs,n,ea,ha,hia⟩:=nA ht hi [] .none
   obtain⟨b,ys,k,eb,hb,hib⟩:=nA ht hj [] .none
   rw[ea,eb]
   refine kat_lt (N₀ _ ha).1 rfl (N₀ _ hb).1 rfl ?_
   have e1:zs.toArray.size=zs.length:=by simp
   have e2:ys.toArray.size=ys.length:=by simp
   rw[e1,e2]
   exact rD 0 hia hib rfl hC
  have inj:∀i j,i<ls.length→j<ls.length→i≠j→key i≠key j:=fun i j hi hj hij e=>by
   have a1:key i=ls[i]:=by simp[key,List.getD,hi]
   have a2:key j=ls[j]:=by simp[key,List.getD,hj]
   rw[a1,a2] at e
   exact hij ((List.getElem_inj hd).mp e)
  have hk:=uB (n:=ls.length) h2 h7
  obtain⟨p1,p2⟩:=jm (lt:=fun i j=>dM (key i) (key j)=true) (ans:=ans) (fun a b c=>nT _ _ _) (fun a z=>by rw[lA] at z;cases z) (fun i j hi hj hij=>by
   by_cases z:ans i j=true
   ·rw[if_pos z];exact z
   ·rw[if_neg z]
    exact lB _ _ (inj i j hi hj hij) (by simpa[ans] using z)) _ [] hk (fun _ h=>nomatch h)
  rw[←hz]
  have go:∀t:KasT (Array Nat),g8 ls.length t []=true∨True→(∀(G:Array Nat→Shared→Prop),G (lv ans t) {s with heap:=h'}→g8 ls.length t []=true→t.kasWp (kas_ask prog w A.in1.in1 (tuples' true) ws) G {s with heap:=h'}):=fun t _ G=>by
   have gen:∀(t:KasT (Array Nat)) (fs:kM),g8 ls.length t fs=true→(∀p∈fs,dM (key p.1) (key p.2)=true)→G (lv ans t) {s with heap:=h'}→t.kasWp (kas_ask prog w A.in1.in1 (tuples' true) ws) G {s with heap:=h'}:=fun t=>by
    induction t with
    |ret a=>intro _ _ _ g;exact g
    |ask i j k ih=>
     intro fs hk hf g
     unfold g8 at hk
     simp only[Bool.and_eq_true,decide_eq_true_eq,Bool.not_eq_true',beq_eq_false_iff_ne] at hk
     obtain⟨⟨⟨hi,hj⟩,hne⟩,hk⟩:=hk
     refine hc i j _ hi hj ?_
     have tr:∀a b c,dM (key a) (key b)=true→dM (key b) (key c)=true→dM (key a) (key c)=true:=fun a b c=>nT _ _ _
     have irr:∀a,dM (key a) (key a)≠true:=fun a z=>by rw[lA] at z;cases z
     split at hk
     ·rename_i c
      have l:=fL (lt:=fun i j=>dM (key i) (key j)=true) tr hf _ _ _ c
      have e:ans i j=true:=l
      show((k (ans i j)).kasWp _ G _)
      unfold lv at g
      rw[e] at g⊢
      exact ih true fs hk hf g
     ·split at hk
      ·rename_i c
       have l:=fL (lt:=fun i j=>dM (key i) (key j)=true) tr hf _ _ _ c
       have e:ans i j=false:=by
        cases z:ans i j with
        |false=>rfl
        |true=>exact absurd (tr _ _ _ l z) (irr _)
       show((k (ans i j)).kasWp _ G _)
       unfold lv at g
       rw[e] at g⊢
       exact ih false fs hk hf g
      ·rw[Bool.and_eq_true] at hk
       show((k (ans i j)).kasWp _ G _)
       unfold lv at g
       cases z:ans i j with
       |true=>
        rw[z] at g
        exact ih true _ hk.1 (fun p hp=>by
         rcases List.mem_cons.mp hp with rfl|hp
         ·exact z
         ·exact hf p hp) g
       |false=>
        rw[z] at g
        exact ih false _ hk.2 (fun p hp=>by
         rcases List.mem_cons.mp hp with rfl|hp
         ·exact lB _ _ (inj i j hi hj hne) z
         ·exact hf p hp) g
   intro g hk
   exact gen t [] hk (fun _ h=>nomatch h) g
  refine go _ (.inl hk) _ ?_ hk
  generalize hp:lv ans (kas_sort ls.length)=p at p1 p2
  refine KasFin.intro F' N' (.head fun q hq=>Nat.ne_of_lt (hD q hq)) fun h'' c F'' N''=> ?_
  have hin:∀i∈p.toList,i<ls.length:=fun i hi=>List.mem_range.mp (p1.mem_iff.mp hi)
  refine h D h'' p.toList c F'' N'' (fun q hq=>Nat.ne_of_lt (hD q hq)) hin ?_
  refine fg pd rG rF ?_ ?_
  ·have:=p1.map key
   have e:(List.range ls.length).map key=ls:=qE [] ls
   rw[e] at this
   exact this
  ·rw[List.pairwise_map]
   exact p2.imp fun h=>rJ _ _ h
end
def gW (T:Tb) (n:Nat):Value:=
 if n=T.nLen then .builtin "len" else if n=T.nSorted then .builtin "sorted" else if n=T.nBytes then .type "bytes" else if n=T.nMin then .builtin "min" else .builtin "sum"
section
variable {K:Frag} {T:Tb} {prog:Program} {w:World} {nm:Nat→Str} {A:Around} {E:Value→Shared→Prop} {s:Shared} {h₀:Heap} {L:Addr} {m:Str→Option Value} {news:Led} {ρ:Rh} {H:Hp} {X:Hp→Prop}
theorem nM:∀{ws:List Value} {is:List Int},IntsAre ws is→A2 (V ρ news) (is.map SV.int) ws
 |_,_,.nil=>trivial
 |_,_,.cons i t r=>⟨rfl,nM r⟩
theorem ry:∀{ws:List Value} {is:List Int},IntsAre ws is→A2 (V0 ρ) (is.map SV.int) ws
 |_,_,.nil=>trivial
 |_,_,.cons i t r=>⟨rfl,ry r⟩
theorem qM:∀{ws:List Value} {ls:List (List Int)},A2 (qT news) ls ws→A2 (V ρ news) (ls.map fun l=>SV.tup (l.map SV.int)) ws
 |[],[],_=>trivial
 |x::ws,l::ls,h=>by
  obtain⟨⟨a,zs,n,rfl,ha,hi⟩,h2⟩:=h
  exact⟨⟨zs,n,ha,ry hi⟩,qM h2⟩
 |_::_,[],h=>h.elim
 |[],_::_,h=>h.elim
theorem PS.newList' {vs:List SV} {ws:List Value} {Q:Value→Shared→Prop} {tk:Nat} {a:Addr} {h':Heap} {o:Obj} (Fm:Fr h₀ L s.heap m) (N:News h₀ L s.heap news) (S:St prog w nm ρ H news)
 (q:PS prog w nm h₀ L m (V) ρ news (bp vs H) Q X s) (F':Fr h₀ L h' m) (N':News h₀ L h' ((a,o)::news)) (ho:gR ws o) (hn:∀p∈news,p.1≠a) (hv:A2 (V ρ news) vs ws):
 Q (.ref a) {s with heap:=h',toks:=tk}:=PS.newList Fm N S q F' N' ho hn hv
theorem rE:∀{es:List (Int×SV)} {kvs:List (Int×Value)},A2 (DE ρ news) es kvs→es.map (·.1)=kvs.map (·.1)
 |[],[],_=>rfl
 |(g,u)::r,(g',y)::kvs,h=>by
  have e:g=g':=h.1.1
  subst e
  simp[rE h.2]
 |[],_::_,h=>h.elim
 |_::_,[],h=>h.elim
theorem rz:∀{vs:List Value} {ns:List Int},vs.length=ns.length→(∀(j:Nat) (v:Value),vs[j]? =some v→∃k t,ns[j]? =some k∧v= .int k t)→IntsAre vs ns
 |[],[],_,_=> .nil
 |v::vs,n::ns,hl,h=>by
  obtain⟨k,t,h1,rfl⟩:=h 0 v rfl
  simp at h1;subst h1
  exact .cons _ t (rz (by simpa using hl) fun j v hj=>by simpa using h (j+1) v (by simpa using hj))
 |[],_::_,hl,_=>by simp at hl
 |_::_,[],hl,_=>by simp at hl
theorem ww {n:Nat} {vs:List SV} {xs:List Value} {Q:Value→Shared→Prop} (hh:A.handled=none) (Fm:Fr h₀ L s.heap m) (N:News h₀ L s.heap news) (S:St prog w nm ρ H news) (va:A2 (V ρ news) vs xs)
 (q:PS prog w nm h₀ L m V ρ news (gI T n vs H) Q X s):wpAny (model prog w) A (call (gW T n) xs) Q E s:=by
 unfold gI at q
 unfold gW
 split at q
 ·rename_i hn
  rw[if_pos hn]
  split at q
  ·rename_i b
   match xs,va with
   |[x],va=>
    obtain⟨t,rfl⟩:=va.1.bytes_inv
    split at q
    ·rename_i c
     refine len_bytes (by rw[List.size_toArray];unfold ag at c;omega) ?_
     exact PS.here Fm N S q (by show _=_;simp)
    ·exact q.elim
   |[],h=>exact h.elim
   |_::_::_,h=>exact h.2.elim
  ·rename_i r
   match xs,va with
   |[x],va=>
    obtain⟨p,d,rfl,hr⟩:=va.1.ref_inv
    split at q
    ·rename_i its hi
     split at q
     ·rename_i c
      obtain⟨_,ws,o,b1,b2,b3⟩:=S.list hi hr
      refine PyProof.Rows.len_list (aV N b1 b2) (by rw[List.size_toArray,←b3.len];unfold ag at c;omega) ?_
      exact PS.here Fm N S q (by show _=_;rw[b3.len];simp)
     ·exact q.elim
    ·exact q.elim
   |[],h=>exact h.elim
   |_::_::_,h=>exact h.2.elim
  ·exact q.elim
 ·rename_i hn
  rw[if_neg hn]
  split at q
  ·rename_i hn2
   rw[if_pos hn2]
   split at q
   ·rename_i r
    match xs,va with
    |[x],va=>
     obtain⟨p,d,rfl,hr⟩:=va.1.ref_inv
     split at q
     ·rename_i its hi
      obtain⟨_,ws,o,b1,b2,b3⟩:=S.list hi hr
      split at q
      ·rename_i c
       split at q
       ·rename_i z hz
        unfold mX at hz
        split at hz
        ·rename_i is his
         cases hz
         have hI:=cA (nm:=nm) his b3
         refine sorted_N Fm N (aV N b1 b2) hI (by rw[←b3.len];exact c) fun h' ws' is' e F' N' a1 a2 a3=> ?_
         have e1:is'=cd (fun a b=>decide (a≤b)) is:=fg kH nS qw a2 (a3.imp fun h=>by simpa using h)
         subst e1
         exact PS.newList (tk:=s.toks) Fm N S q F' N' ⟨e,rfl⟩ (fun p hp=>Nat.ne_of_lt (Nat.lt_succ_of_lt (Heap.lt_size (N p hp).1))) (nM a1)
        ·split at hz
         ·rename_i ls hls
          split at hz
          ·rename_i cc
           cases hz
           obtain⟨c1,c2,c3⟩:=cc
           have ht:=mc (nm:=nm) hls b3
           have hne:∀l∈ls,l≠[]:=fun l hl e=>by
            have:=List.all_eq_true.mp c3 l hl
            subst e;simp at this
           by_cases h2:2≤ls.length
           ·refine vV Fm N (aV N b1 b2) ht c1 h2 c2 hne fun D h' is cc F' N' hD hin e=> ?_
            have hv:=to ht [] .none is hin
            rw[e] at hv
            exact PS.newList (tk:=s.toks) Fm N S q F' N' ⟨cc,rfl⟩ hD (qM hv)
           ·match ls,ws,ht,h2 with
            |[],[],ht,_=>
             exfalso
             match its,b3 with
             |[],_=>
              have hno:bE ([]:List SV)=none:=by assumption
              simp[bE] at hno
             |_::_,h=>exact h.elim
            |[l],[x],ht,_=>
             refine qK Fm N (aV N b1 b2) fun h' e F' N'=> ?_
             exact PS.newList (tk:=s.toks) (ws:=[x]) Fm N S q F' N' ⟨e,rfl⟩ (fun p hp=>Nat.ne_of_lt (Nat.lt_succ_of_lt (Heap.lt_size (N p hp).1))) (qM (ls:=[l]) ht)
            |_::_::_,_,_,h=>exact absurd (by simp) h
            |[],_::_,h,_=>exact h.elim
            |[_],[],h,_=>exact h.elim
            |[_],_::_::_,h,_=>exact h.2.elim
          ·cases hz
         ·cases hz
       ·exact q.elim
      ·exact q.elim
     ·rename_i es hi
      obtain⟨_,lo,kvs,o,b1,b2,b3⟩:=S.dict hi hr
      split at q
      ·rename_i c
       obtain⟨ep,hat⟩:=(dP N b1 b2).dictAt
       refine kdu_sorted (kdl_dict (knd:=intKind prog w) (kvs:=kvs) (ep:=ep) lo) hh Fm N hat (by rw[←b3.len,sizeLine_eq];omega) fun D h' tk ws F' N' hD hl hp=> ?_
       have hI:IntsAre ws (kvs.map (·.1)):=rz (by simpa using hl) fun j v hj=>by
        obtain⟨k,x,h1,h2⟩:=hp j v hj
        obtain⟨t,rfl⟩:=Value.isInt_shape h2
        exact⟨k,t,by simp[h1],rfl⟩
       have ho:=(N' _ (List.mem_cons_self ..)).1
       refine wpAny_call_entry slot_list_sort ⟨_,ho,rfl⟩ entry_list_sort (list_sort_tree ho hI (by rw[hl,←b3.len];exact c) fun out ns' a1 a2 a3=>⟨_,rfl,?_⟩) (args_list_sort _)
       have hne:∀p∈news,p.1≠D:=fun p hp=>Nat.ne_of_lt (hD p hp)
       have hDL:=(N' _ (List.mem_cons_self ..)).2
       obtain⟨e,he⟩:=sortedHeap_at (vs:=ws) (out:=out) ho
       have F1:Fr h₀ L (sortedHeap h' D ws out) m:=by
        unfold sortedHeap
        exact(((F'.change (Heap.SameBut.update ..) hDL.1 hDL.2).push _).push _).change (Heap.SameBut.update ..) hDL.1 hDL.2
       have N1:News h₀ L (sortedHeap h' D ws out) ((D,seqObj "list" out e)::news):=fun p hp=>by
        rcases List.mem_cons.mp hp with rfl|hp
        ·exact⟨he,hDL⟩
        ·exact⟨(sortedHeap_old (hne p hp) (Heap.lt_size (N' p (List.mem_cons_of_mem _ hp)).1)).trans (N' p (List.mem_cons_of_mem _ hp)).1,(N' p (List.mem_cons_of_mem _ hp)).2⟩
       have e1:ns'=cd (fun a b=>decide (a≤b)) (es.map (·.1)):=by
        refine fg kH nS qw ?_ (a3.imp fun h=>by simpa using h)
        rw[rE b3];exact a2
       subst e1
       exact PS.newList (s:=s) (tk:=tk) (ws:=out.toList) Fm N S q F1 N1 ⟨e,by simp[W.listOf,seqObj]⟩ hne (nM a1)
      ·exact q.elim
     ·exact q.elim
    |[],h=>exact h.elim
    |_::_::_,h=>exact h.2.elim
   ·exact q.elim
  ·rename_i hn2
   rw[if_neg hn2]
   split at q
   ·rename_i hn3
    rw[if_pos hn3]
    split at q
    ·match xs,va with
     |[x],va=>
      obtain⟨t,rfl⟩:=va.1.bytes_inv
      exact oF (PS.here (tk:=s.toks) Fm N S q rfl)
     |[],h=>exact h.elim
     |_::_::_,h=>exact h.2.elim
    ·rename_i r
     match xs,va with
     |[x],va=>
      obtain⟨p,d,rfl,hr⟩:=va.1.ref_inv
      split at q
      ·rename_i its hi
       split at q
       ·rename_i is his
        obtain⟨_,ws,o,b1,b2,b3⟩:=S.list hi hr
        have hI:=cA (nm:=nm) his b3
        split at q
        ·rename_i c
         split at q
         ·rename_i b hb
          obtain⟨e1,e2⟩:=gD hb
          refine call_bytes_ints (aV N b1 b2) hI e2 (by rw[hI.length,sizeLine_eq];unfold ag at c;omega) hh fun h' t k hk=> ?_
          rw[e1]
          exact q ρ news h' k _ (Fm.keeps hk) (N.grown hk) S (Ext.refl _ _) rfl
         ·exact q.elim
        ·exact q.elim
       ·exact q.elim
      ·exact q.elim
     |[],h=>exact h.elim
     |_::_::_,h=>exact h.2.elim
    ·exact q.elim
   ·rename_i hn3
    rw[if_neg hn3]
    split at q
    ·rename_i hn4
     rw[if_pos hn4]
     split at q
     ·match xs,va with
      |[x,y],va=>
       obtain⟨t,rfl⟩:=va.1.int_inv;obtain⟨u,rfl⟩:=va.2.1.int_inv
       exact min_two_N hh Fm N fun h' tk F' N'=>q ρ news h' tk _ F' N' S (Ext.refl _ _) rfl
      |[],h=>exact h.elim
      |[_],h=>exact h.2.elim
      |_::_::_::_,h=>exact h.2.2.elim
     ·exact q.elim
    ·rename_i hn4
     rw[if_neg hn4]
     split at q
     ·split at q
      ·rename_i r
       match xs,va with
       |[x],va=>
        obtain⟨p,d,rfl,hr⟩:=va.1.ref_inv
        split at q
        ·rename_i its hi
         split at q
         ·rename_i is his
          obtain⟨_,ws,o,b1,b2,b3⟩:=S.list hi hr
          have hI:=cA (nm:=nm) his b3
          split at q
          ·exact sumK hh Fm N (aV N b1 b2) hI fun h' tk t' F' N'=>q ρ news h' tk _ F' N' S (Ext.refl _ _) rfl
          ·exact q.elim
         ·exact q.elim
        ·exact q.elim
       |[],h=>exact h.elim
       |_::_::_,h=>exact h.2.elim
      ·exact q.elim
     ·exact q.elim
theorem yM {a:Addr} {ws:List Value} {o:Obj} (N:News h₀ L s.heap news) (h:(a,o)∈news) (q:gR ws o):s.heap.NoDictAt (.ref a):=by
 obtain⟨n,rfl⟩:=q
 exact⟨_,(N _ h).1,rfl⟩
theorem mQ {a:Addr} {ws:List Value} {o:Obj} {name:Str} {id:String} {pl:Sem Bool} {M:Model} {Q:Value×List Value→Shared→Prop} (N:News h₀ L s.heap news) (h:(a,o)∈news) (q:gR ws o) (slot:Slot "list" name id)
 (hty:typeOf (.builtin id)=pure (.type "method_descriptor")) (hq:Q (.builtin id,[.ref a]) s):wpAny M A (getMethod (.ref a) name pl) Q E s:=by
 refine getMethod_builtin (aV N h q).typeIs PySem.F.plainAttrs_list slot hty (fun b e=> ?_) hq
 cases e
 obtain⟨n,rfl⟩:=q
 exact⟨_,(N _ h).1,rfl⟩
theorem sL {a:Addr} {kvs:List (Int×Value)} {o:Obj} {pl:Sem Bool} {M:Model} {Q:Value×List Value→Shared→Prop} (N:News h₀ L s.heap news) (h:(a,o)∈news) (q:o.IsDictOf (intKind prog w) kvs)
 (hq:Q (.builtin "dict.get",[.ref a]) s):wpAny M A (getMethod (.ref a) "get" pl) Q E s:=by
 refine getMethod_builtin (dP N h q).typeIs PySem.F.plainAttrs_dict PySem.F.slot_dict_get PySem.F.type_dict_get (fun b e=> ?_) hq
 cases e
 obtain⟨_,_,hc,_⟩:=q
 exact⟨_,(N _ h).1,hc.2.1⟩
def rL:MK→Value
 | .fn f=> .ref f
 | .app=> .builtin "list.append"
 | .ins=> .builtin "list.insert"
 | .get=> .builtin "dict.get"
theorem uF {v:SV} {x:Value} {mn:Nat} {k:MK} {H':Hp} (tk:TOk K T nm) (Fm:Fr h₀ L s.heap m) (X₀:K.In h₀) (N:News h₀ L s.heap news) (S:St prog w nm ρ H news) (va:V ρ news v x)
 (heq:jn T v mn H= .ok k H'):H'=H∧(∀f,k= .fn f→isFn K (.ref f)=true∧keepIn K (.ref f)=true)∧∀(pl:Sem Bool) (Q:Value×List Value→Shared→Prop),Q (rL k,[x]) s→wpAny (model prog w) A (getMethod x (nm mn) pl) Q E s:=by
 unfold jn at heq
 split at heq
 ·rename_i n
  obtain⟨a,d,rfl,r⟩:=va.ref_inv
  split at heq
  ·rename_i C fs hn
   obtain⟨b1,es,kk,b2,b3⟩:=S.inst hn r
   split at heq
   ·rename_i f hf
    split at heq
    ·rename_i c
     cases heq
     obtain⟨t1,t2,t3,t4⟩:=tk.meth _ _ _ hf
     have g:=li tk.inj mn b3
     have:gZ mn fs=none:=by simpa using c
     rw[this] at g
     refine⟨rfl,fun f' e=> ?_,fun pl Q q=>method_inst Fm X₀ (InstAt.of_news N b1 b2) t1 t2 t3 g q⟩
     cases e;exact⟨t3,t4⟩
    ·cases heq
   ·cases heq
  ·rename_i its hn
   obtain⟨_,ws,o,b1,b2,b3⟩:=S.list hn r
   split at heq
   ·rename_i c
    cases heq
    rw[c,tk.nAppend]
    exact⟨rfl,(fun _ e=>by cases e),fun pl Q q=>mQ N b1 b2 PySem.F.slot_list_append PySem.F.type_list_append q⟩
   ·split at heq
    ·rename_i c
     cases heq
     rw[c,tk.nInsert]
     exact⟨rfl,(fun _ e=>by cases e),fun pl Q q=>mQ N b1 b2 PySem.F.slot_list_insert PySem.F.type_list_insert q⟩
    ·cases heq
  ·rename_i es hn
   obtain⟨_,lo,kvs,o,b1,b2,b3⟩:=S.dict hn r
   split at heq
   ·rename_i c
    cases heq
    rw[c,tk.nGet]
    exact⟨rfl,(fun _ e=>by cases e),fun pl Q q=>sL N b1 b2 q⟩
   ·cases heq
  ·cases heq
 ·cases heq
theorem A2.two {α β:Type} {p:α→β→Prop} {a b:α} {ys:List β} (h:A2 p [a,b] ys):∃x y,ys=[x,y]∧p a x∧p b y:=by
 match ys,h with
 |[x,y],h=>exact⟨x,y,rfl,h.1,h.2.1⟩
 |[],h=>exact h.elim
 |[_],h=>exact h.2.elim
 |_::_::_::_,h=>exact h.2.2.elim
theorem A2.one {α β:Type} {p:α→β→Prop} {a:α} {ys:List β} (h:A2 p [a] ys):∃x,ys=[x]∧p a x:=by
 match ys,h with
 |[x],h=>exact⟨x,rfl,h.1⟩
 |[],h=>exact h.elim
 |_::_::_,h=>exact h.2.elim
theorem mm (ws:List Value) (k:Nat) (y:Value):((ws.toArray.extract 0 k).push y++ws.toArray.extract k)=(iF ws k y).toArray:=by
 unfold iF
 apply Array.toList_inj.mp
 simp[List.extract_eq_take_drop]
 exact List.take_of_length_le (by simp)
theorem uE {Γ:FT} {k:MK} {v:SV} {x:Value} {vs:List SV} {xs:List Value} {Q:Value→Shared→Prop} (Fm:Fr h₀ L s.heap m) (N:News h₀ L s.heap news) (S:St prog w nm ρ H news) (va:V ρ news v x) (vb:A2 (V ρ news) vs xs)
 (hk:∀f,k≠.fn f) (q:PS prog w nm h₀ L m V ρ news (fN Γ k v vs H) Q X s):wpAny (model prog w) A (call (rL k) (x::xs)) Q E s:=by
 unfold fN at q
 split at q
 ·exact absurd rfl (hk _)
 ·obtain⟨a,d,rfl,r⟩:=va.ref_inv
  split at q
  ·rename_i its y hn
   obtain⟨z,rfl,vz⟩:=vb.one
   obtain⟨e,ws,o,b1,b2,b3⟩:=S.list hn r
   subst e
   split at q
   ·rename_i c
    obtain⟨n,rfl⟩:=id b2
    refine append_at (N _ b1).1 (fun h' hs ho'=> ?_) (by rw[List.size_toArray,←b3.len,sizeLine_eq];unfold ag at c;omega)
    obtain⟨F',N'⟩:=ii Fm N b1 hs ho'
    have X':Ext0 ρ news ρ _:=cE.ext (news':=(a,W.listOf (ws.toArray.push z) (n+1))::but news a) N b1 (lz b2) cE.of_but
    obtain⟨S',X'⟩:=St.turn N S hn r (news':=(a,W.listOf (ws.toArray.push z) (n+1))::but news a) cE.of_but (o':= .list (its++[y])) ⟨rfl,ws++[z],_,List.mem_cons_self ..,⟨n+1,by simp⟩,(A2.append b3 (show A2 (V ρ news) [y] [z] from⟨vz,trivial⟩)).imp (V.ext X')⟩
    exact q _ _ h' s.toks _ F' N' S' X' (show V _ _ SV.none Value.none from trivial)
   ·exact q.elim
  ·exact q.elim
 ·obtain⟨a,d,rfl,r⟩:=va.ref_inv
  split at q
  ·rename_i its i y hn
   obtain⟨z₁,z,rfl,v1,vz⟩:=vb.two
   obtain⟨t,rfl⟩:=v1.int_inv
   obtain⟨e,ws,o,b1,b2,b3⟩:=S.list hn r
   subst e
   split at q
   ·rename_i c
    obtain⟨n,rfl⟩:=id b2
    obtain⟨c1,c2,c3⟩:=c
    have hz:its.length=ws.length:=b3.len
    refine call_meets PySem.F.slot_list_insert (aV N b1 b2).typeIs PySem.F.entry_list_insert (PySem.F.args_list_insert_3 _ _ _) (AutoSeq1.list_insert_list_int_val_1 a ws.toArray n i t z ?_ ?_) ⟨(N _ b1).1,?_⟩
    ·unfold ag at c3
     simp[Builtin.List.listFitsIndex];omega
    ·rw[List.size_toArray,←hz,sizeLine_eq];unfold ag at c3;omega
    ·have hs:Heap.SameBut a s.heap (s.heap.update a (Obj.mapSeq fun xs=>have k:=if i<0 then(i+(xs.size:Int)).toNat else min i.toNat xs.size;(xs.extract 0 k).push z++xs.extract k)):=Heap.SameBut.update ..
     obtain⟨n',ho'⟩:∃n',(s.heap.update a (Obj.mapSeq fun xs=>have k:=if i<0 then(i+(xs.size:Int)).toNat else min i.toNat xs.size;(xs.extract 0 k).push z++xs.extract k)).get? a=some (W.listOf (iF ws i.toNat z).toArray n'):=by
      rw[Heap.get?_update_self _ (N _ b1).1 (by show Obj.isFreed _=false;rfl)]
      have e:min i.toNat ws.toArray.size=i.toNat:=by rw[List.size_toArray];omega
      have e2:¬i<0:=by omega
      simp only[Obj.mapSeq,W.listOf,if_neg e2,e]
      rw[mm]
      exact⟨_,rfl⟩
     obtain⟨F',N'⟩:=ii Fm N b1 hs ho'
     have X':Ext0 ρ news ρ _:=cE.ext (news':=(a,W.listOf (iF ws i.toNat z).toArray n')::but news a) N b1 (lz b2) cE.of_but
     obtain⟨S',X'⟩:=St.turn N S hn r (news':=(a,W.listOf (iF ws i.toNat z).toArray n')::but news a) cE.of_but (o':= .list (iF its i.toNat y)) ⟨rfl,iF ws i.toNat z,_,List.mem_cons_self ..,⟨n',rfl⟩,(A2.append (b3.take _) (show A2 (V ρ news) (y::its.drop i.toNat) (z::ws.drop i.toNat) from⟨vz,b3.drop _⟩)).imp (V.ext X')⟩
     exact q _ _ _ s.toks _ F' N' S' X' (show V _ _ SV.none Value.none from trivial)
   ·exact q.elim
  ·exact q.elim
 ·obtain⟨a,d,rfl,r⟩:=va.ref_inv
  split at q
  ·rename_i es i y hn
   obtain⟨z₁,z,rfl,v1,vz⟩:=vb.two
   obtain⟨t,rfl⟩:=v1.int_inv
   obtain⟨_,lo,kvs,o,b1,b2,b3⟩:=S.dict hn r
   have hd:=dP N b1 b2
   refine call_meetsIn PySem.F.slot_dict_get hd.typeIs PySem.F.entry_dict_get (PySem.F.args_dict_get_3 _ _ _) (meets_dict_get_default (intKind prog w) a (intKind_is prog w i t) lo z) ⟨_,hd.mapOf,?_⟩
   show Q _ _
   have g:=eL i b3
   cases hg:getD i es with
   |some u=>
    rw[hg] at g q
    obtain⟨x',g1,g2⟩:=g
    rw[g1]
    exact PS.here Fm N S q g2
   |none=>
    rw[hg] at g q
    rw[g]
    exact PS.here Fm N S q vz
  ·exact q.elim
 ·exact q.elim
end
structure Cx where
 K:Frag
 T:Tb
 nm:Nat→Str
 prog:Program
 w:World
 p:Program
 loose:List Str
 mean:ExcName→Option Value
 mg:Str→Option Value
 mb:Str→Option Value
 xc:Value
structure fw (env:Env):Prop where
 kind:env.scope.kind= .function
 glob:env.globals=mainGlobals
 blt:env.builtins=builtinsNs
inductive Rd (env:Env) (L:Addr) (m:Str→Option Value) (ρ:Rh) (news:Led) (x:Str) (v:Value):Prop
 |frame:env.locals=L→env.kindOf x=some .local→m x=some v→Rd env L m ρ news x v
 |cell (a:Addr) (o:Obj):env.kindOf x=some .cell∨env.kindOf x=some .free→env.cells.lookup x=some a→(a,o)∈news→Fo ρ a→o.data= .cell (some v)→Rd env L m ρ news x v
 |comp (oC:Obj) (m₂:Str→Option Value):env.kindOf x=some .local→(env.locals,oC)∈news→Fo ρ env.locals→LCg.NsObj oC m₂→m₂ x=some v→Rd env L m ρ news x v
theorem Rd.ext {env:Env} {L:Addr} {m:Str→Option Value} {ρ ρ':Rh} {news news':Led} {x:Str} {v:Value} (r:Rd env L m ρ news x v) (X:Ext ρ news ρ' news'):Rd env L m ρ' news' x v:=by
 cases r with
 |frame a b c=>exact .frame a b c
 |cell a o h1 h2 h3 h4 h5=>exact .cell a o h1 h2 (X.fo _ h3 h4) (X.foreign h3 h4) h5
 |comp oC m₂ h1 h2 h3 h4 h5=>exact .comp oC m₂ h1 (X.fo _ h2 h3) (X.foreign h2 h3) h4 h5
def LRd (nm:Nat→Str) (env:Env) (L:Addr) (m:Str→Option Value) (ρ:Rh) (news:Led) (l:Loc):Prop:=∀x v,l x=some v→∃y,Rd env L m ρ news (nm x) y∧V ρ news v y
theorem LRd.ext {nm:Nat→Str} {env:Env} {L:Addr} {m:Str→Option Value} {ρ ρ':Rh} {news news':Led} {l:Loc} (h:LRd nm env L m ρ news l) (X:Ext ρ news ρ' news'):LRd nm env L m ρ' news' l:=fun x v e=>by
 obtain⟨y,a,b⟩:=h x v e
 exact⟨y,a.ext X,V.ext X.toExt0 _ _ b⟩
section
variable (c:Cx)
def XE (base:Heap) (ls:List Env) (h₀:Heap) (L:Addr) (m:Str→Option Value) (ρ:Rh) (news:Led) (E:Value→Shared→Prop) (s:Shared) (H':Hp):Prop:=
 ∀ρ' news' g₂ h' tk ea t vs,Fr h₀ L g₂ m→g₂.UpToSlots h'→RaisedS base g₂ ls ea c.xc t vs news' h'→St c.prog c.w c.nm ρ' H' news'→Ext ρ news ρ' news'→E (.ref ea) {s with heap:=h',toks:=tk}
theorem XE.ext {c:Cx} {base:Heap} {ls:List Env} {h₀:Heap} {L:Addr} {m:Str→Option Value} {ρ ρ₁:Rh} {news news₁:Led} {E:Value→Shared→Prop} {s:Shared} {H':Hp} {h₁:Heap} {tk₁:Nat}
 (x:XE c base ls h₀ L m ρ news E s H') (X:Ext ρ news ρ₁ news₁):XE c base ls h₀ L m ρ₁ news₁ E {s with heap:=h₁,toks:=tk₁} H':=
 fun ρ' news' g₂ h' tk ea t vs a b d e f=>x ρ' news' g₂ h' tk ea t vs a b d e (X.trans f)
structure FC (n:Nat) (A₀:Around) (base:Heap) (outer:List Env) (fe:Env) (A:Around) (h₀:Heap) (L:Addr):Prop where
 B:Below A₀ base outer h₀
 X:c.K.In h₀
 T:Top c.p c.loose c.mean c.mg c.mb h₀
 hA:A.frames=some (fe::outer)
 hf:fe.frame=some L
 hk:fe.scope.kind= .function
 hh:A.handled=none
 room:A.depth+n<recursionLimit
 un:A.units+8*n+64<cLine
theorem FC.le {c:Cx} {n k:Nat} {A₀:Around} {base:Heap} {outer:List Env} {fe:Env} {A:Around} {h₀:Heap} {L:Addr} (f:FC c n A₀ base outer fe A h₀ L) (h:k≤n):FC c k A₀ base outer fe A h₀ L:=
 ⟨f.B,f.X,f.T,f.hA,f.hf,f.hk,f.hh,by have:=f.room;omega,by have:=f.un;omega⟩
abbrev PSc {α β:Type} (c:Cx) (h₀:Heap) (L:Addr) (m:Str→Option Value) (VR:Rh→Led→α→β→Prop) (ρ:Rh) (news:Led) (r:R α) (Q:β→Shared→Prop) (X:Hp→Prop) (s:Shared):Prop:=
 PS c.prog c.w c.nm h₀ L m VR ρ news r Q X s
def bn (f:Addr) (D:List SV→Hp→R SV) (n:Nat):Prop:=
 ∀{A₀:Around} {base:Heap} {outer:List Env} {fe:Env} {A:Around} {h₀:Heap} {L:Addr} {m:Str→Option Value} {s:Shared} {news:Led} {ρ:Rh} {H:Hp} {vs:List SV} {xs:List Value} {R:Result→Shared→Prop} {X:Hp→Prop},
  FC c (2*n) A₀ base outer fe A h₀ L→Fr h₀ L s.heap m→News h₀ L s.heap news→St c.prog c.w c.nm ρ H news→A2 (V ρ news) vs xs→
  PSc c h₀ L m V ρ news (D vs H) (fun v s'=>R (.ok (.ret v)) s') X s→(∀H',X H'→XE c base (fe::outer) h₀ L m ρ news (fun e s'=>R (.error e) s') s H')→
  codeAny (model c.prog c.w) A (.call (.ref f) ⟨xs,[]⟩) R s
def GOk (Γ:FT) (n:Nat):Prop:=∀f D,Γ f=some D→bn c f D n
abbrev dz:=List (Str×NameKind)
def Af:Option NameKind→Bool
 |some .local=>true|some .cell=>true|some .free=>true|_=>false
def gK (id:Str):Bool:= !(id == ("__debug__":Str)) && !(id == ("__classdict__":Str)) && !(id == ("__name__":Str)) && !(id == ("super":Str))
def dq (names:dz) (id:Str):Bool:=names.lookup id == some .globalImplicit && gK id
def tD (T:Tb) (n:Nat):Bool:=n == T.nLen || n == T.nSorted || n == T.nBytes || n == T.nMin || n == T.nSum
def ao:Expr→Option (Str×Str×Str×Expr×Scope)
 | .ListComp (.Attribute (.Name i _) a _) [⟨.Name id _,it,[],0⟩] sc _=>some (i,a,id,it,sc)
 |_=>none
theorem k9 {x:Expr} {i a id:Str} {it:Expr} {sc:Scope} (h:ao x=some (i,a,id,it,sc)):∃p1 p2 p3 pos,x= .ListComp (.Attribute (.Name i p1) a p2) [⟨.Name id p3,it,[],0⟩] sc pos:=by
 unfold ao at h
 split at h
 ·cases h;exact⟨_,_,_,_,rfl⟩
 ·cases h
def jl:ME→Bool
 | .nul=>true
 |_=>false
mutual
def av (names:dz):ME→Expr→Bool
 | .loc x,.Name id _=>id == c.nm x && Af (names.lookup id) && gK id
 | .con .none,.Constant .none _ _=>true
 | .con (.bool a),.Constant (.bool b) _ _=>a == b
 | .con (.int a),.Constant (.int b) _ _=>a == b
 | .con (.bytes a),.Constant (.bytes b) _ _=>a == b
 | .glo n (.int i),.Name id _=>id == c.nm n && dq names id && (match nsIn c.K mainGlobals id with|some (some (.int j _))=>i == j|_=>false)
 | .attr e f,.Attribute v a _=>a == c.nm f && av names e v
 | .bin op a b,.BinOp l o r _=>decide (op=o) && av names a l && av names b r
 | .neg e,.UnaryOp .USub x _=>av names e x
 | .cmp op a b,.Compare l [o] [r] _=>decide (op=o) && av names a l && av names b r && !behindInMarks o r
 | .boo op es,.BoolOp o xs _=>decide (op=o) && a9 names es xs
 | .not e,.UnaryOp .Not x _=>av names e x
 | .tup es,.Tuple xs _ _=>a9 names es xs
 | .lst es,.List xs _=>a9 names es xs
 | .dic,.Dict [] [] _=>true
 | .idx a i,.Subscript v s _=>av names a v && av names i s
 | .slc a lo hi,.Subscript v (.Slice l u none _) _=>av names a v && (match l with|none=>jl lo|some x=> !jl lo && av names lo x) && (match u with|none=>jl hi|some x=> !jl hi && av names hi x)
 | .call n f es,.Call (.Name id _) xs [] _=>id == c.nm n && dq names id && (match nsIn c.K mainGlobals id with|some (some (.ref g))=>g == f|_=>false) && keepIn c.K (.ref f) && a9 names es xs
 | .new n C es,.Call (.Name id _) xs [] _=>id == c.nm n && dq names id && (match nsIn c.K mainGlobals id with|some (some (.ref g))=>g == C|_=>false) && keepIn c.K (.ref C) && a9 names es xs
 | .meth o m es,.Call (.Attribute v a ap) xs [] pos=>a == c.nm m && decide (xs.length<30) && ap.endLine == pos.line && av names o v && a9 names es xs
 | .bui n es,.Call (.Name id _) (x::xs) [] _=>id == c.nm n && dq names id && tD c.T n && a9 names es (x::xs)
 | .compA x f src,e=>(match ao e with
     |some (i,a,id,it,sc)=>id == c.nm x && i == id && a == c.nm f && gK id && av names src it &&
       decide (sc.kind= .function) && sc.names.all (fun y=>decide (y.2≠.cell) && decide (y.2≠.free) && (decide (y.2≠.local) || sc.names.lookup y.1 == some .local)) && sc.names.lookup id == some .local
     |none=>false)
 |_,_=>false
def a9 (names:dz):MEs→List Expr→Bool
 | .nil,[]=>true
 | .cons e r,x::xs=>av names e x && a9 names r xs
 |_,_=>false
end
end
section
variable {c:Cx} {Γ:FT} {n:Nat}
theorem PS.up {α β:Type} {VR:Rh→Led→α→β→Prop} {h₀:Heap} {L:Addr} {m:Str→Option Value} {ρ ρ₁:Rh} {news news₁:Led} {r:R α} {Q:β→Shared→Prop} {X:Hp→Prop} {s:Shared} {h₁:Heap} {tk₁:Nat}
 (q:PSc c h₀ L m VR ρ news r Q X s) (E:Ext ρ news ρ₁ news₁):PSc c h₀ L m VR ρ₁ news₁ r Q X {s with heap:=h₁,toks:=tk₁}:=by
 cases r with
 |ok v H=>exact fun ρ' news' h' tk x a b d e f=>q ρ' news' h' tk x a b d (E.trans e) f
 |exc H=>exact q
 |fail=>exact q
theorem PS.seq {α β γ δ:Type} {VR:Rh→Led→α→β→Prop} {VR2:Rh→Led→γ→δ→Prop} {h₀:Heap} {L:Addr} {m:Str→Option Value} {ρ:Rh} {news:Led} {r:R α} {f:α→Hp→R γ} {Q:δ→Shared→Prop} {Q':β→Shared→Prop} {X:Hp→Prop} {s:Shared}
 (q:PSc c h₀ L m VR2 ρ news (r.bind f) Q X s)
 (k:∀v H₁ ρ₁ news₁ h₁ tk x,r= .ok v H₁→Fr h₀ L h₁ m→News h₀ L h₁ news₁→St c.prog c.w c.nm ρ₁ H₁ news₁→Ext ρ news ρ₁ news₁→VR ρ₁ news₁ v x→PSc c h₀ L m VR2 ρ₁ news₁ (f v H₁) Q X {s with heap:=h₁,toks:=tk}→Q' x {s with heap:=h₁,toks:=tk}):
 PSc c h₀ L m VR ρ news r Q' X s:=by
 cases r with
 |ok v H₁=>exact fun ρ₁ news₁ h₁ tk x a b d e g=>k v H₁ ρ₁ news₁ h₁ tk x rfl a b d e g (PS.up q e)
 |exc H=>exact q
 |fail=>exact q.elim
def aQ (c:Cx) (Γ:FT) (n:Nat) (e:ME):Prop:=∀{A₀:Around} {base:Heap} {outer:List Env} {fe env:Env} {A:Around} {E:Value→Shared→Prop} {h₀:Heap} {L:Addr} {m:Str→Option Value} {s:Shared} {news:Led} {ρ:Rh} {H:Hp} {l:Loc} {x:Expr} {Q:Value→Shared→Prop} {X:Hp→Prop},
 av c env.scope.names e x=true→fw env→FC c (2*n+1) A₀ base outer fe A h₀ L→Fr h₀ L s.heap m→News h₀ L s.heap news→St c.prog c.w c.nm ρ H news→LRd c.nm env L m ρ news l→
 PSc c h₀ L m V ρ news (evE c.T Γ e l H) Q X s→(∀H',X H'→XE c base (fe::outer) h₀ L m ρ news E s H')→wpAny (model c.prog c.w) A (eval x env) Q E s
def mi (c:Cx) (Γ:FT) (n:Nat) (e:ME):Prop:=∀{A₀:Around} {base:Heap} {outer:List Env} {fe env:Env} {A:Around} {E:Value→Shared→Prop} {h₀:Heap} {L:Addr} {m:Str→Option Value} {s:Shared} {news:Led} {ρ:Rh} {H:Hp} {l:Loc} {x:Expr} {Q:Bool→Shared→Prop} {X:Hp→Prop},
 av c env.scope.names e x=true→fw env→FC c (2*n+1) A₀ base outer fe A h₀ L→Fr h₀ L s.heap m→News h₀ L s.heap news→St c.prog c.w c.nm ρ H news→LRd c.nm env L m ρ news l→
 PSc c h₀ L m VB ρ news (evC c.T Γ e l H) Q X s→(∀H',X H'→XE c base (fe::outer) h₀ L m ρ news E s H')→wpAny (model c.prog c.w) A (isTrue x env (eval x env)) Q E s
def ej (c:Cx) (Γ:FT) (n:Nat) (es:MEs):Prop:=∀{A₀:Around} {base:Heap} {outer:List Env} {fe env:Env} {A:Around} {E:Value→Shared→Prop} {h₀:Heap} {L:Addr} {m:Str→Option Value} {s:Shared} {news:Led} {ρ:Rh} {H:Hp} {l:Loc} {xs:List Expr} {pos:Pos} {Q:List Value→Shared→Prop} {X:Hp→Prop},
 a9 c env.scope.names es xs=true→fw env→FC c (2*n+1) A₀ base outer fe A h₀ L→Fr h₀ L s.heap m→News h₀ L s.heap news→St c.prog c.w c.nm ρ H news→LRd c.nm env L m ρ news l→
 PSc c h₀ L m (fun ρ news=>A2 (V ρ news)) ρ news (dB c.T Γ es l H) Q X s→(∀H',X H'→XE c base (fe::outer) h₀ L m ρ news E s H')→wpAny (model c.prog c.w) A (spliced (backTo pos (starEach xs env))) Q E s
def r9 (c:Cx) (Γ:FT) (n:Nat) (es:MEs):Prop:=∀{A₀:Around} {base:Heap} {outer:List Env} {fe env:Env} {A:Around} {E:Value→Shared→Prop} {h₀:Heap} {L:Addr} {m:Str→Option Value} {s:Shared} {news:Led} {ρ:Rh} {H:Hp} {l:Loc} {xs:List Expr} {op:BoolOp} {pos:Pos} {Q:Value→Shared→Prop} {X:Hp→Prop},
 a9 c env.scope.names es xs=true→fw env→FC c (2*n+1) A₀ base outer fe A h₀ L→Fr h₀ L s.heap m→News h₀ L s.heap news→St c.prog c.w c.nm ρ H news→LRd c.nm env L m ρ news l→
 PSc c h₀ L m V ρ news (evB c.T Γ op es l H) Q X s→(∀H',X H'→XE c base (fe::outer) h₀ L m ρ news E s H')→wpAny (model c.prog c.w) A (eval (.BoolOp op xs pos) env) Q E s
def oq (c:Cx) (Γ:FT) (n:Nat) (es:MEs):Prop:=∀{A₀:Around} {base:Heap} {outer:List Env} {fe env:Env} {A:Around} {E:Value→Shared→Prop} {h₀:Heap} {L:Addr} {m:Str→Option Value} {s:Shared} {news:Led} {ρ:Rh} {H:Hp} {l:Loc} {xs:List Expr} {op:BoolOp} {pos:Pos} {whole:Sem Value} {Q:Bool→Shared→Prop} {X:Hp→Prop},
 a9 c env.scope.names es xs=true→fw env→FC c (2*n+1) A₀ base outer fe A h₀ L→Fr h₀ L s.heap m→News h₀ L s.heap news→St c.prog c.w c.nm ρ H news→LRd c.nm env L m ρ news l→
 PSc c h₀ L m VB ρ news (iB c.T Γ op es l H) Q X s→(∀H',X H'→XE c base (fe::outer) h₀ L m ρ news E s H')→wpAny (model c.prog c.w) A (isTrue (.BoolOp op xs pos) env whole) Q E s
theorem dT {names:dz} {e:ME} {x:Expr} (h:av c names e x=true) (env:Env) (rest:List Expr):starEach (x::rest) env=(false,eval x env)::starEach rest env:=by
 cases x<;>first|rfl|(cases e<;>first|(exfalso;revert h;simp[av,ao];done)|(rename_i v;cases v<;>(exfalso;revert h;simp[av,ao];done)))
theorem ds {names:dz} {env:Env} {pos:Pos}:∀{es:MEs} {xs:List Expr},a9 c names es xs=true→(backTo pos (starEach xs env)).any (·.1)=false
 | .nil,[],_=>rfl
 | .cons e r,x::xs,h=>by
   unfold a9 at h
   rw[Bool.and_eq_true] at h
   rw[dT h.1]
   exact ds (es:=r) h.2
 | .nil,_::_,h=>by simp[a9] at h
 | .cons _ _,[],h=>by simp[a9] at h
theorem sZ {names:dz} {e:ME} {x:Expr} (h:av c names e x=true) (h1:∀a,e≠.not a) (h2:∀o a,e≠.boo o a) (h3:∀o a b,e≠.cmp o a b) (env:Env) (whole:Sem Value):
 isTrue x env whole=(do let v ←whole;standAt x.pos;holding [v] (truthy v)):=by
 cases x<;>first|rfl|(cases e<;>first|exact absurd rfl (h1 _)|exact absurd rfl (h2 _ _)|exact absurd rfl (h3 _ _ _)|(exfalso;revert h;simp[av,ao];done)|(rename_i v;cases v<;>(exfalso;revert h;simp[av,ao];done))|(rename_i op _ _ _;cases op<;>first|rfl|(exfalso;revert h;simp[av,ao];done)))
section
variable {M:Model} {A:Around} {E:Value→Shared→Prop} {s:Shared} {env:Env} {h₀:Heap} {L:Addr} {m:Str→Option Value} {news:Led} {ρ:Rh}
theorem xy {id:Str} {pos:Pos} {y:Value} {Q:Value→Shared→Prop} (g:fw env) (Fm:Fr h₀ L s.heap m) (N:News h₀ L s.heap news) (r:Rd env L m ρ news id y) (hi:gK id=true) (hq:Q y s):wpAny M A (eval (.Name id pos) env) Q E s:=by
 unfold gK at hi
 simp only[Bool.and_eq_true,Bool.not_eq_true'] at hi
 refine wpAny_Name ?_ hi.1.1.1
 cases r with
 |frame a b d=>exact wpAny_loadName_local g.kind b (a▸Fm.ns) d hq
 |cell a o h1 h2 h3 h4 h5=>
  rcases h1 with h1|h1
  ·exact wpAny_loadName_cell g.kind h1 h2 ⟨o,(N _ h3).1,h5⟩ hq
  ·exact wpAny_loadName_free g.kind h1 h2 ⟨o,(N _ h3).1,h5⟩ hq hi.1.1.2
 |comp oC m₂ h1 h2 h3 h4 h5=>exact wpAny_loadName_local g.kind h1 (h4.ns (N _ h2).1) h5 hq
theorem nK {n':Nat} {A₀ A':Around} {base:Heap} {outer:List Env} {fe:Env} {id:Str} {pos:Pos} {y:Value} {Q:Value→Shared→Prop} (g:fw env) (fc:FC c n' A₀ base outer fe A' h₀ L) (Fm:Fr h₀ L s.heap m)
 (hi:dq env.scope.names id=true) (e:nsIn c.K mainGlobals id=some (some y)) (hq:Q y s):wpAny M A (eval (.Name id pos) env) Q E s:=by
 unfold dq gK at hi
 simp only[Bool.and_eq_true,Bool.not_eq_true',beq_iff_eq] at hi
 have T:=topRead_of fc.T
 refine Name_function_global g.kind hi.1 (loadGlobal_global (g.glob▸T.g.keeps Fm.keep) (mg_of fc.X T.g e) hq) hi.2.1.1.1
theorem oy {n':Nat} {A₀ A':Around} {base:Heap} {outer:List Env} {fe:Env} {id:Str} {pos:Pos} {y:Value} {Q:Value→Shared→Prop} (g:fw env) (fc:FC c n' A₀ base outer fe A' h₀ L) (Fm:Fr h₀ L s.heap m)
 (hi:dq env.scope.names id=true) (e:nsIn c.K mainGlobals id=some none) (hv:bootBuiltins id=some y) (hq:Q y s):wpAny M A (eval (.Name id pos) env) Q E s:=by
 unfold dq gK at hi
 simp only[Bool.and_eq_true,Bool.not_eq_true',beq_iff_eq] at hi
 have T:=topRead_of fc.T
 refine Name_function_global g.kind hi.1 (loadGlobal_builtin (g.glob▸T.g.keeps Fm.keep) (mg_none_of fc.X T.g e) (g.blt▸T.b.keeps Fm.keep) ((T.builtins id (by simpa using hi.2.1.2)).trans hv) hq) hi.2.1.1.1
end
theorem qY {names:dz} {e:ME} {x:Expr} (h:av c names e x=true) (env:Env) (attr:Str) (whole:Sem Value):attributeBase x attr env whole=whole:=by
 cases x<;>first
  |rfl
  |(rename_i func args kws pos
    cases func<;>first
     |rfl
     |(rename_i id p
       cases args<;>first
        |rfl
        |(cases kws<;>first
           |rfl
           |(have hs:(id != ("super":Str))=true:=by
              cases e<;>first
               |(exfalso;revert h;simp[av,ao];done)
               |(simp only[av,dq,gK,Bool.and_eq_true,Bool.not_eq_true'] at h
                 first
                  |(have h':=h.1.1.1.2.2.2;simpa using h')
                  |(have h':=h.1.1.1.2.2.2;simpa using h'))
             show(if _ then _ else _)=whole
             rw[if_pos (by simp[hs])]))))
theorem oo {prog:Program} {w:World} {A:Around} {E:Value→Shared→Prop} {s:Shared} {env:Env} {value:Expr} {attr:Str} {pos:Pos} {Q:Value→Shared→Prop} (hb:attributeBase value attr env (eval value env)=eval value env)
 (h:wpAny (model prog w) A (eval value env) (fun o s₁=>wpAny (model prog w) A (getAttr o attr true) Q E s₁) E s):wpAny (model prog w) A (eval (.Attribute value attr pos) env) Q E s:=Attribute_any_ h (by rw[arm_eval_Attribute,hb])
theorem te {M:Model} {A:Around} {E:Value→Shared→Prop} {s:Shared} {env:Env} {o:Expr} {name:Str} {apos pos:Pos} {args:List Expr} {Q:Value→Shared→Prop} (hb:attributeBase o name env (eval o env)=eval o env)
 (hp:(backTo pos (starEach args env)).any (·.1)=false) (hn:args.length<30) (hl:(apos.endLine == pos.line)=true)
 (h:∀pl:Sem Bool,wpAny M A (eval o env) (fun ov s₁=>wpAny M A (getMethod ov name pl) (fun fx s₂=>wpAny M A (callWith pos fx.1 fx.2 (backTo pos (starEach args env)) []) Q E s₂) E s₁) E s):
 wpAny M A (eval (.Call (.Attribute o name apos) args [] pos) env) Q E s:=by
 refine MethodCall_ (pl:=do return (←importBound o env).getD true) (h _) ?_
 rw[arm_eval_Call,hb]
 have hf:methodCallForm (args.length+([]:List Keyword).length) (backTo pos (starEach args env)) (backToKw pos (keywordEach [] env))=true:=by
  unfold methodCallForm
  have:(backTo pos (starEach args env)).all (fun p=> !p.1)=true:=by
   rw[List.all_eq_not_any_not]
   simpa using hp
  have e2:(backToKw pos (keywordEach [] env))=[]:=rfl
  rw[e2]
  simp[this,hn]
 unfold methodCall
 rw[hf]
 have hm:methodCallPos true o env apos pos=pure pos:=by
  unfold methodCallPos
  rw[if_pos (by simp[hl])]
 rw[hm]
 rfl
end
theorem oO {ρ:Rh} {news:Led}:∀{vs:List SV} {ws:List Value},e6 vs=true→A2 (V ρ news) vs ws→A2 (V0 ρ) vs ws
 |[],[],_,_=>trivial
 |v::r,x::ws,h,q=>by
  cases v with
  |tup _=>simp[e6] at h
  |_=>exact⟨q.1,oO (by simpa[e6] using h) q.2⟩
 |[],_::_,_,q=>q.elim
 |_::_,[],_,q=>q.elim
theorem A2.ext {ρ ρ':Rh} {news news':Led} {vs:List SV} {ws:List Value} (h:A2 (V ρ news) vs ws) (X:Ext ρ news ρ' news'):A2 (V ρ' news') vs ws:=h.imp (V.ext X.toExt0)
local macro_rules |`(tactic|wrow_has $x $h)=>`(tactic|(cases $x:ident<;>first|(exfalso;revert $h:ident;simp[av,ao];done)|skip))
section
variable {c:Cx} {Γ:FT} {n:Nat}
theorem xX (x:Nat):aQ c Γ n (.loc x):=by
 intro A₀ base outer fe env A E h₀ L m s news ρ H l x Q X hc g fc Fm N S lr q hx
 wrow_has x hc
 simp only[av,Bool.and_eq_true,beq_iff_eq] at hc
 simp only[evE] at q
 obtain⟨⟨rfl,_⟩,hid⟩:=hc
 split at q
 ·rename_i v hv
  obtain⟨y,r,hy⟩:=lr _ _ hv
  exact xy g Fm N r hid (PS.here (tk:=s.toks) Fm N S q hy)
 ·exact q.elim
theorem xQ (v:SV):aQ c Γ n (.con v):=by
 intro A₀ base outer fe env A E h₀ L m s news ρ H l x Q X hc g fc Fm N S lr q hx
 simp only[evE] at q
 cases x<;>first|(exfalso;revert hc;cases v<;>simp[av,ao];done)|skip
 rename_i k kk pos
 cases v<;>cases k<;>first|(exfalso;revert hc;simp[av,ao];done)|skip
 ·exact wpAny_Constant_none (PS.here (tk:=s.toks) Fm N S q trivial)
 ·simp only[av,beq_iff_eq] at hc
  subst hc
  exact wpAny_Constant_bool (PS.here (tk:=s.toks) Fm N S q rfl)
 ·simp only[av,beq_iff_eq] at hc
  subst hc
  exact wpAny_Constant_int (PS.here Fm N S q rfl)
 ·simp only[av,beq_iff_eq] at hc
  subst hc
  exact Constant_bytes (PS.here Fm N S q rfl)
theorem xU (k:Nat) (v:SV):aQ c Γ n (.glo k v):=by
 intro A₀ base outer fe env A E h₀ L m s news ρ H l x Q X hc g fc Fm N S lr q hx
 cases v<;>first|(exfalso;revert hc;cases x<;>simp[av,ao];done)|skip
 rename_i i
 wrow_has x hc
 simp only[evE] at q
 simp only[av,Bool.and_eq_true,beq_iff_eq] at hc
 obtain⟨⟨rfl,hg⟩,hm⟩:=hc
 split at hm
 ·rename_i j t he
  have:i=j:=by simpa using hm
  subst this
  exact nK g fc Fm hg he (PS.here (tk:=s.toks) Fm N S q rfl)
 ·cases hm
theorem vJ (tk:TOk c.K c.T c.nm) {e:ME} {f:Nat} (ih:aQ c Γ n e):aQ c Γ n (.attr e f):=by
 intro A₀ base outer fe env A E h₀ L m s news ρ H l x Q X hc g fc Fm N S lr q hx
 wrow_has x hc
 simp only[av,Bool.and_eq_true,beq_iff_eq] at hc
 simp only[evE] at q
 obtain⟨rfl,hc⟩:=hc
 exact oo (qY hc _ _ _) (ih hc g fc Fm N S lr (PS.seq q fun v H₁ ρ₁ news₁ h₁ t x _ F₁ N₁ S₁ X₁ va q₁=>ow tk F₁ fc.X N₁ S₁ va q₁) hx)
theorem xL {op:Operator} {a b:ME} (iha:aQ c Γ n a) (ihb:aQ c Γ n b):aQ c Γ n (.bin op a b):=by
 intro A₀ base outer fe env A E h₀ L m s news ρ H l x Q X hc g fc Fm N S lr q hx
 wrow_has x hc
 simp only[av,Bool.and_eq_true,decide_eq_true_eq] at hc
 simp only[evE] at q
 obtain⟨⟨rfl,ha⟩,hb⟩:=hc
 exact wpAny_BinOp (iha ha g fc Fm N S lr (PS.seq q fun v H₁ ρ₁ news₁ h₁ t x _ F₁ N₁ S₁ X₁ va q₁=>ihb hb g fc F₁ N₁ S₁ (lr.ext X₁)
  (PS.seq q₁ fun v' H₂ ρ₂ news₂ h₂ t₂ x' _ F₂ N₂ S₂ X₂ vb q₂=>wv F₂ N₂ S₂ (V.ext X₂.toExt0 _ _ va) vb q₂) fun H' z=>(hx H' z).ext X₁) hx)
theorem xZ {e:ME} (ih:aQ c Γ n e):aQ c Γ n (.neg e):=by
 intro A₀ base outer fe env A E h₀ L m s news ρ H l x Q X hc g fc Fm N S lr q hx
 wrow_has x hc
 rename_i op _ _
 cases op<;>first|(exfalso;revert hc;simp[av,ao];done)|skip
 simp only[av] at hc
 simp only[evE] at q
 refine UnaryOp_ (ih hc g fc Fm N S lr (PS.seq q fun v H₁ ρ₁ news₁ h₁ t x _ F₁ N₁ S₁ X₁ va q₁=> ?_) hx)
 split at q₁
 ·obtain⟨u,rfl⟩:=va.int_inv
  exact P.neg_int (PS.here F₁ N₁ S₁ q₁ rfl)
 ·exact q₁.elim
theorem xP {op:CmpOp} {a b:ME} (iha:aQ c Γ n a) (ihb:aQ c Γ n b):aQ c Γ n (.cmp op a b):=by
 intro A₀ base outer fe env A E h₀ L m s news ρ H l x Q X hc g fc Fm N S lr q hx
 wrow_has x hc
 rename_i el ops rs pos
 match ops,rs,hc with
 |[o],[r],hc=>
  simp only[av,Bool.and_eq_true,decide_eq_true_eq,Bool.not_eq_true'] at hc
  simp only[evE] at q
  obtain⟨⟨⟨rfl,ha⟩,hb⟩,hm⟩:=hc
  refine wpAny_Compare1 (iha ha g fc Fm N S lr (PS.seq q fun v H₁ ρ₁ news₁ h₁ t x _ F₁ N₁ S₁ X₁ va q₁=>ihb hb g fc F₁ N₁ S₁ (lr.ext X₁)
   (PS.seq q₁ fun v' H₂ ρ₂ news₂ h₂ t₂ x' _ F₂ N₂ S₂ X₂ vb q₂=>q7 (by have:=fc.un;omega) F₂ N₂ S₂ (V.ext X₂.toExt0 _ _ va) vb (PS.seq q₂ fun b H₃ ρ₃ news₃ h₃ t₃ y _ F₃ N₃ S₃ X₃ vy q₃=> ?_)) fun H' z=>(hx H' z).ext X₁) hx) hm
  cases vy
  exact PS.here (tk:=t₃) F₃ N₃ S₃ q₃ rfl
 |[],_,hc=>exact absurd hc (by simp[av,ao])
 |_::_::_,_,hc=>exact absurd hc (by simp[av,ao])
 |[_],[],hc=>exact absurd hc (by simp[av,ao])
 |[_],_::_::_,hc=>exact absurd hc (by simp[av,ao])
theorem vB {op:CmpOp} {a b:ME} (iha:aQ c Γ n a) (ihb:aQ c Γ n b):mi c Γ n (.cmp op a b):=by
 intro A₀ base outer fe env A E h₀ L m s news ρ H l x Q X hc g fc Fm N S lr q hx
 wrow_has x hc
 rename_i el ops rs pos
 match ops,rs,hc with
 |[o],[r],hc=>
  simp only[av,Bool.and_eq_true,decide_eq_true_eq,Bool.not_eq_true'] at hc
  simp only[evC] at q
  obtain⟨⟨⟨rfl,ha⟩,hb⟩,hm⟩:=hc
  refine wpAny_isTrue_Compare1 (iha ha g fc Fm N S lr (PS.seq q fun v H₁ ρ₁ news₁ h₁ t x _ F₁ N₁ S₁ X₁ va q₁=>ihb hb g fc F₁ N₁ S₁ (lr.ext X₁)
   (PS.seq q₁ fun v' H₂ ρ₂ news₂ h₂ t₂ x' _ F₂ N₂ S₂ X₂ vb q₂=>q7 (X:=X) (by have:=fc.un;omega) F₂ N₂ S₂ (V.ext X₂.toExt0 _ _ va) vb ?_) fun H' z=>(hx H' z).ext X₁) hx) hm
  cases hr:dO op v v' H₂ with
  |ok b H₃=>
   rw[hr] at q₂
   intro ρ₃ news₃ h₃ t₃ y F₃ N₃ S₃ X₃ vy
   cases vy
   exact wpAny_truthy_bool (q₂ ρ₃ news₃ h₃ t₃ b F₃ N₃ S₃ X₃ rfl)
  |exc H₃=>rw[hr] at q₂;exact q₂
  |fail=>rw[hr] at q₂;exact q₂.elim
 |[],_,hc=>exact absurd hc (by simp[av,ao])
 |_::_::_,_,hc=>exact absurd hc (by simp[av,ao])
 |[_],[],hc=>exact absurd hc (by simp[av,ao])
 |[_],_::_::_,hc=>exact absurd hc (by simp[av,ao])
theorem x7 {e:ME} (ih:aQ c Γ n e):aQ c Γ n (.not e):=by
 intro A₀ base outer fe env A E h₀ L m s news ρ H l x Q X hc g fc Fm N S lr q hx
 wrow_has x hc
 rename_i op _ _
 cases op<;>first|(exfalso;revert hc;simp[av,ao];done)|skip
 simp only[av] at hc
 simp only[evE] at q
 refine UnaryOp_ (ih hc g fc Fm N S lr (PS.seq q fun v H₁ ρ₁ news₁ h₁ t x _ F₁ N₁ S₁ X₁ va q₁=>not_of ?_) hx)
 unfold iT at q₁
 split at q₁
 ·have:=va.bool_inv;subst this
  exact wpAny_truthy_bool (PS.here (tk:=t) F₁ N₁ S₁ q₁ rfl)
 ·exact q₁.elim
theorem vC {e:ME} (ih:mi c Γ n e):mi c Γ n (.not e):=by
 intro A₀ base outer fe env A E h₀ L m s news ρ H l x Q X hc g fc Fm N S lr q hx
 wrow_has x hc
 rename_i op _ _
 cases op<;>first|(exfalso;revert hc;simp[av,ao];done)|skip
 simp only[av] at hc
 simp only[evC] at q
 refine isTrue_not (ih hc g fc Fm N S lr (PS.seq q fun v H₁ ρ₁ news₁ h₁ t x _ F₁ N₁ S₁ X₁ va q₁=> ?_) hx)
 cases va
 exact PS.here (tk:=t) F₁ N₁ S₁ q₁ rfl
theorem xJ {e:ME} (ih:aQ c Γ n e) (he:∀l H,evC c.T Γ e l H=(evE c.T Γ e l H).bind fun v H₁=>iT v H₁) (h1:∀a,e≠.not a) (h2:∀o a,e≠.boo o a) (h3:∀o a b,e≠.cmp o a b):mi c Γ n e:=by
 intro A₀ base outer fe env A E h₀ L m s news ρ H l x Q X hc g fc Fm N S lr q hx
 rw[he] at q
 refine isTrue_plain (ih hc g fc Fm N S lr (PS.seq q fun v H₁ ρ₁ news₁ h₁ t x _ F₁ N₁ S₁ X₁ va q₁=> ?_) hx) (sZ hc h1 h2 h3 _ _)
 unfold iT at q₁
 split at q₁
 ·have:=va.bool_inv;subst this
  exact wpAny_truthy_bool (PS.here (tk:=t) F₁ N₁ S₁ q₁ rfl)
 ·exact q₁.elim
theorem xM {op:BoolOp} {es:MEs} (ih:r9 c Γ n es):aQ c Γ n (.boo op es):=by
 intro A₀ base outer fe env A E h₀ L m s news ρ H l x Q X hc g fc Fm N S lr q hx
 wrow_has x hc
 simp only[av,Bool.and_eq_true,decide_eq_true_eq] at hc
 simp only[evE] at q
 obtain⟨rfl,hc⟩:=hc
 exact ih hc g fc Fm N S lr q hx
theorem vA {op:BoolOp} {es:MEs} (ih:oq c Γ n es):mi c Γ n (.boo op es):=by
 intro A₀ base outer fe env A E h₀ L m s news ρ H l x Q X hc g fc Fm N S lr q hx
 wrow_has x hc
 simp only[av,Bool.and_eq_true,decide_eq_true_eq] at hc
 simp only[evC] at q
 obtain⟨rfl,hc⟩:=hc
 exact ih hc g fc Fm N S lr q hx
theorem pQ:ej c Γ n .nil:=by
 intro A₀ base outer fe env A E h₀ L m s news ρ H l xs pos Q X hc g fc Fm N S lr q hx
 match xs,hc with
 |[],_=>
  simp only[dB] at q
  exact wpAny_items_nil (PS.here (VR:=fun ρ news=>A2 (V ρ news)) (tk:=s.toks) Fm N S q trivial)
 |_::_,hc=>exact absurd hc (by simp[a9])
theorem mV {e:ME} {r:MEs} (ih:aQ c Γ n e) (ihr:ej c Γ n r):ej c Γ n (.cons e r):=by
 intro A₀ base outer fe env A E h₀ L m s news ρ H l xs pos Q X hc g fc Fm N S lr q hx
 match xs,hc with
 |[],hc=>exact absurd hc (by simp[a9])
 |x::xs,hc=>
  simp only[a9,Bool.and_eq_true] at hc
  simp only[dB] at q
  refine wpAny_items_cons (ih hc.1 g fc Fm N S lr (PS.seq q fun v H₁ ρ₁ news₁ h₁ t x _ F₁ N₁ S₁ X₁ va q₁=>ihr hc.2 g fc F₁ N₁ S₁ (lr.ext X₁)
   (PS.seq q₁ fun v' H₂ ρ₂ news₂ h₂ t₂ x' _ F₂ N₂ S₂ X₂ vb q₂=> ?_) fun H' z=>(hx H' z).ext X₁) hx) (dT hc.1 _ _)
  exact PS.here (VR:=fun ρ news=>A2 (V ρ news)) (tk:=t₂) F₂ N₂ S₂ q₂ ⟨V.ext X₂.toExt0 _ _ va,vb⟩
theorem vt:r9 c Γ n .nil:=by
 intro A₀ base outer fe env A E h₀ L m s news ρ H l xs op pos Q X hc g fc Fm N S lr q hx
 simp only[evB] at q
 exact q.elim
theorem vv {e:ME} (ih:aQ c Γ n e):r9 c Γ n (.cons e .nil):=by
 intro A₀ base outer fe env A E h₀ L m s news ρ H l xs op pos Q X hc g fc Fm N S lr q hx
 match xs,hc with
 |[],hc=>exact absurd hc (by simp[a9])
 |_::_::_,hc=>exact absurd hc (by simp[a9])
 |[x],hc=>
  simp only[a9,Bool.and_eq_true] at hc
  simp only[evB] at q
  exact BoolOp_one (ih hc.1 g fc Fm N S lr q hx)
theorem sT {e e':ME} {r:MEs} (ih:aQ c Γ n e) (ihr:r9 c Γ n (.cons e' r)):r9 c Γ n (.cons e (.cons e' r)):=by
 intro A₀ base outer fe env A E h₀ L m s news ρ H l xs op pos Q X hc g fc Fm N S lr q hx
 match xs,hc with
 |[],hc=>exact absurd hc (by simp[a9])
 |[_],hc=>exact absurd hc (by simp[a9])
 |x::x'::xs,hc=>
  rw[a9,Bool.and_eq_true] at hc
  rw[evB] at q
  ·cases op with
   |And=>
    refine BoolOp_and (ih hc.1 g fc Fm N S lr (PS.seq q fun v H₁ ρ₁ news₁ h₁ t x e₁ F₁ N₁ S₁ X₁ va q₁=> ?_) hx)
    clear e₁
    unfold iT at q₁
    split at q₁
    ·rename_i b
     have:=va.bool_inv;subst this
     refine wpAny_truthy_bool ?_
     cases b with
     |true=>
      rw[if_pos rfl]
      exact ihr hc.2 g fc F₁ N₁ S₁ (lr.ext X₁) q₁ fun H' z=>(hx H' z).ext X₁
     |false=>
      rw[if_neg (by simp)]
      exact PS.here (VR:=V) (tk:=t) F₁ N₁ S₁ q₁ rfl
    ·exact q₁.elim
   |Or=>
    refine BoolOp_or (ih hc.1 g fc Fm N S lr (PS.seq q fun v H₁ ρ₁ news₁ h₁ t x e₁ F₁ N₁ S₁ X₁ va q₁=> ?_) hx)
    clear e₁
    unfold iT at q₁
    split at q₁
    ·rename_i b
     have:=va.bool_inv;subst this
     refine wpAny_truthy_bool ?_
     cases b with
     |false=>
      rw[if_neg (by simp)]
      exact ihr hc.2 g fc F₁ N₁ S₁ (lr.ext X₁) q₁ fun H' z=>(hx H' z).ext X₁
     |true=>
      rw[if_pos rfl]
      exact PS.here (VR:=V) (tk:=t) F₁ N₁ S₁ q₁ rfl
    ·exact q₁.elim
  ·intro z;cases z
theorem mU:oq c Γ n .nil:=by
 intro A₀ base outer fe env A E h₀ L m s news ρ H l xs op pos whole Q X hc g fc Fm N S lr q hx
 match xs,hc with
 |_::_,hc=>exact absurd hc (by simp[a9])
 |[],_=>
  unfold iB at q
  cases op with
  |And=>exact isTrue_and_nil (PS.here (VR:=VB) (tk:=s.toks) Fm N S q rfl)
  |Or=>exact isTrue_or_nil (PS.here (VR:=VB) (tk:=s.toks) Fm N S q rfl)
theorem l7 {e:ME} {r:MEs} (ih:mi c Γ n e) (ihr:oq c Γ n r):oq c Γ n (.cons e r):=by
 intro A₀ base outer fe env A E h₀ L m s news ρ H l xs op pos whole Q X hc g fc Fm N S lr q hx
 match xs,hc with
 |[],hc=>exact absurd hc (by simp[a9])
 |x::xs,hc=>
  simp only[a9,Bool.and_eq_true] at hc
  simp only[iB] at q
  cases op with
  |And=>
   refine isTrue_and (ih hc.1 g fc Fm N S lr (PS.seq q fun v H₁ ρ₁ news₁ h₁ t x _ F₁ N₁ S₁ X₁ va q₁=> ?_) hx)
   cases va
   cases v with
   |true=>
    rw[if_pos rfl]
    exact ihr hc.2 g fc F₁ N₁ S₁ (lr.ext X₁) q₁ fun H' z=>(hx H' z).ext X₁
   |false=>
    rw[if_neg (by simp)]
    exact PS.here (VR:=VB) (tk:=t) F₁ N₁ S₁ q₁ rfl
  |Or=>
   refine isTrue_or (ih hc.1 g fc Fm N S lr (PS.seq q fun v H₁ ρ₁ news₁ h₁ t x _ F₁ N₁ S₁ X₁ va q₁=> ?_) hx)
   cases va
   cases v with
   |false=>
    rw[if_neg (by simp)]
    exact ihr hc.2 g fc F₁ N₁ S₁ (lr.ext X₁) q₁ fun H' z=>(hx H' z).ext X₁
   |true=>
    rw[if_pos rfl]
    exact PS.here (VR:=VB) (tk:=t) F₁ N₁ S₁ q₁ rfl
end
theorem nE:bootBuiltins "sorted"=some (.builtin "sorted"):=by decide+kernel
theorem oB:bootBuiltins "bytes"=some (.type "bytes"):=by decide+kernel
theorem se:bootBuiltins "min"=some (.builtin "min"):=by decide+kernel
theorem sf:bootBuiltins "sum"=some (.builtin "sum"):=by decide+kernel
theorem oR (A:Around) (a:Args):(A.under (.builtin "type.__call__" a)).frames=A.frames:=by
 cases A with
 |mk hd dp fr gu un=>
  cases fr<;>rfl
theorem FC.make {c:Cx} {n:Nat} {A₀:Around} {base:Heap} {outer:List Env} {fe:Env} {A:Around} {h₀:Heap} {L:Addr} (f:FC c (n+1) A₀ base outer fe A h₀ L) (C:Addr) (vals:List Value):
 FC c n A₀ base outer fe (A.under (.builtin "type.__call__" ⟨.ref C::vals,[]⟩)) h₀ L:=
 ⟨f.B,f.X,f.T,(oR A _).trans f.hA,f.hf,f.hk,f.hh,by rw[depth_under_make];have:=f.room;omega,by rw[units_under_make];have:=f.un;omega⟩
section
variable {c:Cx} {Γ:FT} {n:Nat}
theorem yc {es:MEs} (ih:ej c Γ n es):aQ c Γ n (.tup es):=by
 intro A₀ base outer fe env A E h₀ L m s news ρ H l x Q X hc g fc Fm N S lr q hx
 wrow_has x hc
 simp only[av] at hc
 simp only[evE] at q
 refine Tuple_ (ih hc g fc Fm N S lr (PS.seq q fun vs H₁ ρ₁ news₁ h₁ t ws _ F₁ N₁ S₁ X₁ va q₁=> ?_) hx)
 split at q₁
 ·rename_i hf
  simp only[Bool.and_eq_true,decide_eq_true_eq] at hf
  refine newTuple_N F₁ N₁ (fun h' F' N'=> ?_) (by rw[←va.len,sizeLine_eq];have:=hf.2;unfold ag at this;omega)
  have k:∀q∈news₁,q∈(h₁.objs.size,gQ ws 0)::news₁:=fun _ h=>List.mem_cons_of_mem _ h
  refine q₁ ρ₁ ((h₁.objs.size,gQ ws 0)::news₁) h' t _ F' N' (S₁.more k) ⟨⟨fun _ _ h=>h,fun _ _ _ h=>k _ h⟩,fun p hp _=>k p hp,fun _ _ h=> .inl h⟩ ⟨ws,0,List.mem_cons_self ..,oO hf.1 va⟩
 ·exact q₁.elim
theorem xY {es:MEs} (ih:ej c Γ n es):aQ c Γ n (.lst es):=by
 intro A₀ base outer fe env A E h₀ L m s news ρ H l x Q X hc g fc Fm N S lr q hx
 wrow_has x hc
 simp only[av] at hc
 simp only[evE] at q
 refine List_ (ih hc g fc Fm N S lr (PS.seq q fun vs H₁ ρ₁ news₁ h₁ t ws _ F₁ N₁ S₁ X₁ va q₁=> ?_) hx)
 have hz:vs.length≤ag:=by
  unfold bp at q₁
  split at q₁
  ·assumption
  ·exact q₁.elim
 refine newList_K F₁ N₁ (fun a h' F' N' hlt=> ?_) (by rw[←va.len,sizeLine_eq];unfold ag at hz;omega)
 exact PS.newList (s:={s with heap:=h₁,toks:=t}) (tk:=t) F₁ N₁ S₁ q₁ F' N' ⟨0,rfl⟩ (fun p hp=>Nat.ne_of_lt (hlt p hp)) va
theorem xS:aQ c Γ n .dic:=by
 intro A₀ base outer fe env A E h₀ L m s news ρ H l x Q X hc g fc Fm N S lr q hx
 wrow_has x hc
 rename_i ks vs pos
 match ks,vs,hc with
 |[],[],hc=>
  simp only[evE,alloc] at q
  refine newDict_K Fm N fc.T.nolimit fun d h' o F' N' hlt lo _ _ hd _=> ?_
  obtain⟨S',X',r⟩:=St.alloc (news':=(d,o)::news) (p:=(d,d)) (o:= .dict []) N S (fun _ h=>List.mem_cons_of_mem _ h) (fun q hq=>Nat.ne_of_lt (hlt q hq)) ⟨rfl,lo,[],o,List.mem_cons_self ..,hd,trivial⟩ (fun q hq=>Nat.ne_of_lt (hlt q hq))
  exact q _ _ h' s.toks _ F' N' S' X' ⟨d,r⟩
 |_::_,_,hc=>exact absurd hc (by simp[av,ao])
 |[],_::_,hc=>exact absurd hc (by simp[av,ao])
theorem xV {a i:ME} (iha:aQ c Γ n a) (ihb:aQ c Γ n i):aQ c Γ n (.idx a i):=by
 intro A₀ base outer fe env A E h₀ L m s news ρ H l x Q X hc g fc Fm N S lr q hx
 wrow_has x hc
 simp only[av,Bool.and_eq_true] at hc
 simp only[evE] at q
 refine Subscript_ (iha hc.1 g fc Fm N S lr (PS.seq q fun v H₁ ρ₁ news₁ h₁ t x _ F₁ N₁ S₁ X₁ va q₁=>ihb hc.2 g fc F₁ N₁ S₁ (lr.ext X₁)
  (PS.seq q₁ fun v' H₂ ρ₂ news₂ h₂ t₂ x' _ F₂ N₂ S₂ X₂ vb q₂=> ?_) fun H' z=>(hx H' z).ext X₁) hx)
 have:=ro (A:=A) (E:=E) (s:={s with heap:=h₂,toks:=t₂}) F₂ N₂ S₂ (V.ext X₂.toExt0 _ _ va) vb q₂
 exact jw this.1 this.2
theorem pP {b:ME} (ih:aQ c Γ n b) (hb:b= .nul∨jl b=false) {A₀:Around} {base:Heap} {outer:List Env} {fe env:Env} {A:Around} {E:Value→Shared→Prop} {h₀:Heap} {L:Addr} {m:Str→Option Value} {s:Shared} {news:Led} {ρ:Rh} {H:Hp} {l:Loc} {x:Option Expr} {Q:Value→Shared→Prop} {X:Hp→Prop}
 (hc:(match x with|none=>jl b|some x=> !jl b && av c env.scope.names b x)=true) (g:fw env) (fc:FC c (2*n+1) A₀ base outer fe A h₀ L) (Fm:Fr h₀ L s.heap m) (N:News h₀ L s.heap news) (S:St c.prog c.w c.nm ρ H news) (lr:LRd c.nm env L m ρ news l)
 (q:PSc c h₀ L m V ρ news (evE c.T Γ b l H) Q X s) (hx:∀H',X H'→XE c base (fe::outer) h₀ L m ρ news E s H'):wpAny (model c.prog c.w) A (evalPart x env) Q E s:=by
 cases x with
 |none=>
  have:b= .nul:=by
   cases b<;>first|rfl|(exfalso;revert hc;simp[jl];done)
  subst this
  simp only[evE] at q
  exact evalPart_none_step (PS.here (VR:=V) (tk:=s.toks) Fm N S q trivial)
 |some x=>
  simp only[Bool.and_eq_true] at hc
  exact evalPart_some_step (ih hc.2 g fc Fm N S lr q hx)
theorem yb {a lo hi:ME} (iha:aQ c Γ n a) (ihl:aQ c Γ n lo) (ihh:aQ c Γ n hi):aQ c Γ n (.slc a lo hi):=by
 intro A₀ base outer fe env A E h₀ L m s news ρ H l x Q X hc g fc Fm N S lr q hx
 wrow_has x hc
 rename_i v sl pos
 cases sl<;>first|(exfalso;revert hc;simp[av,ao];done)|skip
 rename_i lw up st sp
 cases st<;>first|(exfalso;revert hc;simp[av,ao];done)|skip
 simp only[av] at hc
 simp only[evE] at q
 rw[Bool.and_eq_true,Bool.and_eq_true] at hc
 have nul:∀b:ME,b= .nul∨jl b=false:=fun b=>by cases b<;>first|exact .inl rfl|exact .inr rfl
 refine Subscript_ (iha hc.1.1 g fc Fm N S lr (PS.seq q fun v H₁ ρ₁ news₁ h₁ t x _ F₁ N₁ S₁ X₁ va q₁=>wpAny_Slice (pP ihl (nul lo) hc.1.2 g fc F₁ N₁ S₁ (lr.ext X₁)
  (PS.seq q₁ fun v₂ H₂ ρ₂ news₂ h₂ t₂ x₂ _ F₂ N₂ S₂ X₂ vb q₂=>pP ihh (nul hi) hc.2 g fc F₂ N₂ S₂ ((lr.ext X₁).ext X₂)
    (PS.seq q₂ fun v₃ H₃ ρ₃ news₃ h₃ t₃ x₃ _ F₃ N₃ S₃ X₃ vd q₃=>evalPart_none_step ?_) fun H' z=>((hx H' z).ext X₁).ext X₂) fun H' z=>(hx H' z).ext X₁)) hx)
 have F₄:Fr h₀ L (h₃.push {cls:= .type "slice",data:= .fields #[x₂,x₃,.none]}) m:=F₃.push _
 have N₄:News h₀ L (h₃.push {cls:= .type "slice",data:= .fields #[x₂,x₃,.none]}) news₃:=N₃.grown fun _ _ e=>Heap.get?_push_of_some _ e
 have:=xE (A:=A) (E:=E) (s:={s with heap:=h₃.push {cls:= .type "slice",data:= .fields #[x₂,x₃,.none]},toks:=t₃}) (sl:=h₃.objs.size) F₄ N₄ S₃ (V.ext (X₂.trans X₃).toExt0 _ _ va) (V.ext X₃.toExt0 _ _ vb) vd
  ⟨_,Heap.get?_push_size _ rfl,rfl,rfl⟩ (PS.up q₃ (Ext.refl _ _))
 exact jw this.1 this.2
theorem x8:aQ c Γ n .nul:=by
 intro A₀ base outer fe env A E h₀ L m s news ρ H l x Q X hc g fc Fm N S lr q hx
 exfalso;revert hc
 cases x<;>simp[av,ao]
theorem vN (hΓ:GOk c Γ n) {k:Nat} {f:Addr} {es:MEs} (ih:ej c Γ n es):aQ c Γ n (.call k f es):=by
 intro A₀ base outer fe env A E h₀ L m s news ρ H l x Q X hc g fc Fm N S lr q hx
 wrow_has x hc
 rename_i fn args kws pos
 cases fn<;>first|(exfalso;revert hc;simp[av,ao];done)|skip
 cases kws<;>first|(exfalso;revert hc;simp[av,ao];done)|skip
 simp only[av,Bool.and_eq_true,beq_iff_eq] at hc
 simp only[evE] at q
 obtain⟨⟨⟨⟨rfl,hg⟩,hm⟩,hk⟩,hes⟩:=hc
 split at hm
 ·rename_i f' he
  have:f'=f:=by simpa using hm
  subst this
  refine Call_Name rfl (nK g fc Fm hg he ?_)
  have go:∀vs H₁ ρ₁ news₁ h₁ t ws,Fr h₀ L h₁ m→News h₀ L h₁ news₁→St c.prog c.w c.nm ρ₁ H₁ news₁→Ext ρ news ρ₁ news₁→A2 (V ρ₁ news₁) vs ws→
   PSc c h₀ L m V ρ₁ news₁ (match Γ f' with|some D=>D vs H₁|none=> .fail) Q X {s with heap:=h₁,toks:=t}→wpAny (model c.prog c.w) A (call (.ref f') ws) Q E {s with heap:=h₁,toks:=t}:=by
   intro vs H₁ ρ₁ news₁ h₁ t ws F₁ N₁ S₁ X₁ va q₁
   split at q₁
   ·rename_i D hD
    exact wpAny_call (hΓ f' D hD (fc.le (by omega)) F₁ N₁ S₁ va q₁ fun H' z=>(hx H' z).ext X₁)
   ·exact q₁.elim
  cases args with
  |nil=>
   cases es<;>first|(exfalso;revert hes;simp[a9];done)|skip
   simp only[dB,R.bind] at q
   refine callWith_K0 (fc.X.keeps Fm.keep) hk ?_
   exact go [] H ρ news s.heap s.toks [] Fm N S (Ext.refl _ _) trivial q
  |cons e rest=>
   have hs:starEach (e::rest) env=(false,eval e env)::starEach rest env∧(backTo pos (starEach rest env)).any (·.1)=false:=by
    cases es<;>first|(exfalso;revert hes;simp[a9];done)|skip
    rw[a9,Bool.and_eq_true] at hes
    exact⟨dT hes.1 _ _,ds hes.2⟩
   refine callWith_K fc.X hk (ih hes g fc Fm N S lr (PS.seq q fun vs H₁ ρ₁ news₁ h₁ t ws _ F₁ N₁ S₁ X₁ va q₁=>⟨fc.X.keeps F₁.keep,?_⟩) hx) hs.1 hs.2
   exact go vs H₁ ρ₁ news₁ h₁ t ws F₁ N₁ S₁ X₁ va q₁
 ·cases hm
theorem x0 (tk:TOk c.K c.T c.nm) (hΓ:GOk c Γ n) {k:Nat} {C:Addr} {es:MEs} (ih:ej c Γ n es):aQ c Γ n (.new k C es):=by
 intro A₀ base outer fe env A E h₀ L m s news ρ H l x Q X hc g fc Fm N S lr q hx
 wrow_has x hc
 rename_i fn args kws pos
 cases fn<;>first|(exfalso;revert hc;simp[av,ao];done)|skip
 cases kws<;>first|(exfalso;revert hc;simp[av,ao];done)|skip
 simp only[av,Bool.and_eq_true,beq_iff_eq] at hc
 simp only[evE] at q
 obtain⟨⟨⟨⟨rfl,hg⟩,hm⟩,hk⟩,hes⟩:=hc
 split at hm
 ·rename_i f' he
  have:f'=C:=by simpa using hm
  subst this
  refine Call_Name rfl (nK g fc Fm hg he ?_)
  have go:∀vs H₁ ρ₁ news₁ h₁ t ws,Fr h₀ L h₁ m→News h₀ L h₁ news₁→St c.prog c.w c.nm ρ₁ H₁ news₁→Ext ρ news ρ₁ news₁→A2 (V ρ₁ news₁) vs ws→
   PSc c h₀ L m V ρ₁ news₁ (fC c.T Γ f' vs H₁) Q X {s with heap:=h₁,toks:=t}→keepIn c.K (.ref f')=true∧wpAny (model c.prog c.w) A (call (.ref f') ws) Q E {s with heap:=h₁,toks:=t}:=by
   intro vs H₁ ρ₁ news₁ h₁ t ws F₁ N₁ S₁ X₁ va q₁
   have al:∀{x dx:Addr} {h':Heap},News h₀ L h' ((x,instObj f' dx)::(dx,dictOf [] 0)::news₁)→(∀p∈news₁,p.1<dx)→dx<x→St c.prog c.w c.nm (ρ₁++[(x,dx)]) (H₁++[.inst f' []]) ((x,instObj f' dx)::(dx,dictOf [] 0)::news₁)∧
    Ext ρ₁ news₁ (ρ₁++[(x,dx)]) ((x,instObj f' dx)::(dx,dictOf [] 0)::news₁)∧(ρ₁++[(x,dx)])[H₁.length]? =some (x,dx):=fun N' hlt hdx=>
    St.alloc (p:=(_,_)) (o:= .inst f' []) N₁ S₁ (fun _ h=>List.mem_cons_of_mem _ (List.mem_cons_of_mem _ h)) (fun q hq=>Nat.ne_of_lt (hlt q hq)) ⟨List.mem_cons_self ..,[],0,List.mem_cons_of_mem _ (List.mem_cons_self ..),trivial⟩ (fun q hq=>Nat.ne_of_lt (Nat.lt_trans (hlt q hq) hdx))
   unfold fC at q₁
   split at q₁
   ·rename_i hp
    obtain⟨t1,t2,t3⟩:=tk.plain _ hp
    refine⟨t3,?_⟩
    split at q₁
    ·match ws,va with
     |[],_=>
      refine call_cls0 F₁ fc.X N₁ t1 t2 fun x dx h' F' N' hlt hdx=> ?_
      obtain⟨S',X',r⟩:=al N' hlt hdx
      exact q₁ _ _ h' t _ F' N' S' X' ⟨dx,r⟩
     |_::_,h=>exact h.elim
    ·exact q₁.elim
   ·split at q₁
    ·rename_i f hf
     obtain⟨t1,t2,t3,t4⟩:=tk.init _ _ hf
     refine⟨t4,?_⟩
     split at q₁
     ·rename_i D hD
      refine call_cls F₁ fc.X N₁ t1 t2 t3 fun x dx h' F' N' hlt hdx=> ?_
      obtain⟨S',X',r⟩:=al N' hlt hdx
      refine hΓ f D hD (fc.make f' ws) (s:={s with heap:=h',toks:=t}) F' N' S' (vs:= .ref H₁.length::vs) ⟨⟨dx,r⟩,va.ext X'⟩ (PS.seq (VR:=V) (PS.up q₁ X') fun v H₂ ρ₂ news₂ h₂ t₂ y _ F₂ N₂ S₂ X₂ vy q₂=> ?_) fun H' z=>((hx H' z).ext X₁).ext X'
      split at q₂
      ·have:=vy.none_inv
       subst this
       refine⟨rfl,?_⟩
       exact PS.here (VR:=V) (s:={s with heap:=h₂,toks:=t₂}) (tk:=t₂) F₂ N₂ S₂ q₂ ⟨dx,X₂.rh _ _ r⟩
      ·exact q₂.elim
     ·exact q₁.elim
    ·exact q₁.elim
  cases args with
  |nil=>
   cases es<;>first|(exfalso;revert hes;simp[a9];done)|skip
   simp only[dB,R.bind] at q
   have:=go [] H ρ news s.heap s.toks [] Fm N S (Ext.refl _ _) trivial q
   exact callWith_K0 (fc.X.keeps Fm.keep) this.1 this.2
  |cons e rest=>
   have hs:starEach (e::rest) env=(false,eval e env)::starEach rest env∧(backTo pos (starEach rest env)).any (·.1)=false:=by
    cases es<;>first|(exfalso;revert hes;simp[a9];done)|skip
    rw[a9,Bool.and_eq_true] at hes
    exact⟨dT hes.1 _ _,ds hes.2⟩
   refine callWith_K fc.X hk (ih hes g fc Fm N S lr (PS.seq q fun vs H₁ ρ₁ news₁ h₁ t ws _ F₁ N₁ S₁ X₁ va q₁=>⟨fc.X.keeps F₁.keep,?_⟩) hx) hs.1 hs.2
   exact(go vs H₁ ρ₁ news₁ h₁ t ws F₁ N₁ S₁ X₁ va q₁).2
 ·cases hm
theorem vS (tk:TOk c.K c.T c.nm) (hΓ:GOk c Γ n) {k:Nat} {o:ME} {es:MEs} (iho:aQ c Γ n o) (ih:ej c Γ n es):aQ c Γ n (.meth o k es):=by
 intro A₀ base outer fe env A E h₀ L m s news ρ H l x Q X hc g fc Fm N S lr q hx
 wrow_has x hc
 rename_i fn args kws pos
 cases fn<;>first|(exfalso;revert hc;simp[av,ao];done)|skip
 cases kws<;>first|(exfalso;revert hc;simp[av,ao];done)|skip
 simp only[av,Bool.and_eq_true,decide_eq_true_eq] at hc
 simp only[evE] at q
 obtain⟨⟨⟨⟨hn,hl⟩,hp⟩,ho⟩,hes⟩:=hc
 have hn:=beq_iff_eq.mp hn
 subst hn
 refine te (qY ho _ _ _) (ds hes) hl hp fun pl=>iho ho g fc Fm N S lr (PS.seq q fun v H₁ ρ₁ news₁ h₁ t x _ F₁ N₁ S₁ X₁ va q₁=> ?_) hx
 have go:∀mk,∀vs H₂ ρ₂ news₂ h₂ t ws,Fr h₀ L h₂ m→News h₀ L h₂ news₂→St c.prog c.w c.nm ρ₂ H₂ news₂→Ext ρ₁ news₁ ρ₂ news₂→A2 (V ρ₂ news₂) vs ws→
  PSc c h₀ L m V ρ₂ news₂ (fN Γ mk v vs H₂) Q X {s with heap:=h₂,toks:=t}→wpAny (model c.prog c.w) A (call (rL mk) (x::ws)) Q E {s with heap:=h₂,toks:=t}:=by
  intro mk vs H₂ ρ₂ news₂ h₂ t ws F₂ N₂ S₂ X₂ vb q₂
  by_cases hf:∃f,mk= .fn f
  ·obtain⟨f,rfl⟩:=hf
   simp only[fN] at q₂
   split at q₂
   ·rename_i D hD
    exact wpAny_call (hΓ f D hD (fc.le (by omega)) F₂ N₂ S₂ (vs:=v::vs) ⟨V.ext X₂.toExt0 _ _ va,vb⟩ q₂ fun H' z=>((hx H' z).ext X₁).ext X₂)
   ·exact q₂.elim
  ·exact uE F₂ N₂ S₂ (V.ext X₂.toExt0 _ _ va) vb (fun f e=>hf ⟨f,e⟩) q₂
 cases hmk:jn c.T v k H₁ with
 |exc H'=>
  exfalso
  unfold jn at hmk
  repeat' (first|cases hmk|split at hmk)
 |fail=>rw[hmk] at q₁;exact q₁.elim
 |ok mk H'=>
  obtain⟨rfl,hfn,hget⟩:=uF (A:=A) (E:=E) (s:={s with heap:=h₁,toks:=t}) tk F₁ fc.X N₁ S₁ va hmk
  rw[hmk] at q₁
  refine hget _ _ ?_
  show wpAny _ A (callWith pos (rL mk) [x] (backTo pos (starEach args env)) []) Q E _
  have q₁:PSc c h₀ L m V ρ₁ news₁ ((dB c.T Γ es l H').bind fun vs H₂=>fN Γ mk v vs H₂) Q X {s with heap:=h₁,toks:=t}:=q₁
  cases args with
  |nil=>
   cases es<;>first|(exfalso;revert hes;simp[a9];done)|skip
   simp only[dB,R.bind] at q₁
   have:=go mk [] H' ρ₁ news₁ h₁ t [] F₁ N₁ S₁ (Ext.refl _ _) trivial q₁
   cases mk with
   |fn f=>exact callWith_K0 (fc.X.keeps F₁.keep) (hfn f rfl).2 this
   |app=>exact callWith_method0 this
   |ins=>exact callWith_method0 this
   |get=>exact callWith_method0 this
  |cons e rest=>
   have hs:starEach (e::rest) env=(false,eval e env)::starEach rest env∧(backTo pos (starEach rest env)).any (·.1)=false:=by
    cases es<;>first|(exfalso;revert hes;simp[a9];done)|skip
    rw[a9,Bool.and_eq_true] at hes
    exact⟨dT hes.1 _ _,ds hes.2⟩
   have main:∀Q',(∀vs H₂ ρ₂ news₂ h₂ t ws,Fr h₀ L h₂ m→News h₀ L h₂ news₂→St c.prog c.w c.nm ρ₂ H₂ news₂→Ext ρ₁ news₁ ρ₂ news₂→A2 (V ρ₂ news₂) vs ws→
    PSc c h₀ L m V ρ₂ news₂ (fN Γ mk v vs H₂) Q X {s with heap:=h₂,toks:=t}→Q' ws {s with heap:=h₂,toks:=t})→
    wpAny (model c.prog c.w) A (spliced (backTo pos (starEach (e::rest) env))) Q' E {s with heap:=h₁,toks:=t}:=fun Q' k=>
    ih hes g fc F₁ N₁ S₁ (lr.ext X₁) (PS.seq q₁ fun vs H₂ ρ₂ news₂ h₂ t₂ ws _ F₂ N₂ S₂ X₂ vb q₂=>k vs H₂ ρ₂ news₂ h₂ t₂ ws F₂ N₂ S₂ X₂ vb q₂) fun H' z=>(hx H' z).ext X₁
   cases mk with
   |fn f=>exact callWith_K fc.X (hfn f rfl).2 (main _ fun vs H₂ ρ₂ news₂ h₂ t₂ ws F₂ N₂ S₂ X₂ vb q₂=>⟨fc.X.keeps F₂.keep,go _ vs H₂ ρ₂ news₂ h₂ t₂ ws F₂ N₂ S₂ X₂ vb q₂⟩) hs.1 hs.2
   |app=>exact callWith_method1 (main _ fun vs H₂ ρ₂ news₂ h₂ t₂ ws F₂ N₂ S₂ X₂ vb q₂=>go _ vs H₂ ρ₂ news₂ h₂ t₂ ws F₂ N₂ S₂ X₂ vb q₂) hs.1 hs.2
   |ins=>exact callWith_method1 (main _ fun vs H₂ ρ₂ news₂ h₂ t₂ ws F₂ N₂ S₂ X₂ vb q₂=>go _ vs H₂ ρ₂ news₂ h₂ t₂ ws F₂ N₂ S₂ X₂ vb q₂) hs.1 hs.2
   |get=>exact callWith_method1 (main _ fun vs H₂ ρ₂ news₂ h₂ t₂ ws F₂ N₂ S₂ X₂ vb q₂=>go _ vs H₂ ρ₂ news₂ h₂ t₂ ws F₂ N₂ S₂ X₂ vb q₂) hs.1 hs.2
theorem oD (tk:TOk c.K c.T c.nm) {k:Nat} (h:tD c.T k=true):bootBuiltins (c.nm k)=some (gW c.T k)∧nsIn c.K mainGlobals (c.nm k)=some none:=by
 unfold tD at h
 simp only[Bool.or_eq_true,beq_iff_eq] at h
 refine⟨?_,tk.bui k (by omega)⟩
 have d:∀{a b:Nat} {x y:Str},c.nm a=x→c.nm b=y→(x == y)=false→a≠b:=fun {a b x y} h1 h2 h3 e=>by
  subst e;rw[h1] at h2;subst h2;simp at h3
 unfold gW
 by_cases e1:k=c.T.nLen
 ·rw[if_pos e1,e1,tk.nLen];exact boot_len
 ·rw[if_neg e1]
  by_cases e2:k=c.T.nSorted
  ·rw[if_pos e2,e2,tk.nSorted];exact nE
  ·rw[if_neg e2]
   by_cases e3:k=c.T.nBytes
   ·rw[if_pos e3,e3,tk.nBytes];exact oB
   ·rw[if_neg e3]
    by_cases e4:k=c.T.nMin
    ·rw[if_pos e4,e4,tk.nMin];exact se
    ·rw[if_neg e4]
     have e5:k=c.T.nSum:=by omega
     rw[e5,tk.nSum];exact sf
theorem oE (T:Tb) (k:Nat):(∃id,gW T k= .builtin id)∨∃t,gW T k= .type t:=by
 unfold gW
 repeat' split
 all_goals first|exact .inl ⟨_,rfl⟩|exact .inr ⟨_,rfl⟩
theorem xO (tk:TOk c.K c.T c.nm) {k:Nat} {es:MEs} (ih:ej c Γ n es):aQ c Γ n (.bui k es):=by
 intro A₀ base outer fe env A E h₀ L m s news ρ H l x Q X hc g fc Fm N S lr q hx
 wrow_has x hc
 rename_i fn args kws pos
 cases fn<;>first|(exfalso;revert hc;simp[av,ao];done)|skip
 cases kws<;>first|(exfalso;revert hc;simp[av,ao];done)|skip
 cases args<;>first|(exfalso;revert hc;simp[av,ao];done)|skip
 rename_i id p e rest
 simp only[av,Bool.and_eq_true] at hc
 simp only[evE] at q
 obtain⟨⟨⟨hn,hg⟩,hb⟩,hes⟩:=hc
 have hn:=beq_iff_eq.mp hn
 subst hn
 obtain⟨b1,b2⟩:=oD tk hb
 refine Call_Name rfl (oy g fc Fm hg b2 b1 ?_)
 have hs:starEach (e::rest) env=(false,eval e env)::starEach rest env∧(backTo pos (starEach rest env)).any (·.1)=false:=by
  cases es<;>first|(exfalso;revert hes;simp[a9];done)|skip
  rw[a9,Bool.and_eq_true] at hes
  exact⟨dT hes.1 _ _,ds hes.2⟩
 have main:=ih (xs:=e::rest) (pos:=pos) hes g fc Fm N S lr (E:=E) (Q:=fun ws s₁=>wpAny (model c.prog c.w) A (call (gW c.T k) ws) Q E s₁) (PS.seq q fun vs H₁ ρ₁ news₁ h₁ t ws _ F₁ N₁ S₁ X₁ va q₁=>
  ww (s:={s with heap:=h₁,toks:=t}) fc.hh F₁ N₁ S₁ va q₁) hx
 rcases oE c.T k with⟨i,e1⟩|⟨i,e1⟩
 ·rw[e1] at main⊢
  exact PyProof.Rows.callWith_builtin1 main hs.1 hs.2
 ·rw[e1] at main⊢
  exact PyProof.Rows.callWith_type1 main hs.1 hs.2
end
theorem mj {sc:Scope} {env:Env} (h:∀y∈sc.names,y.2= .free→(env.cells.lookup y.1).isSome=true):∃cl,closureFor sc env=pure cl∧∀x,(∃y∈sc.names,y.1=x∧y.2= .free)→cl.lookup x=env.cells.lookup x:=by
 have gen:∀(l:dz) (acc:List (Str×Addr)),(∀y∈l,y.2= .free→(env.cells.lookup y.1).isSome=true)→(∀x a,acc.lookup x=some a→env.cells.lookup x=some a)→
  ∃cl,(forIn l acc (fun x (r:List (Str×Addr))=>do
   if x.2 == NameKind.free then do let a ←cellOf env x.1;pure (ForInStep.yield ((x.1,a)::r)) else pure (ForInStep.yield r)):Sem (List (Str×Addr)))=pure cl∧
   (∀x a,cl.lookup x=some a→env.cells.lookup x=some a)∧(∀x,(acc.lookup x).isSome=true→(cl.lookup x).isSome=true)∧(∀y∈l,y.2= .free→(cl.lookup y.1).isSome=true):=by
  intro l
  induction l with
  |nil=>intro acc _ ha;exact⟨acc,by simp,ha,fun _ h=>h,fun _ h=>nomatch h⟩
  |cons y l ih=>
   intro acc hl ha
   by_cases hy:y.2= .free
   ·have hs:=hl y (List.mem_cons_self ..) hy
    obtain⟨a,hca⟩:=Option.isSome_iff_exists.mp hs
    obtain⟨cl,e,h1,h2,h3⟩:=ih ((y.1,a)::acc) (fun z hz=>hl z (List.mem_cons_of_mem _ hz)) fun x b hx=>by
     rw[List.lookup_cons] at hx
     by_cases q:x == y.1
     ·rw[q] at hx;cases hx;rw[beq_iff_eq.mp q];exact hca
     ·simp only[q] at hx;exact ha x b hx
    refine⟨cl,?_,h1,fun x hx=>h2 x ?_,fun z hz hzf=> ?_⟩
    ·rw[List.forIn_cons,←e]
     have e1:(y.2 == NameKind.free)=true:=by rw[hy];rfl
     rw[if_pos e1]
     have e2:cellOf env y.1=pure a:=by unfold cellOf;rw[hca]
     rw[e2]
     rfl
    ·rw[List.lookup_cons]
     split
     ·rfl
     ·exact hx
    ·rcases List.mem_cons.mp hz with rfl|hz
     ·refine h2 _ ?_
      rw[List.lookup_cons,beq_self_eq_true];rfl
     ·exact h3 z hz hzf
   ·obtain⟨cl,e,h1,h2,h3⟩:=ih acc (fun z hz=>hl z (List.mem_cons_of_mem _ hz)) ha
    refine⟨cl,?_,h1,h2,fun z hz hzf=> ?_⟩
    ·rw[List.forIn_cons,←e]
     have e1:¬(y.2 == NameKind.free)=true:=by simpa using hy
     rw[if_neg e1]
     rfl
    ·rcases List.mem_cons.mp hz with rfl|hz
     ·exact absurd hzf hy
     ·exact h3 z hz hzf
 obtain⟨cl,e,h1,_,h3⟩:=gen sc.names [] h (fun _ _ h=>by simp at h)
 refine⟨cl,?_,fun x ⟨y,hy,e1,e2⟩=> ?_⟩
 ·exact(congrArg (fun t:Sem (List (Str×Addr))=>t>>= fun s=>pure s) e).trans rfl
 ·subst e1
  obtain⟨a,ha⟩:=Option.isSome_iff_exists.mp (h3 y hy e2)
  rw[ha,h1 _ _ ha]
theorem ev {env:Env} (hk:env.scope.kind= .function) {x:Str} (hx:env.kindOf x=some .cell):∀{names:dz},names.lookup x=some .free→
 (names.map fun(n,k)=>if(k == NameKind.free && env.scope.kind == .function && env.kindOf n == some .cell) then(n,NameKind.cell) else(n,k)).lookup x=some .cell
 |[],h=>by simp at h
 |(y,k)::r,h=>by
  rw[List.lookup_cons] at h
  rw[List.map_cons]
  by_cases q:x == y
  ·rw[q] at h
   cases h
   have e:=beq_iff_eq.mp q
   subst e
   simp only[hk,hx,beq_self_eq_true,Bool.and_self,if_true,List.lookup_cons]
  ·simp only[q] at h
   have ih:=ev hk hx (names:=r) h
   rw[List.lookup_cons]
   have:∀b:Bool,(x == (if b=true then(y,NameKind.cell) else(y,k)).1)=false:=fun b=>by cases b<;>simpa using q
   simp only[this]
   exact ih
section
variable {c:Cx} {Γ:FT} {n:Nat}
theorem qi {T:Tb} {f:Nat} {H:Hp} {v:SV} {r ws:List SV} (h:fW T f H (v::r)=some ws):∃w H' t,gC T v f H= .ok w H'∧fW T f H r=some t∧ws=w::t:=by
 unfold fW at h
 split at h
 ·rename_i w H' e
  obtain⟨t,h1,h2⟩:=Option.map_eq_some_iff.mp h
  exact⟨w,H',t,e,h1,h2.symm⟩
 ·cases h
theorem qh (tk:TOk c.K c.T c.nm) {A:Around} {E:Value→Shared→Prop} {h₀:Heap} {L:Addr} {m:Str→Option Value} {s:Shared} {news:Led} {ρ:Rh} {H H':Hp} {v w:SV} {x:Value} {f:Nat} {Q:Value→Shared→Prop}
 (Fm:Fr h₀ L s.heap m) (X₀:c.K.In h₀) (N:News h₀ L s.heap news) (S:St c.prog c.w c.nm ρ H news) (va:V ρ news v x) (h:gC c.T v f H= .ok w H') (hq:∀y,V ρ news w y→Q y {s with toks:=s.toks+1}):
 wpAny (model c.prog c.w) A (getAttr x (c.nm f) true) Q E s:=by
 unfold gC at h
 split at h
 ·obtain⟨a,d,rfl,r⟩:=va.ref_inv
  split at h
  ·rename_i C fs hn
   obtain⟨b1,es,k,b2,b3⟩:=S.inst hn r
   split at h
   ·rename_i cc
    obtain⟨t1,t2,⟨attr,t3,t4⟩,_⟩:=tk.fld _ _ cc
    split at h
    ·rename_i u hu
     cases h
     have g:=li tk.inj f b3
     rw[hu] at g
     obtain⟨z,g1,g2⟩:=g
     exact get_own Fm X₀ (InstAt.of_news N b1 b2) t1 t2 t3 t4 g1 (oY g2) (hq _ g2)
    ·cases h
   ·cases h
  ·cases h
 ·cases h
theorem kB {names:dz} {e:ME} {x:Expr} (h:av c names e x=true) (env:Env) (v:Value):foldedSetIterable x env v=pure v:=by
 cases x<;>first|rfl|(cases e<;>first|(exfalso;revert h;simp[av,ao];done)|(rename_i v;cases v<;>(exfalso;revert h;simp[av,ao];done)))
theorem sV (tk:TOk c.K c.T c.nm) {k f:Nat} {src:ME} (ih:aQ c Γ n src):aQ c Γ n (.compA k f src):=by
 intro A₀ base outer fe env A E h₀ L m s news ρ H l x Q X hc g fc Fm N S lr q hx
 simp only[av] at hc
 split at hc
 ·rename_i i a id it sc hs
  obtain⟨p1,p2,p3,pos,rfl⟩:=k9 hs
  simp only[Bool.and_eq_true,decide_eq_true_eq] at hc
  obtain⟨⟨⟨⟨⟨⟨⟨e1,e2⟩,e3⟩,hid⟩,hsrc⟩,hkind⟩,hall⟩,hloc⟩:=hc
  have e1:=beq_iff_eq.mp e1;have e2:=beq_iff_eq.mp e2;have e3:=beq_iff_eq.mp e3;have hloc:=beq_iff_eq.mp hloc
  subst e1 e2 e3
  simp only[evE] at q
  have all:=List.all_eq_true.mp hall
  have hcell:∀y∈sc.names,y.2≠.cell:=fun y hy=>by have:=all y hy;simp at this;exact this.1.1
  have hfree:∀y∈sc.names,y.2≠.free:=fun y hy=>by have:=all y hy;simp at this;exact this.1.2
  have hnames:∀y∈sc.names,y.2= .local→sc.names.lookup y.1=some .local:=fun y hy e=>by have:=all y hy;simp[e] at this;exact this
  refine LCg.ListComp_U Fm (closureFor_none hfree) hcell hkind hnames hloc (ih hsrc g fc Fm N S lr (PS.seq q fun v H₁ ρ₁ news₁ h₁ t xv _ F₁ N₁ S₁ X₁ va q₁=> ?_) hx) (fun v=>kB hsrc env v)
  split at q₁
  ·rename_i r
   obtain⟨ax,d,rfl,hr⟩:=va.ref_inv
   split at q₁
   ·rename_i its hi
    obtain⟨e,ws,o,b1,b2,b3⟩:=S₁.list hi hr
    subst e
    obtain⟨nn,rfl⟩:=id b2
    split at q₁
    ·rename_i hz
     split at q₁
     ·rename_i vs hvs
      refine LCg.CompSrc.ledger fc.hh F₁ N₁ b1 (by rw[List.size_toArray,←b3.len,sizeLine_eq];unfold ag at hz;omega) fun g'=> ?_
      have loop:∀(its₂:List SV) (ws₂:List Value) (i:Nat) (vs₁ vs₂:List SV) (ys:List Value),A2 (V ρ₁ news₁) its₂ ws₂→ws.drop i=ws₂→fW c.T f H₁ its₂=some vs₂→A2 (V ρ₁ news₁) vs₁ ys→vs=vs₁++vs₂→
       LCg.CompRest c.prog c.w A h₀ L m env (.Attribute (.Name (c.nm k) p1) (c.nm f) p2) (c.nm k) sc [] {s with heap:=g',toks:=t} (LCg.SrcAt h₀ ax ws.toArray) (fun i v=>ws.toArray[i]? =some v) (LCg.FinE h₀ L m {s with heap:=g',toks:=t} Q) ws₂.length i ys news₁:=by
       intro its₂
       induction its₂ with
       |nil=>
        intro ws₂ i vs₁ vs₂ ys h1 h2 h3 h4 h5
        match ws₂,h1 with
        |[],_=>
         refine LCg.CompRest.zero fun D h' tk' F' N' off=> ?_
         have:vs₂=[]:=by simpa[fW] using h3.symm
         subst this
         rw[List.append_nil] at h5
         subst h5
         have hoff:∀p∈news₁,p.1≠D:=by
          have:∀{l:List (Addr×Obj)},LCg.Off1 D l→∀p∈l,p.1≠D:=fun {l}=>by
           induction l with
           |nil=>intro _ p hp;cases hp
           |cons z l ihl=>
            intro ho p hp
            rcases List.mem_cons.mp hp with rfl|hp
            ·exact ho.1
            ·exact ihl ho.2 p hp
          exact this off
         unfold bp at q₁
         split at q₁
         ·obtain⟨S',X',rr⟩:=St.alloc (p:=(D,D)) (o:= .list vs) N₁ S₁ (news':=(D,LCg.lst ys)::news₁) (fun _ h=>List.mem_cons_of_mem _ h) hoff ⟨rfl,ys,_,List.mem_cons_self ..,⟨ys.length,rfl⟩,h4.imp (V.ext ⟨fun i q e=>by rw[List.getElem?_append_left (by rw[List.getElem?_eq_some_iff] at e;exact e.1)];exact e,fun _ _ _ h=>List.mem_cons_of_mem _ h⟩)⟩
          exact q₁ _ _ h' tk' _ F' N' S' X' ⟨D,rr⟩
         ·exact q₁.elim
        |_::_,h=>exact h.elim
       |cons v its₂ ihh=>
        intro ws₂ i vs₁ vs₂ ys h1 h2 h3 h4 h5
        match ws₂,h1 with
        |x₀::ws₃,h1=>
         obtain⟨w,H',vs₃,g1,g2,rfl⟩:=qi h3
         refine LCg.CompRest.succ fun xv I oI C oC D m₂ h' tk' E' hP hoC hm F' N' off ne=> ?_
         have hx0:xv=x₀:=by
          have hi':ws[i]? =some x₀:=by
           have:=congrArg (·[0]?) h2
           simpa using this
          have hP':ws[i]? =some xv:=by simpa using hP
          rw[hi'] at hP';cases hP';rfl
         subst hx0
         have N₁':News h₀ L h' news₁:=fun p hp=>N' p (List.mem_cons_of_mem _ (List.mem_cons_of_mem _ (List.mem_cons_of_mem _ hp)))
         refine oo rfl ?_
         refine wpAny_Name (wpAny_loadName_local (m:=m₂) (by show(relabel sc env).kind= .function;exact hkind) (lookup_relabel_local hloc) (hoC.ns (N' _ (List.mem_cons_of_mem _ (List.mem_cons_self ..))).1) hm ?_) (by unfold gK at hid;simp only[Bool.and_eq_true,Bool.not_eq_true'] at hid;exact hid.1.1.1)
         refine qh tk F' fc.X N₁' S₁ h1.1 g1 fun y hy=> ?_
         refine LCg.CompEnd.intro F' N' news₁ (fun _ h=>h) off (.inr ⟨_,b1,rfl,nn,rfl⟩) ?_
         refine ihh ws₃ (i+1) (vs₁++[w]) vs₃ (ys++[y]) h1.2 ?_ g2 (A2.append h4 (show A2 (V ρ₁ news₁) [w] [y] from⟨hy,trivial⟩)) (by rw[h5];simp)
         have:=congrArg (·.drop 1) h2
         simpa[List.drop_drop,Nat.add_comm] using this
        |[],h=>exact h.elim
      have:=loop its ws 0 [] vs [] b3 rfl hvs trivial rfl
      rw[List.size_toArray]
      exact this
     ·exact q₁.elim
    ·exact q₁.elim
   ·exact q₁.elim
  ·exact q₁.elim
 ·cases hc
end
section
variable {c:Cx} {Γ:FT} {n:Nat}
theorem vD:mi c Γ n .nul:=by
 intro A₀ base outer fe env A E h₀ L m s news ρ H l x Q X hc g fc Fm N S lr q hx
 exfalso;revert hc
 cases x<;>simp[av,ao]
local macro_rules |`(tactic|wide_open with $h)=>`(tactic|(refine⟨$h,xJ $h (fun _ _=>by simp only[evC]) (fun _ z=>by cases z) (fun _ _ z=>by cases z) (fun _ _ _ z=>by cases z)⟩))
mutual
theorem snd (tk:TOk c.K c.T c.nm) (hΓ:GOk c Γ n):∀e:ME,aQ c Γ n e∧mi c Γ n e
 | .loc x=>by wide_open with(xX x)
 | .con v=>by wide_open with(xQ v)
 | .glo k v=>by wide_open with(xU k v)
 | .attr e f=>by have ih:aQ c Γ n e:=(snd tk hΓ e).1;wide_open with(vJ tk (f:=f) ih)
 | .bin op a b=>by have iha:aQ c Γ n a:=(snd tk hΓ a).1;have ihb:aQ c Γ n b:=(snd tk hΓ b).1;wide_open with(xL (op:=op) iha ihb)
 | .neg e=>by have ih:aQ c Γ n e:=(snd tk hΓ e).1;wide_open with(xZ ih)
 | .cmp op a b=>⟨xP (snd tk hΓ a).1 (snd tk hΓ b).1,vB (snd tk hΓ a).1 (snd tk hΓ b).1⟩
 | .boo op es=>⟨xM (j9 tk hΓ es).2.1,vA (j9 tk hΓ es).2.2⟩
 | .not e=>⟨x7 (snd tk hΓ e).1,vC (snd tk hΓ e).2⟩
 | .tup es=>by have ih:ej c Γ n es:=(j9 tk hΓ es).1;wide_open with(yc ih)
 | .lst es=>by have ih:ej c Γ n es:=(j9 tk hΓ es).1;wide_open with(xY ih)
 | .dic=>by wide_open with xS
 | .idx a i=>by have iha:aQ c Γ n a:=(snd tk hΓ a).1;have ihb:aQ c Γ n i:=(snd tk hΓ i).1;wide_open with(xV iha ihb)
 | .slc a lo hi=>by have iha:aQ c Γ n a:=(snd tk hΓ a).1;have ihl:aQ c Γ n lo:=(snd tk hΓ lo).1;have ihh:aQ c Γ n hi:=(snd tk hΓ hi).1;wide_open with(yb iha ihl ihh)
 | .nul=>⟨x8,vD⟩
 | .call k f es=>by have ih:ej c Γ n es:=(j9 tk hΓ es).1;wide_open with(vN hΓ (k:=k) (f:=f) ih)
 | .new k C es=>by have ih:ej c Γ n es:=(j9 tk hΓ es).1;wide_open with(x0 tk hΓ (k:=k) (C:=C) ih)
 | .meth o m es=>by have iho:aQ c Γ n o:=(snd tk hΓ o).1;have ih:ej c Γ n es:=(j9 tk hΓ es).1;wide_open with(vS tk hΓ (k:=m) iho ih)
 | .bui k es=>by have ih:ej c Γ n es:=(j9 tk hΓ es).1;wide_open with(xO tk (k:=k) ih)
 | .compA k f src=>by have ih:aQ c Γ n src:=(snd tk hΓ src).1;wide_open with(sV tk (k:=k) (f:=f) ih)
theorem j9 (tk:TOk c.K c.T c.nm) (hΓ:GOk c Γ n):∀es:MEs,ej c Γ n es∧r9 c Γ n es∧oq c Γ n es
 | .nil=>⟨pQ,vt,mU⟩
 | .cons e .nil=>⟨mV (snd tk hΓ e).1 pQ,vv (snd tk hΓ e).1,l7 (snd tk hΓ e).2 mU⟩
 | .cons e (.cons e' r)=>⟨mV (snd tk hΓ e).1 (j9 tk hΓ (.cons e' r)).1,sT (snd tk hΓ e).1 (j9 tk hΓ (.cons e' r)).2.1,l7 (snd tk hΓ e).2 (j9 tk hΓ (.cons e' r)).2.2⟩
end
end
local macro_rules |`(tactic|wide_open with $h)=>`(tactic|(refine⟨$h,xJ $h (fun _ _=>by simp only[evC]) (fun _ z=>by cases z) (fun _ _ z=>by cases z) (fun _ _ _ z=>by cases z)⟩))
def ez:Expr→Bool
 | .ListComp .. =>false| .SetComp .. =>false| .DictComp .. =>false|_=>true
def qy:Expr→Bool
 | .Tuple .. =>false|_=>true
def lL:Expr→Bool
 | .Slice .. =>false|_=>true
theorem eo {v:Expr} (h:ez v=true) (t:Option Expr) (k:Nat) (env:Env):swapsWith v t k env=pure false:=by
 cases v<;>first|rfl|(exfalso;revert h;simp[ez];done)
theorem zl {i:Expr} (h:lL i=true) (ov iv new:Value):augStore i ov iv new=(do holding [new,ov,iv] (setItem ov iv new);release [new,ov,iv] [];pure .next):=by
 cases i<;>first|rfl|(exfalso;revert h;simp[lL];done)
theorem qL {v:Expr} (h:qy v=true) (ts:List Expr) (k:Nat) (pos:Pos) (env:Env):swappedStores [.Tuple ts k pos] v env=pure none:=by
 cases v<;>first|rfl|(exfalso;revert h;simp[qy];done)
section
variable (c:Cx)
def eu (names:dz) (id:Str):Bool:=names.lookup id == some .local
def gY (names:dz):List Nat→List Expr→Bool
 |[],[]=>true
 |x::xs,.Name id _::ts=>id == c.nm x && eu names id && gY names xs ts
 |_,_=>false
def nI:Expr→Option (Str×Str×Str×Expr×Scope×Pos)
 | .ListComp (.Name i1 _) [⟨.Name i2 _,it,[.Compare (.Tuple [.Subscript (.Name i3 _) (.Constant (.int 0) _ _) _,.Subscript (.Name i4 _) (.Constant (.int 1) _ _) _] _ _) [.GtE] [.Tuple [.Name u _,.BinOp (.Constant (.int 0) _ _) .Sub (.Name s _) _] _ _] _],0⟩] sc pos=>
   if i1 == i2 && i3 == i2 && i4 == i2 then some (i2,u,s,it,sc,pos) else none
 |_=>none
mutual
def fI (names:dz):MS→Stmt→Bool
 | .asg x e,.Assign ts v _=>(match ts with|[.Name id _]=>id == c.nm x && eu names id && ez v && av c names e v|_=>false)
 | .asgG y x u s src,.Assign ts v _=>(match ts with
     |[.Name id p]=>id == c.nm y && eu names id && (match nI v with
      |some (i,ui,si,it,sc,vp)=>i == c.nm x && ui == c.nm u && si == c.nm s && gK i && gK ui && gK si && av c names src it && decide (sc.kind= .function) && sc.names.lookup i == some .local && sc.names.lookup ui == some .free && sc.names.lookup si == some .free &&
        names.lookup ui == some .cell && names.lookup si == some .cell && p.line == vp.line &&
        sc.names.all (fun y=>decide (y.2≠.cell) && (decide (y.2≠.free) || y.1 == ui || y.1 == si) && (decide (y.2≠.local) || sc.names.lookup y.1 == some .local)) && !(sc.names.any fun(n,k)=>n == id && (k == .local || k == .cell))
      |none=>false)
     |_=>false)
 | .asgA o f e,.Assign ts v _=>(match ts with|[.Attribute t a _]=>a == c.nm f && ez v && av c names e v && av c names o t|_=>false)
 | .asgI o i e,.Assign ts v _=>(match ts with|[.Subscript t k _]=>ez v && av c names e v && av c names o t && av c names i k|_=>false)
 | .asgT xs e,.Assign ts v _=>(match ts with|[.Tuple ts _ _]=>ez v && qy v && av c names e v && gY c names xs ts|_=>false)
 | .augN x op e,.AugAssign t o v _=>(match t with| .Name id _=>id == c.nm x && eu names id && gK id && decide (op=o) && av c names e v|_=>false)
 | .augA o f op e,.AugAssign t op' v _=>(match t with| .Attribute t a _=>a == c.nm f && decide (op=op') && av c names o t && av c names e v|_=>false)
 | .augI o i op e,.AugAssign t op' v _=>(match t with| .Subscript t k _=>decide (op=op') && lL k && av c names o t && av c names i k && av c names e v|_=>false)
 | .ex e,.Expr v _=>ez v && av c names e v
 | .exd e,.Expr v _=>ez v && av c names e v
 | .ret e,.Return v _=>(match v with|some v=>av c names e v|none=>false)
 | .ite t a b,.If x y z _=>av c names t x && c7 names a y && c7 names b z
 | .whl t b,.While x y z _=>z.isEmpty && av c names t x && c7 names b y
 | .forR x args b,.For t it body z _=>z.isEmpty && (match t,it with| .Name id _,.Call (.Name r _) (a0::as) [] _=>id == c.nm x && eu names id && r == "range" && dq names r && nsIn c.K mainGlobals r == some none && a9 c names args (a0::as)|_,_=>false) && c7 names b body
 | .forE tg e b,.For t it body z _=>z.isEmpty && (match tg,t with
     | .one x,.Name id _=>id == c.nm x && eu names id
     | .two x y,.Tuple [.Name i _,.Name j _] _ _=>i == c.nm x && j == c.nm y && eu names i && eu names j
     |_,_=>false) && av c names e it && c7 names b body
 | .rai,_=>true
 | .brk,.Break _=>true
 | .cont,.Continue _=>true
 | .del o i,.Delete ts _=>(match ts with|[.Subscript t k _]=>av c names o t && av c names i k|_=>false)
 |_,_=>false
def c7 (names:dz):MSs→List Stmt→Bool
 | .nil,[]=>true
 | .cons s r,x::xs=>fI names s x && c7 names r xs
 |_,_=>false
end
def FlR (ρ:Rh) (news:Led):Fl→Flow→Prop
 | .next,.next=>True
 | .brk,.brk=>True
 | .cont,.cont=>True
 | .ret v,.ret x=>V ρ news v x
 |_,_=>False
def PF (env:Env) (h₀:Heap) (L:Addr) (ρ:Rh) (news:Led) (r:FR) (Q:Flow→Shared→Prop) (X:Hp→Prop) (s:Shared):Prop:=match r with
 | .ok (fl,l') H'=>∀m' ρ' news' h' tk f,Fr h₀ L h' m'→News h₀ L h' news'→St c.prog c.w c.nm ρ' H' news'→Ext ρ news ρ' news'→LRd c.nm env L m' ρ' news' l'→FlR ρ' news' fl f→Q f {s with heap:=h',toks:=tk}
 | .exc H'=>X H'
 | .fail=>False
end
section
variable {c:Cx} {Γ:FT} {n:Nat}
theorem PF.up {env:Env} {h₀:Heap} {L:Addr} {ρ ρ₁:Rh} {news news₁:Led} {r:FR} {Q:Flow→Shared→Prop} {X:Hp→Prop} {s:Shared} {h₁:Heap} {tk₁:Nat}
 (q:PF c env h₀ L ρ news r Q X s) (E:Ext ρ news ρ₁ news₁):PF c env h₀ L ρ₁ news₁ r Q X {s with heap:=h₁,toks:=tk₁}:=by
 cases r with
 |ok v H=>exact fun m' ρ' news' h' tk x a b d e g i=>q m' ρ' news' h' tk x a b d (E.trans e) g i
 |exc H=>exact q
 |fail=>exact q
theorem PF.seq {α β:Type} {VR:Rh→Led→α→β→Prop} {env:Env} {h₀:Heap} {L:Addr} {m:Str→Option Value} {ρ:Rh} {news:Led} {r:R α} {f:α→Hp→FR} {Q:Flow→Shared→Prop} {Q':β→Shared→Prop} {X:Hp→Prop} {s:Shared}
 (q:PF c env h₀ L ρ news (r.bind f) Q X s)
 (k:∀v H₁ ρ₁ news₁ h₁ tk x,r= .ok v H₁→Fr h₀ L h₁ m→News h₀ L h₁ news₁→St c.prog c.w c.nm ρ₁ H₁ news₁→Ext ρ news ρ₁ news₁→VR ρ₁ news₁ v x→PF c env h₀ L ρ₁ news₁ (f v H₁) Q X {s with heap:=h₁,toks:=tk}→Q' x {s with heap:=h₁,toks:=tk}):
 PSc c h₀ L m VR ρ news r Q' X s:=by
 cases r with
 |ok v H₁=>exact fun ρ₁ news₁ h₁ tk x a b d e g=>k v H₁ ρ₁ news₁ h₁ tk x rfl a b d e g (PF.up q e)
 |exc H=>exact q
 |fail=>exact q.elim
theorem PF.here {env:Env} {h₀:Heap} {L:Addr} {m:Str→Option Value} {ρ:Rh} {news:Led} {Q:Flow→Shared→Prop} {X:Hp→Prop} {s:Shared} {H:Hp} {l:Loc} {fl:Fl} {f:Flow} {tk:Nat}
 (Fm:Fr h₀ L s.heap m) (N:News h₀ L s.heap news) (S:St c.prog c.w c.nm ρ H news) (lr:LRd c.nm env L m ρ news l) (q:PF c env h₀ L ρ news (.ok (fl,l) H) Q X s) (hf:FlR ρ news fl f):Q f {s with toks:=tk}:=
 q m ρ news s.heap tk f Fm N S (Ext.refl _ _) lr hf
def eX (c:Cx) (Γ:FT) (n:Nat) (st:MS):Prop:=∀{A₀:Around} {base:Heap} {outer:List Env} {fe env:Env} {A:Around} {E:Value→Shared→Prop} {h₀:Heap} {L:Addr} {m:Str→Option Value} {s:Shared} {news:Led} {ρ:Rh} {H:Hp} {l:Loc} {x:Stmt} {Q:Flow→Shared→Prop} {X:Hp→Prop},
 fI c env.scope.names st x=true→fw env→env.locals=L→PassesOwn (model c.prog c.w) A env E→FC c (2*n+1) A₀ base outer fe A h₀ L→Fr h₀ L s.heap m→News h₀ L s.heap news→St c.prog c.w c.nm ρ H news→LRd c.nm env L m ρ news l→
 PF c env h₀ L ρ news (exS c.T Γ st l H) Q X s→(∀H',X H'→∀m',XE c base (fe::outer) h₀ L m' ρ news E s H')→wpAny (model c.prog c.w) A (exec x env) Q E s
def fF (c:Cx) (Γ:FT) (n:Nat) (st:MSs):Prop:=∀{A₀:Around} {base:Heap} {outer:List Env} {fe env:Env} {A:Around} {E:Value→Shared→Prop} {h₀:Heap} {L:Addr} {m:Str→Option Value} {s:Shared} {news:Led} {ρ:Rh} {H:Hp} {l:Loc} {xs:List Stmt} {Q:Flow→Shared→Prop} {X:Hp→Prop},
 c7 c env.scope.names st xs=true→fw env→env.locals=L→PassesOwn (model c.prog c.w) A env E→FC c (2*n+1) A₀ base outer fe A h₀ L→Fr h₀ L s.heap m→News h₀ L s.heap news→St c.prog c.w c.nm ρ H news→LRd c.nm env L m ρ news l→
 PF c env h₀ L ρ news (aM c.T Γ st l H) Q X s→(∀H',X H'→∀m',XE c base (fe::outer) h₀ L m' ρ news E s H')→wpAny (model c.prog c.w) A (execs xs env) Q E s
theorem eV {M:Model} {A:Around} {E:Value→Shared→Prop} {s:Shared} {env:Env} {h₀:Heap} {L:Addr} {m:Str→Option Value} {news:Led} {x:Str} {v:Value} {Q:Unit→Shared→Prop} (g:fw env) (hL:env.locals=L) (hk:eu env.scope.names x=true) (Fm:Fr h₀ L s.heap m) (N:News h₀ L s.heap news)
 (h:∀h',Fr h₀ L h' (fun y=>if y=x then some v else m y)→News h₀ L h' news→Q () {s with heap:=h',toks:=s.toks+1}):wpAny M A (storeName env x v) Q E s:=by
 subst hL
 refine wpAny_storeName_local (beq_iff_eq.mp hk) Fm.ns (fun h' hn hs=>h h' (Fm.set hn hs) (N.set hs)) ?_
 rw[g.kind];rfl
theorem LRd.put {nm:Nat→Str} (inj:∀x y,nm x=nm y→x=y) {env:Env} {L:Addr} {m:Str→Option Value} {ρ:Rh} {news:Led} {l:Loc} (h:LRd nm env L m ρ news l) (hL:env.locals=L) {x:Nat} {v:SV} {y:Value} (hk:eu env.scope.names (nm x)=true) (q:V ρ news v y):
 LRd nm env L (fun z=>if z=nm x then some y else m z) ρ news (upd l x v):=fun z u e=>by
 unfold upd at e
 by_cases cz:z=x
 ·subst cz
  rw[if_pos rfl] at e;cases e
  exact⟨y,.frame hL (beq_iff_eq.mp hk) (if_pos rfl),q⟩
 ·rw[if_neg cz] at e
  obtain⟨w,r,hv⟩:=h z u e
  refine⟨w,?_,hv⟩
  cases r with
  |frame a b d=>exact .frame a b ((if_neg fun z'=>cz (inj _ _ z')).trans d)
  |cell a o h1 h2 h3 h4 h5=>exact .cell a o h1 h2 h3 h4 h5
  |comp oC m₂ h1 h2 h3 h4 h5=>exact .comp oC m₂ h1 h2 h3 h4 h5
local macro_rules |`(tactic|wrow_hasAll $x $h)=>`(tactic|(cases $x:ident<;>first|(exfalso;revert $h:ident;simp[fI];done)|skip))
theorem xK (tk:TOk c.K c.T c.nm) {x:Nat} {e:ME} (ih:aQ c Γ n e):eX c Γ n (.asg x e):=by
 intro A₀ base outer fe env A E h₀ L m s news ρ H l st Q X hc g hL hE fc Fm N S lr q hx
 wrow_hasAll st hc
 rename_i ts v pos
 simp only[fI] at hc
 split at hc<;>first|(cases hc;done)|skip
 simp only[Bool.and_eq_true] at hc
 obtain⟨⟨⟨h1,h2⟩,h3⟩,h4⟩:=hc
 have h1:=beq_iff_eq.mp h1;subst h1
 simp only[exS] at q
 refine wpAny_Assign_Name (ih h4 g fc Fm N S lr (PF.seq q fun v H₁ ρ₁ news₁ h₁ t y _ F₁ N₁ S₁ X₁ va q₁=>eV g hL h2 F₁ N₁ fun h' F' N'=> ?_) fun H' z=>hx H' z m) (eo h3 _ _ _)
 exact q₁ _ ρ₁ news₁ h' _ .next F' N' S₁ (Ext.refl _ _) ((lr.ext X₁).put tk.inj hL h2 va) trivial
theorem vF (tk:TOk c.K c.T c.nm) {o:ME} {f:Nat} {e:ME} (iho:aQ c Γ n o) (ih:aQ c Γ n e):eX c Γ n (.asgA o f e):=by
 intro A₀ base outer fe env A E h₀ L m s news ρ H l st Q X hc g hL hE fc Fm N S lr q hx
 wrow_hasAll st hc
 rename_i ts v pos
 simp only[fI] at hc
 split at hc<;>first|(cases hc;done)|skip
 simp only[Bool.and_eq_true] at hc
 obtain⟨⟨⟨h1,h2⟩,h3⟩,h4⟩:=hc
 have h1:=beq_iff_eq.mp h1;subst h1
 simp only[exS] at q
 refine plainObj_wpAny_Assign_Attribute (ih h3 g fc Fm N S lr (PF.seq q fun v H₁ ρ₁ news₁ h₁ t y _ F₁ N₁ S₁ X₁ va q₁=>iho h4 g fc F₁ N₁ S₁ (lr.ext X₁) (PF.seq q₁ fun v₂ H₂ ρ₂ news₂ h₂ t₂ y₂ _ F₂ N₂ S₂ X₂ vb q₂=>
  rX tk F₂ fc.X N₂ S₂ vb (V.ext X₂.toExt0 _ _ va) (PF.seq (VR:=VU) q₂ fun _ H₃ ρ₃ news₃ h₃ t₃ _ _ F₃ N₃ S₃ X₃ _ q₃=> ?_)) fun H' z=>(hx H' z m).ext X₁) fun H' z=>hx H' z m) (eo h2 _ _ _)
 exact PF.here (tk:=t₃) F₃ N₃ S₃ (((lr.ext X₁).ext X₂).ext X₃) q₃ trivial
theorem vH {o i e:ME} (iho:aQ c Γ n o) (ihi:aQ c Γ n i) (ih:aQ c Γ n e):eX c Γ n (.asgI o i e):=by
 intro A₀ base outer fe env A E h₀ L m s news ρ H l st Q X hc g hL hE fc Fm N S lr q hx
 wrow_hasAll st hc
 rename_i ts v pos
 simp only[fI] at hc
 split at hc<;>first|(cases hc;done)|skip
 simp only[Bool.and_eq_true] at hc
 obtain⟨⟨⟨h2,h3⟩,h4⟩,h5⟩:=hc
 simp only[exS] at q
 refine wpAny_Assign_Subscript (ih h3 g fc Fm N S lr (PF.seq q fun v H₁ ρ₁ news₁ h₁ t y _ F₁ N₁ S₁ X₁ va q₁=>iho h4 g fc F₁ N₁ S₁ (lr.ext X₁) (PF.seq q₁ fun v₂ H₂ ρ₂ news₂ h₂ t₂ y₂ _ F₂ N₂ S₂ X₂ vb q₂=>
  ihi h5 g fc F₂ N₂ S₂ ((lr.ext X₁).ext X₂) (PF.seq q₂ fun v₃ H₃ ρ₃ news₃ h₃ t₃ y₃ _ F₃ N₃ S₃ X₃ vd q₃=>rW F₃ N₃ S₃ (V.ext X₃.toExt0 _ _ vb) vd (V.ext (X₂.trans X₃).toExt0 _ _ va) (PF.seq (VR:=VU) q₃ fun _ H₄ ρ₄ news₄ h₄ t₄ _ _ F₄ N₄ S₄ X₄ _ q₄=> ?_))
   fun H' z=>((hx H' z m).ext X₁).ext X₂) fun H' z=>(hx H' z m).ext X₁) fun H' z=>hx H' z m) (eo h2 _ _ _)
 exact PF.here (tk:=t₄) F₄ N₄ S₄ ((((lr.ext X₁).ext X₂).ext X₃).ext X₄) q₄ trivial
theorem nN {op:Operator} {a b:SV} {x y:Value} {Q:Value→Shared→Prop} {A:Around} {E:Value→Shared→Prop} {s:Shared} {h₀:Heap} {L:Addr} {m:Str→Option Value} {news:Led} {ρ:Rh} {H:Hp} {X:Hp→Prop} (Fm:Fr h₀ L s.heap m) (N:News h₀ L s.heap news) (S:St c.prog c.w c.nm ρ H news) (va:V ρ news a x) (vb:V ρ news b y)
 (q:PSc c h₀ L m V ρ news (ln op a b H) Q X s):wpAny (model c.prog c.w) A (inplaceOp op x y) Q E s:=by
 unfold ln at q
 split at q
 ·obtain⟨t,rfl⟩:=va.int_inv;obtain⟨u,rfl⟩:=vb.int_inv
  exact P.iadd_int (PS.here Fm N S q rfl)
 ·obtain⟨t,rfl⟩:=va.int_inv;obtain⟨u,rfl⟩:=vb.int_inv
  exact P.isub_int (PS.here Fm N S q rfl)
 ·obtain⟨t,rfl⟩:=va.int_inv;obtain⟨u,rfl⟩:=vb.int_inv
  split at q
  ·rename_i cc
   have:=nO cc
   exact P.imul_int (PS.here Fm N S q rfl) (IntMulOk.of_left (intBits_le_64 (by omega) (by omega)))
  ·exact q.elim
 ·exact q.elim
end
local macro_rules |`(tactic|wrow_hasAll $x $h)=>`(tactic|(cases $x:ident<;>first|(exfalso;revert $h:ident;simp[fI];done)|skip))
section
variable {c:Cx} {Γ:FT} {n:Nat}
theorem lc {names:dz} {env:Env}:∀{xs:List Nat} {ts:List Expr},gY c names xs ts=true→(assignEach ts env).length=xs.length∧(assignEach ts env).findIdx? (·.1)=none
 |[],[],_=>⟨rfl,rfl⟩
 |x::xs,t::ts,h=>by
  unfold gY at h
  split at h
  ·rename_i e;cases e
  ·rename_i id p ts' e1 e2
   cases e1;cases e2
   simp only[Bool.and_eq_true] at h
   obtain⟨a,b⟩:=lc (env:=env) h.2
   refine⟨by simp[assignEach,a],?_⟩
   show((false,_)::assignEach ts env).findIdx? (·.1)=none
   rw[List.findIdx?_cons]
   simp[b]
  ·cases h
 |[],_::_,h=>by simp[gY] at h
 |_::_,[],h=>by simp[gY] at h
theorem jN (tk:TOk c.K c.T c.nm) {A:Around} {E:Value→Shared→Prop} {env:Env} {h₀:Heap} {L:Addr} {ρ:Rh} {news:Led} (g:fw env) (hL:env.locals=L):∀{xs:List Nat} {ts:List Expr} {vs:List SV} {ys:List Value} {l l':Loc} {m:Str→Option Value} {s:Shared} {Q:Unit→Shared→Prop},
 gY c env.scope.names xs ts=true→dR xs vs l=some l'→A2 (V ρ news) vs ys→Fr h₀ L s.heap m→News h₀ L s.heap news→LRd c.nm env L m ρ news l→
 (∀m' h' t,Fr h₀ L h' m'→News h₀ L h' news→LRd c.nm env L m' ρ news l'→Q () {s with heap:=h',toks:=t})→wpAny (model c.prog c.w) A (assignInOrder ((assignEach ts env).map (·.2)) ys) Q E s
 |[],[],[],[],l,l',m,s,Q,_,hp,_,Fm,N,lr,hq=>by
  cases hp
  exact assignInOrder_nil (hq m s.heap s.toks Fm N lr)
 |x::xs,t::ts,v::vs,y::ys,l,l',m,s,Q,h,hp,ha,Fm,N,lr,hq=>by
  unfold gY at h
  split at h
  ·rename_i e;cases e
  ·rename_i id p ts' e1 e2
   cases e1;cases e2
   simp only[Bool.and_eq_true] at h
   have e:=beq_iff_eq.mp h.1.1
   subst e
   refine assignInOrder_cons (wpAny_assign_Name (eV g hL h.1.2 Fm N fun h' F' N'=> ?_))
   refine jN tk g hL (l:=upd l x v) h.2 hp ha.2 F' N' (lr.put tk.inj hL h.1.2 ha.1) fun m' h'' t F'' N'' lr'=> ?_
   exact hq m' h'' t F'' N'' lr'
  ·cases h
 |[],_::_,_,_,_,_,_,_,_,h,_,_,_,_,_,_=>by simp[gY] at h
 |_::_,[],_,_,_,_,_,_,_,h,_,_,_,_,_,_=>by simp[gY] at h
 |[],[],_::_,_,_,_,_,_,_,_,hp,_,_,_,_,_=>by simp[dR] at hp
 |_::_,_::_,[],_,_,_,_,_,_,_,hp,_,_,_,_,_=>by simp[dR] at hp
 |[],[],[],_::_,_,_,_,_,_,_,_,ha,_,_,_,_=>ha.elim
 |_::_,_::_,_::_,[],_,_,_,_,_,_,_,ha,_,_,_,_=>ha.elim
theorem lV:∀{xs:List Nat} {vs:List SV} {l l':Loc},dR xs vs l=some l'→xs.length=vs.length
 |[],[],_,_,_=>rfl
 |x::xs,v::vs,l,l',h=>by
  have:=lV (xs:=xs) (vs:=vs) (show dR xs vs (upd l x v)=some l' from h)
  simp[this]
 |[],_::_,_,_,h=>by simp[dR] at h
 |_::_,[],_,_,h=>by simp[dR] at h
theorem vI (tk:TOk c.K c.T c.nm) {xs:List Nat} {e:ME} (ih:aQ c Γ n e):eX c Γ n (.asgT xs e):=by
 intro A₀ base outer fe env A E h₀ L m s news ρ H l st Q X hc g hL hE fc Fm N S lr q hx
 wrow_hasAll st hc
 rename_i ts v pos
 simp only[fI] at hc
 split at hc<;>first|(cases hc;done)|skip
 rename_i ts k tp
 simp only[Bool.and_eq_true] at hc
 obtain⟨⟨⟨h1,h2⟩,h3⟩,h4⟩:=hc
 simp only[exS] at q
 refine wpAny_Assign_stores (ih h3 g fc Fm N S lr (PF.seq q fun v H₁ ρ₁ news₁ h₁ t y _ F₁ N₁ S₁ X₁ va q₁=> ?_) fun H' z=>hx H' z m) (show swapsWith v (some (.Tuple ts k tp)) pos.line env=pure false from eo h1 _ _ _) (qL h2 _ _ _ _)
 show wpAny _ A (assign (.Tuple ts k tp) env y) _ _ _
 split at q₁
 ·rename_i vs
  obtain⟨a,ws,nn,rfl,hm,hv⟩:=va.tup_inv
  split at q₁
  ·rename_i l' hp
   obtain⟨e1,e2⟩:=lc (env:=env) h4
   refine unpackN_ F₁ N₁ (lq (s:={s with heap:=h₁,toks:=t}) N₁ hm) fc.hh (by rw[e1,lV hp,hv.len];simp) e2 fun h' F' N'=> ?_
   refine jN tk g hL h4 hp (hv.imp fun _ _ h=>V.of0 h) F' N' (lr.ext X₁) fun m' h'' t' F'' N'' lr'=> ?_
   exact q₁ m' ρ₁ news₁ h'' t' .next F'' N'' S₁ (Ext.refl _ _) lr' trivial
  ·exact q₁.elim
 ·exact q₁.elim
theorem vM (tk:TOk c.K c.T c.nm) {x:Nat} {op:Operator} {e:ME} (ih:aQ c Γ n e):eX c Γ n (.augN x op e):=by
 intro A₀ base outer fe env A E h₀ L m s news ρ H l st Q X hc g hL hE fc Fm N S lr q hx
 wrow_hasAll st hc
 simp only[fI] at hc
 split at hc<;>first|(cases hc;done)|skip
 simp only[Bool.and_eq_true,decide_eq_true_eq] at hc
 obtain⟨⟨⟨⟨h1,h2⟩,h3⟩,rfl⟩,h4⟩:=hc
 have h1:=beq_iff_eq.mp h1;subst h1
 simp only[exS] at q
 split at q
 ·rename_i old ho
  obtain⟨y,r,hy⟩:=lr _ _ ho
  have hm:m (c.nm x)=some y:=by
   cases r with
   |frame a b d=>exact d
   |cell a o q1 q2 q3 q4 q5=>
    exfalso
    have h2:=beq_iff_eq.mp h2
    rcases q1 with q1|q1<;>(unfold Env.kindOf at q1;rw[h2] at q1;cases q1)
   |comp oC m₂ q1 q2 q3 q4 q5=>exact absurd hL (N _ q2).2.1
  refine wpAny_AugAssign_Name (wpAny_loadName_local g.kind (beq_iff_eq.mp h2) (hL▸Fm.ns) hm ?_)
  refine ih h4 g fc Fm N S lr (PF.seq q fun v H₁ ρ₁ news₁ h₁ t z _ F₁ N₁ S₁ X₁ va q₁=>nN F₁ N₁ S₁ (V.ext X₁.toExt0 _ _ hy) va (PF.seq (VR:=V) q₁ fun v₂ H₂ ρ₂ news₂ h₂ t₂ z₂ _ F₂ N₂ S₂ X₂ vb q₂=>
   eV g hL h2 F₂ N₂ fun h' F' N'=> ?_)) fun H' z=>hx H' z m
  exact q₂ _ ρ₂ news₂ h' _ .next F' N' S₂ (Ext.refl _ _) (((lr.ext X₁).ext X₂).put tk.inj hL h2 vb) trivial
 ·exact q.elim
theorem vK (tk:TOk c.K c.T c.nm) {o:ME} {f:Nat} {op:Operator} {e:ME} (iho:aQ c Γ n o) (ih:aQ c Γ n e):eX c Γ n (.augA o f op e):=by
 intro A₀ base outer fe env A E h₀ L m s news ρ H l st Q X hc g hL hE fc Fm N S lr q hx
 wrow_hasAll st hc
 simp only[fI] at hc
 split at hc<;>first|(cases hc;done)|skip
 simp only[Bool.and_eq_true,decide_eq_true_eq] at hc
 obtain⟨⟨⟨h1,rfl⟩,h3⟩,h4⟩:=hc
 have h1:=beq_iff_eq.mp h1;subst h1
 simp only[exS] at q
 refine wpAny_AugAssign_AttributeAny (iho h3 g fc Fm N S lr (PF.seq q fun v H₁ ρ₁ news₁ h₁ t y _ F₁ N₁ S₁ X₁ va q₁=>ow tk F₁ fc.X N₁ S₁ va (PF.seq (VR:=V) q₁ fun v₂ H₂ ρ₂ news₂ h₂ t₂ y₂ _ F₂ N₂ S₂ X₂ vb q₂=>
  ih h4 g fc F₂ N₂ S₂ ((lr.ext X₁).ext X₂) (PF.seq q₂ fun v₃ H₃ ρ₃ news₃ h₃ t₃ y₃ _ F₃ N₃ S₃ X₃ vd q₃=>nN F₃ N₃ S₃ (V.ext X₃.toExt0 _ _ vb) vd (PF.seq (VR:=V) q₃ fun v₄ H₄ ρ₄ news₄ h₄ t₄ y₄ _ F₄ N₄ S₄ X₄ ve q₄=>
   rX tk F₄ fc.X N₄ S₄ (V.ext ((X₂.trans X₃).trans X₄).toExt0 _ _ va) ve (PF.seq (VR:=VU) q₄ fun _ H₅ ρ₅ news₅ h₅ t₅ _ _ F₅ N₅ S₅ X₅ _ q₅=> ?_)))
   fun H' z=>((hx H' z m).ext X₁).ext X₂)) fun H' z=>hx H' z m)
 exact PF.here (tk:=t₅) F₅ N₅ S₅ (((((lr.ext X₁).ext X₂).ext X₃).ext X₄).ext X₅) q₅ trivial
theorem vL {o i:ME} {op:Operator} {e:ME} (iho:aQ c Γ n o) (ihi:aQ c Γ n i) (ih:aQ c Γ n e):eX c Γ n (.augI o i op e):=by
 intro A₀ base outer fe env A E h₀ L m s news ρ H l st Q X hc g hL hE fc Fm N S lr q hx
 wrow_hasAll st hc
 simp only[fI] at hc
 split at hc<;>first|(cases hc;done)|skip
 simp only[Bool.and_eq_true,decide_eq_true_eq] at hc
 obtain⟨⟨⟨⟨rfl,h2⟩,h3⟩,h4⟩,h5⟩:=hc
 simp only[exS] at q
 refine wpAny_AugAssign_SubscriptAny (iho h3 g fc Fm N S lr (PF.seq q fun v H₁ ρ₁ news₁ h₁ t y _ F₁ N₁ S₁ X₁ va q₁=>ihi h4 g fc F₁ N₁ S₁ (lr.ext X₁) (PF.seq q₁ fun v₂ H₂ ρ₂ news₂ h₂ t₂ y₂ _ F₂ N₂ S₂ X₂ vb q₂=>
  (ro F₂ N₂ S₂ (V.ext X₂.toExt0 _ _ va) vb (PF.seq (VR:=V) q₂ fun v₃ H₃ ρ₃ news₃ h₃ t₃ y₃ _ F₃ N₃ S₃ X₃ vd q₃=>
    ih h5 g fc F₃ N₃ S₃ (((lr.ext X₁).ext X₂).ext X₃) (PF.seq q₃ fun v₄ H₄ ρ₄ news₄ h₄ t₄ y₄ _ F₄ N₄ S₄ X₄ ve q₄=>nN F₄ N₄ S₄ (V.ext X₄.toExt0 _ _ vd) ve (PF.seq (VR:=V) q₄ fun v₅ H₅ ρ₅ news₅ h₅ t₅ y₅ _ F₅ N₅ S₅ X₅ vf q₅=>
     rW F₅ N₅ S₅ (V.ext (((X₂.trans X₃).trans X₄).trans X₅).toExt0 _ _ va) (V.ext ((X₃.trans X₄).trans X₅).toExt0 _ _ vb) vf (PF.seq (VR:=VU) q₅ fun _ H₆ ρ₆ news₆ h₆ t₆ _ _ F₆ N₆ S₆ X₆ _ q₆=> ?_)))
     fun H' z=>(((hx H' z m).ext X₁).ext X₂).ext X₃)).2) fun H' z=>(hx H' z m).ext X₁) fun H' z=>hx H' z m) (zl h2)
 exact PF.here (tk:=t₆) F₆ N₆ S₆ ((((((lr.ext X₁).ext X₂).ext X₃).ext X₄).ext X₅).ext X₆) q₆ trivial
theorem Ay {e:ME} (ih:aQ c Γ n e):eX c Γ n (.ex e):=by
 intro A₀ base outer fe env A E h₀ L m s news ρ H l st Q X hc g hL hE fc Fm N S lr q hx
 wrow_hasAll st hc
 simp only[fI,Bool.and_eq_true] at hc
 simp only[exS] at q
 refine wpAny_Expr_any (ih hc.2 g fc Fm N S lr (PF.seq q fun v H₁ ρ₁ news₁ h₁ t y _ F₁ N₁ S₁ X₁ va q₁=> ?_) fun H' z=>hx H' z m) (by unfold interactive;rw[g.kind];rfl) (eo hc.1 _ _ _)
 split at q₁
 ·exact PF.here (tk:=t) F₁ N₁ S₁ (lr.ext X₁) q₁ trivial
 ·exact q₁.elim
theorem xT {e:ME} (ih:aQ c Γ n e):eX c Γ n (.exd e):=by
 intro A₀ base outer fe env A E h₀ L m s news ρ H l st Q X hc g hL hE fc Fm N S lr q hx
 wrow_hasAll st hc
 simp only[fI,Bool.and_eq_true] at hc
 simp only[exS] at q
 refine wpAny_Expr_any (ih hc.2 g fc Fm N S lr (PF.seq q fun v H₁ ρ₁ news₁ h₁ t y _ F₁ N₁ S₁ X₁ va q₁=> ?_) fun H' z=>hx H' z m) (by unfold interactive;rw[g.kind];rfl) (eo hc.1 _ _ _)
 exact PF.here (tk:=t) F₁ N₁ S₁ (lr.ext X₁) q₁ trivial
theorem ya {e:ME} (ih:aQ c Γ n e):eX c Γ n (.ret e):=by
 intro A₀ base outer fe env A E h₀ L m s news ρ H l st Q X hc g hL hE fc Fm N S lr q hx
 wrow_hasAll st hc
 simp only[fI] at hc
 split at hc<;>first|(cases hc;done)|skip
 simp only[exS] at q
 refine wpAny_Return_some (ih hc g fc Fm N S lr (PF.seq q fun v H₁ ρ₁ news₁ h₁ t y _ F₁ N₁ S₁ X₁ va q₁=> ?_) fun H' z=>hx H' z m)
 exact PF.here (tk:=t) F₁ N₁ S₁ (lr.ext X₁) q₁ va
theorem xW {t:ME} {a b:MSs} (ih:mi c Γ n t) (iha:fF c Γ n a) (ihb:fF c Γ n b):eX c Γ n (.ite t a b):=by
 intro A₀ base outer fe env A E h₀ L m s news ρ H l st Q X hc g hL hE fc Fm N S lr q hx
 wrow_hasAll st hc
 simp only[fI,Bool.and_eq_true] at hc
 simp only[exS] at q
 refine wpAny_If (ih hc.1.1 g fc Fm N S lr (PF.seq (VR:=VB) q fun v H₁ ρ₁ news₁ h₁ t y e₁ F₁ N₁ S₁ X₁ va q₁=> ?_) fun H' z=>hx H' z m)
 clear e₁
 cases va
 cases v with
 |true=>
  rw[if_pos rfl] at q₁⊢
  exact iha hc.1.2 g hL hE fc F₁ N₁ S₁ (lr.ext X₁) q₁ fun H' z m'=>(hx H' z m').ext X₁
 |false=>
  rw[if_neg (by simp)] at q₁⊢
  exact ihb hc.2 g hL hE fc F₁ N₁ S₁ (lr.ext X₁) q₁ fun H' z m'=>(hx H' z m').ext X₁
theorem xN:eX c Γ n .brk:=by
 intro A₀ base outer fe env A E h₀ L m s news ρ H l st Q X hc g hL hE fc Fm N S lr q hx
 wrow_hasAll st hc
 simp only[exS] at q
 exact wpAny_Break (PF.here (tk:=s.toks) Fm N S lr q trivial)
theorem vP:eX c Γ n .cont:=by
 intro A₀ base outer fe env A E h₀ L m s news ρ H l st Q X hc g hL hE fc Fm N S lr q hx
 wrow_hasAll st hc
 simp only[exS] at q
 exact wpAny_Continue (PF.here (tk:=s.toks) Fm N S lr q trivial)
theorem x9:eX c Γ n .rai:=by
 intro A₀ base outer fe env A E h₀ L m s news ρ H l st Q X hc g hL hE fc Fm N S lr q hx
 simp only[exS] at q
 exact q.elim
theorem xR {o i:ME} (iho:aQ c Γ n o) (ihi:aQ c Γ n i):eX c Γ n (.del o i):=by
 intro A₀ base outer fe env A E h₀ L m s news ρ H l st Q X hc g hL hE fc Fm N S lr q hx
 wrow_hasAll st hc
 simp only[fI] at hc
 split at hc<;>first|(cases hc;done)|skip
 simp only[Bool.and_eq_true] at hc
 simp only[exS] at q
 refine wpAny_Delete (wpAny_deleteEach_cons (wpAny_delete_Subscript (iho hc.1 g fc Fm N S lr (PF.seq q fun v H₁ ρ₁ news₁ h₁ t y _ F₁ N₁ S₁ X₁ va q₁=>ihi hc.2 g fc F₁ N₁ S₁ (lr.ext X₁) (PF.seq q₁ fun v₂ H₂ ρ₂ news₂ h₂ t₂ y₂ _ F₂ N₂ S₂ X₂ vb q₂=>
  wE F₂ N₂ S₂ (V.ext X₂.toExt0 _ _ va) vb (PF.seq (VR:=VU) q₂ fun _ H₃ ρ₃ news₃ h₃ t₃ _ _ F₃ N₃ S₃ X₃ _ q₃=>wpAny_deleteEach_nil ?_)) fun H' z=>(hx H' z m).ext X₁) fun H' z=>hx H' z m)))
 exact PF.here (tk:=t₃) F₃ N₃ S₃ (((lr.ext X₁).ext X₂).ext X₃) q₃ trivial
theorem vE:fF c Γ n .nil:=by
 intro A₀ base outer fe env A E h₀ L m s news ρ H l xs Q X hc g hL hE fc Fm N S lr q hx
 match xs,hc with
 |[],_=>
  simp only[aM] at q
  exact wpAny_execs_nil (PF.here (tk:=s.toks) Fm N S lr q trivial)
 |_::_,hc=>exact absurd hc (by simp[c7])
theorem sU {a:MS} {r:MSs} (ih:eX c Γ n a) (ihr:fF c Γ n r):fF c Γ n (.cons a r):=by
 intro A₀ base outer fe env A E h₀ L m s news ρ H l xs Q X hc g hL hE fc Fm N S lr q hx
 match xs,hc with
 |[],hc=>exact absurd hc (by simp[c7])
 |x::xs,hc=>
  simp only[c7,Bool.and_eq_true] at hc
  simp only[aM] at q
  refine wpAny_execs_cons (ih hc.1 g hL hE fc Fm N S lr (X:=X) ?_ hx)
  cases hr:exS c.T Γ a l H with
  |fail=>rw[hr] at q;exact q.elim
  |exc H'=>rw[hr] at q;exact q
  |ok p H₁=>
   obtain⟨fl,l'⟩:=p
   rw[hr] at q
   intro m' ρ' news' h' t f F' N' S' X' lr' hf
   have q':=PF.up (h₁:=h') (tk₁:=t) (show PF c env h₀ L ρ news _ Q X s from q) X'
   cases fl with
   |next=>
    cases f<;>first|exact hf.elim|skip
    exact ihr hc.2 g hL hE fc F' N' S' lr' q' fun H' z m''=>(hx H' z m'').ext X'
   |brk=>
    cases f<;>first|exact hf.elim|skip
    exact PF.here (tk:=t) F' N' S' lr' q' hf
   |cont=>
    cases f<;>first|exact hf.elim|skip
    exact PF.here (tk:=t) F' N' S' lr' q' hf
   |ret v=>
    cases f<;>first|exact hf.elim|skip
    exact PF.here (tk:=t) F' N' S' lr' q' hf
end
section
variable {c:Cx} {Γ:FT} {n:Nat}
theorem yd {t:ME} {b:MSs} (ih:mi c Γ n t) (ihb:fF c Γ n b):eX c Γ n (.whl t b):=by
 intro A₀ base outer fe env A E h₀ L m s news ρ H l st Q X hc g hL hE fc Fm N S lr q hx
 wrow_hasAll st hc
 rename_i test body orelse pos
 simp only[fI,Bool.and_eq_true] at hc
 have he:orelse=[]:=by simpa using hc.1.1
 subst he
 simp only[exS] at q
 have go:∀(k:Nat) (l:Loc) (H:Hp) (s:Shared) (news:Led) (ρ:Rh) (m:Str→Option Value),Fr h₀ L s.heap m→News h₀ L s.heap news→St c.prog c.w c.nm ρ H news→LRd c.nm env L m ρ news l→
  PF c env h₀ L ρ news (aP (evC c.T Γ t) (aM c.T Γ b) k l H) Q X s→(∀H',X H'→∀m',XE c base (fe::outer) h₀ L m' ρ news E s H')→WhlRest c.prog c.w A E env test body [] Q 0 s:=by
  intro k
  induction k with
  |zero=>intro l H s news ρ m Fm N S lr q hx;exact q.elim
  |succ k ihk=>
   intro l H s news ρ m Fm N S lr q hx
   unfold aP at q
   refine whl_turn (k:=0) hE (ih hc.1.2 g fc Fm N S lr (PF.seq (VR:=VB) q fun v H₁ ρ₁ news₁ h₁ t y e₁ F₁ N₁ S₁ X₁ va q₁=> ?_) fun H' z=>hx H' z m)
   clear e₁
   cases va
   cases v with
   |false=>
    rw[if_neg (by simp)] at q₁
    exact WhlIf.no rfl (wpAny_execs_nil (PF.here (tk:=t) F₁ N₁ S₁ (lr.ext X₁) q₁ trivial))
   |true=>
    rw[if_pos rfl] at q₁
    refine WhlIf.yes rfl (ihb hc.2 g hL hE fc F₁ N₁ S₁ (lr.ext X₁) (X:=X) ?_ fun H' z m'=>(hx H' z m').ext X₁)
    cases hr:aM c.T Γ b l H₁ with
    |fail=>rw[hr] at q₁;exact q₁.elim
    |exc H'=>rw[hr] at q₁;exact q₁
    |ok p H₂=>
     obtain⟨fl,l'⟩:=p
     rw[hr] at q₁
     intro m' ρ' news' h' t' f F' N' S' X' lr' hf
     have q':=PF.up (h₁:=h') (tk₁:=t') (show PF c env h₀ L ρ₁ news₁ _ Q X _ from q₁) X'
     have hx':∀H',X H'→∀m',XE c base (fe::outer) h₀ L m' ρ' news' E {s with heap:=h',toks:=t'} H':=fun H' z m''=>((hx H' z m'').ext (h₁:=h₁) (tk₁:=t) X₁).ext X'
     cases fl with
     |next=>
      cases f<;>first|exact hf.elim|skip
      exact ihk l' H₂ {s with heap:=h',toks:=t'} news' ρ' m' F' N' S' lr' q' hx'
     |cont=>
      cases f<;>first|exact hf.elim|skip
      exact ihk l' H₂ {s with heap:=h',toks:=t'} news' ρ' m' F' N' S' lr' q' hx'
     |brk=>
      cases f<;>first|exact hf.elim|skip
      show Q .next _
      exact PF.here (s:={s with heap:=h',toks:=t'}) (tk:=t') F' N' S' lr' (show PF c env h₀ L ρ' news' (.ok (.next,l') H₂) Q X _ from q') trivial
     |ret v=>
      cases f<;>first|exact hf.elim|skip
      show Q (.ret _) _
      exact PF.here (s:={s with heap:=h',toks:=t'}) (tk:=t') F' N' S' lr' (show PF c env h₀ L ρ' news' (.ok (.ret v,l') H₂) Q X _ from q') hf
 refine whl_start 0 ?_
 by_cases hb:(cx (evC c.T Γ t) (aM c.T Γ b) l H).bad=false
 ·obtain⟨k,e,_⟩:=pW _ _ hb
  rw[e] at q
  exact go k l H s news ρ m Fm N S lr q hx
 ·cases hr:cx (evC c.T Γ t) (aM c.T Γ b) l H with
  |fail=>rw[hr] at q;exact q.elim
  |ok a H=>rw[hr] at hb;exact absurd rfl hb
  |exc H=>rw[hr] at hb;exact absurd rfl hb
def ItO (o:Obj):Prop:=(∃vs,o.data= .fields vs)∧∃T,o.cls= .type T∧T≠"tuple"
section
variable {h₀ h:Heap} {L I:Addr} {m:Str→Option Value} {news news₁:Led} {ρ ρ₁:Rh} {H:Hp} {oI:Obj} {env:Env} {l:Loc}
theorem uA (N:News h₀ L h news) (hm:(I,oI)∈news) (k:ItO oI) {a:Addr} {ws:List Value} {j:Nat} (x:(a,gQ ws j)∈news):a≠I:=fun e=>by
 subst e
 have:=du N x hm
 obtain⟨vs,hv⟩:=k.1
 rw[←this] at hv;cases hv
theorem nP (N:News h₀ L h news) (hm:(I,oI)∈news) (k:ItO oI):Ext0 ρ news ρ (but news I):=⟨fun _ _ h=>h,fun a ws j x=>aZ.mpr ⟨x,uA N hm k x⟩⟩
theorem yC {prog:Program} {w:World} {nm:Nat→Str} (N:News h₀ L h news) (hm:(I,oI)∈news) (k:ItO oI) (fo:Fo ρ I) (S:St prog w nm ρ H news):St prog w nm ρ H (but news I):=by
 refine⟨S.len,S.nd,S.n1,fun i o p hi hp=> ?_⟩
 have b:=S.ob i o p hi hp
 have hd:p.2≠I:=fo i p hp
 have X:=nP (ρ:=ρ) N hm k
 obtain⟨vs,hvs⟩:=k.1
 obtain⟨T,hT,_⟩:=k.2
 cases o with
 |inst C fs=>
  obtain⟨b1,es,n,b2,b3⟩:=b
  refine⟨aZ.mpr ⟨b1,fun e=> ?_⟩,es,n,aZ.mpr ⟨b2,hd⟩,b3.imp fun f e ⟨u,a,q⟩=>⟨u,a,V.ext X _ _ q⟩⟩
  have e':p.1=I:=e
  rw[e'] at b1
  have:=du N b1 hm
  rw[←this] at hT;cases hT
 |list vs=>
  obtain⟨b1,ws,x,b2,b0,b3⟩:=b
  exact⟨b1,ws,x,aZ.mpr ⟨b2,hd⟩,b0,b3.imp (V.ext X)⟩
 |dict es=>
  obtain⟨b1,b0,kvs,y,b2,b3,b4⟩:=b
  exact⟨b1,b0,kvs,y,aZ.mpr ⟨b2,hd⟩,b3,b4.imp fun f e ⟨a,q⟩=>⟨a,V.ext X _ _ q⟩⟩
 |rod es j=>
  obtain⟨b0,b1,ep,io,kvs,y,b2,b3,b4,b5,b6⟩:=b
  refine⟨b0,b1,ep,io,kvs,y,aZ.mpr ⟨b2,hd⟩,b3,aZ.mpr ⟨b4,fun e=> ?_⟩,b5,b6.imp fun f e ⟨a,q⟩=>⟨a,V.ext X _ _ q⟩⟩
  have e':p.1=I:=e
  rw[e'] at b4
  have:=du N b4 hm
  obtain⟨es',hh,hd',_⟩:=b5
  rw[this,hvs] at hd';cases hd'
theorem yA {nm:Nat→Str} (N:News h₀ L h news) (hm:(I,oI)∈news) (k:ItO oI) (hL:env.locals=L) (lr:LRd nm env L m ρ news l):LRd nm env L m ρ (but news I) l:=fun x v e=>by
 obtain⟨y,r,hv⟩:=lr x v e
 refine⟨y,?_,V.ext (nP N hm k) _ _ hv⟩
 obtain⟨vs,hvs⟩:=k.1
 cases r with
 |frame a b d=>exact .frame a b d
 |cell a o h1 h2 h3 h4 h5=>
  refine .cell a o h1 h2 (aZ.mpr ⟨h3,fun e=> ?_⟩) h4 h5
  have e':a=I:=e
  rw[e'] at h3
  have:=du N h3 hm
  rw[this,hvs] at h5;cases h5
 |comp oC m₂ h1 h2 h3 h4 h5=>exact absurd hL (N _ h2).2.1
theorem Ag (N:News h₀ L h news) (X:Ext ρ₁ news₁ ρ news) (off:∀p∈news₁,p.1≠I):Ext ρ₁ news₁ ρ (but news I):=
 ⟨⟨X.rh,fun a ws j x=>aZ.mpr ⟨X.tp a ws j x,off _ x⟩⟩,fun p hp f=>aZ.mpr ⟨X.fo p hp f,off p hp⟩,X.nf⟩
theorem Ext.more {ρ ρ':Rh} {n n' n'':Led} (X:Ext ρ n ρ' n') (k:∀p∈n',p∈n''):Ext ρ n ρ' n'':=⟨⟨X.rh,fun a ws j x=>k _ (X.tp a ws j x)⟩,fun p hp f=>k p (X.fo p hp f),X.nf⟩
theorem LRd.more {nm:Nat→Str} {n':Led} (lr:LRd nm env L m ρ news l) (k:∀p∈news,p∈n'):LRd nm env L m ρ n' l:=fun x v e=>by
 obtain⟨y,r,hv⟩:=lr x v e
 refine⟨y,?_,V.ext ⟨fun _ _ h=>h,fun a ws j x=>k _ x⟩ _ _ hv⟩
 cases r with
 |frame a b d=>exact .frame a b d
 |cell a o h1 h2 h3 h4 h5=>exact .cell a o h1 h2 (k _ h3) h4 h5
 |comp oC m₂ h1 h2 h3 h4 h5=>exact .comp oC m₂ h1 (k _ h2) h3 h4 h5
theorem rC {h':Heap} (N:News h₀ L h news) (hk:∀b o,b∉[I]→h.get? b=some o→h'.get? b=some o):News h₀ L h' (but news I):=fun p hp=>by
 obtain⟨a,b⟩:=aZ.mp hp
 exact⟨hk _ _ (by simpa using b) (N p a).1,(N p a).2⟩
end
structure Lp (c:Cx) (env:Env) (h₀:Heap) (L:Addr) (ρ₁:Rh) (news₁:Led) (I:Addr) (oI:Obj) (h:Heap) (m:Str→Option Value) (ρ:Rh) (news:Led) (H:Hp) (l:Loc):Prop where
 F:Fr h₀ L h m
 N:News h₀ L h news
 S:St c.prog c.w c.nm ρ H news
 lr:LRd c.nm env L m ρ news l
 X:Ext ρ₁ news₁ ρ news
 hm:(I,oI)∈news
 fo:Fo ρ I
theorem Lp.drop {env:Env} {h₀ h h':Heap} {L I:Addr} {ρ ρ₁:Rh} {news news₁:Led} {oI:Obj} {m:Str→Option Value} {H:Hp} {l:Loc} (x:Lp c env h₀ L ρ₁ news₁ I oI h m ρ news H l) (k:ItO oI) (hL:env.locals=L) (off:∀p∈news₁,p.1≠I)
 (hk:∀b o,b∉[I]→h.get? b=some o→h'.get? b=some o):Fr h₀ L h' m∧News h₀ L h' (but news I)∧St c.prog c.w c.nm ρ H (but news I)∧LRd c.nm env L m ρ (but news I) l∧Ext ρ₁ news₁ ρ (but news I):=
 ⟨LCg.fr_but x.F hk (Ne.symm (x.N _ x.hm).2.1) (x.N _ x.hm).2.2,rC x.N hk,yC x.N x.hm k x.fo x.S,yA x.N x.hm k hL x.lr,Ag x.N x.X off⟩
theorem Lp.step {env:Env} {h₀ h h':Heap} {L I:Addr} {ρ ρ₁:Rh} {news news₁:Led} {oI o':Obj} {m:Str→Option Value} {H:Hp} {l:Loc} (x:Lp c env h₀ L ρ₁ news₁ I oI h m ρ news H l) (k:ItO oI) (hL:env.locals=L) (off:∀p∈news₁,p.1≠I)
 (hk:∀b o,b∉[I]→h.get? b=some o→h'.get? b=some o) (ho:h'.get? I=some o'):Lp c env h₀ L ρ₁ news₁ I o' h' m ρ ((I,o')::but news I) H l:=by
 obtain⟨a,b,d,e,f⟩:=x.drop k hL off hk
 have km:∀p∈but news I,p∈(I,o')::but news I:=fun _ h=>List.mem_cons_of_mem _ h
 refine⟨a,fun p hp=> ?_,d.more km,e.more km,f.more km,List.mem_cons_self ..,x.fo⟩
 rcases List.mem_cons.mp hp with rfl|hp
 ·exact⟨ho,(x.N _ x.hm).2⟩
 ·exact b p hp
theorem Lp.start {env:Env} {h₀ h:Heap} {L:Addr} {ρ:Rh} {news:Led} {m:Str→Option Value} {H:Hp} {l:Loc} (Fm:Fr h₀ L h m) (N:News h₀ L h news) (S:St c.prog c.w c.nm ρ H news) (lr:LRd c.nm env L m ρ news l) (o:Obj) (hfree:o.isFreed=false:=by rfl):
 Lp c env h₀ L ρ news h.objs.size o (h.push o) m ρ ((h.objs.size,o)::news) H l∧∀p∈news,p.1≠h.objs.size:=by
 have km:∀p∈news,p∈(h.objs.size,o)::news:=fun _ h=>List.mem_cons_of_mem _ h
 refine⟨⟨Fm.push _,News.push Fm N _ hfree,S.more km,lr.more km,(Ext.refl _ _).more km,List.mem_cons_self ..,fun i q hq=> ?_⟩,fun p hp=>Nat.ne_of_lt (Heap.lt_size (N p hp).1)⟩
 have hl:i<H.length:=by rw[←S.len];rw[List.getElem?_eq_some_iff] at hq;exact hq.1
 obtain⟨x,hx,_⟩:=fP (S.ob i _ q (List.getElem?_eq_getElem hl) hq)
 exact Nat.ne_of_lt (Heap.lt_size (N _ hx).1)
end
section
variable {c:Cx} {Γ:FT} {n:Nat}
def after (k:Loc→Hp→FR):Fl×Loc→Hp→FR:=fun q H₂=>(match q with
 |(.next,l')=>k l' H₂
 |(.cont,l')=>k l' H₂
 |(.brk,l')=> .ok (.next,l') H₂
 |(.ret v,l')=> .ok (.ret v,l') H₂)
section
variable {A₀:Around} {base:Heap} {outer:List Env} {fe env:Env} {A:Around} {E:Value→Shared→Prop} {h₀:Heap} {L I:Addr} {m:Str→Option Value} {s:Shared} {news news₁:Led} {ρ ρ₁:Rh} {H:Hp} {l:Loc} {oI:Obj} {b:MSs} {body:List Stmt} {Q:Flow→Shared→Prop} {X:Hp→Prop}
theorem q6 (ihb:fF c Γ n b) (hc:c7 c env.scope.names b body=true) (g:fw env) (hL:env.locals=L) (hE:PassesOwn (model c.prog c.w) A env E) (fc:FC c (2*n+1) A₀ base outer fe A h₀ L) (x:Lp c env h₀ L ρ₁ news₁ I oI s.heap m ρ news H l)
 {k:Loc→Hp→FR} {P:Shared→Prop} (q:PF c env h₀ L ρ₁ news₁ ((aM c.T Γ b l H).bind (after k)) Q X s) (hx:∀H',X H'→∀m',XE c base (fe::outer) h₀ L m' ρ₁ news₁ E s H')
 (hk:∀m' ρ' news' h' t l' H',Lp c env h₀ L ρ₁ news₁ I oI h' m' ρ' news' H' l'→PF c env h₀ L ρ₁ news₁ (k l' H') Q X s→P {s with heap:=h',toks:=t}):
 wpAny (model c.prog c.w) A (execs body env) (fun f s₃=>match f with| .next=>P s₃| .cont=>P s₃| .brk=>Q .next s₃| .ret v=>Q (.ret v) s₃) (notedBy (model c.prog c.w) A env (cameBackBy (model c.prog c.w) A env E)) s:=by
 refine wpAny_passesOwn hE (ihb hc g hL hE fc x.F x.N x.S x.lr (X:=X) ?_ fun H' z m'=>(hx H' z m').ext x.X)
 cases hr:aM c.T Γ b l H with
 |fail=>rw[hr] at q;exact q.elim
 |exc H'=>rw[hr] at q;exact q
 |ok p H₂=>
  obtain⟨fl,l'⟩:=p
  rw[hr] at q
  intro m' ρ' news' h' t f F' N' S' X' lr' hf
  have x':Lp c env h₀ L ρ₁ news₁ I oI h' m' ρ' news' H₂ l':=⟨F',N',S',lr',x.X.trans X',X'.fo _ x.hm x.fo,X'.foreign x.hm x.fo⟩
  cases fl with
  |next=>
   cases f<;>first|exact hf.elim|skip
   exact hk m' ρ' news' h' t l' H₂ x' q
  |cont=>
   cases f<;>first|exact hf.elim|skip
   exact hk m' ρ' news' h' t l' H₂ x' q
  |brk=>
   cases f<;>first|exact hf.elim|skip
   exact q m' ρ' news' h' t .next F' N' S' x'.X lr' trivial
  |ret v=>
   cases f<;>first|exact hf.elim|skip
   exact q m' ρ' news' h' t _ F' N' S' x'.X lr' hf
end
def qG (a:Int) (k:Nat) (d:Int):Obj:={cls:= .type "range_iterator",dict:=none,data:= .fields #[rawInt a,rawInt (k:Int),rawInt d],slots:= #[]}
theorem rT (a:Int) (k:Nat) (d:Int):ItO (qG a k d):=⟨⟨_,rfl⟩,_,rfl,by decide⟩
section
variable {A₀:Around} {base:Heap} {outer:List Env} {fe env:Env} {A:Around} {E:Value→Shared→Prop} {h₀:Heap} {L I:Addr} {m:Str→Option Value} {s:Shared} {news news₁:Led} {ρ ρ₁:Rh} {H:Hp} {l:Loc} {b:MSs} {body:List Stmt} {Q:Flow→Shared→Prop} {X:Hp→Prop}
theorem loopI (tk:TOk c.K c.T c.nm) (ihb:fF c Γ n b) (hc:c7 c env.scope.names b body=true) (g:fw env) (hL:env.locals=L) (hE:PassesOwn (model c.prog c.w) A env E) (fc:FC c (2*n+1) A₀ base outer fe A h₀ L)
 {x:Nat} {px:Pos} (hid:eu env.scope.names (c.nm x)=true) {a d:Int} {k:Nat} (z:Lp c env h₀ L ρ₁ news₁ I (qG a k d) s.heap m ρ news H l) (off:∀p∈news₁,p.1≠I)
 (q:PF c env h₀ L ρ₁ news₁ (jC x (aM c.T Γ b) (dy a d k) l H) Q X s) (hx:∀H',X H'→∀m',XE c base (fe::outer) h₀ L m' ρ₁ news₁ E s H'):
 codeAny (model c.prog c.w) A (.forLoop (.Name (c.nm x) px) (.ref I) body [] env) (fun r s'=>match r with| .ok f=>Q f s'| .error e=>cameBackBy (model c.prog c.w) A env E e s') s:=by
 obtain⟨Inv,hInv⟩:∃Inv:Nat→Shared→Prop,∀k s',Inv k s'↔∃h t m ρ news H l a,s'={s with heap:=h,toks:=t}∧Lp c env h₀ L ρ₁ news₁ I (qG a k d) h m ρ news H l∧PF c env h₀ L ρ₁ news₁ (jC x (aM c.T Γ b) (dy a d k) l H) Q X s:=⟨_,fun _ _=>Iff.rfl⟩
 refine codeAny_forLoop Inv ?_ k ((hInv _ _).mpr ⟨s.heap,s.toks,m,ρ,news,H,l,a,rfl,z,q⟩)
 intro k s' hs'
 obtain⟨h,t,m,ρ,news,H,l,a,rfl,z,q⟩:=(hInv _ _).mp hs'
 have hit:IsRangeIter h I a (k:Int) d:=(z.N _ z.hm).1
 cases k with
 |zero=>
  refine wpAny_pyNext_range_end fc.hh hit (by simp) fun h' he=>wpAny_execs_nil ?_
  obtain⟨F',N',S',lr',X'⟩:=z.drop (rT _ _ _) hL off (h':=h') (fun b o hb e=>he b o (by simpa using hb) e)
  exact q m ρ _ h' t .next F' N' S' X' lr' trivial
 |succ k=>
  refine wpAny_pyNext_range_item hit (by omega) fun h' hit' hs=> ?_
  have hit'':h'.get? I=some (qG (a+d) k d):=by
   have e:(((k+1:Nat):Int) - 1)=(k:Int):=by omega
   rw[e] at hit'
   exact hit'
  have z':=z.step (rT _ _ _) hL off (h':=h') (fun b o hb e=>hs.extBut b o (by simpa using hb) e) hit''
  refine wpAny_assign_Name (eV g hL hid z'.F z'.N fun h'' F'' N''=> ?_)
  have z'':Lp c env h₀ L ρ₁ news₁ I (qG (a+d) k d) h'' _ ρ _ H (upd l x (.int a)):=⟨F'',N'',z'.S,z'.lr.put tk.inj hL hid (show V ρ _ (.int a) (.int a _) from rfl),z'.X,z'.hm,z'.fo⟩
  refine wpAny_mono (q6 (s:={s with heap:=h'',toks:=t+1+1}) (P:=fun s₃=>∃m₁,m₁<k+1∧Inv m₁ s₃) ihb hc g hL hE fc z'' (k:=fun l' H'=>jC x (aM c.T Γ b) (dy (a+d) d k) l' H') (PF.up q (Ext.refl _ _)) (fun H' y m'=>(hx H' y m').ext (Ext.refl _ _))
   fun m' ρ' news' h3 t3 l' H' z3 q3=>⟨k,Nat.lt_succ_self k,(hInv _ _).mpr ⟨h3,t3,m',ρ',news',H',l',a+d,rfl,z3,PF.up (s:={s with heap:=h'',toks:=t+1+1}) (h₁:=s.heap) (tk₁:=s.toks) q3 (Ext.refl _ _)⟩⟩) (fun f s₃ hf=> ?_) fun _ _ e=>e
  cases f<;>exact hf
end
end
section
variable {c:Cx} {Γ:FT} {n:Nat}
theorem gp {a:Int} (h:cT a=true): -1099511627776<a∧a<1099511627776:=by
 unfold cT at h
 simp only[Bool.and_eq_true,decide_eq_true_eq] at h
 exact⟨by have:=h.1;omega,by have:=h.2;omega⟩
theorem dX {a:Int} (h1: -2199023255553<a) (h2:a<2199023255553):Builtin.Range.rangeFitsLong a=true:=by
 unfold Builtin.Range.rangeFitsLong
 simp;omega
theorem og {a b:Int}:Builtin.Range.rangeSize a b 1=(((b - a).toNat:Nat):Int):=by
 rw[rangeSize_one];split<;>omega
theorem rZ {a b:Int}:Builtin.Range.rangeSize a b (-1)=(((a - b).toNat:Nat):Int):=by
 unfold Builtin.Range.rangeSize
 simp
 split<;>omega
theorem pM {a b:Int} (ha:cT a=true) (hb:cT b=true):Builtin.Range.small a b 1=true:=by
 have:=gp ha;have:=gp hb
 unfold Builtin.Range.small
 rw[og]
 simp only[Bool.and_eq_true,Bool.or_eq_true]
 refine⟨⟨⟨⟨dX (by omega) (by omega),dX (by omega) (by omega)⟩,dX (by omega) (by omega)⟩,dX (by omega) (by omega)⟩,.inr ?_⟩
 simp only[show(1:Int)>0 by decide,if_true]
 exact dX (by omega) (by omega)
theorem vr {a b:Int} (ha:cT a=true) (hb:cT b=true):Builtin.Range.small a b (-1)=true:=by
 have:=gp ha;have:=gp hb
 unfold Builtin.Range.small
 rw[rZ]
 simp only[Bool.and_eq_true,Bool.or_eq_true]
 refine⟨⟨⟨⟨dX (by omega) (by omega),dX (by omega) (by omega)⟩,dX (by omega) (by omega)⟩,dX (by omega) (by omega)⟩,.inr ?_⟩
 rw[if_neg (by decide)]
 exact dX (by omega) (by omega)
theorem A2.three {α β:Type} {p:α→β→Prop} {a b d:α} {ys:List β} (h:A2 p [a,b,d] ys):∃x y z,ys=[x,y,z]∧p a x∧p b y∧p d z:=by
 match ys,h with
 |[x,y,z],h=>exact⟨x,y,z,rfl,h.1,h.2.1,h.2.2.1⟩
 |[],h=>exact h.elim
 |[_],h=>exact h.2.elim
 |[_,_],h=>exact h.2.2.elim
 |_::_::_::_::_,h=>exact h.2.2.2.elim
section
variable {A₀:Around} {base:Heap} {outer:List Env} {fe env:Env} {A:Around} {E:Value→Shared→Prop} {h₀:Heap} {L I:Addr} {m:Str→Option Value} {s:Shared} {news news₁:Led} {ρ ρ₁:Rh} {H:Hp} {l:Loc} {b:MSs} {body:List Stmt} {X:Hp→Prop}
theorem uW {vs:List SV} {ws:List Value} {is:List Int} {Q:Value→Shared→Prop} (h:bH vs=some is) (va:A2 (V ρ news) vs ws) (Fm:Fr h₀ L s.heap m) (N:News h₀ L s.heap news)
 (hq:∀(a b d:Int) (k:Nat) h' t r t₁ u₁ v₁,is=dy a d k→IsRange h' r a b d t₁ u₁ v₁→Builtin.Range.small a b d=true→Builtin.Range.rangeSize a b d=(k:Int)→Fr h₀ L h' m→News h₀ L h' news→Q (.ref r) {s with heap:=h',toks:=t}):
 wpAny (model c.prog c.w) A (call (.type "range") ws) Q E s:=by
 unfold bH at h
 split at h
 ·split at h
  ·rename_i hs
   cases h
   obtain⟨x,rfl,vx⟩:=va.one
   obtain⟨t,rfl⟩:=vx.int_inv
   have e:∀b:Int,(b - 0).toNat=b.toNat:=fun b=>by omega
   exact call_range_1 (hq 0 _ 1 _ _ _ _ _ _ _ (by rw[←e]) (IsRange.new ..) (pM (by decide) hs) og (Fm.push _) (N.grown fun _ _ e=>Heap.get?_push_of_some _ e))
  ·cases h
 ·split at h
  ·rename_i hs
   cases h
   simp only[Bool.and_eq_true] at hs
   obtain⟨x,y,rfl,vx,vy⟩:=va.two
   obtain⟨t,rfl⟩:=vx.int_inv;obtain⟨u,rfl⟩:=vy.int_inv
   exact call_range_2 (hq _ _ 1 _ _ _ _ _ _ _ rfl (IsRange.new ..) (pM hs.1 hs.2) og (Fm.push _) (N.grown fun _ _ e=>Heap.get?_push_of_some _ e))
  ·cases h
 ·split at h
  ·rename_i hs
   cases h
   simp only[Bool.and_eq_true,decide_eq_true_eq] at hs
   obtain⟨x,y,z,rfl,vx,vy,vz⟩:=va.three
   obtain⟨t,rfl⟩:=vx.int_inv;obtain⟨u,rfl⟩:=vy.int_inv;obtain⟨v,rfl⟩:=vz.int_inv
   obtain⟨⟨rfl,h1⟩,h2⟩:=hs
   exact call_range_3 (by decide) (hq _ _ (-1) _ _ _ _ _ _ _ rfl (IsRange.new ..) (vr h1 h2) rZ (Fm.push _) (N.grown fun _ _ e=>Heap.get?_push_of_some _ e)) (.inl (PyProof.noPylong_of_log2 (by decide+kernel)))
  ·cases h
 ·cases h
end
theorem vR (tk:TOk c.K c.T c.nm) {x:Nat} {args:MEs} {b:MSs} (ih:ej c Γ n args) (ihb:fF c Γ n b):eX c Γ n (.forR x args b):=by
 intro A₀ base outer fe env A E h₀ L m s news ρ H l st Q X hc g hL hE fc Fm N S lr q hx
 wrow_hasAll st hc
 rename_i tg it body orelse pos
 simp only[fI,Bool.and_eq_true] at hc
 obtain⟨⟨h1,h2⟩,h3⟩:=hc
 have he:orelse=[]:=by simpa using h1
 subst he
 split at h2<;>first|(cases h2;done)|skip
 rename_i id p1 r p2 a0 as p3
 simp only[Bool.and_eq_true] at h2
 obtain⟨⟨⟨⟨⟨h2,h4⟩,h5⟩,h6⟩,h7⟩,h8⟩:=h2
 have h2:=beq_iff_eq.mp h2;have h5:=beq_iff_eq.mp h5;have h7:=beq_iff_eq.mp h7
 subst h2
 simp only[exS] at q
 have hs:starEach (a0::as) env=(false,eval a0 env)::starEach as env∧(backTo p3 (starEach as env)).any (·.1)=false:=by
  cases args<;>first|(exfalso;revert h8;simp[a9];done)|skip
  rw[a9,Bool.and_eq_true] at h8
  exact⟨dT h8.1 _ _,ds h8.2⟩
 refine wpAny_For (Call_Name rfl (oy g fc Fm h6 h7 (by rw[h5];exact boot_range) (PyProof.Rows.callWith_type1 (ih h8 g fc Fm N S lr (PF.seq (VR:=fun ρ news=>A2 (V ρ news)) q fun vs H₁ ρ₁ news₁ h₁ t ws _ F₁ N₁ S₁ X₁ va q₁=> ?_) fun H' z=>hx H' z m) hs.1 hs.2))) (fun _=>rfl)
 split at q₁
 ·rename_i is his
  refine uW (s:={s with heap:=h₁,toks:=t}) his va F₁ N₁ fun a bb d k h' t' r t₁ u₁ v₁ e1 hr hsm hsz F₂ N₂=> ?_
  subst e1
  refine wpAny_pyIter_range hr hsm ?_
  obtain⟨z,off⟩:=Lp.start (o:=qG a k d) F₂ N₂ S₁ (lr.ext X₁)
  rw[hsz]
  exact loopI (s:={s with heap:=h'.push (qG a k d),toks:=t'}) tk ihb h3 g hL hE fc h4 z off (PF.up q₁ (Ext.refl _ _)) fun H' y m'=>(hx H' y m').ext X₁
 ·exact q₁.elim
end
section
variable {c:Cx} {Γ:FT} {n:Nat}
def lstO (a:Addr) (i:Nat):Obj:={cls:= .type "list_iterator",data:= .fields #[.ref a,.int i 0]}
theorem yB {o:Obj} {T:String} {vs:Array Value} (h1:o.cls= .type T) (h2:o.data= .fields vs) (h3:T≠"tuple"):ItO o:=⟨⟨_,h2⟩,_,h1,h3⟩
def tJ (c:Cx) (names:dz) (tg:Tg) (t:Expr):Bool:=match tg,t with
 | .one x,.Name id _=>id == c.nm x && eu names id
 | .two x y,.Tuple [.Name i _,.Name j _] _ _=>i == c.nm x && j == c.nm y && eu names i && eu names j
 |_,_=>false
section
variable {A₀:Around} {base:Heap} {outer:List Env} {fe env:Env} {A:Around} {E:Value→Shared→Prop} {h₀:Heap} {L I:Addr} {m:Str→Option Value} {s:Shared} {news news₁:Led} {ρ ρ₁:Rh} {H:Hp} {l:Loc} {b:MSs} {body:List Stmt} {Q:Flow→Shared→Prop} {X:Hp→Prop}
theorem AB (tk:TOk c.K c.T c.nm) (g:fw env) (hL:env.locals=L) (hh:A.handled=none) {tg:Tg} {t:Expr} (hc:tJ c env.scope.names tg t=true) {v:SV} {y:Value} {l':Loc} {Q:Unit→Shared→Prop} (hp:tg.put v l=some l') (hv:V ρ news v y) (Fm:Fr h₀ L s.heap m) (N:News h₀ L s.heap news) (lr:LRd c.nm env L m ρ news l)
 {a:Addr} {i:Nat} (hit:s.heap.IsListIter I a i)
 (hq:∀m' h' tk,Fr h₀ L h' m'→News h₀ L h' news→LRd c.nm env L m' ρ news l'→Q () {s with heap:=h',toks:=tk}):
 wpAny (model c.prog c.w) A (letOwnedTupleGo t (.ref I) y) (fun _ s'=>wpAny (model c.prog c.w) A (assign t env y) Q E s') E s:=by
 unfold tJ at hc
 split at hc
 ·rename_i x id p
  simp only[Bool.and_eq_true] at hc
  have e:=beq_iff_eq.mp hc.1
  subst e
  cases hp
  refine wpAny_of_eq (a:=()) rfl (wpAny_assign_Name (eV g hL hc.2 Fm N fun h' F' N'=> ?_))
  exact hq _ h' _ F' N' (lr.put tk.inj hL hc.2 hv)
 ·rename_i x y' i' p1 j' p2 k p3
  simp only[Bool.and_eq_true] at hc
  obtain⟨⟨⟨h1,h2⟩,h3⟩,h4⟩:=hc
  have h1:=beq_iff_eq.mp h1;have h2:=beq_iff_eq.mp h2
  subst h1 h2
  cases v<;>first|(exfalso;revert hp;simp[Tg.put];done)|skip
  rename_i vs
  obtain⟨u,ws,nn,rfl,hm,hws⟩:=hv.tup_inv
  match vs,hp with
  |[a',b'],hp=>
   refine wpAny_letOwnedTupleGo_listiter hit ?_
   refine unpackN_ Fm N (lq N hm) hh (by show 2=ws.toArray.size;rw[List.size_toArray,←hws.len];rfl) rfl fun h' F' N'=> ?_
   refine jN (xs:=[x,y']) (ts:=[.Name (c.nm x) p1,.Name (c.nm y') p2]) (vs:=[a',b']) (l:=l) (l':=l') (m:=m) tk g hL ?_ ?_ (hws.imp fun _ _ h=>V.of0 h) F' N' lr fun m' h'' t F'' N'' lr'=> ?_
   ·simp[gY,h3,h4]
   ·exact hp
   ·exact hq m' h'' t F'' N'' lr'
  |[],hp=>exact absurd hp (by simp[Tg.put])
  |[_],hp=>exact absurd hp (by simp[Tg.put])
  |_::_::_::_,hp=>exact absurd hp (by simp[Tg.put])
 ·cases hc
theorem loopL (tk:TOk c.K c.T c.nm) (ihb:fF c Γ n b) (hc:c7 c env.scope.names b body=true) (g:fw env) (hL:env.locals=L) (hE:PassesOwn (model c.prog c.w) A env E) (fc:FC c (2*n+1) A₀ base outer fe A h₀ L)
 {tg:Tg} {t:Expr} (ht:tJ c env.scope.names tg t=true) {nn:Nat} {a:Addr} (hr:ρ₁[nn]? =some (a,a)) {i k:Nat} {oI:Obj} (hoI:oI.cls= .type "list_iterator"∧oI.data= .fields #[.ref a,.int i 0]) (z:Lp c env h₀ L ρ₁ news₁ I oI s.heap m ρ news H l) (off:∀p∈news₁,p.1≠I)
 (q:PF c env h₀ L ρ₁ news₁ (gJ tg (aM c.T Γ b) nn k i l H) Q X s) (hx:∀H',X H'→∀m',XE c base (fe::outer) h₀ L m' ρ₁ news₁ E s H'):
 codeAny (model c.prog c.w) A (.forLoop t (.ref I) body [] env) (fun r s'=>match r with| .ok f=>Q f s'| .error e=>cameBackBy (model c.prog c.w) A env E e s') s:=by
 obtain⟨Inv,hInv⟩:∃Inv:Nat→Shared→Prop,∀k s',Inv k s'↔∃h t m ρ news H l i oI,s'={s with heap:=h,toks:=t}∧(oI.cls= .type "list_iterator"∧oI.data= .fields #[.ref a,.int i 0])∧Lp c env h₀ L ρ₁ news₁ I oI h m ρ news H l∧PF c env h₀ L ρ₁ news₁ (gJ tg (aM c.T Γ b) nn k i l H) Q X s:=⟨_,fun _ _=>Iff.rfl⟩
 refine codeAny_forLoop_any Inv ?_ k ((hInv _ _).mpr ⟨s.heap,s.toks,m,ρ,news,H,l,i,oI,rfl,hoI,z,q⟩)
 intro k s' hs'
 obtain⟨h,t',m,ρ,news,H,l,i,oI,rfl,hoI,z,q⟩:=(hInv _ _).mp hs'
 have hit:h.IsListIter I a i:=⟨oI,(z.N _ z.hm).1,hoI.1,hoI.2⟩
 have kI:ItO oI:=yB hoI.1 hoI.2 (by decide)
 cases k with
 |zero=>exact q.elim
 |succ k=>
  unfold gJ at q
  split at q
  ·rename_i vs hn
   obtain⟨_,ws,o,b1,b2,b3⟩:=z.S.list hn (z.X.rh _ _ hr)
   have hl:h.IsList a ws.toArray:=aV (s:={s with heap:=h,toks:=t'}) z.N b1 b2
   split at q
   ·rename_i hv
    have hw:ws.toArray[i]? =none:=by
     have:ws[i]? =none:=by
      rw[List.getElem?_eq_none_iff] at hv⊢
      rw[←b3.len];exact hv
     simpa using this
    refine wpAny_pyNext_list_end fc.hh hit hl hw fun h' he=>wpAny_execs_nil ?_
    obtain⟨F',N',S',lr',X'⟩:=z.drop kI hL off (h':=h') (fun b o hb e=>he b o (by simpa using hb) e)
    exact q m ρ _ h' t' .next F' N' S' X' lr' trivial
   ·rename_i v hv
    obtain⟨y,hy,vy⟩:=b3.get hv
    split at q
    ·exact q.elim
    ·rename_i l₁ hp
     refine wpAny_pyNext_list_item hit hl (x:=y) (by simpa using hy) fun h' hit' hs=> ?_
     obtain⟨o',ho',hc',hd'⟩:=id hit'
     have z':=z.step kI hL off (h':=h') (fun b o hb e=>hs.extBut b o (by simpa using hb) e) ho'
     have vy':V ρ ((I,o')::but news I) v y:=V.ext ⟨fun _ _ h=>h,fun a ws j x=>List.mem_cons_of_mem _ ((nP (ρ:=ρ) z.N z.hm kI).tp a ws j x)⟩ _ _ vy
     refine AB (s:={s with heap:=h',toks:=t'}) tk g hL fc.hh ht hp vy' z'.F z'.N z'.lr hit' fun m'' h'' t'' F'' N'' lr''=> ?_
     have z'':Lp c env h₀ L ρ₁ news₁ I o' h'' m'' ρ _ H l₁:=⟨F'',N'',z'.S,lr'',z'.X,z'.hm,z'.fo⟩
     refine wpAny_mono (q6 (s:={s with heap:=h'',toks:=t''}) (P:=fun s₃=>∃m₁,m₁<k+1∧Inv m₁ s₃) ihb hc g hL hE fc z'' (k:=fun l' H'=>gJ tg (aM c.T Γ b) nn k (i+1) l' H') (PF.up q (Ext.refl _ _)) (fun H' y m'=>(hx H' y m').ext (Ext.refl _ _))
      fun m' ρ' news' h3 t3 l' H' z3 q3=>⟨k,Nat.lt_succ_self k,(hInv _ _).mpr ⟨h3,t3,m',ρ',news',H',l',i+1,o',rfl,⟨hc',hd'⟩,z3,PF.up (s:={s with heap:=h'',toks:=t''}) (h₁:=s.heap) (tk₁:=s.toks) q3 (Ext.refl _ _)⟩⟩) (fun f s₃ hf=> ?_) fun _ _ e=>e
     cases f<;>exact hf
  ·exact q.elim
end
end
theorem eq {ρ:Rh} {nn i:Nat} {p q:Addr×Addr} (h:(ρ.set nn p)[i]? =some q):(i=nn∧q=p)∨(i≠nn∧ρ[i]? =some q):=by
 by_cases c:i=nn
 ·subst c
  have hl:i<(ρ.set i p).length:=by rw[List.getElem?_eq_some_iff] at h;exact h.1
  rw[List.length_set] at hl
  rw[List.getElem?_set_self hl] at h
  cases h;exact .inl ⟨rfl,rfl⟩
 ·rw[List.getElem?_set_ne (fun e=>c e.symm)] at h
  exact .inr ⟨c,h⟩
theorem oa {ρ:Rh} {nn:Nat} {p q:Addr×Addr} (h:ρ[nn]? =some q):(ρ.set nn p)[nn]? =some p:=by
 rw[List.getElem?_set_self (by rw[List.getElem?_eq_some_iff] at h;exact h.1)]
theorem kK {ρ:Rh} {nn i:Nat} {p:Addr×Addr} (h:i≠nn):(ρ.set nn p)[i]? =ρ[i]? :=List.getElem?_set_ne (fun e=>h e.symm)
theorem V0.rset {ρ:Rh} {nn:Nat} {a d d':Addr} (hr:ρ[nn]? =some (a,d)) {v:SV} {x:Value} (h:V0 ρ v x):V0 (ρ.set nn (a,d')) v x:=by
 cases v<;>cases x<;>first|exact h|skip
 obtain⟨e,h⟩:=h
 rename_i i _
 by_cases c:i=nn
 ·subst c
  rw[hr] at h;cases h
  exact⟨d',oa hr⟩
 ·exact⟨e,by rw[kK c];exact h⟩
theorem V.rset {ρ:Rh} {nn:Nat} {a d d':Addr} {news:Led} (hr:ρ[nn]? =some (a,d)) (v:SV) (x:Value) (h:V ρ news v x):V (ρ.set nn (a,d')) news v x:=by
 cases v with
 |tup vs=>
  obtain⟨b,ws,n,rfl,h1,h2⟩:=h.tup_inv
  exact⟨ws,n,h1,h2.imp fun _ _ h=>V0.rset hr h⟩
 |_=>exact V0.rset hr h
section
variable {prog:Program} {w:World} {nm:Nat→Str} {h₀ h:Heap} {L I a:Addr} {news:Led} {ρ:Rh} {H:Hp} {nn:Nat} {env:Env} {m:Str→Option Value} {l:Loc}
theorem rP {d d':Addr} (hr:ρ[nn]? =some (a,d)) {o:SO} {q:Addr×Addr} (b:Ob prog w nm ρ news o q) (hf:∀es i,o= .rod es i→q.1≠d'):Ob prog w nm (ρ.set nn (a,d')) news o q:=by
 cases o with
 |inst C fs=>
  obtain⟨b1,es,n,b2,b3⟩:=b
  exact⟨b1,es,n,b2,b3.imp fun f e ⟨u,x,q⟩=>⟨u,x,V.rset hr _ _ q⟩⟩
 |list vs=>
  obtain⟨b1,ws,x,b2,b0,b3⟩:=b
  exact⟨b1,ws,x,b2,b0,b3.imp (V.rset hr)⟩
 |dict es=>
  obtain⟨b1,b0,kvs,y,b2,b3,b4⟩:=b
  exact⟨b1,b0,kvs,y,b2,b3,b4.imp fun f e ⟨x,q⟩=>⟨x,V.rset hr _ _ q⟩⟩
 |rod es i=>
  obtain⟨b0,b1,ep,io,kvs,y,b2,b3,b4,b5,b6⟩:=b
  refine⟨b0,fun j r hj=> ?_,ep,io,kvs,y,b2,b3,b4,b5,b6.imp fun f e ⟨x,q⟩=>⟨x,V.rset hr _ _ q⟩⟩
  rcases eq hj with⟨_,e⟩|⟨_,e⟩
  ·subst e;exact fun e=>hf es i rfl e.symm
  ·exact b1 j r e
theorem rN {d d':Addr} (hr:ρ[nn]? =some (a,d)) (n1:∀(i j:Nat) (p q:Addr×Addr),ρ[i]? =some p→ρ[j]? =some q→p.1=q.1→i=j):
 ∀(i j:Nat) (p q:Addr×Addr),(ρ.set nn (a,d'))[i]? =some p→(ρ.set nn (a,d'))[j]? =some q→p.1=q.1→i=j:=fun i j p q hi hj e=>by
 rcases eq hi with⟨rfl,rfl⟩|⟨_,e1⟩<;>rcases eq hj with⟨rfl,rfl⟩|⟨_,e2⟩
 ·rfl
 ·exact n1 _ _ _ _ hr e2 e
 ·exact n1 _ _ _ _ e1 hr e
 ·exact n1 _ _ _ _ e1 e2 e
theorem rO {d:Addr} (nd:∀(i j:Nat) (p q:Addr×Addr),ρ[i]? =some p→ρ[j]? =some q→p.2=q.2→i=j) (hd:∀(i:Nat) (q:Addr×Addr),i≠nn→ρ[i]? =some q→q.2≠d):
 ∀(i j:Nat) (p q:Addr×Addr),(ρ.set nn (a,d))[i]? =some p→(ρ.set nn (a,d))[j]? =some q→p.2=q.2→i=j:=fun i j p q hi hj e=>by
 rcases eq hi with⟨rfl,rfl⟩|⟨c1,e1⟩<;>rcases eq hj with⟨rfl,rfl⟩|⟨c2,e2⟩
 ·rfl
 ·exact absurd e.symm (hd _ _ c2 e2)
 ·exact absurd e (hd _ _ c1 e1)
 ·exact nd _ _ _ _ e1 e2 e
theorem Av (S:St prog w nm ρ H news) (N:News h₀ L h news) {es:List (Int×SV)} (hn:H[nn]? =some (.dict es)) (hr:ρ[nn]? =some (a,a)) {io:Obj} {ep:Nat} {kvs:List (Int×Value)} {o:Obj} (hI:∀p∈news,p.1≠I)
 (hs:(a == sysModules)=false) (ho:(a,o)∈news) (hio:KdkIter io a 0 kvs.length ep) (hk:KdkAt (intKind prog w) o kvs ep) (he:A2 (DE ρ news) es kvs):
 St prog w nm (ρ.set nn (a,I)) (H.set nn (.rod es 0)) ((I,io)::news):=by
 have km:∀p∈news,p∈(I,io)::news:=fun _ h=>List.mem_cons_of_mem _ h
 have S1:=S.more km
 have sec:∀(i:Nat) (q:Addr×Addr),ρ[i]? =some q→q.2≠I∧q.1≠I:=fun i q e=>by
  have hl:i<H.length:=by rw[←S.len];rw[List.getElem?_eq_some_iff] at e;exact e.1
  have b:=S.ob i _ q (List.getElem?_eq_getElem hl) e
  obtain⟨x,hx,_⟩:=fP b
  obtain⟨y,hy⟩:=po b
  exact⟨hI _ hx,hI _ hy⟩
 refine⟨by rw[List.length_set,List.length_set,S.len],rO S.nd fun i q _ hq=>(sec i q hq).1,rN hr S.n1,fun i oi q hi hq=> ?_⟩
 rcases eq hq with⟨rfl,rfl⟩|⟨c,hq⟩
 ·rw[List.getElem?_set_self (by rw[List.getElem?_eq_some_iff] at hn;exact hn.1)] at hi
  cases hi
  refine⟨hs,fun j r hj e=> ?_,ep,io,kvs,o,List.mem_cons_self ..,by rw[he.len];exact hio,List.mem_cons_of_mem _ ho,hk,he.imp fun f e ⟨x,q⟩=>⟨x,V.rset hr _ _ (V.ext ⟨fun _ _ h=>h,fun _ _ _ h=>km _ h⟩ _ _ q)⟩⟩
  rcases eq hj with⟨_,e'⟩|⟨c,hj⟩
  ·subst e';exact(sec _ _ hr).2 e.symm
  ·exact c (S.nd j i r (a,a) hj hr e)
 ·rw[List.getElem?_set_ne (fun e=>c e.symm)] at hi
  exact rP hr (S1.ob i oi q hi hq) fun _ _ _=>(sec i q hq).2
theorem uZ (S:St prog w nm ρ H news) (N:News h₀ L h news) {es:List (Int×SV)} {i:Nat} (hn:H[nn]? =some (.rod es i)) (hr:ρ[nn]? =some (a,I)) {io io':Obj} {ep:Nat} {kvs:List (Int×Value)} {o:Obj}
 (h0:(I,io)∈news) (hT:ItO io) (hs:(a == sysModules)=false) (hf:Fo ρ a) (ho:(a,o)∈news) (hio:KdkIter io' a (i+1) es.length ep) (hk:KdkAt (intKind prog w) o kvs ep) (he:A2 (DE ρ news) es kvs):
 St prog w nm ρ (H.set nn (.rod es (i+1))) ((I,io')::but news I)∧Ext ρ news ρ ((I,io')::but news I):=by
 have t:cE news ((I,io')::but news I) I:=cE.of_but
 refine St.turn N S hn hr t ⟨hs,hf,ep,io',kvs,o,List.mem_cons_self ..,hio,t.keep _ ho fun e=>hf _ _ hr e.symm,hk,he.imp fun f e ⟨x,q⟩=>⟨x,V.ext ⟨fun _ _ h=>h,fun b ws j hb=>t.keep _ hb (uA N h0 hT hb)⟩ _ _ q⟩⟩
theorem xA (S:St prog w nm ρ H news) (N:News h₀ L h news) {es:List (Int×SV)} {i:Nat} (hn:H[nn]? =some (.rod es i)) (hr:ρ[nn]? =some (a,I)) {io:Obj} (h0:(I,io)∈news) (hT:ItO io):
 St prog w nm (ρ.set nn (a,a)) (H.set nn (.dict es)) (but news I)∧Fo (ρ.set nn (a,a)) I:=by
 obtain⟨hs,hf,ep,io',kvs,o,b1,b2,b3,b4,b5⟩:=S.ob _ _ _ hn hr
 have hs:(a == sysModules)=false:=hs
 have hf:Fo ρ a:=hf
 have b3:(a,o)∈news:=b3
 have hne:a≠I:=fun e=>hf _ _ hr e.symm
 have S1:St prog w nm (ρ.set nn (a,a)) (H.set nn (.dict es)) news:=by
  refine⟨by rw[List.length_set,List.length_set,S.len],rO S.nd fun i q _ hq=>hf i q hq,rN hr S.n1,fun j oi q hi hq=> ?_⟩
  rcases eq hq with⟨rfl,rfl⟩|⟨c,hq⟩
  ·rw[List.getElem?_set_self (by rw[List.getElem?_eq_some_iff] at hn;exact hn.1)] at hi
   cases hi
   obtain⟨es',k⟩:=b4
   exact⟨rfl,hs,kvs,o,b3,⟨es',ep,k⟩,b5.imp fun f e ⟨x,q⟩=>⟨x,V.rset hr _ _ q⟩⟩
  ·rw[List.getElem?_set_ne (fun e=>c e.symm)] at hi
   exact rP hr (S.ob j oi q hi hq) fun _ _ _ e=>c (S.n1 j nn q _ hq hr e)
 have f1:Fo (ρ.set nn (a,a)) I:=fun j q hj=>by
  rcases eq hj with⟨_,e⟩|⟨c,hj⟩
  ·subst e;exact hne
  ·exact fun e=>c (S.nd j nn q _ hj hr e)
 exact⟨yC N h0 hT f1 S1,f1⟩
theorem rI {d d':Addr} (hr:ρ[nn]? =some (a,d)) (hL:env.locals=L) (N:News h₀ L h news) (hd:∀b o v,(b,o)∈news→o.data= .cell (some v)→d'≠b) (lr:LRd nm env L m ρ news l):LRd nm env L m (ρ.set nn (a,d')) news l:=fun x v e=>by
 obtain⟨y,r,hv⟩:=lr x v e
 refine⟨y,?_,V.rset hr _ _ hv⟩
 cases r with
 |frame a b d=>exact .frame a b d
 |cell b o h1 h2 h3 h4 h5=>
  refine .cell b o h1 h2 h3 (fun j q hj=> ?_) h5
  rcases eq hj with⟨_,e⟩|⟨_,e⟩
  ·subst e;exact hd b o _ h3 h5
  ·exact h4 j q e
 |comp oC m₂ h1 h2 h3 h4 h5=>exact absurd hL (N _ h2).2.1
theorem xB {ρ₀:Rh} {news₀:Led} {io:Obj} (N₀:News h₀ L h news₀) (hI:∀p∈news₀,p.1≠I) (hr:ρ₀[nn]? =some (a,a)) (X:Ext (ρ₀.set nn (a,I)) ((I,io)::news₀) ρ news):Ext ρ₀ news₀ (ρ.set nn (a,a)) (but news I):=by
 have hr1:ρ[nn]? =some (a,I):=X.rh _ _ (oa hr)
 have fo:∀p∈news₀,Fo ρ₀ p.1→Fo (ρ₀.set nn (a,I)) p.1:=fun p hp f j q hj=>by
  rcases eq hj with⟨_,e⟩|⟨_,e⟩
  ·subst e;exact fun e=>hI p hp e.symm
  ·exact f j q e
 refine⟨⟨fun i p hi=> ?_,fun b ws n hb=>aZ.mpr ⟨X.tp b ws n (List.mem_cons_of_mem _ hb),hI _ hb⟩⟩,fun p hp f=>aZ.mpr ⟨X.fo p (List.mem_cons_of_mem _ hp) (fo p hp f),hI p hp⟩,fun i q hi=> ?_⟩
 ·by_cases c:i=nn
  ·subst c;rw[hr] at hi;cases hi
   exact oa hr1
  ·rw[kK c]
   exact X.rh _ _ (by rw[kK c];exact hi)
 ·rcases eq hi with⟨rfl,rfl⟩|⟨c,hi⟩
  ·exact .inl hr
  ·rcases X.nf i q hi with e|e
   ·rw[kK c] at e;exact .inl e
   ·exact .inr fun p hp f=>e p (List.mem_cons_of_mem _ hp) (fo p hp f)
end
section
variable {c:Cx} {Γ:FT} {n:Nat}
section
variable {A₀:Around} {base:Heap} {outer:List Env} {fe env:Env} {A:Around} {E:Value→Shared→Prop} {h₀:Heap} {L I a:Addr} {m:Str→Option Value} {s:Shared} {news news₀:Led} {ρ ρ₀:Rh} {H:Hp} {l:Loc} {b:MSs} {body:List Stmt} {Q:Flow→Shared→Prop} {X:Hp→Prop}
theorem qu {io:Obj} {i n ep:Nat} (h:KdkIter io a i n ep):ItO io:=yB h.1 h.2 (by decide)
theorem loopD (tk:TOk c.K c.T c.nm) (ihb:fF c Γ n b) (hc:c7 c env.scope.names b body=true) (g:fw env) (hL:env.locals=L) (hE:PassesOwn (model c.prog c.w) A env E) (fc:FC c (2*n+1) A₀ base outer fe A h₀ L)
 {x:Nat} {px:Pos} (hid:eu env.scope.names (c.nm x)=true) {nn:Nat} {io₀:Obj} (hr:ρ₀[nn]? =some (a,a)) (hI:∀p∈news₀,p.1≠I) (N₀:∃h,News h₀ L h news₀)
 {k:Nat} (Fm:Fr h₀ L s.heap m) (N:News h₀ L s.heap news) (S:St c.prog c.w c.nm ρ H news) (lr:LRd c.nm env L m ρ news l) (Xt:Ext (ρ₀.set nn (a,I)) ((I,io₀)::news₀) ρ news)
 (q:PF c env h₀ L ρ₀ news₀ (lg x (aM c.T Γ b) nn k l H) Q X s):
 codeAny (model c.prog c.w) A (.forLoop (.Name (c.nm x) px) (.ref I) body [] env) (fun r s'=>match r with| .ok f=>Q f s'| .error e=>cameBackBy (model c.prog c.w) A env E e s') s:=by
 obtain⟨Inv,hInv⟩:∃Inv:Nat→Shared→Prop,∀k s',Inv k s'↔∃h t m ρ news H l,s'={s with heap:=h,toks:=t}∧Fr h₀ L h m∧News h₀ L h news∧St c.prog c.w c.nm ρ H news∧LRd c.nm env L m ρ news l∧Ext (ρ₀.set nn (a,I)) ((I,io₀)::news₀) ρ news∧
  PF c env h₀ L ρ₀ news₀ (lg x (aM c.T Γ b) nn k l H) Q X s:=⟨_,fun _ _=>Iff.rfl⟩
 refine codeAny_forLoop Inv ?_ k ((hInv _ _).mpr ⟨s.heap,s.toks,m,ρ,news,H,l,rfl,Fm,N,S,lr,Xt,q⟩)
 intro k s' hs'
 obtain⟨h,t,m,ρ,news,H,l,rfl,Fm,N,S,lr,Xt,q⟩:=(hInv _ _).mp hs'
 cases k with
 |zero=>exact q.elim
 |succ k=>
  unfold lg at q
  split at q
  ·rename_i es i hn
   have hr1:ρ[nn]? =some (a,I):=Xt.rh _ _ (oa hr)
   obtain⟨hsys,hf,ep,io,kvs,o,b1,b2,b3,b4,b5⟩:=S.ob _ _ _ hn hr1
   have b1:(I,io)∈news:=b1
   have b2:KdkIter io a i es.length ep:=b2
   have b3:(a,o)∈news:=b3
   have hit:h.IsKeyIter I a i kvs.length ep:=by
    have:=b2.at (N _ b1).1
    rwa [b5.len] at this
   have hdm:=b4.dictAt (N _ b3).1
   split at q
   ·rename_i hv
    have hw:kvs[i]? =none:=by
     rw[List.getElem?_eq_none_iff] at hv⊢
     rw[←b5.len];exact hv
    refine wpAny_pyNext_dict_end fc.hh hit hdm hw fun h' he=>wpAny_execs_nil ?_
    obtain⟨S',f1⟩:=xA S N hn hr1 b1 (qu b2)
    have hk:∀b o,b∉[I]→h.get? b=some o→h'.get? b=some o:=fun b o hb e=>he b o (by simpa using hb) e
    have lr1:LRd c.nm env L m (ρ.set nn (a,a)) news l:=rI hr1 hL N (fun b' o' v hb hd e=>by
     subst e
     have:=du N hb b3
     subst this
     obtain⟨es',k⟩:=b4
     rw[k.2.1] at hd;cases hd) lr
    obtain⟨h00,N₀⟩:=N₀
    exact q m _ _ h' t .next (LCg.fr_but Fm hk (Ne.symm (N _ b1).2.1) (N _ b1).2.2) (rC N hk) S' (xB N₀ hI hr Xt) (yA N b1 (qu b2) hL lr1) trivial
   ·rename_i p hv
    obtain⟨kv,hy,vy⟩:=b5.get hv
    obtain⟨key,xv⟩:=kv
    obtain⟨e1,_⟩:=vy
    have e1:p.1=key:=e1
    refine wpAny_pyNext_dict_item hit hdm hy fun kval h' hkey hit' hs=> ?_
    obtain⟨tk',rfl⟩:=Value.isInt_shape hkey
    obtain⟨io',ho',hc',hd'⟩:=hit'
    obtain⟨F',N'⟩:=ii Fm N b1 hs ho'
    obtain⟨S',X'⟩:=uZ (io':=io') S N hn hr1 b1 (qu b2) hsys hf b3 (by rw[b5.len];exact⟨hc',hd'⟩) b4 b5
    refine wpAny_assign_Name (eV g hL hid F' N' fun h'' F'' N''=> ?_)
    have lr':LRd c.nm env L _ ρ ((I,io')::but news I) (upd l x (.int p.1)):=(lr.ext X').put tk.inj hL hid (show V ρ _ (.int p.1) (.int key tk') from e1)
    cases hb:aM c.T Γ b (upd l x (.int p.1)) (H.set nn (.rod es (i+1))) with
    |fail=>rw[hb] at q;exact q.elim
    |exc H'=>rw[hb] at q;exact q.elim
    |ok z H₂=>
     obtain⟨fl,l'⟩:=z
     rw[hb] at q
     refine wpAny_mono (wpAny_passesOwn hE (ihb hc g hL hE fc F'' N'' S' lr' (X:=fun _=>False) (Q:=fun f s₃=>(f= .next∨f= .cont)∧∃m₁,m₁<k+1∧Inv m₁ s₃) ?_ fun H' z=>z.elim)) (fun f s₃ hf=> ?_) fun _ _ e=>e
     ·rw[hb]
      intro m3 ρ3 news3 h3 t3 f F3 N3 S3 X3 lr3 hf3
      cases fl with
      |next=>
       cases f<;>first|exact hf3.elim|skip
       exact⟨.inl rfl,k,Nat.lt_succ_self k,(hInv _ _).mpr ⟨h3,t3,m3,ρ3,news3,H₂,l',rfl,F3,N3,S3,lr3,(Xt.trans X').trans X3,q⟩⟩
      |cont=>
       cases f<;>first|exact hf3.elim|skip
       exact⟨.inr rfl,k,Nat.lt_succ_self k,(hInv _ _).mpr ⟨h3,t3,m3,ρ3,news3,H₂,l',rfl,F3,N3,S3,lr3,(Xt.trans X').trans X3,q⟩⟩
      |brk=>exact q.elim
      |ret v=>exact q.elim
     ·rcases hf with⟨rfl|rfl,hf⟩<;>exact hf
  ·exact q.elim
end
theorem wz {names:dz} {e:ME} {x:Expr} (h:av c names e x=true) (env:Env) (v:Value):foldedSetIterable x env v=pure v:=kB h env v
theorem vQ (tk:TOk c.K c.T c.nm) {tg:Tg} {e:ME} {b:MSs} (ih:aQ c Γ n e) (ihb:fF c Γ n b):eX c Γ n (.forE tg e b):=by
 intro A₀ base outer fe env A E h₀ L m s news ρ H l st Q X hc g hL hE fc Fm N S lr q hx
 wrow_hasAll st hc
 rename_i tt it body orelse pos
 simp only[fI,Bool.and_eq_true] at hc
 obtain⟨⟨⟨h1,h2⟩,h4⟩,h3⟩:=hc
 have he:orelse=[]:=by simpa using h1
 subst he
 have h2:tJ c env.scope.names tg tt=true:=h2
 simp only[exS] at q
 refine wpAny_For (ih h4 g fc Fm N S lr (PF.seq q fun v H₁ ρ₁ news₁ h₁ t y _ F₁ N₁ S₁ X₁ va q₁=> ?_) fun H' z=>hx H' z m) (fun v=>kB h4 env v)
 split at q₁
 ·rename_i nn
  obtain⟨a,d,rfl,hr⟩:=va.ref_inv
  split at q₁
  ·rename_i vs hn
   obtain⟨e0,ws,o,b1,b2,b3⟩:=S₁.list hn hr
   subst e0
   refine wpAny_pyIter_list (aV (s:={s with heap:=h₁,toks:=t}) N₁ b1 b2) ?_
   obtain⟨z,off⟩:=Lp.start (o:=lstO a 0) F₁ N₁ S₁ (lr.ext X₁)
   exact loopL (s:={s with heap:=h₁.push (lstO a 0),toks:=t}) tk ihb h3 g hL hE fc h2 hr ⟨rfl,rfl⟩ z off (PF.up q₁ (Ext.refl _ _)) fun H' y m'=>(hx H' y m').ext X₁
  ·rename_i es hn
   obtain⟨e0,hsys,kvs,o,b1,b2,b3⟩:=S₁.dict hn hr
   subst e0
   split at q₁
   ·rename_i x
    obtain⟨ep,ha⟩:=KdkAt.of b2
    unfold tJ at h2
    split at h2
    ·rename_i x' id p hxx
     cases hxx
     simp only[Bool.and_eq_true] at h2
     have e:=beq_iff_eq.mp h2.1
     subst e
     refine wpAny_pyIter_dict hsys (ha.dictAt (N₁ _ b1).1) ?_
     have hI:∀p∈news₁,p.1≠h₁.objs.size:=fun p hp=>Nat.ne_of_lt (Heap.lt_size (N₁ p hp).1)
     let io:Obj:={cls:= .type "dict_keyiterator",data:= .fields #[.ref a,.int 0 0,.int kvs.length 0,.int ep 0]}
     have S₂:=Av (I:=h₁.objs.size) (io:=io) S₁ N₁ hn hr hI hsys b1 ⟨rfl,rfl⟩ ha b3
     have km:∀p∈news₁,p∈(h₁.objs.size,io)::news₁:=fun _ h=>List.mem_cons_of_mem _ h
     exact loopD (s:={s with heap:=h₁.push io,toks:=t}) (io₀:=io) tk ihb h3 g hL hE fc h2.2 hr hI ⟨_,N₁⟩ (F₁.push _) (News.push F₁ N₁ _ rfl) S₂
      (rI hr hL (News.push F₁ N₁ io rfl) (fun b o v hb hd e=>by
        rcases List.mem_cons.mp hb with hb|hb
        ·cases hb;cases hd
        ·exact hI _ hb e.symm) ((lr.ext X₁).more km)) (Ext.refl _ _) (PF.up q₁ (Ext.refl _ _))
    ·rename_i hxx;cases hxx
    ·cases h2
   ·exact q₁.elim
  ·exact q₁.elim
 ·exact q₁.elim
end
theorem nJ {v:Expr} {i u s:Str} {it:Expr} {sc:Scope} {vp:Pos} (h:nI v=some (i,u,s,it,sc,vp)):∃p1 p2 p3 p4 p5 p6 p7 p8 p9 p10 p11 p12 p13 p14 p15 k1 k2 k3 k4 k5,
 v= .ListComp (.Name i p1) [⟨.Name i p2,it,[.Compare (.Tuple [.Subscript (.Name i p3) (.Constant (.int 0) k1 p4) p5,.Subscript (.Name i p6) (.Constant (.int 1) k2 p7) p8] k3 p9) [.GtE] [.Tuple [.Name u p10,.BinOp (.Constant (.int 0) k4 p11) .Sub (.Name s p12) p13] k5 p14] p15],0⟩] sc vp:=by
 unfold nI at h
 split at h
 ·split at h
  ·rename_i hh
   simp only[Bool.and_eq_true,beq_iff_eq] at hh
   obtain⟨⟨rfl,rfl⟩,rfl⟩:=hh
   cases h
   exact⟨_,_,_,_,_,_,_,_,_,_,_,_,_,_,_,_,_,_,_,_,rfl⟩
  ·cases h
 ·cases h
theorem ur {u s:Int} {v:SV} {r vs:List SV} (h:geL u s (v::r)=some vs):∃a b t z,v= .tup (.int a:: .int b::t)∧geL u s r=some z∧
 vs=(if(decide (u<a) || (decide (a=u) && decide (0 - s≤b)))=true then v::z else z):=by
 unfold geL at h
 split at h
 ·rename_i e;cases e
 ·rename_i a b t r' e
  cases e
  obtain⟨z,h1,h2⟩:=Option.map_eq_some_iff.mp h
  exact⟨a,b,t,z,rfl,h1,h2.symm⟩
 ·cases h
section
variable {prog:Program} {w:World} {A:Around} {E:Value→Shared→Prop} {h₀:Heap} {L:Addr} {m:Str→Option Value} {env:Env}
def qS (M:Model) (A:Around) (E:Value→Shared→Prop) (h₀:Heap) (L:Addr) (env:Env) (news:Led) (id:Str) (y:Value):Prop:=
 ∀(s:Shared) (p:Pos) (Q:Value→Shared→Prop),News h₀ L s.heap news→Q y s→wpAny M A (eval (.Name id p) env) Q E s
theorem pT {a b:Expr} (pos:Pos) {M:Model} {s:Shared} {Q:List Value→Shared→Prop} (e:starEach [a,b] env=(false,eval a env)::starEach [b] env) (e2:starEach [b] env=(false,eval b env)::starEach [] env)
 (h:wpAny M A (eval a env) (fun x s₁=>wpAny M A (eval b env) (fun y s₂=>Q [x,y] s₂) E s₁) E s):wpAny M A (spliced (backTo pos (starEach [a,b] env))) Q E s:=
 wpAny_items_cons (wpAny_mono h (fun x s₁ h₁=>wpAny_items_cons (wpAny_mono h₁ (fun y s₂ h₂=>wpAny_items_nil h₂) fun _ _ e=>e) e2) fun _ _ e=>e) e
theorem xh {x u sn:Str} {p3 p4 p5 p6 p7 p8 p9 p10 p11 p12 p13 p14 p15:Pos} {k1 k2 k3 k4 k5} {whole:Sem Value} {s:Shared} {news:Led} {a:Addr} {ws:List Value} {n:Nat} {i j p q:Int} {tu ts tp tq:Tok} {Q:Bool→Shared→Prop}
 (hu:A.units<cLine) (F:Fr h₀ L s.heap m) (N:News h₀ L s.heap news) (ha:(a,gQ (.int p tp:: .int q tq::ws) n)∈news)
 (rx:qS (model prog w) A E h₀ L env news x (.ref a)) (ru:qS (model prog w) A E h₀ L env news u (.int i tu)) (rs:qS (model prog w) A E h₀ L env news sn (.int j ts))
 (hQ:∀h' tk news',Fr h₀ L h' m→News h₀ L h' news'→(∀p∈news,p∈news')→(∀p∈news',p∈news∨s.heap.objs.size≤p.1)→Q (decide (i<p) || (decide (p=i) && decide (0 - j≤q))) {s with heap:=h',toks:=tk}):
 wpAny (model prog w) A (isTrue (.Compare (.Tuple [.Subscript (.Name x p3) (.Constant (.int 0) k1 p4) p5,.Subscript (.Name x p6) (.Constant (.int 1) k2 p7) p8] k3 p9) [.GtE] [.Tuple [.Name u p10,.BinOp (.Constant (.int 0) k4 p11) .Sub (.Name sn p12) p13] k5 p14] p15) env whole) Q E s:=by
 refine wpAny_isTrue_Compare1 ?_ rfl
 have ht:∀h,News h₀ L h news→IsTup h a (Value.int p tp:: .int q tq::ws).toArray:=fun h N=>⟨_,(N _ ha).1,rfl,n,rfl⟩
 refine Tuple_ (pT _ rfl rfl (Subscript_ (rx _ _ _ N (wpAny_Constant_int ?_))))
 refine jw ⟨_,_,(ht _ N).typeIs,PyProof.Rows.slot_tuple_getitem.lookup⟩ (PyProof.Rows.getItem_tuple (k:=0) (j:=0) (ht _ N) (by decide) (by decide) (hZ (by decide) (by simp)) (x:= .int p tp) (by simp) ?_)
 refine Subscript_ (rx _ _ _ N (wpAny_Constant_int ?_))
 refine jw ⟨_,_,(ht _ N).typeIs,PyProof.Rows.slot_tuple_getitem.lookup⟩ (PyProof.Rows.getItem_tuple (k:=1) (j:=1) (ht _ N) (by decide) (by decide) (hZ (by decide) (by simp)) (x:= .int q tq) (by simp) ?_)
 refine newTuple_N F N (fun h₁ F₁ N₁=> ?_) (by simp[sizeLine_eq])
 have k1:∀z∈news,z∈(s.heap.objs.size,gQ [.int p tp,.int q tq] 0)::news:=fun _ h=>List.mem_cons_of_mem _ h
 have N₁':News h₀ L h₁ news:=fun p hp=>N₁ p (k1 p hp)
 refine Tuple_ (pT _ rfl rfl (ru _ _ _ N₁' (wpAny_BinOp (wpAny_Constant_int (rs _ _ _ N₁' (sub_int ?_))))))
 refine newTuple_N F₁ N₁ (fun h₂ F₂ N₂=> ?_) (by simp[sizeLine_eq])
 have g1:=(N₂ _ (List.mem_cons_of_mem _ (List.mem_cons_self ..))).1
 have g2:=(N₂ _ (List.mem_cons_self ..)).1
 refine ge2 g1 g2 hu (wpAny_truthy_bool ?_)
 have l1:s.heap.objs.size<h₁.objs.size:=Heap.lt_size (N₁ _ (List.mem_cons_self ..)).1
 refine hQ h₂ _ _ F₂ N₂ (fun p hp=>List.mem_cons_of_mem _ (k1 p hp)) fun z hz=> ?_
 rcases List.mem_cons.mp hz with rfl|hz
 ·exact .inr (Nat.le_of_lt l1)
 ·rcases List.mem_cons.mp hz with rfl|hz
  ·exact .inr (Nat.le_refl _)
  ·exact .inl hz
end
section
variable {c:Cx} {Γ:FT} {n:Nat}
theorem intsV {ρ:Rh} {news:Led} {a b:Int} {t:List SV} {x:Value} (h:V ρ news (.tup (.int a:: .int b::t)) x):∃d ta tb ws k,x= .ref d∧(d,gQ (.int a ta:: .int b tb::ws) k)∈news:=by
 obtain⟨d,ws,k,rfl,hm,hv⟩:=h.tup_inv
 match ws,hv with
 |y::z::ws,hv=>
  obtain⟨ta,rfl⟩:=V.int_inv (news:=news) (V.of0 hv.1);obtain⟨tb,rfl⟩:=V.int_inv (news:=news) (V.of0 hv.2.1)
  exact⟨d,ta,tb,ws,k,rfl,hm⟩
 |[_],h=>exact h.2.elim
 |[],h=>exact h.elim
theorem vG (tk:TOk c.K c.T c.nm) {y k u sx:Nat} {src:ME} (ih:aQ c Γ n src):eX c Γ n (.asgG y k u sx src):=by
 intro A₀ base outer fe env A E h₀ L m s news ρ H l st Q X hc g hL hE fc Fm N S lr q hx
 wrow_hasAll st hc
 rename_i ts v spos
 simp only[fI] at hc
 split at hc<;>first|(cases hc;done)|skip
 rename_i idy py
 simp only[Bool.and_eq_true] at hc
 obtain⟨⟨hy1,hy2⟩,hc⟩:=hc
 have hy1:=beq_iff_eq.mp hy1
 subst hy1
 split at hc<;>first|(cases hc;done)|skip
 rename_i i ui si it sc vp hsh
 obtain⟨p1,p2,p3,p4,p5,p6,p7,p8,p9,p10,p11,p12,p13,p14,p15,k1,k2,k3,k4,k5,rfl⟩:=nJ hsh
 simp only[Bool.and_eq_true] at hc
 obtain⟨⟨⟨⟨⟨⟨⟨⟨⟨⟨⟨⟨⟨⟨⟨e1,e2⟩,e3⟩,ok1⟩,ok2⟩,ok3⟩,hsrc⟩,hkind⟩,hloc⟩,hfu⟩,hfs⟩,hcu⟩,hcs⟩,hline⟩,hall⟩,hno⟩:=hc
 have e1:=beq_iff_eq.mp e1;have e2:=beq_iff_eq.mp e2;have e3:=beq_iff_eq.mp e3;have hloc:=beq_iff_eq.mp hloc;have hfu:=beq_iff_eq.mp hfu;have hfs:=beq_iff_eq.mp hfs
 have hcu:=beq_iff_eq.mp hcu;have hcs:=beq_iff_eq.mp hcs;have hkind:=of_decide_eq_true hkind
 subst e1 e2 e3
 simp only[exS] at q
 have all:=List.all_eq_true.mp hall
 have hcell:∀y∈sc.names,y.2≠.cell:=fun y hy=>by have:=all y hy;simp at this;exact this.1.1
 have hnames:∀y∈sc.names,y.2= .local→sc.names.lookup y.1=some .local:=fun y hy e=>by have:=all y hy;simp[e] at this;exact this
 split at q
 ·rename_i iu ju hlu hls
  obtain⟨yu,ru,vu⟩:=lr _ _ hlu
  obtain⟨ys',rs,vs'⟩:=lr _ _ hls
  have cellOf:∀{id:Str} {z:Value},env.scope.names.lookup id=some .cell→Rd env L m ρ news id z→∃b o,env.cells.lookup id=some b∧(b,o)∈news∧Fo ρ b∧o.data= .cell (some z):=fun {id z} hk r=>by
   cases r with
   |frame a b d=>unfold Env.kindOf at b;rw[hk] at b;cases b
   |cell b o h1 h2 h3 h4 h5=>exact⟨b,o,h2,h3,h4,h5⟩
   |comp oC m₂ h1 h2 h3 h4 h5=>exact absurd hL (N _ h2).2.1
  obtain⟨bu,ou,u1,u2,u3,u4⟩:=cellOf hcu ru
  obtain⟨bs,os,s1,s2,s3,s4⟩:=cellOf hcs rs
  obtain⟨tu,rfl⟩:=vu.int_inv
  obtain⟨ts,rfl⟩:=vs'.int_inv
  obtain⟨cl,hclos,hcl⟩:=mj (sc:=sc) (env:=env) (fun z hz hf=>by
   have:=all z hz
   simp[hf] at this
   rcases this with e|e
   ·rw[e,u1];rfl
   ·rw[e,s1];rfl)
  have mem_of:∀{id:Str} {kd:NameKind} {nn:dz},nn.lookup id=some kd→∃z∈nn,z.1=id∧z.2=kd:=fun {id kd nn}=>by
   induction nn with
   |nil=>intro h;simp at h
   |cons z nn ihn=>
    intro h
    rw[List.lookup_cons] at h
    by_cases q:id == z.1
    ·rw[q] at h
     exact⟨z,List.mem_cons_self ..,(beq_iff_eq.mp q).symm,by simpa using h⟩
    ·simp only[q] at h
     obtain⟨z',a,b⟩:=ihn h
     exact⟨z',List.mem_cons_of_mem _ a,b⟩
  have clu:=(hcl _ (mem_of hfu)).trans u1
  have cls:=(hcl _ (mem_of hfs)).trans s1
  have hsw:swapsWith (.ListComp (.Name (c.nm k) p1) [⟨.Name (c.nm k) p2,it,[.Compare (.Tuple [.Subscript (.Name (c.nm k) p3) (.Constant (.int 0) k1 p4) p5,.Subscript (.Name (c.nm k) p6) (.Constant (.int 1) k2 p7) p8] k3 p9) [.GtE] [.Tuple [.Name (c.nm u) p10,.BinOp (.Constant (.int 0) k4 p11) .Sub (.Name (c.nm sx) p12) p13] k5 p14] p15],0⟩] sc vp) (some (.Name (c.nm y) py)) spos.line env=pure true:=by
   show(pure (env.blockKind == .function && env.kindOf (c.nm y) == some .local && py.line == vp.line && !(sc.names.any fun(n,k)=>n == c.nm y && (k == .local || k == .cell))):Sem Bool)=pure true
   have b1:env.blockKind= .function:=by unfold Env.blockKind;rw[g.kind];rfl
   rw[b1,hline,hno]
   have:env.kindOf (c.nm y) == some .local:=hy2
   rw[this];rfl
  refine LCt.Assign_ListComp_T Fm hL hsw hclos hcell hkind hnames hloc (beq_iff_eq.mp hy2) (by rw[g.kind];rfl) (ih hsrc g fc Fm N S lr (PF.seq q fun v H₁ ρ₁ news₁ h₁ t xv _ F₁ N₁ S₁ X₁ va q₁=> ?_) (fun H' z=>hx H' z m)) (fun v=>kB hsrc env v)
  split at q₁
  ·rename_i r
   obtain⟨ax,d,rfl,hr⟩:=va.ref_inv
   split at q₁
   ·rename_i its hi
    obtain⟨e,ws,o,b1,b2,b3⟩:=S₁.list hi hr
    subst e
    obtain⟨nn,rfl⟩:=id b2
    split at q₁
    ·rename_i hz
     split at q₁
     ·rename_i vs hvs
      refine LCt.CompSrcT.ledger fc.hh F₁ N₁ b1 (by rw[List.size_toArray,←b3.len,sizeLine_eq];unfold ag at hz;omega) fun g'=> ?_
      have Fo1:∀b ob (v:Value),(b,ob)∈news→Fo ρ b→ob.data= .cell (some v)→(b,ob)∈news₁:=fun b ob v h1 h2 _=>X₁.fo _ h1 h2
      have loop:∀(its₂:List SV) (ws₂:List Value) (i:Nat) (vs₁ vs₂:List SV) (ys:List Value) (news₂:Led),(∀p∈news₁,p∈news₂)→A2 (V ρ₁ news₁) its₂ ws₂→ws.drop i=ws₂→geL iu ju its₂=some vs₂→A2 (V ρ₁ news₁) vs₁ ys→vs=vs₁++vs₂→
       LCt.CompRestT c.prog c.w A h₀ L m env (.Compare (.Tuple [.Subscript (.Name (c.nm k) p3) (.Constant (.int 0) k1 p4) p5,.Subscript (.Name (c.nm k) p6) (.Constant (.int 1) k2 p7) p8] k3 p9) [.GtE] [.Tuple [.Name (c.nm u) p10,.BinOp (.Constant (.int 0) k4 p11) .Sub (.Name (c.nm sx) p12) p13] k5 p14] p15)
        (.Name (c.nm k) p1) (c.nm k) sc cl {s with heap:=g',toks:=t} (LCg.SrcAt h₀ ax ws.toArray) (fun i v=>ws.toArray[i]? =some v) (LCg.FinA h₀ L m {s with heap:=g',toks:=t} (c.nm y) Q) ws₂.length i ys news₂:=by
       intro its₂
       induction its₂ with
       |nil=>
        intro ws₂ i vs₁ vs₂ ys news₂ hsub h1 h2 h3 h4 h5
        match ws₂,h1 with
        |[],_=>
         refine LCt.CompRestT.zero fun D h' tk' F' N' off=> ?_
         have:vs₂=[]:=by simpa[geL] using h3.symm
         subst this
         rw[List.append_nil] at h5
         subst h5
         have hoff:∀p∈news₂,p.1≠D:=by
          have:∀{l:List (Addr×Obj)},LCg.Off1 D l→∀p∈l,p.1≠D:=fun {l}=>by
           induction l with
           |nil=>intro _ p hp;cases hp
           |cons z l ihl=>
            intro ho p hp
            rcases List.mem_cons.mp hp with rfl|hp
            ·exact ho.1
            ·exact ihl ho.2 p hp
          exact this off
         unfold bp at q₁
         split at q₁
         ·have N2:News h₀ L h' news₂:=fun p hp=>N' p (List.mem_cons_of_mem _ hp)
          obtain⟨S',X',rr⟩:=St.alloc (p:=(D,D)) (o:= .list vs) N2 (S₁.more hsub) (news':=(D,LCg.lst ys)::news₂) (fun _ h=>List.mem_cons_of_mem _ h) hoff
           ⟨rfl,ys,_,List.mem_cons_self ..,⟨ys.length,rfl⟩,h4.imp (V.ext ⟨fun i q e=>by rw[List.getElem?_append_left (by rw[List.getElem?_eq_some_iff] at e;exact e.1)];exact e,fun _ _ _ h=>List.mem_cons_of_mem _ (hsub _ h)⟩)⟩ hoff
          have X1:Ext ρ₁ news₁ (ρ₁++[(D,D)]) ((D,LCg.lst ys)::news₂):=((Ext.refl ρ₁ news₁).more hsub).trans X'
          exact q₁ _ _ _ h' tk' .next F' N' S' X1 (((lr.ext X₁).ext X1).put tk.inj hL hy2 ⟨D,rr⟩) trivial
         ·exact q₁.elim
        |_::_,h=>exact h.elim
       |cons v its₂ ihh=>
        intro ws₂ i vs₁ vs₂ ys news₂ hsub h1 h2 h3 h4 h5
        match ws₂,h1 with
        |x₀::ws₃,h1=>
         obtain⟨pa,pb,tt,z,rfl,g2,hvs2⟩:=ur h3
         refine LCt.CompRestT.succ fun xv I oI C oC D m₂ h' tk' E' hP hoC hm F' N' off ne=> ?_
         have hx0:xv=x₀:=by
          have hi':ws[i]? =some x₀:=by
           have:=congrArg (·[0]?) h2
           simpa using this
          have hP':ws[i]? =some xv:=by simpa using hP
          rw[hi'] at hP';cases hP';rfl
         subst hx0
         obtain⟨da,ta,tb,wt,kt,rfl,hda⟩:=intsV h1.1
         have sub2:∀p∈news₂,p∈(I,oI)::(C,oC)::(D,LCg.lst ys)::news₂:=fun _ h=>List.mem_cons_of_mem _ (List.mem_cons_of_mem _ (List.mem_cons_of_mem _ h))
         have rdx:∀{nn:Led} {s':Shared} {p:Pos} {E'':Value→Shared→Prop} {Q':Value→Shared→Prop},(∀p∈(I,oI)::(C,oC)::(D,LCg.lst ys)::news₂,p∈nn)→News h₀ L s'.heap nn→Q' (.ref da) s'→wpAny (model c.prog c.w) A (eval (.Name (c.nm k) p) (compEnvC sc cl C env)) Q' E'' s':=fun hs N hq=>
          wpAny_Name (wpAny_loadName_local (m:=m₂) (by show(relabel sc env).kind= .function;exact hkind) (lookup_relabel_local hloc) (hoC.ns (N _ (hs _ (List.mem_cons_of_mem _ (List.mem_cons_self ..)))).1) hm hq) (by unfold gK at ok1;simp only[Bool.and_eq_true,Bool.not_eq_true'] at ok1;exact ok1.1.1.1)
         have rdc:∀{id:Str} {b:Addr} {ob:Obj} {z:Value} {E'':Value→Shared→Prop},sc.names.lookup id=some .free→env.scope.names.lookup id=some .cell→cl.lookup id=some b→(b,ob)∈news₂→ob.data= .cell (some z)→gK id=true→qS (model c.prog c.w) A E'' h₀ L (compEnvC sc cl C env) ((I,oI)::(C,oC)::(D,LCg.lst ys)::news₂) id z:=
          fun {id b ob z E''} h1 h2 h3 h4 h5 h6 s' p Q' N hq=>wpAny_Name (wpAny_loadName_cell (by show(relabel sc env).kind= .function;exact hkind) (ev g.kind (by exact h2) h1) h3 ⟨ob,(N _ (sub2 _ h4)).1,h5⟩ hq) (by unfold gK at h6;simp only[Bool.and_eq_true,Bool.not_eq_true'] at h6;exact h6.1.1.1)
         refine xh (by have:=fc.un;omega) F' N' (sub2 _ (hsub _ hda)) (fun s' p Q' N hq=>rdx (fun _ h=>h) N hq) (rdc hfu hcu clu (hsub _ (X₁.fo _ u2 u3)) u4 ok2) (rdc hfs hcs cls (hsub _ (X₁.fo _ s2 s3)) s4 ok3) fun h'' tk'' news' F'' N'' sub3 new3=> ?_
         have hkeep:∀p∈news₂,p∈(but (but (but news' I) C) D):=fun p hp=>by
          obtain⟨a1,a2,a3⟩:=off.mem p hp
          exact aZ.mpr ⟨aZ.mpr ⟨aZ.mpr ⟨sub3 _ (sub2 _ hp),a1⟩,a2⟩,a3⟩
         have hoff':LCg.Off3 I C D (but (but (but news' I) C) D):=LCg.Off3.of fun p hp=>by
          obtain⟨hp,a3⟩:=aZ.mp hp
          obtain⟨hp,a2⟩:=aZ.mp hp
          obtain⟨hp,a1⟩:=aZ.mp hp
          exact⟨a1,a2,a3⟩
         have hall':∀p∈(I,oI)::(C,oC)::(D,LCg.lst ys)::(but (but (but news' I) C) D),p∈news':=fun p hp=>by
          rcases List.mem_cons.mp hp with rfl|hp
          ·exact sub3 _ (List.mem_cons_self ..)
          ·rcases List.mem_cons.mp hp with rfl|hp
           ·exact sub3 _ (List.mem_cons_of_mem _ (List.mem_cons_self ..))
           ·rcases List.mem_cons.mp hp with rfl|hp
            ·exact sub3 _ (List.mem_cons_of_mem _ (List.mem_cons_of_mem _ (List.mem_cons_self ..)))
            ·exact(aZ.mp (aZ.mp (aZ.mp hp).1).1).1
         have hsrc':LCg.SrcAt h₀ ax ws.toArray (but (but (but news' I) C) D):= .inr ⟨_,hkeep _ (hsub _ b1),rfl,nn,rfl⟩
         have hdrop:ws.drop (i+1)=ws₃:=by
          have:=congrArg (·.drop 1) h2
          simpa[List.drop_drop,Nat.add_comm] using this
         have hsub':∀p∈news₁,p∈(but (but (but news' I) C) D):=fun p hp=>hkeep p (hsub p hp)
         by_cases hb:(decide (iu<pa) || (decide (pa=iu) && decide (0 - ju≤pb)))=true
         ·rw[if_pos hb]
          rw[if_pos hb] at hvs2
          subst hvs2
          refine rdx (s':={s with heap:=h'',toks:=tk''}) sub3 N'' ?_
          refine LCg.CompEnd.intro F'' N'' _ hall' hoff' hsrc' ?_
          exact ihh ws₃ (i+1) (vs₁++[.tup (.int pa:: .int pb::tt)]) z (ys++[.ref da]) _ hsub' h1.2 hdrop g2 (A2.append h4 (show A2 (V ρ₁ news₁) [_] [_] from⟨h1.1,trivial⟩)) (by rw[h5];simp)
         ·rw[if_neg hb]
          rw[if_neg hb] at hvs2
          subst hvs2
          refine LCg.CompEnd.intro F'' N'' _ hall' hoff' hsrc' ?_
          exact ihh ws₃ (i+1) vs₁ vs₂ ys _ hsub' h1.2 hdrop g2 h4 h5
        |[],h=>exact h.elim
      have:=loop its ws 0 [] vs [] news₁ (fun _ h=>h) b3 rfl hvs trivial rfl
      rw[List.size_toArray]
      exact this
     ·exact q₁.elim
    ·exact q₁.elim
   ·exact q₁.elim
  ·exact q₁.elim
 ·exact q.elim
end
section
variable {c:Cx} {Γ:FT} {n:Nat}
theorem vT {a b:MSs}:eX c Γ n (.try1 a b):=by
 intro A₀ base outer fe env A E h₀ L m s news ρ H l st Q X hc g hL hE fc Fm N S lr q hx
 exfalso;revert hc;cases st<;>simp[fI]
mutual
theorem sndS (tk:TOk c.K c.T c.nm) (hΓ:GOk c Γ n):∀st:MS,eX c Γ n st
 | .asg x e=>xK tk (snd tk hΓ e).1
 | .asgG y x u s src=>vG tk (snd tk hΓ src).1
 | .asgA o f e=>vF tk (snd tk hΓ o).1 (snd tk hΓ e).1
 | .asgI o i e=>vH (snd tk hΓ o).1 (snd tk hΓ i).1 (snd tk hΓ e).1
 | .asgT xs e=>vI tk (snd tk hΓ e).1
 | .augN x op e=>vM tk (snd tk hΓ e).1
 | .augA o f op e=>vK tk (snd tk hΓ o).1 (snd tk hΓ e).1
 | .augI o i op e=>vL (snd tk hΓ o).1 (snd tk hΓ i).1 (snd tk hΓ e).1
 | .ex e=>Ay (snd tk hΓ e).1
 | .exd e=>xT (snd tk hΓ e).1
 | .ret e=>ya (snd tk hΓ e).1
 | .ite t a b=>xW (snd tk hΓ t).2 (jX tk hΓ a) (jX tk hΓ b)
 | .whl t b=>yd (snd tk hΓ t).2 (jX tk hΓ b)
 | .forR x args b=>vR tk (j9 tk hΓ args).1 (jX tk hΓ b)
 | .forE tg e b=>vQ tk (snd tk hΓ e).1 (jX tk hΓ b)
 | .brk=>xN
 | .cont=>vP
 | .del o i=>xR (snd tk hΓ o).1 (snd tk hΓ i).1
 | .rai=>x9
 | .try1 a b=>vT
theorem jX (tk:TOk c.K c.T c.nm) (hΓ:GOk c Γ n):∀st:MSs,fF c Γ n st
 | .nil=>vE
 | .cons a r=>sU (sndS tk hΓ a) (jX tk hΓ r)
end
end
theorem eQ {nm:Nat→Str} (inj:∀x y,nm x=nm y→x=y):∀{ps:List Nat} {vs:List SV} {xs:List Value} {ρ:Rh} {news:Led} {x:Nat} {v:SV},A2 (V ρ news) vs xs→aN ps vs x=some v→∃y,((ps.map nm).zip xs).lookup (nm x)=some y∧V ρ news v y
 |p::ps,u::vs,z::xs,ρ,news,x,v,h,e=>by
  unfold aN at e
  rw[List.map_cons,List.zip_cons_cons,List.lookup_cons]
  by_cases c:x=p
  ·subst c
   rw[if_pos rfl] at e;cases e
   rw[beq_self_eq_true]
   exact⟨z,rfl,h.1⟩
  ·rw[if_neg c] at e
   have:(nm x == nm p)=false:=by simpa using fun z=>c (inj _ _ z)
   rw[this]
   exact eQ inj h.2 e
 |[],_,_,_,_,_,_,_,e=>by simp[aN] at e
 |_::_,[],_,_,_,_,_,_,e=>by simp[aN] at e
 |_::_,_::_,[],_,_,_,_,h,_=>h.elim
theorem fZ {α β:Type} [BEq α] [LawfulBEq α]:∀(l:List (α×β)),(l.map (·.1)).Nodup→∀x,l.reverse.lookup x=l.lookup x
 |[],_,_=>rfl
 |(a,b)::l,h,x=>by
  rw[List.map_cons,List.nodup_cons] at h
  have ih:=fZ l h.2 x
  have app:∀(r:List (α×β)),(r++[(a,b)]).lookup x=(match r.lookup x with|some v=>some v|none=>if x == a then some b else none):=fun r=>by
   induction r with
   |nil=>simp[List.lookup_cons];cases x == a<;>rfl
   |cons y r ihr=>
    rw[List.cons_append,List.lookup_cons,List.lookup_cons]
    cases x == y.1 with
    |true=>rfl
    |false=>exact ihr
  rw[List.reverse_cons,app,ih,List.lookup_cons]
  by_cases c:(x == a)=true
  ·have e:=beq_iff_eq.mp c
   subst e
   have:l.lookup x=none:=by
    rw[List.lookup_eq_none_iff]
    intro p hp
    simp only[bne_iff_ne,ne_eq]
    exact fun e=>h.1 (e▸List.mem_map.mpr ⟨p,hp,rfl⟩)
   rw[this,c];rfl
  ·have c':(x == a)=false:=by simpa using c
   rw[c']
   cases l.lookup x<;>rfl
theorem fO {α β:Type} {f:α→β} (inj:∀x y,f x=f y→x=y):∀{l:List α},l.Nodup→(l.map f).Nodup
 |[],_=>List.nodup_nil
 |a::l,h=>by
  rw[List.nodup_cons] at h
  rw[List.map_cons,List.nodup_cons]
  refine⟨fun hm=> ?_,fO inj h.2⟩
  obtain⟨b,hb,e⟩:=List.mem_map.mp hm
  exact h.1 (inj _ _ e▸hb)
theorem eM {α β:Type}:∀{l:List α} {r:List β},l.length=r.length→(l.zip r).map (·.1)=l
 |[],[],_=>rfl
 |a::l,b::r,h=>by rw[List.zip_cons_cons,List.map_cons,eM (by simpa using h)]
 |[],_::_,h=>by simp at h
 |_::_,[],h=>by simp at h
section
variable {c:Cx} {Γ:FT} {n:Nat}
theorem fn_ok (tk:TOk c.K c.T c.nm) (hΓ:GOk c Γ n) {f:Addr} {ps:List Nat} {b:MSs} {name qual:Str} {params:Arguments} {body:List Stmt} {scope:Scope} {dV kV doc pm cdv ct oc:Value} {an od:Option Addr} {osl:Array (Option Value)}
 (ho:c.K.lookup f=some ⟨oc,od,.func (fnOf name qual params body scope dV kV doc pm an cdv ct),osl⟩) (hcd:codeIn c.K cdv qual=true)
 (hbind:∀xs:List Value,xs.length=ps.length→bindArgs (fnOf name qual params body scope dV kV doc pm an cdv ct) ⟨xs,[]⟩=pure ((ps.map c.nm).zip xs))
 (hloc:ps.all (fun x=>scope.names.lookup (c.nm x) == some .local)=true) (hnd:ps.Nodup) (hchk:c7 c scope.names b body=true)
 (hco:scope.isCoroutine=false) (hgen:scope.isGenerator=false) (hk:scope.kind= .function) (hcell:∀x∈scope.names,x.2≠.cell):bn c f (aj c.T Γ ps b) (n+1):=by
 intro A₀ base outer fe A h₀ L m s news ρ H vs xs R X fc Fm N S va q hx
 unfold aj at q
 split at q
 ·rename_i hl
  have hxl:xs.length=ps.length:=by rw[←va.len,hl]
  have hzl:(ps.map c.nm).length=xs.length:=by rw[List.length_map,hxl]
  refine code_def fc.B Fm fc.X N fc.T fc.hA fc.hf fc.hk ho hcd (by have:=fc.room;omega) (BindsTo.of_eq (hbind xs hxl)) (fun y hy=> ?_) (fun g L' h₁ FG F' N' B' X' T'=> ?_) hco hgen hk hcell
  ·have h1:y.1∈(((ps.map c.nm).zip xs).map (·.1)):=List.mem_map.mpr ⟨y,hy,rfl⟩
   rw[eM hzl] at h1
   obtain⟨z,hz,e⟩:=List.mem_map.mp h1
   have:=List.all_eq_true.mp hloc z hz
   rw[←e];exact beq_iff_eq.mp this
  ·have lr:LRd c.nm (envOf qual scope L' f cdv) L' (fun y=>((ps.map c.nm).zip xs).reverse.lookup y) ρ news (aN ps vs):=fun x v e=>by
    obtain⟨y,h1,h2⟩:=eQ tk.inj va e
    have hm:x∈ps:=by
     have:∀{ps:List Nat} {vs:List SV},aN ps vs x=some v→x∈ps:=fun {ps}=>by
      induction ps with
      |nil=>intro vs h;simp[aN] at h
      |cons p ps ih=>
       intro vs h
       cases vs with
       |nil=>simp[aN] at h
       |cons u vs=>
        unfold aN at h
        by_cases c:x=p
        ·exact c▸List.mem_cons_self ..
        ·rw[if_neg c] at h;exact List.mem_cons_of_mem _ (ih h)
     exact this e
    refine⟨y,.frame rfl ?_ ?_,h2⟩
    ·have:=List.all_eq_true.mp hloc x hm
     exact beq_iff_eq.mp this
    ·rw[fZ _ (by rw[eM hzl];exact fO tk.inj hnd)]
     exact h1
   have fc':FC c (2*n+1) A base (fe::outer) (envOf qual scope L' f cdv) (A.deeper (envOf qual scope L' f cdv)) g L':=
    ⟨B',X',T',Around.frames_deeper fc.hA,rfl,hk,fc.hh,by rw[depth_deeper];have:=fc.room;omega,by rw[units_deeper];have:=fc.un;omega⟩
   refine jX tk hΓ b (X:=X) hchk ⟨hk,rfl,rfl⟩ rfl (by passes_own) fc' F' N' S lr ?_ fun H' z m'=> ?_
   ·cases hr:aM c.T Γ b (aN ps vs) H with
    |fail=>rw[hr] at q;exact q.elim
    |exc H'=>rw[hr] at q;exact q
    |ok p H'=>
     obtain⟨fl,l'⟩:=p
     rw[hr] at q
     intro m' ρ' news' h' t fx F'' N'' S'' X'' lr'' hf
     refine leaveK_ F'' N'' fun kF kN=> ?_
     cases fl with
     |next=>
      cases fx<;>first|exact hf.elim|skip
      exact q ρ' news' h' t .none kF kN S'' X'' trivial
     |ret v=>
      cases fx<;>first|exact hf.elim|skip
      exact q ρ' news' h' t _ kF kN S'' X'' hf
     |brk=>exact q.elim
     |cont=>exact q.elim
   ·intro ρ' news' g₂ h' t ea tt ws F₂ U R' S' X''
    refine leave_onS B' F₂ R' U fun h'' RS RK U2=> ?_
    exact hx H' z ρ' news' g h'' t ea tt ws FG U2 RS S' X''
 ·exact q.elim
theorem mw {k:Str→Option NameKind} {x:Str}:∀{b:List (Str×Value)} {m:Str→Option Value},x∉b.map (·.1)→bindL k b m x=m x
 |[],_,_=>rfl
 |(n,v)::r,m,h=>by
  rw[List.map_cons,List.mem_cons,not_or] at h
  unfold bindL
  rw[mw h.2]
  split
  ·exact if_neg h.1
  ·rfl
theorem mu {k:Str→Option NameKind} {x:Str}:∀{b:List (Str×Value)} {m:Str→Option Value},x∉b.map (·.1)→bindC k b m x=m x
 |[],_,_=>rfl
 |(n,v)::r,m,h=>by
  rw[List.map_cons,List.mem_cons,not_or] at h
  unfold bindC
  rw[mu h.2]
  split
  ·rfl
  ·exact if_neg h.1
theorem oA {k:Str→Option NameKind} {x:Str} (hk:k x=some .local):∀{b:List (Str×Value)} {m:Str→Option Value} {v:Value},(b.map (·.1)).Nodup→b.lookup x=some v→bindL k b m x=some v
 |[],_,_,_,h=>by simp at h
 |(n,u)::r,m,v,hn,h=>by
  rw[List.map_cons,List.nodup_cons] at hn
  rw[List.lookup_cons] at h
  unfold bindL
  by_cases c:(x == n)=true
  ·have e:=beq_iff_eq.mp c
   subst e
   rw[c] at h;cases h
   rw[mw hn.1,if_pos hk,if_pos rfl]
  ·have c':(x == n)=false:=by simpa using c
   rw[c'] at h
   exact oA hk hn.2 h
theorem oz {k:Str→Option NameKind} {x:Str} (hk:k x≠some .local):∀{b:List (Str×Value)} {m:Str→Option Value} {v:Value},(b.map (·.1)).Nodup→b.lookup x=some v→bindC k b m x=some v
 |[],_,_,_,h=>by simp at h
 |(n,u)::r,m,v,hn,h=>by
  rw[List.map_cons,List.nodup_cons] at hn
  rw[List.lookup_cons] at h
  unfold bindC
  by_cases c:(x == n)=true
  ·have e:=beq_iff_eq.mp c
   subst e
   rw[c] at h;cases h
   rw[mu hn.1,if_neg hk,if_pos rfl]
  ·have c':(x == n)=false:=by simpa using c
   rw[c'] at h
   exact oz hk hn.2 h
theorem oJ {cm:Str→Option Value} {x:Str} {a:Addr}:∀{cs:List (Str×Addr)} {cells:List (Addr×Obj)},CellsAre cm cs cells→cs.lookup x=some a→∃o,(a,o)∈cells∧o.data= .cell (cm x)
 |_,_,.nil,h=>by simp at h
 |_,_,.cons (n:=n) hd r,h=>by
  rw[List.lookup_cons] at h
  by_cases c:(x == n)=true
  ·have e:=beq_iff_eq.mp c
   subst e
   rw[c] at h;cases h
   exact⟨_,List.mem_cons_self ..,hd⟩
  ·have c':(x == n)=false:=by simpa using c
   rw[c'] at h
   obtain⟨o,a,b⟩:=oJ r h
   exact⟨o,List.mem_cons_of_mem _ a,b⟩
theorem gX {x:Str} {a:Addr} {n0:Nat}:∀{names:dz} {n:Nat} {acc:List (Str×Addr)},(∀p∈acc,n0≤p.2)→n0≤n→(cellsFrom n names acc).lookup x=some a→n0≤a
 |[],n,acc,ha,_,h=>by
  unfold cellsFrom at h
  have:∀{l:List (Str×Addr)},(∀p∈l,n0≤p.2)→l.lookup x=some a→n0≤a:=fun {l}=>by
   induction l with
   |nil=>intro _ h;simp at h
   |cons p l ih=>
    intro hl h
    rw[List.lookup_cons] at h
    cases c:x == p.1 with
    |true=>rw[c] at h;cases h;exact hl _ (List.mem_cons_self ..)
    |false=>rw[c] at h;exact ih (fun q hq=>hl q (List.mem_cons_of_mem _ hq)) h
  exact this ha h
 |(y,k)::r,n,acc,ha,hn,h=>by
  unfold cellsFrom at h
  split at h
  ·exact gX (n:=n+1) (fun p hp=>by
    rcases List.mem_cons.mp hp with rfl|hp
    ·exact hn
    ·exact ha p hp) (Nat.le_succ_of_le hn) h
  ·exact gX ha hn h
def noX {α:Type}:R α→R α
 | .exc _=> .fail
 |r=>r
theorem zQ (tk:TOk c.K c.T c.nm) (hΓ:GOk c Γ n) {f:Addr} {ps:List Nat} {b:MSs} {name qual:Str} {params:Arguments} {body:List Stmt} {scope:Scope} {dV kV doc pm cdv ct oc:Value} {an od:Option Addr} {osl:Array (Option Value)}
 (ho:c.K.lookup f=some ⟨oc,od,.func (fnOf name qual params body scope dV kV doc pm an cdv ct),osl⟩) (hcd:codeIn c.K cdv qual=true)
 (hbind:∀xs:List Value,xs.length=ps.length→bindArgs (fnOf name qual params body scope dV kV doc pm an cdv ct) ⟨xs,[]⟩=pure ((ps.map c.nm).zip xs))
 (hloc:ps.all (fun x=>scope.names.lookup (c.nm x) == some .local || scope.names.lookup (c.nm x) == some .cell)=true) (hnd:ps.Nodup) (hchk:c7 c scope.names b body=true)
 (hco:scope.isCoroutine=false) (hgen:scope.isGenerator=false) (hk:scope.kind= .function) (hcell:((cellsFrom 0 scope.names []).map (·.1)).Nodup):bn c f (fun vs H=>noX (aj c.T Γ ps b vs H)) (n+1):=by
 intro A₀ base outer fe A h₀ L m s news ρ H vs xs R X fc Fm N S va q hx
 simp only[aj] at q
 split at q
 ·rename_i hl
  have hxl:xs.length=ps.length:=by rw[←va.len,hl]
  have hzl:(ps.map c.nm).length=xs.length:=by rw[List.length_map,hxl]
  have hkd:(((ps.map c.nm).zip xs).all fun y=>scope.names.lookup y.1 == some .local || scope.names.lookup y.1 == some .cell)=true:=by
   rw[List.all_eq_true]
   intro y hy
   have h1:y.1∈(((ps.map c.nm).zip xs).map (·.1)):=List.mem_map.mpr ⟨y,hy,rfl⟩
   rw[eM hzl] at h1
   obtain⟨z,hz,e⟩:=List.mem_map.mp h1
   rw[←e]
   exact List.all_eq_true.mp hloc z hz
  refine code_defC fc.B Fm fc.X N fc.T fc.hA fc.hf fc.hk ho hcd (by have:=fc.room;omega) (BindsTo.of_eq (hbind xs hxl)) hkd hcell (fun g L' h₁ tk₁ cells FG F' N' Y' B' X' T' hlt=> ?_) hco hgen hk
  ·have km:∀p∈news,p∈cells++news:=fun _ h=>List.mem_append_right _ h
   have Xm:Ext ρ news ρ (cells++news):=(Ext.refl ρ news).more km
   have lr:LRd c.nm (envOfC qual scope L' f cdv) L' (bindL (envOfC qual scope L' f cdv).kindOf ((ps.map c.nm).zip xs) fun _=>none) ρ (cells++news) (aN ps vs):=fun x v e=>by
    obtain⟨y,h1,h2⟩:=eQ tk.inj va e
    have hm:x∈ps:=by
     have:∀{ps:List Nat} {vs:List SV},aN ps vs x=some v→x∈ps:=fun {ps}=>by
      induction ps with
      |nil=>intro vs h;simp[aN] at h
      |cons p ps ih=>
       intro vs h
       cases vs with
       |nil=>simp[aN] at h
       |cons u vs=>
        unfold aN at h
        by_cases c:x=p
        ·exact c▸List.mem_cons_self ..
        ·rw[if_neg c] at h;exact List.mem_cons_of_mem _ (ih h)
     exact this e
    have hnd':(((ps.map c.nm).zip xs).map (·.1)).Nodup:=by rw[eM hzl];exact fO tk.inj hnd
    refine⟨y,?_,V.ext Xm.toExt0 _ _ h2⟩
    have hkx:=List.all_eq_true.mp hloc x hm
    rcases Bool.or_eq_true_iff.mp hkx with hkx|hkx
    ·have hkx:(envOfC qual scope L' f cdv).kindOf (c.nm x)=some .local:=beq_iff_eq.mp hkx
     exact .frame rfl hkx (oA hkx hnd' h1)
    ·have hkx:(envOfC qual scope L' f cdv).kindOf (c.nm x)=some .cell:=beq_iff_eq.mp hkx
     have hs:((cellsFrom (L'+1) scope.names []).lookup (c.nm x)).isSome=true:=cellsFrom_some _ _ _ (.inl hkx)
     obtain⟨a,ha⟩:=Option.isSome_iff_exists.mp hs
     obtain⟨o,o1,o2⟩:=oJ Y' ha
     have hab:L'+1≤a:=gX (acc:=[]) (fun _ h=>nomatch h) (Nat.le_refl _) ha
     rw[oz (by rw[hkx];decide) hnd' h1] at o2
     refine .cell a o (.inl hkx) ha (List.mem_append_left _ o1) (fun j r hr e=> ?_) o2
     have hjl:j<H.length:=by rw[←S.len];rw[List.getElem?_eq_some_iff] at hr;exact hr.1
     obtain⟨z,hz,_⟩:=fP (S.ob j _ r (List.getElem?_eq_getElem hjl) hr)
     have:=hlt _ hz
     have:r.2<L':=this
     rw[e] at this
     exact absurd (Nat.lt_of_lt_of_le this (Nat.le_of_succ_le hab)) (Nat.lt_irrefl _)
   have fc':FC c (2*n+1) A base (fe::outer) (envOfC qual scope L' f cdv) (A.deeper (envOfC qual scope L' f cdv)) g L':=
    ⟨B',X',T',Around.frames_deeper fc.hA,rfl,hk,fc.hh,by rw[depth_deeper];have:=fc.room;omega,by rw[units_deeper];have:=fc.un;omega⟩
   refine jX tk hΓ b (X:=fun _=>False) hchk ⟨hk,rfl,rfl⟩ rfl (by passes_own) fc' F' N' (S.more km) lr ?_ fun H' z m'=> ?_
   ·cases hr:aM c.T Γ b (aN ps vs) H with
    |fail=>rw[hr] at q;exact q.elim
    |exc H'=>rw[hr] at q;exact q.elim
    |ok p H'=>
     obtain⟨fl,l'⟩:=p
     rw[hr] at q
     intro m' ρ' news' h' t fx F'' N'' S'' X'' lr'' hf
     refine leaveK_ F'' N'' fun kF kN=> ?_
     cases fl with
     |next=>
      cases fx<;>first|exact hf.elim|skip
      exact q ρ' news' h' t .none kF kN S'' (Xm.trans X'') trivial
     |ret v=>
      cases fx<;>first|exact hf.elim|skip
      exact q ρ' news' h' t _ kF kN S'' (Xm.trans X'') hf
     |brk=>exact q.elim
     |cont=>exact q.elim
   ·exact z.elim
 ·exact q.elim
end
def jP (i:Int):Bool:=decide (-8≤i) && decide (i≤8)
theorem tO:Str.empty.length=0:=rfl
def i9 (v:SV):Bool:=match v with
 | .int i=>jP i
 |_=>false
section
variable (T:Tb) (Γ:FT)
noncomputable def pH (ps:List Nat) (t a b:ME) (vs:List SV) (H:Hp):R SV:=
 if ps.length=vs.length then(evC T Γ t (aN ps vs) H).bind fun k H₁=>if k then(evE T Γ a (aN ps vs) H₁).bind fun v H₂=>if i9 v then(evE T Γ b (aN ps vs) H₂).bind fun u H₃=>if i9 u then .exc H₃ else .fail else .fail else .ok .none H₁ else .fail
end
theorem lZ {i:Int} (h:jP i=true):(Str.length (toString i:String))≤4∧i.natAbs.log2<1920:=by
 unfold jP at h
 simp only[Bool.and_eq_true,decide_eq_true_eq] at h
 have:∀k:Fin 17,Str.length (Str.ofString (toString ((k.1:Int) - 8):String))≤4∧((k.1:Int) - 8).natAbs.log2<1920:=by decide+kernel
 have:=this ⟨(i+8).toNat,by omega⟩
 simp only at this
 have e:(((i+8).toNat:Nat):Int) - 8=i:=by omega
 rw[e] at this
 exact this
theorem oK {v:SV} (h:i9 v=true):∃i,v= .int i∧jP i=true:=by
 cases v<;>first|exact⟨_,rfl,h⟩|cases h
section
variable {c:Cx} {Γ:FT} {n:Nat}
theorem s9 (tk:TOk c.K c.T c.nm) (hΓ:GOk c Γ n) {f:Addr} {ps:List Nat} {t a b:ME} {name qual:Str} {params:Arguments} {scope:Scope} {dV kV doc pm cdv ct oc:Value} {an od:Option Addr} {osl:Array (Option Value)}
 {x ax bx:Expr} {s1 s2 xn:Str} {k1 k2:Nat} {p1 p2 p3 p4 p5 p6 p7 p8 p9:Pos} {C:Addr} {B newId initId:String} {bm:List Value}
 (ho:c.K.lookup f=some ⟨oc,od,.func (fnOf name qual params [.If x [.Raise (some (.Call (.Name xn p1) [.JoinedStr [.Constant (.str s1) k1 p2,.FormattedValue ax (-1) none p3,.Constant (.str s2) k2 p4,.FormattedValue bx (-1) none p5] p6] [] p7)) none p8] [] p9] scope dV kV doc pm an cdv ct),osl⟩)
 (hcd:codeIn c.K cdv qual=true)
 (hbind:∀(bd:List Stmt) (xs:List Value),xs.length=ps.length→bindArgs (fnOf name qual params bd scope dV kV doc pm an cdv ct) ⟨xs,[]⟩=pure ((ps.map c.nm).zip xs))
 (hloc:ps.all (fun x=>scope.names.lookup (c.nm x) == some .local)=true) (hnd:ps.Nodup) (h1:av c scope.names t x=true) (h2:av c scope.names a ax=true) (h3:av c scope.names b bx=true)
 (hz:s1.length+s2.length≤1000) (hxn:dq scope.names xn=true) (hxc:nsIn c.K mainGlobals xn=some (some (.ref C))) (hex:excIn c.K C bm newId=true) (FB:ExcBaseFacts B newId initId bm) (hC:c.xc= .ref C)
 (hco:scope.isCoroutine=false) (hgen:scope.isGenerator=false) (hk:scope.kind= .function) (hcell:∀x∈scope.names,x.2≠.cell):bn c f (pH c.T Γ ps t a b) (n+1):=by
 intro A₀ base outer fe A h₀ L m s news ρ H vs xs R X fc Fm N S va q hx
 unfold pH at q
 split at q
 ·rename_i hl
  have hxl:xs.length=ps.length:=by rw[←va.len,hl]
  have hzl:(ps.map c.nm).length=xs.length:=by rw[List.length_map,hxl]
  refine code_def fc.B Fm fc.X N fc.T fc.hA fc.hf fc.hk ho hcd (by have:=fc.room;omega) (BindsTo.of_eq (hbind _ xs hxl)) (fun y hy=> ?_) (fun g L' h₁ FG F' N' B' X' T'=> ?_) hco hgen hk hcell
  ·have h1:y.1∈(((ps.map c.nm).zip xs).map (·.1)):=List.mem_map.mpr ⟨y,hy,rfl⟩
   rw[eM hzl] at h1
   obtain⟨z,hz,e⟩:=List.mem_map.mp h1
   have:=List.all_eq_true.mp hloc z hz
   rw[←e];exact beq_iff_eq.mp this
  ·have lr:LRd c.nm (envOf qual scope L' f cdv) L' (fun y=>((ps.map c.nm).zip xs).reverse.lookup y) ρ news (aN ps vs):=fun x v e=>by
    obtain⟨y,h1,h2⟩:=eQ tk.inj va e
    have hm:x∈ps:=by
     have:∀{ps:List Nat} {vs:List SV},aN ps vs x=some v→x∈ps:=fun {ps}=>by
      induction ps with
      |nil=>intro vs h;simp[aN] at h
      |cons p ps ih=>
       intro vs h
       cases vs with
       |nil=>simp[aN] at h
       |cons u vs=>
        unfold aN at h
        by_cases c:x=p
        ·exact c▸List.mem_cons_self ..
        ·rw[if_neg c] at h;exact List.mem_cons_of_mem _ (ih h)
     exact this e
    refine⟨y,.frame rfl ?_ ?_,h2⟩
    ·have:=List.all_eq_true.mp hloc x hm
     exact beq_iff_eq.mp this
    ·rw[fZ _ (by rw[eM hzl];exact fO tk.inj hnd)]
     exact h1
   have fc':FC c (2*n+1) A base (fe::outer) (envOf qual scope L' f cdv) (A.deeper (envOf qual scope L' f cdv)) g L':=
    ⟨B',X',T',Around.frames_deeper fc.hA,rfl,hk,fc.hh,by rw[depth_deeper];have:=fc.room;omega,by rw[units_deeper];have:=fc.un;omega⟩
   have G:fw (envOf qual scope L' f cdv):=⟨hk,rfl,rfl⟩
   have hx':∀H',X H'→∀m',XE c base (envOf qual scope L' f cdv::fe::outer) g L' m' ρ news (fun e s'=>wpAny (model c.prog c.w) (A.deeper (envOf qual scope L' f cdv)) (leaving (envOf qual scope L' f cdv) e) (fun _ s''=>R (.error e) s'') (fun e' s''=>R (.error e') s'') s') {s with heap:=h₁,toks:=s.toks+((ps.map c.nm).zip xs).length} H':=fun H' z m'=>by
    intro ρ' news' g₂ h' t ea tt ws F₂ U R' S' X''
    refine leave_onS B' F₂ R' U fun h'' RS RK U2=> ?_
    exact hx H' z ρ' news' g h'' t ea tt ws FG U2 RS S' X''
   refine wpAny_execs_cons (wpAny_If ((snd tk hΓ t).2 h1 G fc' F' N' S lr (X:=X) ?_ fun H' z=>hx' H' z _))
   cases hr:evC c.T Γ t (aN ps vs) H with
   |fail=>rw[hr] at q;exact q.elim
   |exc H'=>rw[hr] at q;exact q
   |ok k H₁=>
    rw[hr] at q
    intro ρ₁ news₁ h₂ t₂ y F₁ N₁ S₁ X₁ vy
    cases vy
    cases k with
    |false=>
     rw[if_neg (by simp)]
     refine wpAny_execs_nil (wpAny_execs_nil (leaveK_ F₁ N₁ fun kF kN=> ?_))
     exact q ρ₁ news₁ h₂ t₂ .none kF kN S₁ X₁ trivial
    |true=>
     rw[if_pos rfl]
     have q:PSc c h₀ L m V ρ news ((evE c.T Γ a (aN ps vs) H₁).bind fun v H₂=>if i9 v then(evE c.T Γ b (aN ps vs) H₂).bind fun u H₃=>if i9 u then .exc H₃ else .fail else .fail) (fun v s'=>R (.ok (.ret v)) s') X s:=q
     refine wpAny_execs_cons (Raise_own F₁ (topRead_of T').g (own_of_in X' (topRead_of T') hxc hex) FB fc'.hh ?_ rfl rfl hk (by have:=hxn;unfold dq at this;rw[Bool.and_eq_true] at this;exact beq_iff_eq.mp this.1) (by have:=hxn;unfold dq gK at this;simp only[Bool.and_eq_true,Bool.not_eq_true'] at this;exact this.2.1.1.1))
     refine wpAny_items_cons (JoinedStr_many (joinParts_cons (wpAny_Constant_str ?_))) rfl
     refine⟨by rw[strLen_append,tO,sizeLine_eq];omega,joinParts_cons (FormattedValue_plain ((snd tk hΓ a).1 h2 G fc' F₁ N₁ S₁ (lr.ext X₁) (X:=X) ?_ fun H' z=>(hx' H' z _).ext X₁))⟩
     cases hr2:evE c.T Γ a (aN ps vs) H₁ with
     |fail=>rw[hr2] at q;exact q.elim
     |exc H'=>rw[hr2] at q;exact q
     |ok v H₂=>
      rw[hr2] at q
      intro ρ₂ news₂ h₃ t₃ y F₂ N₂ S₂ X₂ vy
      have q3:PSc c h₀ L m V ρ news (if i9 v then(evE c.T Γ b (aN ps vs) H₂).bind fun u H₃=>if i9 u then .exc H₃ else .fail else .fail) (fun v s'=>R (.ok (.ret v)) s') X s:=q
      clear q
      by_cases hcv:i9 v=true
      ·rw[if_pos hcv] at q3
       obtain⟨i,rfl,hi⟩:=oK hcv
       obtain⟨ti,rfl⟩:=vy.int_inv
       obtain⟨i1,i2⟩:=lZ hi
       refine formatField_int_small i2 ⟨?_,joinParts_cons (wpAny_Constant_str ⟨?_,joinParts_cons (FormattedValue_plain ((snd tk hΓ b).1 h3 G fc' F₂ N₂ S₂ ((lr.ext X₁).ext X₂) (X:=X) ?_ fun H' z=>((hx' H' z _).ext X₁).ext X₂))⟩)⟩
       ·rw[strLen_append,strLen_append,tO,sizeLine_eq];have:Str.length (toString i:String)≤4:=i1;omega
       ·rw[strLen_append,strLen_append,strLen_append,tO,sizeLine_eq];have:Str.length (toString i:String)≤4:=i1;omega
       cases hr3:evE c.T Γ b (aN ps vs) H₂ with
       |fail=>rw[hr3] at q3;exact q3.elim
       |exc H'=>rw[hr3] at q3;exact q3
       |ok u H₃=>
        rw[hr3] at q3
        intro ρ₃ news₃ h₄ t₄ y F₃ N₃ S₃ X₃ vy
        have q:PSc c h₀ L m V ρ news (if i9 u then .exc H₃ else .fail) (fun v s'=>R (.ok (.ret v)) s') X s:=q3
        clear q3
        by_cases hcu:i9 u=true
        ·rw[if_pos hcu] at q
         obtain⟨j,rfl,hj⟩:=oK hcu
         obtain⟨tj,rfl⟩:=vy.int_inv
         obtain⟨j1,j2⟩:=lZ hj
         refine formatField_int_small j2 ⟨?_,joinParts_nil (wpAny_items_nil ⟨?_,F₃.keep,fun h' e hm=> ?_⟩) ?_⟩
         ·rw[strLen_append,strLen_append,strLen_append,strLen_append,tO,sizeLine_eq];have:Str.length (toString i:String)≤4:=i1;have:Str.length (toString j:String)≤4:=j1;omega
         ·simp[sizeLine_eq]
         ·refine leave_raiseS B' hm F₃ N₃ (fun h'' tt RS RK U=> ?_) hk
          rw[←hC] at RS
          exact hx H₃ q ρ₃ news₃ g h'' _ e tt _ FG U RS S₃ ((X₁.trans X₂).trans X₃)
         ·rw[strLen_append,strLen_append,strLen_append,strLen_append,tO,sizeLine_eq];have:Str.length (toString i:String)≤4:=i1;have:Str.length (toString j:String)≤4:=j1;omega
        ·rw[if_neg hcu] at q;exact q.elim
      ·rw[if_neg hcv] at q3;exact q3.elim
 ·exact q.elim
end
section
variable (T:Tb) (Γ:FT)
noncomputable def pG (ps:List Nat) (pre:MSs) (tr:ME) (rv:Nat) (rt:ME) (vs:List SV) (H:Hp):R SV:=
 if ps.length=vs.length then(aM T Γ pre (aN ps vs) H).bind fun q H₁=>(match q with
  |(.next,l)=>(match evE T Γ tr l H₁ with
   | .exc H₂=>evE T Γ rt (upd l rv (.bool true)) H₂
   |_=> .fail)
  |_=> .fail) else .fail
end
section
variable {c:Cx} {Γ:FT} {n:Nat}
theorem uS (tk:TOk c.K c.T c.nm) (hΓ:GOk c Γ n) {A₀:Around} {base:Heap} {outer:List Env} {fe env:Env} {A:Around} {E:Value→Shared→Prop} {h₀:Heap} {L:Addr} {rest:List Stmt} {Q:Flow→Shared→Prop}
 (g:fw env) (hL:env.locals=L) (hE:PassesOwn (model c.prog c.w) A env E) (fc:FC c (2*n+1) A₀ base outer fe A h₀ L):
 ∀(st:MSs) (xs:List Stmt) {m:Str→Option Value} {s:Shared} {news:Led} {ρ:Rh} {H:Hp} {l:Loc},c7 c env.scope.names st xs=true→Fr h₀ L s.heap m→News h₀ L s.heap news→St c.prog c.w c.nm ρ H news→LRd c.nm env L m ρ news l→
  PF c env h₀ L ρ news (aM c.T Γ st l H) (fun f s'=>f= .next∧wpAny (model c.prog c.w) A (execs rest env) Q E s') (fun _=>False) s→wpAny (model c.prog c.w) A (execs (xs++rest) env) Q E s
 | .nil,[],m,s,news,ρ,H,l,_,Fm,N,S,lr,q=>by
   simp only[aM] at q
   exact(PF.here (f:= .next) (tk:=s.toks) Fm N S lr q trivial).2
 | .cons a r,x::xs,m,s,news,ρ,H,l,hc,Fm,N,S,lr,q=>by
   simp only[c7,Bool.and_eq_true] at hc
   simp only[aM] at q
   refine wpAny_execs_cons (sndS tk hΓ a hc.1 g hL hE fc Fm N S lr (X:=fun _=>False) ?_ fun _ z=>z.elim)
   cases hr:exS c.T Γ a l H with
   |fail=>rw[hr] at q;exact q.elim
   |exc H'=>rw[hr] at q;exact q
   |ok p H₁=>
    obtain⟨fl,l'⟩:=p
    rw[hr] at q
    intro m' ρ' news' h' t f F' N' S' X' lr' hf
    have q':=PF.up (h₁:=h') (tk₁:=t) (show PF c env h₀ L ρ news _ (fun f s'=>f= .next∧wpAny (model c.prog c.w) A (execs rest env) Q E s') (fun _=>False) s from q) X'
    cases fl with
    |next=>
     cases f<;>first|exact hf.elim|skip
     exact uS tk hΓ g hL hE fc r xs hc.2 F' N' S' lr' q'
    |brk=>
     cases f<;>first|exact hf.elim|skip
     have:=(PF.here (s:={s with heap:=h',toks:=t}) (tk:=t) F' N' S' lr' q' hf).1
     cases this
    |cont=>
     cases f<;>first|exact hf.elim|skip
     have:=(PF.here (s:={s with heap:=h',toks:=t}) (tk:=t) F' N' S' lr' q' hf).1
     cases this
    |ret v=>
     cases f<;>first|exact hf.elim|skip
     have:=(PF.here (s:={s with heap:=h',toks:=t}) (tk:=t) F' N' S' lr' q' hf).1
     cases this
 | .nil,_::_,_,_,_,_,_,_,hc,_,_,_,_,_=>absurd hc (by simp[c7])
 | .cons _ _,[],_,_,_,_,_,_,hc,_,_,_,_,_=>absurd hc (by simp[c7])
theorem xm (tk:TOk c.K c.T c.nm) (hΓ:GOk c Γ n) {f:Addr} {ps:List Nat} {pre:MSs} {tr rt:ME} {rv:Nat} {name qual:Str} {params:Arguments} {xs:List Stmt} {tx rx:Expr} {scope:Scope} {dV kV doc pm cdv ct oc:Value} {an od:Option Addr} {osl:Array (Option Value)}
 {xn rid:Str} {k1:Nat} {p1 p2 p3 p4 p5 p6 p7 p8:Pos} {C:Addr}
 (ho:c.K.lookup f=some ⟨oc,od,.func (fnOf name qual params (xs++[.Try [.Expr tx p1] [.ExceptHandler (some (.Name xn p2)) none [.Assign [.Name rid p3] (.Constant (.bool true) k1 p4) p5] p6] [] [] p7,.Return (some rx) p8]) scope dV kV doc pm an cdv ct),osl⟩)
 (hcd:codeIn c.K cdv qual=true)
 (hbind:∀(bd:List Stmt) (xs:List Value),xs.length=ps.length→bindArgs (fnOf name qual params bd scope dV kV doc pm an cdv ct) ⟨xs,[]⟩=pure ((ps.map c.nm).zip xs))
 (hloc:ps.all (fun x=>scope.names.lookup (c.nm x) == some .local)=true) (hnd:ps.Nodup) (hchk:c7 c scope.names pre xs=true) (htr:av c scope.names tr tx=true) (hnc:ez tx=true) (hrt:av c scope.names rt rx=true)
 (hrv:(rid == c.nm rv && eu scope.names rid)=true) (hxn:dq scope.names xn=true) (hxc:nsIn c.K mainGlobals xn=some (some (.ref C))) (hC:c.xc= .ref C) (hkt:ktsIn c.K C "BaseException"=true)
 (hco:scope.isCoroutine=false) (hgen:scope.isGenerator=false) (hk:scope.kind= .function) (hcell:∀x∈scope.names,x.2≠.cell)
 {A₀ A:Around} {base h₀:Heap} {L a:Addr} {cn:Str} {cs:Scope} {ccd:Value} {m:Str→Option Value} {s:Shared} {news:Led} {ρ:Rh} {H:Hp} {vs:List SV} {ws:List Value} {R:Result→Shared→Prop}
 (fc:FC c (2*(n+1)) A₀ base [] (envOf cn cs L a ccd) A h₀ L) (XB:c.K.In base) (TB:Top c.p c.loose c.mean c.mg c.mb base) (Fm:Fr h₀ L s.heap m) (N:News h₀ L s.heap news) (S:St c.prog c.w c.nm ρ H news) (va:A2 (V ρ news) vs ws)
 (q:PSc c h₀ L m V ρ news (pG c.T Γ ps pre tr rv rt vs H) (fun v s'=>R (.ok (.ret v)) s') (fun _=>False) s):
 codeAny (model c.prog c.w) A (.call (.ref f) ⟨ws,[]⟩) R s:=by
 unfold pG at q
 split at q
 ·rename_i hl
  have hxl:ws.length=ps.length:=by rw[←va.len,hl]
  have hzl:(ps.map c.nm).length=ws.length:=by rw[List.length_map,hxl]
  refine code_defS0 fc.B Fm fc.X N fc.T fc.hA ho hcd (by have:=fc.room;omega) (BindsTo.of_eq (hbind _ ws hxl)) (fun y hy=> ?_) (fun g L' h₁ FG F' N' B' X' T' D'=> ?_) fc.hk hco hgen hk hcell
  ·have h1:y.1∈(((ps.map c.nm).zip ws).map (·.1)):=List.mem_map.mpr ⟨y,hy,rfl⟩
   rw[eM hzl] at h1
   obtain⟨z,hz,e⟩:=List.mem_map.mp h1
   have:=List.all_eq_true.mp hloc z hz
   rw[←e];exact beq_iff_eq.mp this
  ·have lr:LRd c.nm (envOf qual scope L' f cdv) L' (fun y=>((ps.map c.nm).zip ws).reverse.lookup y) ρ news (aN ps vs):=fun x v e=>by
    obtain⟨y,h1,h2⟩:=eQ tk.inj va e
    have hm:x∈ps:=by
     have:∀{ps:List Nat} {vs:List SV},aN ps vs x=some v→x∈ps:=fun {ps}=>by
      induction ps with
      |nil=>intro vs h;simp[aN] at h
      |cons p ps ih=>
       intro vs h
       cases vs with
       |nil=>simp[aN] at h
       |cons u vs=>
        unfold aN at h
        by_cases c:x=p
        ·exact c▸List.mem_cons_self ..
        ·rw[if_neg c] at h;exact List.mem_cons_of_mem _ (ih h)
     exact this e
    refine⟨y,.frame rfl ?_ ?_,h2⟩
    ·have:=List.all_eq_true.mp hloc x hm
     exact beq_iff_eq.mp this
    ·rw[fZ _ (by rw[eM hzl];exact fO tk.inj hnd)]
     exact h1
   have fc':FC c (2*n+1) A base [envOf cn cs L a ccd] (envOf qual scope L' f cdv) (A.deeper (envOf qual scope L' f cdv)) g L':=
    ⟨B',X',T',Around.frames_deeper fc.hA,rfl,hk,fc.hh,by rw[depth_deeper];have:=fc.room;omega,by rw[units_deeper];have:=fc.un;omega⟩
   have G:fw (envOf qual scope L' f cdv):=⟨hk,rfl,rfl⟩
   refine uS tk hΓ G rfl (by passes_own) fc' pre xs hchk F' N' S lr ?_
   cases hr:aM c.T Γ pre (aN ps vs) H with
   |fail=>rw[hr] at q;exact q.elim
   |exc H'=>rw[hr] at q;exact q
   |ok p H₁=>
    obtain⟨fl,l⟩:=p
    rw[hr] at q
    intro m₁ ρ₁ news₁ h₂ t₂ fx F₁ N₁ S₁ X₁ lr₁ hf
    cases fl<;>first|exact q.elim|skip
    cases fx<;>first|exact hf.elim|skip
    refine⟨rfl,?_⟩
    cases hr2:evE c.T Γ tr l H₁ with
    |fail=>simp only[Mine.R.bind,hr2] at q;exact q.elim
    |ok v H₂=>simp only[Mine.R.bind,hr2] at q;exact q.elim
    |exc H₂=>
     simp only[Mine.R.bind,hr2] at q
     have hxn':=hxn
     unfold dq gK at hxn'
     simp only[Bool.and_eq_true,Bool.not_eq_true'] at hxn'
     rw[Bool.and_eq_true] at hrv
     have hrid:=beq_iff_eq.mp hrv.1
     have hrl:=hrv.2
     clear hrv
     refine wpAny_execs_cons (wpAny_Try_except (wpAny_execs_cons (wpAny_Expr_any ((snd tk hΓ tr).1 htr G fc' F₁ N₁ S₁ lr₁ (X:=fun H'=>H'=H₂) (by rw[hr2];exact rfl) fun H' e=> ?_) (by unfold interactive;rw[G.kind];rfl) (eo hnc _ _ _))))
     subst e
     intro ρ₂ news₂ g₂ h₃ t₃ ea tt ws₂ F₂ U RS S₂ X₂
     rw[hC] at RS
     refine caught_SO0 RS F₂ B' U XB TB D' KtsTurn.refl hxc hkt (fun h₄ g₄ nn T₄ F₄ N₄ _ N₅ B₅ K₅ P₅ _=> ?_) hk (beq_iff_eq.mp hxn'.1) hxn'.2.1.1.1
     have lr₂:=lr₁.ext X₂
     refine wpAny_execs_cons (wpAny_Assign_Name (wpAny_Constant_bool (eV (L:=L') G rfl hrl F₄ N₅ fun h₅ F₅ N₆=>wpAny_execs_nil ?_)) (eo rfl _ _ _))
     have lr₃:LRd c.nm (envOf qual scope L' f cdv) L' (fun y=>if y=rid then some (.bool true) else m₁ y) ρ₂ news₂ (upd l rv (.bool true)):=by
      rw[hrid]
      exact lr₂.put tk.inj rfl (by rw[←hrid];exact hrl) rfl
     refine wpAny_execs_cons (wpAny_Return_some ?_)
     have fc'':FC c (2*n+1) A base [envOf cn cs L a ccd] (envOf qual scope L' f cdv) (A.deeper (envOf qual scope L' f cdv)) g₄ L':=
      ⟨B₅,K₅,P₅,fc'.hA,rfl,hk,fc'.hh,fc'.room,fc'.un⟩
     refine(snd tk hΓ rt).1 hrt G fc'' F₅ N₆ S₂ lr₃ (X:=fun _=>False) ?_ fun _ z=>z.elim
     cases hr3:evE c.T Γ rt (upd l rv (.bool true)) H' with
     |fail=>rw[hr3] at q;exact q.elim
     |exc H₃=>rw[hr3] at q;exact q
     |ok v H₃=>
      rw[hr3] at q
      intro ρ₃ news₃ h₆ t₆ y F₆ N₇ S₃ X₃ vy
      refine leaveS0_ F₆ N₇ T₄ fun kF kN=> ?_
      exact q ρ₃ news₃ h₆ t₆ y kF kN S₃ ((X₁.trans X₂).trans X₃) vy
 ·exact q.elim
end
def nmT:List Str:=[⟨#[108,101,110]⟩,⟨#[115,111,114,116,101,100]⟩,⟨#[98,121,116,101,115]⟩,⟨#[109,105,110]⟩,⟨#[115,117,109]⟩,⟨#[97,112,112,101,110,100]⟩,⟨#[105,110,115,101,114,116]⟩,⟨#[103,101,116]⟩,⟨#[110]⟩,⟨#[77,65,88,95,51,50]⟩,⟨#[112,117,116,95,102,105,120,101,100,51,50]⟩,⟨#[77,65,88,95,54,52]⟩,⟨#[100,97,116,97]⟩,⟨#[97,116]⟩,⟨#[114,101,97,100,95,102,105,120,101,100,51,50]⟩,⟨#[115,101,113]⟩,⟨#[107,105,110,100]⟩,⟨#[75,73,78,68,95,86,65,76,85,69]⟩,⟨#[75,73,78,68,95,68,69,76,69,84,69]⟩,⟨#[77,65,88,95,83,69,81]⟩,⟨#[117,115,101,114]⟩,⟨#[112,97,99,107,95,116,97,103]⟩,⟨#[112,117,116,95,102,105,120,101,100,54,52]⟩,⟨#[105,107]⟩,⟨#[116,97,103]⟩,⟨#[116,97,103,95,111,102]⟩,⟨#[117,115,101,114,95,111,102]⟩,⟨#[84,65,71,95,76,69,78,71,84,72]⟩,⟨#[114,101,97,100,95,102,105,120,101,100,54,52]⟩,⟨#[115,101,108,102]⟩,⟨#[97]⟩,⟨#[98]⟩,⟨#[66,121,116,101,115,79,114,100,101,114]⟩,⟨#[117,115,101,114,95,111,114,100,101,114]⟩,⟨#[116,97,103,95,97]⟩,⟨#[116,97,103,95,98]⟩,⟨#[99]⟩,⟨#[99,111,109,112,97,114,101]⟩,⟨#[101,120,112,97,110,100,95,102,97,99,116,111,114]⟩,⟨#[103,114,97,110,100,112,97,114,101,110,116,95,102,97,99,116,111,114]⟩,⟨#[109,97,120,95,109,101,109,95,108,101,118,101,108]⟩,⟨#[108,101,118,101,108,95,102,97,99,116,111,114]⟩,⟨#[98,97,115,101,95,98,121,116,101,115]⟩,⟨#[108,48,95,115,116,111,112]⟩,⟨#[108,48,95,116,114,105,103,103,101,114]⟩,⟨#[110,117,109,95,108,101,118,101,108,115]⟩,⟨#[109,97,120,95,102,105,108,101,95,115,105,122,101]⟩,⟨#[102,105,108,116,101,114,95,98,97,115,101,95,108,103]⟩,⟨#[102,105,108,116,101,114,95,98,105,116,115]⟩,⟨#[114,101,115,116,97,114,116,95,105,110,116,101,114,118,97,108]⟩,⟨#[98,108,111,99,107,95,115,105,122,101]⟩,⟨#[104,101,105,103,104,116,115]⟩,⟨#[109,97,120,95,104,101,105,103,104,116]⟩,⟨#[119,114,105,116,101,95,98,117,102,102,101,114]⟩,⟨#[112,97,114,97,110,111,105,100]⟩,⟨#[99,114,101,97,116,101,95,109,105,115,115,105,110,103]⟩,⟨#[115,121,110,99,95,119,114,105,116,101,115]⟩,⟨#[108,111,103,95,98,108,111,99,107]⟩,⟨#[67,72,69,67,75,95,67,82,67]⟩,⟨#[99,104,101,99,107]⟩,⟨#[115,109,97,108,108,101,115,116,95,115,110,97,112,115,104,111,116]⟩,⟨#[115,116,111,112]⟩,⟨#[110,101,119,101,114]⟩,⟨#[99,117,114,114,101,110,116]⟩,⟨#[115,109,97,108,108,101,115,116]⟩,⟨#[105,107,101,121]⟩,⟨#[111,99,116,101,116,115]⟩,⟨#[100,114,111,112]⟩,⟨#[99,117,116]⟩,⟨#[98,97,115,101,95,108,101,118,101,108,95,102,111,114]⟩,⟨#[111,112,116,105,111,110,115]⟩,⟨#[115,116,111,112,95,98,101,102,111,114,101]⟩,⟨#[115,112,108,105,116,95,105,107,101,121]⟩,⟨#[110,117,109,98,101,114]⟩,⟨#[115,105,122,101]⟩,⟨#[108,97,114,103,101,115,116]⟩,⟨#[114,101,115,101,116]⟩,⟨#[97,100,100,101,100]⟩,⟨#[100,101,108,101,116,101,100]⟩,⟨#[99,111,109,112,97,99,116,95,112,111,105,110,116,101,114,115]⟩,⟨#[108,97,115,116,95,115,101,113]⟩,⟨#[110,101,120,116,95,102,105,108,101]⟩,⟨#[108,111,103,95,110,117,109,98,101,114]⟩,⟨#[99,111,109,112,97,114,97,116,111,114]⟩,⟨#[102,105,108,101,115]⟩,⟨#[111,114,100,101,114]⟩,⟨#[108,111,119]⟩,⟨#[104,105,103,104]⟩,⟨#[109,105,100]⟩,⟨#[115,99,111,114,101,95,108,101,118,101,108]⟩,⟨#[115,99,111,114,101]⟩,⟨#[114,101,102,115]⟩,⟨#[108,101,118,101,108]⟩,⟨#[108,111,119,95,117,115,101,114]⟩,⟨#[104,105,103,104,95,117,115,101,114]⟩,⟨#[102,111,117,110,100]⟩,⟨#[105]⟩,⟨#[102,105,114,115,116]⟩,⟨#[108,97,115,116]⟩,⟨#[109,101,116,97]⟩,⟨#[102,105,110,100,95,102,105,108,101]⟩,⟨#[108,101,118,101,108,48]⟩,⟨#[99,97,99,104,101]⟩,⟨#[99,97,110,100,105,100,97,116,101,115]⟩,⟨#[116,104,101,114,101]⟩,⟨#[101,110,116,114,121]⟩,⟨#[105,116,115,95,115,101,113]⟩,⟨#[75,73,78,68,95,83,69,69,75]⟩,⟨#[109,97,107,101,95,105,107,101,121]⟩,⟨#[98,101,102,111,114,101]⟩,⟨#[110,117,109,98,101,114,115]⟩,⟨#[98,97,115,101]⟩,⟨#[100,114,111,112,112,101,100]⟩,⟨#[101,100,105,116]⟩,⟨#[119,105,116,104,105,110]⟩,⟨#[109,97,100,101]⟩,⟨#[112,108,97,99,101]⟩,⟨#[86,101,114,115,105,111,110]⟩,⟨#[116,111,116,97,108]⟩,⟨#[118,101,114,115,105,111,110]⟩,⟨#[112,108,97,99,101,115]⟩,⟨#[115,101,101,110,95,107,101,121]⟩,⟨#[103,114,97,110,100,95,111,99,116,101,116,115]⟩,⟨#[103,114,97,110,100,95,97,116]⟩,⟨#[109,97,110,117,97,108]⟩,⟨#[86,101,114,115,105,111,110,69,100,105,116]⟩,⟨#[103,114,97,110,100,112,97,114,101,110,116,115]⟩,⟨#[105,110,112,117,116,115]⟩,⟨#[117,115,101,114,115]⟩,⟨#[73,110,116,101,114,110,97,108,79,114,100,101,114]⟩,⟨#[116,111,116,97,108,95,115,105,122,101]⟩,⟨#[103,114,97,110,100,95,108,105,109,105,116]⟩,⟨#[115,105,100,101]⟩,⟨#[114,101,115,117,108,116]⟩,⟨#[98,101,115,116,95,108,101,118,101,108]⟩,⟨#[98,101,115,116,95,98,111,116,116,111,109]⟩,⟨#[98,101,115,116,95,116,111,112]⟩,⟨#[116,111,112]⟩,⟨#[98,111,116,116,111,109]⟩,⟨#[109,97,120,95,111,99,116,101,116,115,95,111,102]⟩,⟨#[108,101,118,101,108,95,111,99,116,101,116,115]⟩,⟨#[101,110,100,115]⟩,⟨#[107,101,121,95,114,97,110,103,101]⟩,⟨#[112,111,105,110,116,101,114,115]⟩,⟨#[115,101,116,95,117,112,95,111,116,104,101,114]⟩,⟨#[111,118,101,114,108,97,112,112,105,110,103]⟩,⟨#[117,115,101,114,95,114,97,110,103,101]⟩,⟨#[112,111,105,110,116,101,114]⟩,⟨#[67,111,109,112,97,99,116,105,111,110]⟩,⟨#[110,101,101,100,115,95,99,111,109,112,97,99,116,105,111,110]⟩,⟨#[115,112,97,110]⟩,⟨#[99,111,115,116]⟩,⟨#[114,111,111,109]⟩,⟨#[103,114,111,119,110]⟩,⟨#[97,98,111,118,101]⟩,⟨#[110,117,109,115]⟩,⟨#[101]⟩,⟨#[95,108,97,119,95,117,115,101,114,115]⟩,⟨#[97,102,116,101,114]⟩,⟨#[115,99,111,114,101,95,111,102]⟩,⟨#[109,97,107,101,114]⟩,⟨#[102,105,110,105,115,104]⟩,⟨#[97,112,112,108,121]⟩,⟨#[86,101,114,115,105,111,110,77,97,107,101,114]⟩,⟨#[114,111,119,115]⟩,⟨#[116,97,98,108,101,115]⟩,⟨#[102,114,101,115,104]⟩,⟨#[95,108,97,119,95,105,107,101,121]⟩,⟨#[70,105,108,101,77,101,116,97]⟩,⟨#[104,101,108,100]⟩,⟨#[95,108,97,119,95,112,117,116]⟩,⟨#[115,105,101,118,101]⟩,⟨#[116,117,114,110]⟩,⟨#[83,105,101,118,101]⟩,⟨#[97,100,100,95,100,101,108,101,116,105,111,110,115]⟩,⟨#[116,114,105,118,105,97,108]⟩,⟨#[117]⟩,⟨#[115]⟩,⟨#[118,97,108,117,101]⟩,⟨#[97,104,101,97,100]⟩,⟨#[114,101,102,117,115,101,100]⟩,⟨#[113]⟩,⟨#[97,119,97,121]⟩,⟨#[102,97,114]⟩,⟨#[99,111,117,110,116]⟩,⟨#[104,97,108,102]⟩,⟨#[107]⟩,⟨#[95,108,97,119,95,116,111,108,100]⟩,⟨#[119,97,110,116]⟩,⟨#[104,105,115,116,111,114,121]⟩,⟨#[95,108,97,119,95,100,114,97,119]⟩,⟨#[95,108,97,119,95,109,97,100,101]⟩,⟨#[95,108,97,119,95,99,111,109,112,97,99,116]⟩,⟨#[102,117,108,108]⟩,⟨#[112,105,99,107,101,114]⟩,⟨#[112,105,99,107]⟩,⟨#[109,111,115,116]⟩,⟨#[103,114,111,117,112]⟩,⟨#[103,114,111,117,112,115]⟩,⟨#[106]⟩,⟨#[121]⟩,⟨#[80,105,99,107,101,114]⟩,⟨#[79,112,116,105,111,110,115]⟩]
def nm (n:Nat):Str:=(nmT[n]?).getD ⟨#[3000000+n]⟩
def fldT:List (Addr×Nat):=[(272,33),(305,59),(305,57),(305,56),(305,55),(305,54),(305,53),(305,52),(305,51),(305,50),(305,49),(305,48),(305,47),(305,46),(305,45),(305,44),(305,43),(305,42),(305,41),(305,40),(305,39),(305,38),(340,36),(340,64),(340,63),(340,62),(340,61),(368,73),(368,74),(368,64),(368,75),(403,83),(403,82),(403,81),(403,80),(403,79),(403,78),(403,77),(403,76),(494,45),(494,85),(494,84),(494,91),(494,90),(494,89),(550,111),(550,112),(550,78),(550,77),(620,92),(620,119),(620,70),(620,85),(620,128),(620,127),(620,126),(620,113),(620,124),(620,123),(620,122),(620,121),(620,120),(690,70),(690,85)]
def yI:List ((Addr×Nat)×Addr):=[((183,37),159),((218,37),159),((272,37),241),((340,172),337),((494,145),435),((494,103),442),((494,7),449),((494,140),470),((494,110),477),((494,59),491),((550,114),519),((550,162),526),((550,109),533),((550,116),540),((550,161),547),((620,131),589),((620,175),596),((620,71),603),((620,69),610),((620,174),617),((690,149),659),((690,146),666),((690,195),673),((690,144),687)]
def yz:List (Addr×Addr):=[(272,234),(305,288),(340,330),(368,358),(403,386),(494,428),(550,512),(620,582),(690,652)]
def uQ:List Addr:=[218]
def qq (C f:Nat):Bool:=match C,f with
 |272,33=>true
 |305,59=>true
 |305,57=>true
 |305,56=>true
 |305,55=>true
 |305,54=>true
 |305,53=>true
 |305,52=>true
 |305,51=>true
 |305,50=>true
 |305,49=>true
 |305,48=>true
 |305,47=>true
 |305,46=>true
 |305,45=>true
 |305,44=>true
 |305,43=>true
 |305,42=>true
 |305,41=>true
 |305,40=>true
 |305,39=>true
 |305,38=>true
 |340,36=>true
 |340,64=>true
 |340,63=>true
 |340,62=>true
 |340,61=>true
 |368,73=>true
 |368,74=>true
 |368,64=>true
 |368,75=>true
 |403,83=>true
 |403,82=>true
 |403,81=>true
 |403,80=>true
 |403,79=>true
 |403,78=>true
 |403,77=>true
 |403,76=>true
 |494,45=>true
 |494,85=>true
 |494,84=>true
 |494,91=>true
 |494,90=>true
 |494,89=>true
 |550,111=>true
 |550,112=>true
 |550,78=>true
 |550,77=>true
 |620,92=>true
 |620,119=>true
 |620,70=>true
 |620,85=>true
 |620,128=>true
 |620,127=>true
 |620,126=>true
 |620,113=>true
 |620,124=>true
 |620,123=>true
 |620,122=>true
 |620,121=>true
 |620,120=>true
 |690,70=>true
 |690,85=>true
 |_,_=>false
def lC (C m:Nat):Option Addr:=match C,m with
 |183,37=>some 159
 |218,37=>some 159
 |272,37=>some 241
 |340,172=>some 337
 |494,145=>some 435
 |494,103=>some 442
 |494,7=>some 449
 |494,140=>some 470
 |494,110=>some 477
 |494,59=>some 491
 |550,114=>some 519
 |550,162=>some 526
 |550,109=>some 533
 |550,116=>some 540
 |550,161=>some 547
 |620,131=>some 589
 |620,175=>some 596
 |620,71=>some 603
 |620,69=>some 610
 |620,174=>some 617
 |690,149=>some 659
 |690,146=>some 666
 |690,195=>some 673
 |690,144=>some 687
 |_,_=>none
def o0 (C:Nat):Option Addr:=match C with
 |272=>some 234
 |305=>some 288
 |340=>some 330
 |368=>some 358
 |403=>some 386
 |494=>some 428
 |550=>some 512
 |620=>some 582
 |690=>some 652
 |_=>none
def lU (C:Nat):Bool:=match C with
 |218=>true
 |_=>false
def TT:Tb:={meth:=lC,init:=o0,plain:=lU,fld:=qq,nLen:=0,nSorted:=1,nBytes:=2,nMin:=3,nSum:=4,nAppend:=5,nInsert:=6,nGet:=7}
def d7:List Nat:=[8]
def eh:MSs:= .cons (.ite (.boo .Or (.cons (.cmp .Lt (.loc 8) (.con (.int 0))) (.cons (.cmp .Gt (.loc 8) (.glo 9 (.int 4294967295))) .nil))) (.cons (.rai) .nil) (.nil)) (.cons (.ret (.bui 2 (.cons (.lst (.cons (.bin .BitAnd (.loc 8) (.con (.int 255))) (.cons (.bin .BitAnd (.bin .RShift (.loc 8) (.con (.int 8))) (.con (.int 255))) (.cons (.bin .BitAnd (.bin .RShift (.loc 8) (.con (.int 16))) (.con (.int 255))) (.cons (.bin .RShift (.loc 8) (.con (.int 24))) .nil))))) .nil))) .nil)
def d8:List Nat:=[8]
def ei:MSs:= .cons (.ite (.boo .Or (.cons (.cmp .Lt (.loc 8) (.con (.int 0))) (.cons (.cmp .Gt (.loc 8) (.glo 11 (.int 18446744073709551615))) .nil))) (.cons (.rai) .nil) (.nil)) (.cons (.ret (.bin .Add (.call 10 89 (.cons (.bin .BitAnd (.loc 8) (.glo 9 (.int 4294967295))) .nil)) (.call 10 89 (.cons (.bin .RShift (.loc 8) (.con (.int 32))) .nil)))) .nil)
def dE:List Nat:=[12,13]
def dJ:MSs:= .cons (.ite (.boo .Or (.cons (.cmp .Lt (.loc 13) (.con (.int 0))) (.cons (.cmp .Gt (.bin .Add (.loc 13) (.con (.int 4))) (.bui 0 (.cons (.loc 12) .nil))) .nil))) (.cons (.rai) .nil) (.nil)) (.cons (.ret (.bin .BitOr (.bin .BitOr (.bin .BitOr (.idx (.loc 12) (.loc 13)) (.bin .LShift (.idx (.loc 12) (.bin .Add (.loc 13) (.con (.int 1)))) (.con (.int 8)))) (.bin .LShift (.idx (.loc 12) (.bin .Add (.loc 13) (.con (.int 2)))) (.con (.int 16)))) (.bin .LShift (.idx (.loc 12) (.bin .Add (.loc 13) (.con (.int 3)))) (.con (.int 24))))) .nil)
def dF:List Nat:=[12,13]
def dK:MSs:= .cons (.ite (.boo .Or (.cons (.cmp .Lt (.loc 13) (.con (.int 0))) (.cons (.cmp .Gt (.bin .Add (.loc 13) (.con (.int 8))) (.bui 0 (.cons (.loc 12) .nil))) .nil))) (.cons (.rai) .nil) (.nil)) (.cons (.ret (.bin .BitOr (.call 14 103 (.cons (.loc 12) (.cons (.loc 13) .nil))) (.bin .LShift (.call 14 103 (.cons (.loc 12) (.cons (.bin .Add (.loc 13) (.con (.int 4))) .nil))) (.con (.int 32))))) .nil)
def gi:List Nat:=[15,16]
def gA:MSs:= .cons (.ite (.boo .Or (.cons (.cmp .Lt (.loc 15) (.con (.int 0))) (.cons (.cmp .Gt (.loc 15) (.glo 19 (.int 72057594037927935))) .nil))) (.cons (.rai) .nil) (.nil)) (.cons (.ite (.boo .And (.cons (.cmp .NotEq (.loc 16) (.glo 18 (.int 0))) (.cons (.cmp .NotEq (.loc 16) (.glo 17 (.int 1))) .nil))) (.cons (.rai) .nil) (.nil)) (.cons (.ret (.bin .BitOr (.bin .LShift (.loc 15) (.con (.int 8))) (.loc 16))) .nil))
def ff:List Nat:=[20,15,16]
def fp:MSs:= .cons (.ret (.bin .Add (.bui 2 (.cons (.loc 20) .nil)) (.call 22 96 (.cons (.call 21 117 (.cons (.loc 15) (.cons (.loc 16) .nil))) .nil)))) .nil
def eE:List Nat:=[23]
def eJ:MSs:= .cons (.asg 20 (.call 26 138 (.cons (.loc 23) .nil))) (.cons (.asg 24 (.call 25 145 (.cons (.loc 23) .nil))) (.cons (.asg 16 (.bin .BitAnd (.loc 24) (.con (.int 255)))) (.cons (.ite (.cmp .Gt (.loc 16) (.glo 17 (.int 1))) (.cons (.rai) .nil) (.nil)) (.cons (.ret (.tup (.cons (.loc 20) (.cons (.bin .RShift (.loc 24) (.con (.int 8))) (.cons (.loc 16) .nil))))) .nil))))
def ip:List Nat:=[23]
def ix:MSs:= .cons (.ite (.cmp .Lt (.bui 0 (.cons (.loc 23) .nil)) (.glo 27 (.int 8))) (.cons (.rai) .nil) (.nil)) (.cons (.ret (.bui 2 (.cons (.slc (.loc 23) .nul (.bin .Sub (.bui 0 (.cons (.loc 23) .nil)) (.glo 27 (.int 8)))) .nil))) .nil)
def jp:List Nat:=[23]
def jx:MSs:= .cons (.ite (.cmp .Lt (.bui 0 (.cons (.loc 23) .nil)) (.glo 27 (.int 8))) (.cons (.rai) .nil) (.nil)) (.cons (.ret (.call 28 110 (.cons (.loc 23) (.cons (.bin .Sub (.bui 0 (.cons (.loc 23) .nil)) (.glo 27 (.int 8))) .nil)))) .nil)
def dc:List Nat:=[29,30,31]
def dh:MSs:= .cons (.ite (.cmp .Lt (.loc 30) (.loc 31)) (.cons (.ret (.neg (.con (.int 1)))) .nil) (.nil)) (.cons (.ite (.cmp .Gt (.loc 30) (.loc 31)) (.cons (.ret (.con (.int 1))) .nil) (.nil)) (.cons (.ret (.con (.int 0))) .nil))
def bV:List Nat:=[29]
def bZ:MSs:= .cons (.asgA (.loc 29) 33 (.new 32 218 (.nil))) .nil
def bC:List Nat:=[29,30,31]
def bD:MSs:= .cons (.asg 36 (.meth (.attr (.loc 29) 33) 37 (.cons (.call 26 138 (.cons (.loc 30) .nil)) (.cons (.call 26 138 (.cons (.loc 31) .nil)) .nil)))) (.cons (.ite (.cmp .NotEq (.loc 36) (.con (.int 0))) (.cons (.ret (.loc 36)) .nil) (.nil)) (.cons (.asg 34 (.call 25 145 (.cons (.loc 30) .nil))) (.cons (.asg 35 (.call 25 145 (.cons (.loc 31) .nil))) (.cons (.ite (.cmp .Gt (.loc 34) (.loc 35)) (.cons (.ret (.neg (.con (.int 1)))) .nil) (.nil)) (.cons (.ite (.cmp .Lt (.loc 34) (.loc 35)) (.cons (.ret (.con (.int 1))) .nil) (.nil)) (.cons (.ret (.con (.int 0))) .nil))))))
def dC:List Nat:=[29]
def dH:MSs:= .cons (.asgA (.loc 29) 59 (.glo 58 (.int 1))) (.cons (.asgA (.loc 29) 57 (.con (.int 32768))) (.cons (.asgA (.loc 29) 56 (.con (.bool true))) (.cons (.asgA (.loc 29) 55 (.con (.bool true))) (.cons (.asgA (.loc 29) 54 (.con (.bool false))) (.cons (.asgA (.loc 29) 53 (.con (.int 4194304))) (.cons (.asgA (.loc 29) 52 (.con (.int 12))) (.cons (.asgA (.loc 29) 51 (.tup (.cons (.con (.int 1)) (.cons (.con (.int 2)) (.cons (.con (.int 1)) (.cons (.con (.int 3)) (.cons (.con (.int 1)) (.cons (.con (.int 2)) (.cons (.con (.int 1)) (.cons (.con (.int 4)) .nil)))))))))) (.cons (.asgA (.loc 29) 50 (.con (.int 4096))) (.cons (.asgA (.loc 29) 49 (.con (.int 16))) (.cons (.asgA (.loc 29) 48 (.con (.int 10))) (.cons (.asgA (.loc 29) 47 (.con (.int 11))) (.cons (.asgA (.loc 29) 46 (.con (.int 2097152))) (.cons (.asgA (.loc 29) 45 (.con (.int 7))) (.cons (.asgA (.loc 29) 44 (.con (.int 4))) (.cons (.asgA (.loc 29) 43 (.con (.int 12))) (.cons (.asgA (.loc 29) 42 (.con (.int 10485760))) (.cons (.asgA (.loc 29) 41 (.con (.int 10))) (.cons (.asgA (.loc 29) 40 (.con (.int 2))) (.cons (.asgA (.loc 29) 39 (.con (.int 10))) (.cons (.asgA (.loc 29) 38 (.con (.int 25))) .nil))))))))))))))))))))
def eB:List Nat:=[29,36,60]
def eG:MSs:= .cons (.asgA (.loc 29) 36 (.loc 36)) (.cons (.asgA (.loc 29) 64 (.loc 60)) (.cons (.asgA (.loc 29) 63 (.con .none)) (.cons (.asgA (.loc 29) 62 (.bin .Add (.glo 19 (.int 72057594037927935)) (.con (.int 1)))) (.cons (.asgA (.loc 29) 61 (.con (.bool false))) .nil))))
def eC:List Nat:=[29,65,66]
def eI:MSs:= .cons (.asgT [20,15,16] (.call 72 131 (.cons (.loc 65) .nil))) (.cons (.ite (.meth (.attr (.loc 29) 36) 71 (.cons (.loc 65) .nil)) (.cons (.asgA (.loc 29) 61 (.con (.bool true))) .nil) (.nil)) (.cons (.asg 68 (.con (.bool false))) (.cons (.ite (.boo .Or (.cons (.cmp .Is (.attr (.loc 29) 63) (.con .none)) (.cons (.cmp .NotEq (.loc 20) (.attr (.loc 29) 63)) .nil))) (.cons (.ite (.cmp .GtE (.loc 66) (.con (.int 0))) (.cons (.asg 68 (.boo .Or (.cons (.attr (.loc 29) 61) (.cons (.cmp .GtE (.loc 66) (.attr (.attr (.attr (.loc 29) 36) 70) 46)) .nil)))) .nil) (.nil)) (.cons (.asgA (.loc 29) 63 (.loc 20)) (.cons (.asgA (.loc 29) 62 (.bin .Add (.glo 19 (.int 72057594037927935)) (.con (.int 1)))) .nil))) (.nil)) (.cons (.ite (.boo .Or (.cons (.cmp .Lt (.loc 66) (.con (.int 0))) (.cons (.loc 68) .nil))) (.cons (.asgA (.loc 29) 61 (.con (.bool false))) .nil) (.nil)) (.cons (.asg 67 (.con (.bool false))) (.cons (.ite (.cmp .LtE (.attr (.loc 29) 62) (.attr (.loc 29) 64)) (.cons (.asg 67 (.con (.bool true))) .nil) (.cons (.ite (.boo .And (.cons (.cmp .Eq (.loc 16) (.glo 18 (.int 0))) (.cons (.cmp .LtE (.loc 15) (.attr (.loc 29) 64)) .nil))) (.cons (.asg 67 (.meth (.attr (.loc 29) 36) 69 (.cons (.loc 20) .nil))) .nil) (.nil)) .nil)) (.cons (.asgA (.loc 29) 62 (.loc 15)) (.cons (.ret (.tup (.cons (.loc 68) (.cons (.loc 67) .nil)))) .nil))))))))
def c9:List Nat:=[29,73,74,64,75]
def dg:MSs:= .cons (.asgA (.loc 29) 73 (.loc 73)) (.cons (.asgA (.loc 29) 74 (.loc 74)) (.cons (.asgA (.loc 29) 64 (.loc 64)) (.cons (.asgA (.loc 29) 75 (.loc 75)) .nil)))
def cB:List Nat:=[29]
def cC:MSs:= .cons (.asgA (.loc 29) 83 (.con .none)) (.cons (.asgA (.loc 29) 82 (.con .none)) (.cons (.asgA (.loc 29) 81 (.con .none)) (.cons (.asgA (.loc 29) 80 (.con .none)) (.cons (.asgA (.loc 29) 79 (.lst (.nil))) (.cons (.asgA (.loc 29) 78 (.lst (.nil))) (.cons (.asgA (.loc 29) 77 (.lst (.nil))) (.cons (.asgA (.loc 29) 76 (.con (.bool false))) .nil)))))))
def e9:List Nat:=[84,65,85]
def fh:MSs:= .cons (.asg 86 (.con (.int 0))) (.cons (.asg 87 (.bui 0 (.cons (.loc 84) .nil))) (.cons (.whl (.cmp .Lt (.loc 86) (.loc 87)) (.cons (.asg 88 (.bin .FloorDiv (.bin .Add (.loc 86) (.loc 87)) (.con (.int 2)))) (.cons (.ite (.cmp .Lt (.meth (.loc 85) 37 (.cons (.attr (.idx (.loc 84) (.loc 88)) 75) (.cons (.loc 65) .nil))) (.con (.int 0))) (.cons (.asg 86 (.bin .Add (.loc 88) (.con (.int 1)))) .nil) (.cons (.asg 87 (.loc 88)) .nil)) .nil))) (.cons (.ret (.loc 86)) .nil)))
def dD:List Nat:=[29,45,85]
def dI:MSs:= .cons (.asgA (.loc 29) 45 (.loc 45)) (.cons (.asgA (.loc 29) 85 (.loc 85)) (.cons (.asgA (.loc 29) 84 (.lst (.nil))) (.cons (.forR 92 (.cons (.loc 45) .nil) (.cons (.ex (.meth (.attr (.loc 29) 84) 5 (.cons (.lst (.nil)) .nil))) .nil)) (.cons (.asgA (.loc 29) 91 (.con (.int 0))) (.cons (.asgA (.loc 29) 90 (.tup (.cons (.con (.int 0)) (.cons (.con (.int 1)) .nil)))) (.cons (.asgA (.loc 29) 89 (.neg (.con (.int 1)))) .nil))))))
def bN:List Nat:=[29,92,93,94]
def bR:MSs:= .cons (.asg 86 (.loc 93)) (.cons (.asg 87 (.loc 94)) (.cons (.asg 95 (.lst (.nil))) (.cons (.asg 96 (.con (.int 0))) (.cons (.whl (.cmp .Lt (.loc 96) (.bui 0 (.cons (.idx (.attr (.loc 29) 84) (.loc 92)) .nil))) (.cons (.asg 99 (.idx (.idx (.attr (.loc 29) 84) (.loc 92)) (.loc 96))) (.cons (.asg 97 (.call 26 138 (.cons (.attr (.loc 99) 64) .nil))) (.cons (.asg 98 (.call 26 138 (.cons (.attr (.loc 99) 75) .nil))) (.cons (.augN 96 .Add (.con (.int 1))) (.cons (.ite (.boo .And (.cons (.cmp .IsNot (.loc 86) (.con .none)) (.cons (.cmp .Lt (.loc 98) (.loc 86)) .nil))) (.cons (.cont) .nil) (.nil)) (.cons (.ite (.boo .And (.cons (.cmp .IsNot (.loc 87) (.con .none)) (.cons (.cmp .Gt (.loc 97) (.loc 87)) .nil))) (.cons (.cont) .nil) (.nil)) (.cons (.ex (.meth (.loc 95) 5 (.cons (.loc 99) .nil))) (.cons (.ite (.cmp .Eq (.loc 92) (.con (.int 0))) (.cons (.ite (.boo .And (.cons (.cmp .IsNot (.loc 86) (.con .none)) (.cons (.cmp .Lt (.loc 97) (.loc 86)) .nil))) (.cons (.asg 86 (.loc 97)) (.cons (.asg 95 (.lst (.nil))) (.cons (.asg 96 (.con (.int 0))) .nil))) (.cons (.ite (.boo .And (.cons (.cmp .IsNot (.loc 87) (.con .none)) (.cons (.cmp .Gt (.loc 98) (.loc 87)) .nil))) (.cons (.asg 87 (.loc 98)) (.cons (.asg 95 (.lst (.nil))) (.cons (.asg 96 (.con (.int 0))) .nil))) (.nil)) .nil)) .nil) (.nil)) .nil))))))))) (.cons (.ret (.loc 95)) .nil)))))
def bX:List Nat:=[29,65]
def b8:MSs:= .cons (.asg 20 (.call 26 138 (.cons (.loc 65) .nil))) (.cons (.asg 95 (.lst (.nil))) (.cons (.asg 101 (.idx (.attr (.loc 29) 84) (.con (.int 0)))) (.cons (.forR 96 (.cons (.bin .Sub (.bui 0 (.cons (.loc 101) .nil)) (.con (.int 1))) (.cons (.neg (.con (.int 1))) (.cons (.neg (.con (.int 1))) .nil))) (.cons (.asg 99 (.idx (.loc 101) (.loc 96))) (.cons (.ite (.boo .And (.cons (.cmp .LtE (.call 26 138 (.cons (.attr (.loc 99) 64) .nil)) (.loc 20)) (.cons (.cmp .LtE (.loc 20) (.call 26 138 (.cons (.attr (.loc 99) 75) .nil))) .nil))) (.cons (.ex (.meth (.loc 95) 5 (.cons (.tup (.cons (.con (.int 0)) (.cons (.loc 99) .nil))) .nil))) .nil) (.nil)) .nil))) (.cons (.forR 92 (.cons (.con (.int 1)) (.cons (.attr (.loc 29) 45) .nil)) (.cons (.asg 84 (.idx (.attr (.loc 29) 84) (.loc 92))) (.cons (.asg 96 (.call 100 414 (.cons (.loc 84) (.cons (.loc 65) (.cons (.attr (.loc 29) 85) .nil))))) (.cons (.ite (.boo .And (.cons (.cmp .Lt (.loc 96) (.bui 0 (.cons (.loc 84) .nil))) (.cons (.cmp .LtE (.call 26 138 (.cons (.attr (.idx (.loc 84) (.loc 96)) 64) .nil)) (.loc 20)) .nil))) (.cons (.ex (.meth (.loc 95) 5 (.cons (.tup (.cons (.loc 92) (.cons (.idx (.loc 84) (.loc 96)) .nil))) .nil))) .nil) (.nil)) .nil)))) (.cons (.ret (.loc 95)) .nil)))))
def d0:List Nat:=[29,102,20,15]
def ee:MSs:= .cons (.asg 65 (.call 108 124 (.cons (.loc 20) (.cons (.loc 15) (.cons (.glo 107 (.int 1)) .nil))))) (.cons (.forE (.two 92 99) (.meth (.loc 29) 103 (.cons (.loc 65) .nil)) (.cons (.asg 105 (.meth (.loc 102) 7 (.cons (.attr (.loc 99) 73) (.cons (.loc 65) .nil)))) (.cons (.ite (.cmp .Is (.loc 105) (.con .none)) (.cons (.cont) .nil) (.nil)) (.cons (.asgT [104,106,16] (.call 72 131 (.cons (.idx (.loc 105) (.con (.int 0))) .nil))) (.cons (.ite (.cmp .Eq (.loc 104) (.loc 20)) (.cons (.ite (.cmp .Eq (.loc 16) (.glo 18 (.int 0))) (.cons (.ret (.tup (.cons (.con (.bool true)) (.cons (.glo 18 (.int 0)) (.cons (.con (.bytes [])) .nil))))) .nil) (.nil)) (.cons (.ret (.tup (.cons (.con (.bool true)) (.cons (.glo 17 (.int 1)) (.cons (.idx (.loc 105) (.con (.int 1))) .nil))))) .nil)) (.nil)) .nil))))) (.cons (.ret (.tup (.cons (.con (.bool false)) (.cons (.con (.int 0)) (.cons (.con (.bytes [])) .nil))))) .nil))
def bG:List Nat:=[29,92]
def bI:MSs:= .cons (.asg 66 (.con (.int 0))) (.cons (.forE (.one 99) (.idx (.attr (.loc 29) 84) (.loc 92)) (.cons (.augN 66 .Add (.attr (.loc 99) 74)) .nil)) (.cons (.ret (.loc 66)) .nil))
def cL:List Nat:=[29]
def cN:MSs:= .cons (.asg 95 (.lst (.nil))) (.cons (.forE (.one 84) (.attr (.loc 29) 84) (.cons (.forE (.one 99) (.loc 84) (.cons (.ex (.meth (.loc 95) 5 (.cons (.attr (.loc 99) 73) .nil))) .nil)) .nil)) (.cons (.ret (.bui 1 (.cons (.loc 95) .nil))) .nil))
def dd:List Nat:=[29]
def di:MSs:= .cons (.asg 110 (.meth (.loc 29) 110 (.nil))) (.cons (.forR 96 (.cons (.con (.int 1)) (.cons (.bui 0 (.cons (.loc 110) .nil)) .nil)) (.cons (.ite (.cmp .Eq (.idx (.loc 110) (.bin .Sub (.loc 96) (.con (.int 1)))) (.idx (.loc 110) (.loc 96))) (.cons (.rai) .nil) (.nil)) .nil)) (.cons (.forR 92 (.cons (.attr (.loc 29) 45) .nil) (.cons (.asg 84 (.idx (.attr (.loc 29) 84) (.loc 92))) (.cons (.forR 96 (.cons (.bui 0 (.cons (.loc 84) .nil)) .nil) (.cons (.asg 99 (.idx (.loc 84) (.loc 96))) (.cons (.ite (.cmp .Gt (.meth (.attr (.loc 29) 85) 37 (.cons (.attr (.loc 99) 64) (.cons (.attr (.loc 99) 75) .nil))) (.con (.int 0))) (.cons (.rai) .nil) (.nil)) (.cons (.ite (.cmp .Eq (.loc 96) (.con (.int 0))) (.cons (.cont) .nil) (.nil)) (.cons (.asg 109 (.idx (.loc 84) (.bin .Sub (.loc 96) (.con (.int 1))))) (.cons (.ite (.cmp .Eq (.loc 92) (.con (.int 0))) (.cons (.ite (.cmp .GtE (.attr (.loc 109) 73) (.attr (.loc 99) 73)) (.cons (.rai) .nil) (.nil)) .nil) (.cons (.ite (.cmp .GtE (.call 26 138 (.cons (.attr (.loc 109) 75) .nil)) (.call 26 138 (.cons (.attr (.loc 99) 64) .nil))) (.cons (.rai) .nil) (.nil)) .nil)) .nil)))))) .nil))) .nil))
def bi:List Nat:=[29,111]
def bj:MSs:= .cons (.asgA (.loc 29) 111 (.loc 111)) (.cons (.asgA (.loc 29) 112 (.con (.bool false))) (.cons (.asgA (.loc 29) 78 (.lst (.nil))) (.cons (.asgA (.loc 29) 77 (.lst (.nil))) (.cons (.forR 92 (.cons (.attr (.loc 111) 45) .nil) (.cons (.ex (.meth (.attr (.loc 29) 78) 5 (.cons (.dic) .nil))) (.cons (.ex (.meth (.attr (.loc 29) 77) 5 (.cons (.dic) .nil))) .nil))) .nil))))
def ar:List Nat:=[29,92]
def a4:ME:= .boo .Or (.cons (.cmp .Lt (.loc 92) (.con (.int 0))) (.cons (.cmp .GtE (.loc 92) (.attr (.attr (.loc 29) 111) 45)) .nil))
def aR:ME:= .loc 92
def aS:ME:= .attr (.attr (.loc 29) 111) 45
def aD:List Nat:=[29,113]
def aU:MSs:= .cons (.forE (.two 92 73) (.attr (.loc 113) 78) (.cons (.ex (.meth (.loc 29) 114 (.cons (.loc 92) .nil))) .nil)) (.cons (.forE (.two 92 99) (.attr (.loc 113) 77) (.cons (.ex (.meth (.loc 29) 114 (.cons (.loc 92) .nil))) .nil)) (.cons (.ite (.attr (.loc 113) 76) (.cons (.asgA (.loc 29) 112 (.con (.bool true))) (.cons (.forR 92 (.cons (.attr (.attr (.loc 29) 111) 45) .nil) (.cons (.asgI (.attr (.loc 29) 78) (.loc 92) (.dic)) (.cons (.asgI (.attr (.loc 29) 77) (.loc 92) (.dic)) .nil))) .nil)) (.nil)) (.cons (.forE (.two 92 73) (.attr (.loc 113) 78) (.cons (.asgI (.idx (.attr (.loc 29) 78) (.loc 92)) (.loc 73) (.con (.bool true))) (.cons (.ite (.cmp .In (.loc 73) (.idx (.attr (.loc 29) 77) (.loc 92))) (.cons (.del (.idx (.attr (.loc 29) 77) (.loc 92)) (.loc 73)) .nil) (.nil)) .nil))) (.cons (.forE (.two 92 99) (.attr (.loc 113) 77) (.cons (.asgI (.idx (.attr (.loc 29) 77) (.loc 92)) (.attr (.loc 99) 73) (.loc 99)) (.cons (.ite (.cmp .In (.attr (.loc 99) 73) (.idx (.attr (.loc 29) 78) (.loc 92))) (.cons (.del (.idx (.attr (.loc 29) 78) (.loc 92)) (.attr (.loc 99) 73)) .nil) (.nil)) .nil))) .nil))))
def bL:List Nat:=[29,92,30,31]
def bP:MSs:= .cons (.ite (.cmp .Gt (.loc 92) (.con (.int 0))) (.cons (.asg 36 (.meth (.attr (.attr (.loc 29) 111) 85) 37 (.cons (.attr (.loc 30) 64) (.cons (.attr (.loc 31) 64) .nil)))) (.cons (.ite (.cmp .NotEq (.loc 36) (.con (.int 0))) (.cons (.ret (.cmp .Lt (.loc 36) (.con (.int 0)))) .nil) (.nil)) .nil)) (.nil)) (.cons (.ret (.cmp .Lt (.attr (.loc 30) 73) (.attr (.loc 31) 73))) .nil)
def bW:List Nat:=[29,92,84,99]
def b7:MSs:= .cons (.asg 86 (.con (.int 0))) (.cons (.asg 87 (.bui 0 (.cons (.loc 84) .nil))) (.cons (.whl (.cmp .Lt (.loc 86) (.loc 87)) (.cons (.asg 88 (.bin .FloorDiv (.bin .Add (.loc 86) (.loc 87)) (.con (.int 2)))) (.cons (.ite (.meth (.loc 29) 109 (.cons (.loc 92) (.cons (.idx (.loc 84) (.loc 88)) (.cons (.loc 99) .nil)))) (.cons (.asg 86 (.bin .Add (.loc 88) (.con (.int 1)))) .nil) (.cons (.asg 87 (.loc 88)) .nil)) .nil))) (.cons (.ex (.meth (.loc 84) 6 (.cons (.loc 86) (.cons (.loc 99) .nil)))) .nil)))
def bM:List Nat:=[29]
def bQ:MSs:= .cons (.asg 115 (.new 117 494 (.cons (.attr (.attr (.loc 29) 111) 45) (.cons (.attr (.attr (.loc 29) 111) 85) .nil)))) (.cons (.forR 92 (.cons (.attr (.attr (.loc 29) 111) 45) .nil) (.cons (.asg 84 (.idx (.attr (.loc 115) 84) (.loc 92))) (.cons (.ite (.not (.attr (.loc 29) 112)) (.cons (.forE (.one 99) (.idx (.attr (.attr (.loc 29) 111) 84) (.loc 92)) (.cons (.ite (.cmp .In (.attr (.loc 99) 73) (.idx (.attr (.loc 29) 78) (.loc 92))) (.cons (.cont) .nil) (.nil)) (.cons (.ite (.cmp .In (.attr (.loc 99) 73) (.idx (.attr (.loc 29) 77) (.loc 92))) (.cons (.cont) .nil) (.nil)) (.cons (.ex (.meth (.loc 84) 5 (.cons (.loc 99) .nil))) .nil)))) .nil) (.nil)) (.cons (.forE (.one 73) (.bui 1 (.cons (.idx (.attr (.loc 29) 77) (.loc 92)) .nil)) (.cons (.ex (.meth (.loc 29) 116 (.cons (.loc 92) (.cons (.loc 84) (.cons (.idx (.idx (.attr (.loc 29) 77) (.loc 92)) (.loc 73)) .nil))))) .nil)) .nil)))) (.cons (.ex (.meth (.loc 115) 59 (.nil))) (.cons (.ret (.loc 115)) .nil)))
def eF:List Nat:=[84]
def eK:MSs:= .cons (.asg 118 (.con (.int 0))) (.cons (.forE (.one 99) (.loc 84) (.cons (.augN 118 .Add (.attr (.loc 99) 74)) .nil)) (.cons (.ret (.loc 118)) .nil))
def fa:List Nat:=[84,85]
def fj:MSs:= .cons (.asg 64 (.attr (.idx (.loc 84) (.con (.int 0))) 64)) (.cons (.asg 75 (.attr (.idx (.loc 84) (.con (.int 0))) 75)) (.cons (.forE (.one 99) (.slc (.loc 84) (.con (.int 1)) .nul) (.cons (.ite (.cmp .Lt (.meth (.loc 85) 37 (.cons (.attr (.loc 99) 64) (.cons (.loc 64) .nil))) (.con (.int 0))) (.cons (.asg 64 (.attr (.loc 99) 64)) .nil) (.nil)) (.cons (.ite (.cmp .Gt (.meth (.loc 85) 37 (.cons (.attr (.loc 99) 75) (.cons (.loc 75) .nil))) (.con (.int 0))) (.cons (.asg 75 (.attr (.loc 99) 75)) .nil) (.nil)) .nil))) (.cons (.ret (.tup (.cons (.loc 64) (.cons (.loc 75) .nil)))) .nil)))
def cK:List Nat:=[29,92,119,70]
def cM:MSs:= .cons (.asgA (.loc 29) 92 (.loc 92)) (.cons (.asgA (.loc 29) 119 (.loc 119)) (.cons (.asgA (.loc 29) 70 (.loc 70)) (.cons (.asgA (.loc 29) 85 (.new 129 272 (.nil))) (.cons (.asgA (.loc 29) 128 (.new 32 218 (.nil))) (.cons (.asgA (.loc 29) 127 (.lst (.cons (.lst (.nil)) (.cons (.lst (.nil)) .nil)))) (.cons (.asgA (.loc 29) 126 (.lst (.nil))) (.cons (.asgA (.loc 29) 113 (.new 125 403 (.nil))) (.cons (.asgA (.loc 29) 124 (.con (.bool false))) (.cons (.asgA (.loc 29) 123 (.con (.int 0))) (.cons (.asgA (.loc 29) 122 (.con (.int 0))) (.cons (.asgA (.loc 29) 121 (.con (.bool false))) (.cons (.asgA (.loc 29) 120 (.bin .Mult (.lst (.cons (.con (.int 0)) .nil)) (.attr (.loc 70) 45))) .nil))))))))))))
def bv:List Nat:=[29]
def bz:MSs:= .cons (.ret (.bin .Mult (.attr (.attr (.loc 29) 70) 39) (.attr (.attr (.loc 29) 70) 46))) .nil
def bU:List Nat:=[29]
def bY:MSs:= .cons (.ite (.boo .Or (.cons (.cmp .NotEq (.bui 0 (.cons (.idx (.attr (.loc 29) 127) (.con (.int 0))) .nil)) (.con (.int 1))) (.cons (.cmp .NotEq (.bui 0 (.cons (.idx (.attr (.loc 29) 127) (.con (.int 1))) .nil)) (.con (.int 0))) .nil))) (.cons (.ret (.con (.bool false))) .nil) (.nil)) (.cons (.ret (.cmp .LtE (.call 130 561 (.cons (.attr (.loc 29) 126) .nil)) (.meth (.loc 29) 131 (.nil)))) .nil)
def bw:List Nat:=[29,65]
def bA:MSs:= .cons (.whl (.cmp .Lt (.attr (.loc 29) 123) (.bui 0 (.cons (.attr (.loc 29) 126) .nil))) (.cons (.asg 99 (.idx (.attr (.loc 29) 126) (.attr (.loc 29) 123))) (.cons (.ite (.cmp .LtE (.meth (.attr (.loc 29) 85) 37 (.cons (.loc 65) (.cons (.attr (.loc 99) 75) .nil))) (.con (.int 0))) (.cons (.brk) .nil) (.nil)) (.cons (.ite (.attr (.loc 29) 121) (.cons (.augA (.loc 29) 122 .Add (.attr (.loc 99) 74)) .nil) (.nil)) (.cons (.augA (.loc 29) 123 .Add (.con (.int 1))) .nil))))) (.cons (.asgA (.loc 29) 121 (.con (.bool true))) (.cons (.ite (.cmp .Gt (.attr (.loc 29) 122) (.meth (.loc 29) 131 (.nil))) (.cons (.asgA (.loc 29) 122 (.con (.int 0))) (.cons (.ret (.con (.bool true))) .nil)) (.nil)) (.cons (.ret (.con (.bool false))) .nil)))
def ba:List Nat:=[29,20]
def bc:MSs:= .cons (.forR 92 (.cons (.bin .Add (.attr (.loc 29) 92) (.con (.int 2))) (.cons (.attr (.attr (.loc 29) 70) 45) .nil)) (.cons (.asg 84 (.idx (.attr (.attr (.loc 29) 119) 84) (.loc 92))) (.cons (.whl (.cmp .Lt (.idx (.attr (.loc 29) 120) (.loc 92)) (.bui 0 (.cons (.loc 84) .nil))) (.cons (.asg 99 (.idx (.loc 84) (.idx (.attr (.loc 29) 120) (.loc 92)))) (.cons (.ite (.cmp .LtE (.meth (.attr (.loc 29) 128) 37 (.cons (.loc 20) (.cons (.call 26 138 (.cons (.attr (.loc 99) 75) .nil)) .nil))) (.con (.int 0))) (.cons (.ite (.cmp .GtE (.meth (.attr (.loc 29) 128) 37 (.cons (.loc 20) (.cons (.call 26 138 (.cons (.attr (.loc 99) 64) .nil)) .nil))) (.con (.int 0))) (.cons (.ret (.con (.bool false))) .nil) (.nil)) (.cons (.brk) .nil)) (.nil)) (.cons (.augI (.attr (.loc 29) 120) (.loc 92) .Add (.con (.int 1))) .nil)))) .nil))) (.cons (.ret (.con (.bool true))) .nil)
def bf:List Nat:=[29]
def bg:MSs:= .cons (.forR 132 (.cons (.con (.int 2)) .nil) (.cons (.forE (.one 99) (.idx (.attr (.loc 29) 127) (.loc 132)) (.cons (.ex (.meth (.attr (.attr (.loc 29) 113) 78) 5 (.cons (.tup (.cons (.bin .Add (.attr (.loc 29) 92) (.loc 132)) (.cons (.attr (.loc 99) 73) .nil))) .nil))) .nil)) .nil)) .nil
def df:List Nat:=[70,92]
def dj:MSs:= .cons (.asg 133 (.attr (.loc 70) 42)) (.cons (.whl (.cmp .Gt (.loc 92) (.con (.int 1))) (.cons (.augN 133 .Mult (.attr (.loc 70) 41)) (.cons (.augN 92 .Sub (.con (.int 1))) .nil))) (.cons (.ret (.loc 133)) .nil))
def gj:List Nat:=[119,70]
def gB:MSs:= .cons (.ite (.cmp .Eq (.bui 0 (.cons (.attr (.loc 119) 84) .nil)) (.con (.int 0))) (.cons (.ret (.attr (.loc 119) 90)) .nil) (.nil)) (.cons (.asg 136 (.bui 0 (.cons (.idx (.attr (.loc 119) 84) (.con (.int 0))) .nil))) (.cons (.asg 135 (.attr (.loc 70) 44)) (.cons (.asg 134 (.con (.int 0))) (.cons (.forR 92 (.cons (.con (.int 1)) (.cons (.bin .Sub (.attr (.loc 70) 45) (.con (.int 1))) .nil)) (.cons (.asg 137 (.meth (.loc 119) 140 (.cons (.loc 92) .nil))) (.cons (.asg 138 (.call 139 631 (.cons (.loc 70) (.cons (.loc 92) .nil)))) (.cons (.ite (.cmp .Gt (.bin .Mult (.loc 137) (.loc 135)) (.bin .Mult (.loc 136) (.loc 138))) (.cons (.asg 136 (.loc 137)) (.cons (.asg 135 (.loc 138)) (.cons (.asg 134 (.loc 92)) .nil))) (.nil)) .nil)))) (.cons (.asgA (.loc 119) 90 (.tup (.cons (.loc 136) (.cons (.loc 135) .nil)))) (.cons (.asgA (.loc 119) 89 (.loc 134)) (.cons (.ret (.attr (.loc 119) 90)) .nil)))))))
def dZ:List Nat:=[29,70,85]
def ec:MSs:= .cons (.asgA (.loc 29) 70 (.loc 70)) (.cons (.asgA (.loc 29) 85 (.loc 85)) .nil)
def bq:List Nat:=[29,119]
def br:MSs:= .cons (.ret (.cmp .GtE (.idx (.attr (.loc 119) 90) (.con (.int 0))) (.idx (.attr (.loc 119) 90) (.con (.int 1))))) .nil
def co:List Nat:=[29,84]
def cq:MSs:= .cons (.asg 141 (.call 142 568 (.cons (.loc 84) (.cons (.attr (.loc 29) 85) .nil)))) (.cons (.ret (.tup (.cons (.call 26 138 (.cons (.idx (.loc 141) (.con (.int 0))) .nil)) (.cons (.call 26 138 (.cons (.idx (.loc 141) (.con (.int 1))) .nil)) .nil)))) .nil)
def cH:List Nat:=[29,119,143]
def cI:MSs:= .cons (.ite (.not (.meth (.loc 29) 149 (.cons (.loc 119) .nil))) (.cons (.ret (.con .none)) .nil) (.nil)) (.cons (.asg 92 (.attr (.loc 119) 89)) (.cons (.asg 36 (.new 148 620 (.cons (.loc 92) (.cons (.loc 119) (.cons (.attr (.loc 29) 70) .nil))))) (.cons (.asg 84 (.idx (.attr (.loc 119) 84) (.loc 92))) (.cons (.asg 147 (.idx (.loc 143) (.loc 92))) (.cons (.asg 97 (.idx (.loc 84) (.con (.int 0)))) (.cons (.forE (.one 99) (.loc 84) (.cons (.ite (.boo .Or (.cons (.cmp .Eq (.loc 147) (.con (.bytes []))) (.cons (.cmp .Gt (.meth (.attr (.loc 29) 85) 37 (.cons (.attr (.loc 99) 75) (.cons (.loc 147) .nil))) (.con (.int 0))) .nil))) (.cons (.asg 97 (.loc 99)) (.cons (.brk) .nil)) (.nil)) .nil)) (.cons (.asgI (.attr (.loc 36) 127) (.con (.int 0)) (.lst (.cons (.loc 97) .nil))) (.cons (.ite (.cmp .Eq (.loc 92) (.con (.int 0))) (.cons (.asg 141 (.meth (.loc 29) 146 (.cons (.idx (.attr (.loc 36) 127) (.con (.int 0))) .nil))) (.cons (.asgI (.attr (.loc 36) 127) (.con (.int 0)) (.meth (.loc 119) 145 (.cons (.con (.int 0)) (.cons (.idx (.loc 141) (.con (.int 0))) (.cons (.idx (.loc 141) (.con (.int 1))) .nil))))) .nil)) (.nil)) (.cons (.ex (.meth (.loc 29) 144 (.cons (.loc 36) (.cons (.loc 143) .nil)))) (.cons (.ret (.loc 36)) .nil))))))))))
def bK:List Nat:=[29,36,143]
def bO:MSs:= .cons (.asg 92 (.attr (.loc 36) 92)) (.cons (.asg 119 (.attr (.loc 36) 119)) (.cons (.asg 141 (.meth (.loc 29) 146 (.cons (.idx (.attr (.loc 36) 127) (.con (.int 0))) .nil))) (.cons (.asgI (.attr (.loc 36) 127) (.con (.int 1)) (.meth (.loc 119) 145 (.cons (.bin .Add (.loc 92) (.con (.int 1))) (.cons (.idx (.loc 141) (.con (.int 0))) (.cons (.idx (.loc 141) (.con (.int 1))) .nil))))) (.cons (.asg 150 (.meth (.loc 29) 146 (.cons (.bin .Add (.idx (.attr (.loc 36) 127) (.con (.int 0))) (.idx (.attr (.loc 36) 127) (.con (.int 1)))) .nil))) (.cons (.ite (.cmp .Gt (.bui 0 (.cons (.idx (.attr (.loc 36) 127) (.con (.int 1))) .nil)) (.con (.int 0))) (.cons (.asg 153 (.meth (.loc 119) 145 (.cons (.loc 92) (.cons (.idx (.loc 150) (.con (.int 0))) (.cons (.idx (.loc 150) (.con (.int 1))) .nil))))) (.cons (.asg 152 (.bin .Mult (.attr (.attr (.loc 29) 70) 38) (.attr (.attr (.loc 29) 70) 46))) (.cons (.asg 151 (.bin .Add (.call 130 561 (.cons (.idx (.attr (.loc 36) 127) (.con (.int 1))) .nil)) (.call 130 561 (.cons (.loc 153) .nil)))) (.cons (.ite (.boo .And (.cons (.cmp .Gt (.bui 0 (.cons (.loc 153) .nil)) (.bui 0 (.cons (.idx (.attr (.loc 36) 127) (.con (.int 0))) .nil))) (.cons (.cmp .Lt (.loc 151) (.loc 152)) .nil))) (.cons (.asg 141 (.meth (.loc 29) 146 (.cons (.loc 153) .nil))) (.cons (.asg 154 (.meth (.loc 119) 145 (.cons (.bin .Add (.loc 92) (.con (.int 1))) (.cons (.idx (.loc 141) (.con (.int 0))) (.cons (.idx (.loc 141) (.con (.int 1))) .nil))))) (.cons (.ite (.cmp .Eq (.bui 0 (.cons (.loc 154) .nil)) (.bui 0 (.cons (.idx (.attr (.loc 36) 127) (.con (.int 1))) .nil))) (.cons (.asgI (.attr (.loc 36) 127) (.con (.int 0)) (.loc 153)) (.cons (.asgI (.attr (.loc 36) 127) (.con (.int 1)) (.loc 154)) (.cons (.asg 150 (.meth (.loc 29) 146 (.cons (.bin .Add (.idx (.attr (.loc 36) 127) (.con (.int 0))) (.idx (.attr (.loc 36) 127) (.con (.int 1)))) .nil))) .nil))) (.nil)) .nil))) (.nil)) .nil)))) (.nil)) (.cons (.ite (.cmp .Lt (.bin .Add (.loc 92) (.con (.int 2))) (.attr (.attr (.loc 29) 70) 45)) (.cons (.asgA (.loc 36) 126 (.meth (.loc 119) 145 (.cons (.bin .Add (.loc 92) (.con (.int 2))) (.cons (.idx (.loc 150) (.con (.int 0))) (.cons (.idx (.loc 150) (.con (.int 1))) .nil))))) .nil) (.nil)) (.cons (.asg 75 (.idx (.call 142 568 (.cons (.idx (.attr (.loc 36) 127) (.con (.int 0))) (.cons (.attr (.loc 29) 85) .nil))) (.con (.int 1)))) (.cons (.asgI (.loc 143) (.loc 92) (.loc 75)) (.cons (.ex (.meth (.attr (.attr (.loc 36) 113) 79) 5 (.cons (.tup (.cons (.loc 92) (.cons (.loc 75) .nil))) .nil))) .nil)))))))))
def fb:List Nat:=[]
def fk:MSs:= .cons (.ret (.lst (.cons (.con (.bytes [])) (.cons (.con (.bytes [97])) (.cons (.con (.bytes [97,98])) (.cons (.con (.bytes [98])) .nil)))))) .nil
def gb:List Nat:=[155,96]
def gq:MSs:= .cons (.ret (.bin .Add (.idx (.loc 155) (.bin .Mod (.loc 96) (.bui 0 (.cons (.loc 155) .nil)))) (.bin .Mult (.con (.int 31)) (.bin .FloorDiv (.loc 96) (.bui 0 (.cons (.loc 155) .nil)))))) .nil
def gc:List Nat:=[156]
def gw:MSs:= .cons (.ret (.bin .Add (.idx (.call 157 701 (.nil)) (.idx (.loc 156) (.con (.int 0)))) (.bui 2 (.cons (.lst (.cons (.idx (.loc 156) (.con (.int 2))) (.cons (.bin .Sub (.con (.int 0)) (.idx (.loc 156) (.con (.int 1)))) (.cons (.con (.int 0)) (.cons (.con (.int 0)) (.cons (.con (.int 0)) (.cons (.con (.int 0)) (.cons (.con (.int 0)) (.cons (.con (.int 0)) .nil))))))))) .nil)))) .nil
def ge:List Nat:=[119,113,70]
def gy:MSs:= .cons (.asg 160 (.new 163 550 (.cons (.loc 119) .nil))) (.cons (.ex (.meth (.loc 160) 162 (.cons (.loc 113) .nil))) (.cons (.asg 158 (.meth (.loc 160) 161 (.nil))) (.cons (.exd (.call 159 638 (.cons (.loc 158) (.cons (.loc 70) .nil)))) (.cons (.ret (.loc 158)) .nil))))
def im:List Nat:=[92,164,165,113,166]
def iw:MSs:= .cons (.asgI (.loc 165) (.loc 166) (.loc 164)) (.cons (.asg 98 (.idx (.loc 164) (.bin .Sub (.bui 0 (.cons (.loc 164) .nil)) (.con (.int 1))))) (.cons (.ex (.meth (.attr (.loc 113) 77) 5 (.cons (.tup (.cons (.loc 92) (.cons (.new 168 368 (.cons (.loc 166) (.cons (.bui 0 (.cons (.loc 164) .nil)) (.cons (.call 167 715 (.cons (.idx (.loc 164) (.con (.int 0))) .nil)) (.cons (.call 167 715 (.cons (.loc 98) .nil)) .nil))))) .nil))) .nil))) (.cons (.ret (.bin .Add (.loc 166) (.con (.int 1)))) .nil)))
def d6:List Nat:=[36,165,166,64]
def eg:MSs:= .cons (.ite (.meth (.loc 36) 175 (.nil)) (.cons (.asg 99 (.idx (.idx (.attr (.loc 36) 127) (.con (.int 0))) (.con (.int 0)))) (.cons (.ex (.meth (.attr (.attr (.loc 36) 113) 78) 5 (.cons (.tup (.cons (.attr (.loc 36) 92) (.cons (.attr (.loc 99) 73) .nil))) .nil))) (.cons (.ex (.meth (.attr (.attr (.loc 36) 113) 77) 5 (.cons (.tup (.cons (.bin .Add (.attr (.loc 36) 92) (.con (.int 1))) (.cons (.loc 99) .nil))) .nil))) (.cons (.ret (.loc 166)) .nil)))) (.nil)) (.cons (.asg 164 (.lst (.nil))) (.cons (.forR 132 (.cons (.con (.int 2)) .nil) (.cons (.forE (.one 99) (.idx (.attr (.loc 36) 127) (.loc 132)) (.cons (.asg 164 (.bin .Add (.loc 164) (.idx (.loc 165) (.attr (.loc 99) 73)))) (.cons (.del (.loc 165) (.attr (.loc 99) 73)) .nil))) .nil)) (.cons (.ex (.meth (.loc 36) 174 (.nil))) (.cons (.asg 171 (.new 173 340 (.cons (.loc 36) (.cons (.loc 64) .nil)))) (.cons (.asg 169 (.lst (.nil))) (.cons (.forE (.one 156) (.bui 1 (.cons (.loc 164) .nil)) (.cons (.asg 66 (.neg (.con (.int 1)))) (.cons (.ite (.cmp .Gt (.bui 0 (.cons (.loc 169) .nil)) (.con (.int 0))) (.cons (.asg 66 (.bui 0 (.cons (.loc 169) .nil))) .nil) (.nil)) (.cons (.asgT [68,67] (.meth (.loc 171) 172 (.cons (.call 167 715 (.cons (.loc 156) .nil)) (.cons (.loc 66) .nil)))) (.cons (.ite (.loc 68) (.cons (.asg 166 (.call 170 729 (.cons (.bin .Add (.attr (.loc 36) 92) (.con (.int 1))) (.cons (.loc 169) (.cons (.loc 165) (.cons (.attr (.loc 36) 113) (.cons (.loc 166) .nil))))))) (.cons (.asg 169 (.lst (.nil))) .nil)) (.nil)) (.cons (.ite (.not (.loc 67)) (.cons (.asg 169 (.bin .Add (.loc 169) (.lst (.cons (.loc 156) .nil)))) .nil) (.nil)) .nil)))))) (.cons (.ite (.cmp .Gt (.bui 0 (.cons (.loc 169) .nil)) (.con (.int 0))) (.cons (.asg 166 (.call 170 729 (.cons (.bin .Add (.attr (.loc 36) 92) (.con (.int 1))) (.cons (.loc 169) (.cons (.loc 165) (.cons (.attr (.loc 36) 113) (.cons (.loc 166) .nil))))))) .nil) (.nil)) (.cons (.ret (.loc 166)) .nil))))))))
def gh:List Nat:=[119,165,176,177]
def gz:MSs:= .cons (.asg 102 (.dic)) (.cons (.forE (.one 73) (.loc 165) (.cons (.asgI (.loc 102) (.loc 73) (.con .none)) (.cons (.asgG 179 156 176 177 (.idx (.loc 165) (.loc 73))) (.cons (.ite (.cmp .Gt (.bui 0 (.cons (.loc 179) .nil)) (.con (.int 0))) (.cons (.asgI (.loc 102) (.loc 73) (.tup (.cons (.call 167 715 (.cons (.idx (.loc 179) (.con (.int 0))) .nil)) (.cons (.bui 2 (.cons (.lst (.cons (.bin .Sub (.con (.int 64)) (.idx (.idx (.loc 179) (.con (.int 0))) (.con (.int 1)))) .nil)) .nil)) .nil)))) .nil) (.nil)) .nil)))) (.cons (.asgT [104,16,178] (.meth (.loc 119) 7 (.cons (.loc 102) (.cons (.idx (.call 157 701 (.nil)) (.loc 176)) (.cons (.loc 177) .nil))))) (.cons (.ite (.boo .And (.cons (.loc 104) (.cons (.cmp .Eq (.loc 16) (.con (.int 1))) .nil))) (.cons (.ret (.loc 178)) .nil) (.nil)) (.cons (.ret (.con .none)) .nil))))
def cQ:List Nat:=[155]
def cD:MSs:= .cons (.asg 30 (.call 190 708 (.cons (.loc 155) (.cons (.con (.int 0)) .nil)))) (.cons (.asg 184 (.bin .Add (.con (.int 3)) (.bin .Mod (.loc 30) (.con (.int 2))))) (.cons (.asg 70 (.new 202 305 (.nil))) (.cons (.asgA (.loc 70) 45 (.loc 184)) (.cons (.asgA (.loc 70) 44 (.bin .Add (.con (.int 1)) (.bin .Mod (.bin .FloorDiv (.loc 30) (.con (.int 2))) (.con (.int 2))))) (.cons (.asgA (.loc 70) 42 (.bin .Add (.con (.int 1)) (.bin .Mod (.bin .FloorDiv (.loc 30) (.con (.int 4))) (.con (.int 6))))) (.cons (.asgA (.loc 70) 41 (.bin .Add (.con (.int 1)) (.bin .Mod (.bin .FloorDiv (.loc 30) (.con (.int 24))) (.con (.int 2))))) (.cons (.asgA (.loc 70) 46 (.bin .Add (.con (.int 1)) (.bin .Mod (.bin .FloorDiv (.loc 30) (.con (.int 48))) (.con (.int 3))))) (.cons (.asgA (.loc 70) 38 (.bin .Add (.con (.int 1)) (.bin .Mod (.bin .FloorDiv (.loc 30) (.con (.int 1152))) (.con (.int 9))))) (.cons (.asgA (.loc 70) 39 (.con (.int 1))) (.cons (.asg 64 (.bin .Mod (.bin .FloorDiv (.loc 30) (.con (.int 144))) (.con (.int 8)))) (.cons (.asg 85 (.new 129 272 (.nil))) (.cons (.asg 194 (.new 201 690 (.cons (.loc 70) (.cons (.loc 85) .nil)))) (.cons (.asg 143 (.bin .Mult (.lst (.cons (.con (.bytes [])) .nil)) (.loc 184))) (.cons (.asg 119 (.new 117 494 (.cons (.loc 184) (.cons (.loc 85) .nil)))) (.cons (.asg 165 (.dic)) (.cons (.asg 189 (.lst (.nil))) (.cons (.asg 166 (.con (.int 10))) (.cons (.forR 185 (.cons (.con (.int 2)) .nil) (.cons (.asg 198 (.lst (.nil))) (.cons (.forR 199 (.cons (.bin .Mult (.con (.int 3)) (.loc 185)) (.cons (.bin .Add (.bin .Mult (.con (.int 3)) (.loc 185)) (.con (.int 3))) .nil)) (.cons (.asg 200 (.call 190 708 (.cons (.loc 155) (.cons (.bin .Add (.con (.int 1)) (.loc 199)) .nil)))) (.cons (.asg 156 (.tup (.cons (.bin .Mod (.loc 200) (.con (.int 4))) (.cons (.bin .Sub (.bin .Sub (.con (.int 0)) (.loc 199)) (.con (.int 1))) (.cons (.bui 3 (.cons (.con (.int 1)) (.cons (.bin .Mod (.bin .FloorDiv (.loc 200) (.con (.int 4))) (.con (.int 3))) .nil))) .nil))))) (.cons (.ex (.meth (.loc 189) 5 (.cons (.loc 156) .nil))) (.cons (.ite (.boo .Or (.cons (.cmp .Eq (.bin .Mod (.loc 199) (.con (.int 3))) (.con (.int 0))) (.cons (.cmp .Eq (.bin .Mod (.bin .FloorDiv (.loc 200) (.con (.int 12))) (.con (.int 2))) (.con (.int 1))) .nil))) (.cons (.ex (.meth (.loc 198) 5 (.cons (.lst (.nil)) .nil))) .nil) (.nil)) (.cons (.ex (.meth (.idx (.loc 198) (.bin .Sub (.bui 0 (.cons (.loc 198) .nil)) (.con (.int 1)))) 5 (.cons (.loc 156) .nil))) .nil)))))) (.cons (.asg 113 (.new 125 403 (.nil))) (.cons (.forE (.one 197) (.loc 198) (.cons (.asg 166 (.call 170 729 (.cons (.con (.int 0)) (.cons (.bui 1 (.cons (.loc 197) .nil)) (.cons (.loc 165) (.cons (.loc 113) (.cons (.loc 166) .nil))))))) .nil)) (.cons (.asg 119 (.call 191 722 (.cons (.loc 119) (.cons (.loc 113) (.cons (.loc 70) .nil))))) (.cons (.forR 172 (.cons (.bin .Sub (.con (.int 2)) (.loc 185)) .nil) (.cons (.asg 193 (.cmp .GtE (.bui 0 (.cons (.idx (.attr (.loc 119) 84) (.con (.int 0))) .nil)) (.attr (.loc 70) 44))) (.cons (.forR 92 (.cons (.con (.int 1)) (.cons (.bin .Sub (.loc 184) (.con (.int 1))) .nil)) (.cons (.asg 196 (.bin .Mult (.attr (.loc 70) 42) (.bin .Pow (.attr (.loc 70) 41) (.bin .Sub (.loc 92) (.con (.int 1)))))) (.cons (.ite (.cmp .GtE (.bui 4 (.cons (.compA 99 74 (.idx (.attr (.loc 119) 84) (.loc 92))) .nil)) (.loc 196)) (.cons (.asg 193 (.con (.bool true))) .nil) (.nil)) .nil))) (.cons (.asg 36 (.meth (.loc 194) 195 (.cons (.loc 119) (.cons (.loc 143) .nil)))) (.cons (.ite (.cmp .NotEq (.cmp .IsNot (.loc 36) (.con .none)) (.loc 193)) (.cons (.ret (.con (.bool false))) .nil) (.nil)) (.cons (.ite (.cmp .IsNot (.loc 36) (.con .none)) (.cons (.asg 166 (.call 192 736 (.cons (.loc 36) (.cons (.loc 165) (.cons (.loc 166) (.cons (.loc 64) .nil)))))) (.cons (.asg 119 (.call 191 722 (.cons (.loc 119) (.cons (.attr (.loc 36) 113) (.cons (.loc 70) .nil))))) .nil)) (.nil)) .nil)))))) (.cons (.ite (.cmp .NotEq (.meth (.loc 119) 110 (.nil)) (.bui 1 (.cons (.loc 165) .nil))) (.cons (.ret (.con (.bool false))) .nil) (.nil)) (.cons (.asg 181 (.call 190 708 (.cons (.loc 155) (.cons (.con (.int 7)) .nil)))) (.cons (.forR 186 (.cons (.bin .Add (.con (.int 1)) (.bin .Mult (.con (.int 2)) (.loc 185))) .nil) (.cons (.asg 176 (.bin .Mod (.bin .Add (.loc 181) (.loc 186)) (.con (.int 4)))) (.cons (.asg 177 (.bin .Add (.loc 64) (.bin .Mod (.bin .FloorDiv (.loc 181) (.con (.int 4))) (.con (.int 7))))) (.cons (.asg 188 (.con .none)) (.cons (.forE (.one 156) (.loc 189) (.cons (.ite (.boo .And (.cons (.cmp .Eq (.idx (.loc 156) (.con (.int 0))) (.loc 176)) (.cons (.cmp .LtE (.bin .Sub (.con (.int 0)) (.idx (.loc 156) (.con (.int 1)))) (.loc 177)) .nil))) (.cons (.asg 188 (.con .none)) (.cons (.ite (.cmp .Eq (.idx (.loc 156) (.con (.int 2))) (.con (.int 1))) (.cons (.asg 188 (.bui 2 (.cons (.lst (.cons (.bin .Sub (.con (.int 64)) (.idx (.loc 156) (.con (.int 1)))) .nil)) .nil))) .nil) (.nil)) .nil)) (.nil)) .nil)) (.cons (.ite (.cmp .NotEq (.call 187 741 (.cons (.loc 119) (.cons (.loc 165) (.cons (.loc 176) (.cons (.loc 177) .nil))))) (.loc 188)) (.cons (.ret (.con (.bool false))) .nil) (.nil)) .nil)))))) .nil)))))))))) (.cons (.asg 183 (.new 125 403 (.nil))) (.cons (.forR 92 (.cons (.loc 184) .nil) (.cons (.forE (.one 99) (.slc (.idx (.attr (.loc 119) 84) (.loc 92)) .nul (.con (.int 1))) (.cons (.ex (.meth (.attr (.loc 183) 78) 5 (.cons (.tup (.cons (.loc 92) (.cons (.attr (.loc 99) 73) .nil))) .nil))) .nil)) .nil)) (.cons (.asg 182 (.neg (.con (.int 1)))) (.cons (.ite (.cmp .Eq (.bin .Mod (.loc 181) (.con (.int 2))) (.con (.int 0))) (.cons (.asg 182 (.loc 184)) .nil) (.nil)) (.cons (.ite (.cmp .Eq (.bin .Mod (.bin .FloorDiv (.loc 181) (.con (.int 2))) (.con (.int 2))) (.con (.int 0))) (.cons (.ex (.meth (.attr (.loc 183) 78) 5 (.cons (.tup (.cons (.loc 182) (.cons (.con (.int 10)) .nil))) .nil))) .nil) (.cons (.ex (.meth (.attr (.loc 183) 77) 5 (.cons (.tup (.cons (.loc 182) (.cons (.new 168 368 (.cons (.con (.int 99)) (.cons (.con (.int 1)) (.cons (.call 167 715 (.cons (.tup (.cons (.con (.int 0)) (.cons (.neg (.con (.int 1))) (.cons (.con (.int 1)) .nil)))) .nil)) (.cons (.call 167 715 (.cons (.tup (.cons (.con (.int 0)) (.cons (.neg (.con (.int 1))) (.cons (.con (.int 1)) .nil)))) .nil)) .nil))))) .nil))) .nil))) .nil)) (.cons (.asg 160 (.new 163 550 (.cons (.loc 119) .nil))) (.cons (.asg 180 (.con (.bool false))) .nil)))))))))))))))))))))))))
def bB:ME:= .meth (.loc 160) 162 (.cons (.loc 183) .nil)
def a7:Nat:=180
def a6:ME:= .boo .And (.cons (.loc 180) (.cons (.cmp .Eq (.meth (.meth (.loc 160) 161 (.nil)) 110 (.nil)) (.meth (.loc 119) 110 (.nil))) .nil))
noncomputable def Gam:Nat→FT
 |0=>fun _=>none
 |n+1=>fun f=>match f with
  |89=>some (aj TT (Gam n) d7 eh)
  |96=>some (aj TT (Gam n) d8 ei)
  |103=>some (aj TT (Gam n) dE dJ)
  |110=>some (aj TT (Gam n) dF dK)
  |117=>some (aj TT (Gam n) gi gA)
  |124=>some (aj TT (Gam n) ff fp)
  |131=>some (aj TT (Gam n) eE eJ)
  |138=>some (aj TT (Gam n) ip ix)
  |145=>some (aj TT (Gam n) jp jx)
  |159=>some (aj TT (Gam n) dc dh)
  |234=>some (aj TT (Gam n) bV bZ)
  |241=>some (aj TT (Gam n) bC bD)
  |288=>some (aj TT (Gam n) dC dH)
  |330=>some (aj TT (Gam n) eB eG)
  |337=>some (aj TT (Gam n) eC eI)
  |358=>some (aj TT (Gam n) c9 dg)
  |386=>some (aj TT (Gam n) cB cC)
  |414=>some (aj TT (Gam n) e9 fh)
  |428=>some (aj TT (Gam n) dD dI)
  |435=>some (aj TT (Gam n) bN bR)
  |442=>some (aj TT (Gam n) bX b8)
  |449=>some (aj TT (Gam n) d0 ee)
  |470=>some (aj TT (Gam n) bG bI)
  |477=>some (aj TT (Gam n) cL cN)
  |491=>some (aj TT (Gam n) dd di)
  |512=>some (aj TT (Gam n) bi bj)
  |519=>some (pH TT (Gam n) ar a4 aR aS)
  |526=>some (aj TT (Gam n) aD aU)
  |533=>some (aj TT (Gam n) bL bP)
  |540=>some (aj TT (Gam n) bW b7)
  |547=>some (aj TT (Gam n) bM bQ)
  |561=>some (aj TT (Gam n) eF eK)
  |568=>some (aj TT (Gam n) fa fj)
  |582=>some (aj TT (Gam n) cK cM)
  |589=>some (aj TT (Gam n) bv bz)
  |596=>some (aj TT (Gam n) bU bY)
  |603=>some (aj TT (Gam n) bw bA)
  |610=>some (aj TT (Gam n) ba bc)
  |617=>some (aj TT (Gam n) bf bg)
  |631=>some (aj TT (Gam n) df dj)
  |638=>some (aj TT (Gam n) gj gB)
  |652=>some (aj TT (Gam n) dZ ec)
  |659=>some (aj TT (Gam n) bq br)
  |666=>some (aj TT (Gam n) co cq)
  |673=>some (aj TT (Gam n) cH cI)
  |687=>some (aj TT (Gam n) bK bO)
  |701=>some (aj TT (Gam n) fb fk)
  |708=>some (aj TT (Gam n) gb gq)
  |715=>some (aj TT (Gam n) gc gw)
  |722=>some (aj TT (Gam n) ge gy)
  |729=>some (aj TT (Gam n) im iw)
  |736=>some (aj TT (Gam n) d6 eg)
  |741=>some (fun vs H=>noX (aj TT (Gam n) gh gz vs H))
  |_=>none
open_top hd for PySem.Challenge.rw_no0433_01
noncomputable def CC (prog:Program) (w:World) (p:Program) (loose:List Str) (mean:ExcName→Option Value) (mg mb:Str→Option Value):Cx:=⟨Mine.hd.heap_39 w.params,TT,nm,prog,w,p,loose,mean,mg,mb,.ref 56⟩
section
variable {prog:Program} {w:World} {p:Program} {loose:List Str} {mean:ExcName→Option Value} {mg mb:Str→Option Value} {Γ:FT} {n:Nat}
local macro_rules |`(tactic|walk_at "o")=>`(tactic|exact fn_ok (by assumption) (by assumption) (by rfl) (by kernel_rfl) (by intro xs h;first|(match xs,h with|[_],_=>rfl)|(match xs,h with|[_,_],_=>rfl)|(match xs,h with|[_,_,_],_=>rfl)|(match xs,h with|[_,_,_,_],_=>rfl)|(match xs,h with|[_,_,_,_,_],_=>rfl)|(match xs,h with|[],_=>rfl)) (by kernel_rfl) (by decide) (by kernel_rfl) (by rfl) (by rfl) (by rfl) (by decide))
section
variable (tk:TOk (CC prog w p loose mean mg mb).K TT nm) (hΓ:GOk (CC prog w p loose mean mg mb) Γ n)
include tk hΓ
theorem lQ:bn (CC prog w p loose mean mg mb) 89 (aj TT Γ d7 eh) (n+1):=by walk_at "o"
theorem lR:bn (CC prog w p loose mean mg mb) 96 (aj TT Γ d8 ei) (n+1):=by walk_at "o"
theorem j7:bn (CC prog w p loose mean mg mb) 103 (aj TT Γ dE dJ) (n+1):=by walk_at "o"
theorem j8:bn (CC prog w p loose mean mg mb) 110 (aj TT Γ dF dK) (n+1):=by walk_at "o"
theorem pz:bn (CC prog w p loose mean mg mb) 117 (aj TT Γ gi gA) (n+1):=by walk_at "o"
theorem nY:bn (CC prog w p loose mean mg mb) 124 (aj TT Γ ff fp) (n+1):=by walk_at "o"
theorem mr:bn (CC prog w p loose mean mg mb) 131 (aj TT Γ eE eJ) (n+1):=by walk_at "o"
theorem qA:bn (CC prog w p loose mean mg mb) 138 (aj TT Γ ip ix) (n+1):=by walk_at "o"
theorem sO:bn (CC prog w p loose mean mg mb) 145 (aj TT Γ jp jx) (n+1):=by walk_at "o"
theorem jK:bn (CC prog w p loose mean mg mb) 159 (aj TT Γ dc dh) (n+1):=by walk_at "o"
theorem gM:bn (CC prog w p loose mean mg mb) 234 (aj TT Γ bV bZ) (n+1):=by walk_at "o"
theorem fD:bn (CC prog w p loose mean mg mb) 241 (aj TT Γ bC bD) (n+1):=by walk_at "o"
theorem j5:bn (CC prog w p loose mean mg mb) 288 (aj TT Γ dC dH) (n+1):=by walk_at "o"
theorem mo:bn (CC prog w p loose mean mg mb) 330 (aj TT Γ eB eG) (n+1):=by walk_at "o"
theorem mq:bn (CC prog w p loose mean mg mb) 337 (aj TT Γ eC eI) (n+1):=by walk_at "o"
theorem jJ:bn (CC prog w p loose mean mg mb) 358 (aj TT Γ c9 dg) (n+1):=by walk_at "o"
theorem iD:bn (CC prog w p loose mean mg mb) 386 (aj TT Γ cB cC) (n+1):=by walk_at "o"
theorem nV:bn (CC prog w p loose mean mg mb) 414 (aj TT Γ e9 fh) (n+1):=by walk_at "o"
theorem j6:bn (CC prog w p loose mean mg mb) 428 (aj TT Γ dD dI) (n+1):=by walk_at "o"
theorem f9:bn (CC prog w p loose mean mg mb) 435 (aj TT Γ bN bR) (n+1):=by walk_at "o"
theorem gP:bn (CC prog w p loose mean mg mb) 442 (aj TT Γ bX b8) (n+1):=by walk_at "o"
theorem lO:bn (CC prog w p loose mean mg mb) 449 (aj TT Γ d0 ee) (n+1):=by walk_at "o"
theorem fQ:bn (CC prog w p loose mean mg mb) 470 (aj TT Γ bG bI) (n+1):=by walk_at "o"
theorem iS:bn (CC prog w p loose mean mg mb) 477 (aj TT Γ cL cN) (n+1):=by walk_at "o"
theorem jL:bn (CC prog w p loose mean mg mb) 491 (aj TT Γ dd di) (n+1):=by walk_at "o"
theorem hN:bn (CC prog w p loose mean mg mb) 512 (aj TT Γ bi bj) (n+1):=by walk_at "o"
theorem f8:bn (CC prog w p loose mean mg mb) 519 (pH TT Γ ar a4 aR aS) (n+1):=by
 apply s9 tk hΓ
 case ho=>rfl
 case hcd=>kernel_rfl
 case hbind=>intro bd xs h;match xs,h with|[_,_],_=>rfl
 case hloc=>kernel_rfl
 case hnd=>decide
 case h1=>kernel_rfl
 case h2=>kernel_rfl
 case h3=>kernel_rfl
 case hz=>decide
 case hxn=>kernel_rfl
 case hxc=>kernel_rfl
 case hex=>kernel_rfl
 case FB=>exact PySem.F.excBase_Exception
 case hC=>rfl
 case hco=>rfl
 case hgen=>rfl
 case hk=>rfl
 case hcell=>decide
theorem gN:bn (CC prog w p loose mean mg mb) 526 (aj TT Γ aD aU) (n+1):=by walk_at "o"
theorem f6:bn (CC prog w p loose mean mg mb) 533 (aj TT Γ bL bP) (n+1):=by walk_at "o"
theorem gO:bn (CC prog w p loose mean mg mb) 540 (aj TT Γ bW b7) (n+1):=by walk_at "o"
theorem f7:bn (CC prog w p loose mean mg mb) 547 (aj TT Γ bM bQ) (n+1):=by walk_at "o"
theorem ms:bn (CC prog w p loose mean mg mb) 561 (aj TT Γ eF eK) (n+1):=by walk_at "o"
theorem nW:bn (CC prog w p loose mean mg mb) 568 (aj TT Γ fa fj) (n+1):=by walk_at "o"
theorem iR:bn (CC prog w p loose mean mg mb) 582 (aj TT Γ cK cM) (n+1):=by walk_at "o"
theorem eY:bn (CC prog w p loose mean mg mb) 589 (aj TT Γ bv bz) (n+1):=by walk_at "o"
theorem gL:bn (CC prog w p loose mean mg mb) 596 (aj TT Γ bU bY) (n+1):=by walk_at "o"
theorem eZ:bn (CC prog w p loose mean mg mb) 603 (aj TT Γ bw bA) (n+1):=by walk_at "o"
theorem et:bn (CC prog w p loose mean mg mb) 610 (aj TT Γ ba bc) (n+1):=by walk_at "o"
theorem eA:bn (CC prog w p loose mean mg mb) 617 (aj TT Γ bf bg) (n+1):=by walk_at "o"
theorem jM:bn (CC prog w p loose mean mg mb) 631 (aj TT Γ df dj) (n+1):=by walk_at "o"
theorem pA:bn (CC prog w p loose mean mg mb) 638 (aj TT Γ gj gB) (n+1):=by walk_at "o"
theorem lM:bn (CC prog w p loose mean mg mb) 652 (aj TT Γ dZ ec) (n+1):=by walk_at "o"
theorem eR:bn (CC prog w p loose mean mg mb) 659 (aj TT Γ bq br) (n+1):=by walk_at "o"
theorem hM:bn (CC prog w p loose mean mg mb) 666 (aj TT Γ co cq) (n+1):=by walk_at "o"
theorem lN:bn (CC prog w p loose mean mg mb) 673 (aj TT Γ cH cI) (n+1):=by walk_at "o"
theorem f5:bn (CC prog w p loose mean mg mb) 687 (aj TT Γ bK bO) (n+1):=by walk_at "o"
theorem nX:bn (CC prog w p loose mean mg mb) 701 (aj TT Γ fb fk) (n+1):=by walk_at "o"
theorem pp:bn (CC prog w p loose mean mg mb) 708 (aj TT Γ gb gq) (n+1):=by walk_at "o"
theorem pq:bn (CC prog w p loose mean mg mb) 715 (aj TT Γ gc gw) (n+1):=by walk_at "o"
theorem pr:bn (CC prog w p loose mean mg mb) 722 (aj TT Γ ge gy) (n+1):=by walk_at "o"
theorem qz:bn (CC prog w p loose mean mg mb) 729 (aj TT Γ im iw) (n+1):=by walk_at "o"
theorem lP:bn (CC prog w p loose mean mg mb) 736 (aj TT Γ d6 eg) (n+1):=by walk_at "o"
theorem pv:bn (CC prog w p loose mean mg mb) 741 (fun vs H=>noX (aj TT Γ gh gz vs H)) (n+1):=by
 apply zQ tk hΓ
 case ho=>rfl
 case hcd=>kernel_rfl
 case hbind=>intro xs h;match xs,h with|[_,_,_,_],_=>rfl
 case hloc=>kernel_rfl
 case hnd=>decide
 case hchk=>kernel_rfl
 case hco=>rfl
 case hgen=>rfl
 case hk=>rfl
 case hcell=>decide
end
theorem Aa (tk:TOk (CC prog w p loose mean mg mb).K TT nm):∀n,GOk (CC prog w p loose mean mg mb) (Gam n) n:=by
 intro n
 induction n with
 |zero=>intro f D h;cases h
 |succ n ih=>
  intro f D h
  unfold Gam at h
  split at h
  ·cases h;exact lQ tk ih
  ·cases h;exact lR tk ih
  ·cases h;exact j7 tk ih
  ·cases h;exact j8 tk ih
  ·cases h;exact pz tk ih
  ·cases h;exact nY tk ih
  ·cases h;exact mr tk ih
  ·cases h;exact qA tk ih
  ·cases h;exact sO tk ih
  ·cases h;exact jK tk ih
  ·cases h;exact gM tk ih
  ·cases h;exact fD tk ih
  ·cases h;exact j5 tk ih
  ·cases h;exact mo tk ih
  ·cases h;exact mq tk ih
  ·cases h;exact jJ tk ih
  ·cases h;exact iD tk ih
  ·cases h;exact nV tk ih
  ·cases h;exact j6 tk ih
  ·cases h;exact f9 tk ih
  ·cases h;exact gP tk ih
  ·cases h;exact lO tk ih
  ·cases h;exact fQ tk ih
  ·cases h;exact iS tk ih
  ·cases h;exact jL tk ih
  ·cases h;exact hN tk ih
  ·cases h;exact f8 tk ih
  ·cases h;exact gN tk ih
  ·cases h;exact f6 tk ih
  ·cases h;exact gO tk ih
  ·cases h;exact f7 tk ih
  ·cases h;exact ms tk ih
  ·cases h;exact nW tk ih
  ·cases h;exact iR tk ih
  ·cases h;exact eY tk ih
  ·cases h;exact gL tk ih
  ·cases h;exact eZ tk ih
  ·cases h;exact et tk ih
  ·cases h;exact eA tk ih
  ·cases h;exact jM tk ih
  ·cases h;exact pA tk ih
  ·cases h;exact lM tk ih
  ·cases h;exact eR tk ih
  ·cases h;exact hM tk ih
  ·cases h;exact lN tk ih
  ·cases h;exact f5 tk ih
  ·cases h;exact nX tk ih
  ·cases h;exact pp tk ih
  ·cases h;exact pq tk ih
  ·cases h;exact pr tk ih
  ·cases h;exact qz tk ih
  ·cases h;exact lP tk ih
  ·cases h;exact pv tk ih
  ·cases h
end
theorem Ap:∀x y,nm x=nm y→x=y:=by
 have hs:∀(i:Nat) (v:Str),nmT[i]? =some v→∀k:Nat,v≠(⟨#[3000000+k]⟩:Str):=by
  have:∀v∈nmT,v.cps.size≠1∨∀c∈v.cps.toList,c<3000000:=by
   have h:nmT.all (fun v=>decide (v.cps.size≠1) || v.cps.toList.all (fun c=>decide (c<3000000)))=true:=by kernel_rfl
   intro v hv
   have:=List.all_eq_true.mp h v hv
   rw[Bool.or_eq_true,decide_eq_true_eq,List.all_eq_true] at this
   exact this.imp id fun h c hc=>of_decide_eq_true (h c hc)
  intro i v hv k e
  rcases this v (List.mem_of_getElem? hv) with h|h
  ·subst e;exact h rfl
  ·subst e
   have:=h (3000000+k) (by simp)
   omega
 have hn:nmT.Nodup:=by
  have h:decide nmT.Nodup=true:=by kernel_rfl
  exact of_decide_eq_true h
 intro x y h
 unfold nm at h
 cases hx:nmT[x]? with
 |none=>
  cases hy:nmT[y]? with
  |none=>
   rw[hx,hy] at h
   simp only[Option.getD_none] at h
   have h:=congrArg (fun s:Str=>s.cps[0]?) h
   simp at h
   exact h
  |some v=>
   rw[hx,hy] at h
   exact absurd h.symm (hs y v hy x)
 |some u=>
  cases hy:nmT[y]? with
  |none=>
   rw[hx,hy] at h
   exact absurd h (hs x u hx y)
  |some v=>
   rw[hx,hy] at h
   simp only[Option.getD_some] at h
   subst h
   obtain⟨a,ha⟩:=List.getElem?_eq_some_iff.mp hx
   obtain⟨b,hb⟩:=List.getElem?_eq_some_iff.mp hy
   exact(List.getElem_inj hn).mp (ha.trans hb.symm)
def fldC (K:Frag) (p:Addr×Nat):Bool:=plainGet K p.1 (nm p.2) && hasDictIn K p.1 && (match findIn K (.ref p.1) (nm p.2) with|some a=>noGet K a|none=>false) &&
 findIn K (.ref p.1) "__setattr__" == some (some (.builtin "object.__setattr__")) && plainOver K p.1 && takerIn K p.1 (nm p.2) == some none
def yH (K:Frag) (p:(Addr×Nat)×Addr):Bool:=plainGet K p.1.1 (nm p.1.2) && findIn K (.ref p.1.1) (nm p.1.2) == some (some (.ref p.2)) && isFn K (.ref p.2) && keepIn K (.ref p.2)
def yy (K:Frag) (p:Addr×Addr):Bool:=makesIn K p.1 && findIn K (.ref p.1) "__init__" == some (some (.ref p.2)) && isFn K (.ref p.2) && keepIn K (.ref p.1)
def uP (K:Frag) (p:Addr):Bool:=makesIn K p && findIn K (.ref p) "__init__" == some (some (.builtin "object.__init__")) && keepIn K (.ref p)
theorem uc {C f:Nat}:qq C f=true→(C,f)∈fldT:=by
 unfold qq
 split<;>first|(intro _;decide)|(intro h;cases h)
theorem sK {C m f:Nat}:lC C m=some f→((C,m),f)∈yI:=by
 unfold lC
 split<;>first|(intro h;cases h;decide)|(intro h;cases h)
theorem sF {C f:Nat}:o0 C=some f→(C,f)∈yz:=by
 unfold o0
 split<;>first|(intro h;cases h;decide)|(intro h;cases h)
theorem qB {C:Nat}:lU C=true→C∈uQ:=by
 unfold lU
 split<;>first|(intro _;decide)|(intro h;cases h)
theorem tok (q:Params):TOk (Mine.hd.heap_39 q) TT nm:=by
 have hf:fldT.all (fldC (Mine.hd.heap_39 q))=true:=by kernel_rfl
 have hm:yI.all (yH (Mine.hd.heap_39 q))=true:=by kernel_rfl
 have hi:yz.all (yy (Mine.hd.heap_39 q))=true:=by kernel_rfl
 have hp:uQ.all (uP (Mine.hd.heap_39 q))=true:=by kernel_rfl
 refine⟨Ap,fun C f h=> ?_,fun C m f h=> ?_,fun C f h=> ?_,fun C h=> ?_,by decide+kernel,by decide+kernel,by decide+kernel,by decide+kernel,by decide+kernel,by decide+kernel,by decide+kernel,by decide+kernel,fun x hx=> ?_⟩
 ·have:=List.all_eq_true.mp hf (C,f) (uc h)
  unfold fldC at this
  simp only[Bool.and_eq_true,beq_iff_eq] at this
  obtain⟨⟨⟨⟨⟨a,b⟩,c⟩,d⟩,e⟩,g⟩:=this
  refine⟨a,b,?_,d,e,g⟩
  split at c
  ·rename_i x hx;exact⟨x,hx,c⟩
  ·cases c
 ·have:=List.all_eq_true.mp hm _ (sK h)
  unfold yH at this
  simp only[Bool.and_eq_true,beq_iff_eq] at this
  exact⟨this.1.1.1,this.1.1.2,this.1.2,this.2⟩
 ·have:=List.all_eq_true.mp hi _ (sF h)
  unfold yy at this
  simp only[Bool.and_eq_true,beq_iff_eq] at this
  exact⟨this.1.1.1,this.1.1.2,this.1.2,this.2⟩
 ·have:=List.all_eq_true.mp hp C (qB h)
  unfold uP at this
  simp only[Bool.and_eq_true,beq_iff_eq] at this
  exact⟨this.1.1,this.1.2,this.2⟩
 ·have h:[0,1,2,3,4].all (fun k=>nsIn (Mine.hd.heap_39 q) mainGlobals (nm k) == some none)=true:=by kernel_rfl
  have hx':x=0∨x=1∨x=2∨x=3∨x=4:=hx
  have:=List.all_eq_true.mp h x (by simpa using hx')
  exact beq_iff_eq.mp this
section
variable {prog:Program} {w:World} {p:Program} {loose:List Str} {mean:ExcName→Option Value} {mg mb:Str→Option Value} {Γ:FT} {n:Nat}
theorem uD (tk:TOk (CC prog w p loose mean mg mb).K TT nm) (hΓ:GOk (CC prog w p loose mean mg mb) Γ n)
 {A₀ A:Around} {base h₀:Heap} {L a:Addr} {cn:Str} {cs:Scope} {ccd:Value} {m:Str→Option Value} {s:Shared} {news:Led} {ρ:Rh} {H:Hp} {vs:List SV} {ws:List Value} {R:Result→Shared→Prop}
 (fc:FC (CC prog w p loose mean mg mb) (2*(n+1)) A₀ base [] (envOf cn cs L a ccd) A h₀ L) (XB:(CC prog w p loose mean mg mb).K.In base) (TB:Top p loose mean mg mb base) (Fm:Fr h₀ L s.heap m) (N:News h₀ L s.heap news) (S:St prog w nm ρ H news) (va:A2 (V ρ news) vs ws)
 (q:PSc (CC prog w p loose mean mg mb) h₀ L m V ρ news (pG TT Γ cQ cD bB a7 a6 vs H) (fun v s'=>R (.ok (.ret v)) s') (fun _=>False) s):
 codeAny (model prog w) A (.call (.ref 746) ⟨ws,[]⟩) R s:=by
 refine' xm (c:=CC prog w p loose mean mg mb) (pre:=cD) (tr:=bB) (rt:=a6) (rv:=a7) tk hΓ ?ho ?hcd ?hbind ?hloc ?hnd ?hchk ?htr ?hnc ?hrt ?hrv ?hxn ?hxc ?hC ?hkt ?hco ?hgen ?hk ?hcell fc XB TB Fm N S va q
 case ho=>exact(show(Mine.hd.heap_39 w.params).lookup 746=some ⟨_,_,.func (fnOf _ _ _ ([_,_,_,_,_,_,_,_,_,_,_,_,_,_,_,_,_,_,_,_,_,_,_,_,_,_]++[.Try [.Expr _ _] [.ExceptHandler (some (.Name _ _)) none [.Assign [.Name _ _] (.Constant (.bool true) _ _) _] _] [] [] _,.Return (some _) _]) _ _ _ _ _ _ _ _),_⟩ from rfl)
 case hcd=>kernel_rfl
 case hbind=>intro bd xs h;match xs,h with|[_],_=>rfl
 case hloc=>kernel_rfl
 case hnd=>decide
 case hchk=>kernel_rfl
 case htr=>kernel_rfl
 case hnc=>rfl
 case hrt=>kernel_rfl
 case hrv=>kernel_rfl
 case hxn=>kernel_rfl
 case hxc=>kernel_rfl
 case hC=>rfl
 case hkt=>kernel_rfl
 case hco=>rfl
 case hgen=>rfl
 case hk=>rfl
 case hcell=>decide
end
def wl:Prop:=∀is:List Int,is≠[]→is.length≤8→(∀i∈is,0≤i∧i<999983)→∃H',pG TT (Gam 40) cQ cD bB a7 a6 [.ref 0] [.list (is.map SV.int)]= .ok (.bool true) H'
section
variable {prog:Program} {w:World} {p:Program} {loose:List Str} {mean:ExcName→Option Value} {mg mb:Str→Option Value}
theorem mG (hT:wl) {h₀:Heap} {L a a0:Addr} {cn:Str} {cs:Scope} {ccd:Value} {m:Str→Option Value} {s:Shared} {news:Led} {ys:List Value} {o:Obj} {is:List Int} {Q E:Value→Shared→Prop}
 (B:Below callerA h₀ [] h₀) (F:Fr h₀ L s.heap m) (X:(Mine.hd.heap_39 w.params).In h₀) (T:Top p loose mean mg mb h₀) (N:News h₀ L s.heap news) (hm:(a0,o)∈news) (ho:gR ys o) (hi:IntsAre ys is)
 (hne:is≠[]) (hl:is.length≤8) (hb:∀i∈is,0≤i∧i<999983) (hk:cs.kind= .function)
 (hQ:∀h' tk news',Fr h₀ L h' m→News h₀ L h' news'→Q (.bool true) {s with heap:=h',toks:=tk}):
 wpAny (model prog w) (callerA.deeper (envOf cn cs L a ccd)) (call (.ref 746) [.ref a0]) Q E s:=by
 obtain⟨H',e⟩:=hT is hne hl hb
 have S:St prog w nm [(a0,a0)] [.list (is.map SV.int)] news:=by
  refine⟨rfl,fun i j q r hi hj _=> ?_,fun i j q r hi hj _=> ?_,fun i oi q hi' hq=> ?_⟩
  ·have h1:=(List.getElem?_eq_some_iff.mp hi).1;have h2:=(List.getElem?_eq_some_iff.mp hj).1
   simp at h1 h2;omega
  ·have h1:=(List.getElem?_eq_some_iff.mp hi).1;have h2:=(List.getElem?_eq_some_iff.mp hj).1
   simp at h1 h2;omega
  ·have h1:=(List.getElem?_eq_some_iff.mp hi').1
   simp at h1;subst h1
   simp at hi' hq;subst hi' hq
   exact⟨rfl,ys,o,hm,ho,nM hi⟩
 refine wpAny_call (uD (tok w.params) (Aa (prog:=prog) (w:=w) (p:=p) (loose:=loose) (mean:=mean) (mg:=mg) (mb:=mb) (tok w.params) 40)
  (ρ:=[(a0,a0)]) (H:=[.list (is.map SV.int)]) (vs:=[.ref 0]) (A₀:=callerA) (base:=h₀) ⟨B,X,T,Around.frames_deeper B.stack,rfl,hk,rfl,by rw[depth_deeper,depth_caller];decide,by rw[units_deeper,units_caller];decide⟩ X T F N S ⟨⟨a0,rfl⟩,trivial⟩ ?_)
 show PSc _ h₀ L m V _ news (pG TT (Gam 40) cQ cD bB a7 a6 [.ref 0] [.list (is.map SV.int)]) _ _ s
 rw[e]
 intro ρ' news' h' tk y F' N' S' X' vy
 have:=vy.bool_inv
 subst this
 exact hQ h' tk news' F' N'
theorem ud {l:List Int}:∀i∈l.map (fun k=>k.fmod 999983),0≤i∧i<999983:=fun i hi=>by
 obtain⟨k,_,rfl⟩:=List.mem_map.mp hi
 exact⟨Int.fmod_nonneg_of_pos k (by decide),Int.fmod_lt_of_pos k (by decide)⟩
end
end
section
open PySem
theorem nr {α:Sort _} {a b:α} (h:a=b):a=b:=h
def W {α:Type} (r:R α) (Q:α→Hp→Prop):Prop:=match r with
 | .ok a H=>Q a H
 |_=>False
def O {α:Type} (o:Option α) (Q:α→Prop):Prop:=match o with
 |some a=>Q a
 |none=>False
theorem W.mono {α:Type} {r:R α} {Q Q':α→Hp→Prop} (h:W r Q) (k:∀a H,Q a H→Q' a H):W r Q':=by
 cases r with
 |ok a H=>exact k a H h
 |exc H=>exact h
 |fail=>exact h
theorem aq {α β:Type} (r:R α) (f:α→Hp→R β) (Q:β→Hp→Prop):W (r.bind f) Q=W r fun a H=>W (f a H) Q:=by cases r<;>rfl
theorem gV {α:Type} (a:α) (H:Hp) (Q:α→Hp→Prop):W (.ok a H) Q=Q a H:=nr rfl
theorem tn {α:Type} (Q:α→Hp→Prop):W .fail Q=False:=nr rfl
theorem W_ite {α:Type} (c:Prop) [Decidable c] (a b:R α) (Q:α→Hp→Prop):W (if c then a else b) Q=if c then W a Q else W b Q:=by split<;>rfl
theorem eO {α:Type} (a:α) (Q:α→Prop):O (some a) Q=Q a:=nr rfl
theorem cr {α:Type} {r:R α} {a:α} {H:Hp} (h:W r fun b H'=>b=a∧H'=H):r= .ok a H:=by
 cases r with
 |ok b H'=>obtain⟨rfl,rfl⟩:=h;rfl
 |exc H=>exact h.elim
 |fail=>exact h.elim
theorem W_of {α:Type} {r:R α} {a:α} {H:Hp} {Q:α→Hp→Prop} (h:r= .ok a H) (q:Q a H):W r Q:=by rw[h];exact q
section
variable (T:Tb) (Γ:FT) (l:Loc) (H:Hp)
theorem pV (x:Nat) (Q):W (evE T Γ (.loc x) l H) Q=O (l x) fun v=>Q v H:=by rw[evE];cases l x<;>rfl
theorem yZ (v:SV) (Q):W (evE T Γ (.con v) l H) Q=Q v H:=by rw[evE];rfl
theorem y1 (n:Nat) (v:SV) (Q):W (evE T Γ (.glo n v) l H) Q=Q v H:=by rw[evE];rfl
theorem zd (Q):W (evE T Γ .nul l H) Q=Q .none H:=by rw[evE];rfl
theorem qO (e:ME) (f:Nat) (Q):W (evE T Γ (.attr e f) l H) Q=W (evE T Γ e l H) fun v H₁=>W (gC T v f H₁) Q:=by rw[evE,aq]
theorem yU (op:Operator) (a b:ME) (Q):W (evE T Γ (.bin op a b) l H) Q=W (evE T Γ a l H) fun v H₁=>W (evE T Γ b l H₁) fun w H₂=>W (gH op v w H₂) Q:=by rw[evE,aq];simp only[aq]
theorem y9 (e:ME) (Q):W (evE T Γ (.neg e) l H) Q=W (evE T Γ e l H) fun v H₁=>match v with| .int i=>Q (.int (-i)) H₁|_=>False:=by
 rw[evE,aq]
 congr 1;funext v H₁
 cases v<;>rfl
theorem yY (op:CmpOp) (a b:ME) (Q):W (evE T Γ (.cmp op a b) l H) Q=W (evE T Γ a l H) fun v H₁=>W (evE T Γ b l H₁) fun w H₂=>W (dO op v w H₂) fun c H₃=>Q (.bool c) H₃:=by rw[evE,aq];simp only[aq,gV]
theorem yV (op:BoolOp) (es:MEs) (Q):W (evE T Γ (.boo op es) l H) Q=W (evB T Γ op es l H) Q:=by rw[evE]
theorem zc (e:ME) (Q):W (evE T Γ (.not e) l H) Q=W (evE T Γ e l H) fun v H₁=>W (iT v H₁) fun b H₂=>Q (.bool (!b)) H₂:=by rw[evE,aq];simp only[aq,gV]
theorem zf (es:MEs) (Q):W (evE T Γ (.tup es) l H) Q=W (dB T Γ es l H) fun vs H₁=>(e6 vs=true∧vs.length≤ag)∧Q (.tup vs) H₁:=by
 rw[evE,aq]
 congr 1;funext vs H₁
 by_cases c:e6 vs=true∧vs.length≤ag
 ·simp[c,gV]
 ·rw[if_neg (by simpa using c),tn];simp only[c,false_and]
theorem y8 (es:MEs) (Q):W (evE T Γ (.lst es) l H) Q=W (dB T Γ es l H) fun vs H₁=>W (bp vs H₁) Q:=by rw[evE,aq]
theorem y0 (Q):W (evE T Γ .dic l H) Q=Q (.ref H.length) (H++[.dict []]):=by rw[evE];rfl
theorem y7 (a i:ME) (Q):W (evE T Γ (.idx a i) l H) Q=W (evE T Γ a l H) fun v H₁=>W (evE T Γ i l H₁) fun w H₂=>W (j4 v w H₂) Q:=by rw[evE,aq];simp only[aq]
theorem ze (a lo hi:ME) (Q):W (evE T Γ (.slc a lo hi) l H) Q=W (evE T Γ a l H) fun v H₁=>W (evE T Γ lo l H₁) fun x H₂=>W (evE T Γ hi l H₂) fun y H₃=>W (oh v x y H₃) Q:=by rw[evE,aq];simp only[aq]
def aw (o:Option (List SV→Hp→R SV)) (vs:List SV) (H:Hp):R SV:=match o with
 |some D=>D vs H
 |none=> .fail
theorem wi (n:Nat) (f:Addr) (es:MEs) (Q):W (evE T Γ (.call n f es) l H) Q=W (dB T Γ es l H) fun vs H₁=>W (aw (Γ f) vs H₁) Q:=by rw[evE,aq];rfl
theorem za (n:Nat) (C:Addr) (es:MEs) (Q):W (evE T Γ (.new n C es) l H) Q=W (dB T Γ es l H) fun vs H₁=>W (fC T Γ C vs H₁) Q:=by rw[evE,aq]
theorem wj (o:ME) (m:Nat) (es:MEs) (Q):W (evE T Γ (.meth o m es) l H) Q=W (evE T Γ o l H) fun v H₁=>W (jn T v m H₁) fun k H₂=>W (dB T Γ es l H₂) fun vs H₃=>W (fN Γ k v vs H₃) Q:=by rw[evE,aq];simp only[aq]
theorem yX (n:Nat) (es:MEs) (Q):W (evE T Γ (.bui n es) l H) Q=W (dB T Γ es l H) fun vs H₁=>W (gI T n vs H₁) Q:=by rw[evE,aq]
theorem zb (Q):W (dB T Γ .nil l H) Q=Q [] H:=by rw[dB];rfl
theorem qP (e:ME) (r:MEs) (Q):W (dB T Γ (.cons e r) l H) Q=W (evE T Γ e l H) fun v H₁=>W (dB T Γ r l H₁) fun vs H₂=>Q (v::vs) H₂:=by rw[dB,aq];simp only[aq,gV]
theorem w_b1 (op:BoolOp) (e:ME) (Q):W (evB T Γ op (.cons e .nil) l H) Q=W (evE T Γ e l H) Q:=by rw[evB]
theorem wh (e e':ME) (r:MEs) (Q):W (evB T Γ .And (.cons e (.cons e' r)) l H) Q=W (evE T Γ e l H) fun v H₁=>W (iT v H₁) fun b H₂=>(b=false→Q v H₂)∧(b=true→W (evB T Γ .And (.cons e' r) l H₂) Q):=by
 rw[evB,aq]
 ·simp only[aq]
  congr 1;funext v H₁;congr 1;funext b H₂
  cases b<;>simp[gV]
 ·intro z;cases z
theorem yW (e e':ME) (r:MEs) (Q):W (evB T Γ .Or (.cons e (.cons e' r)) l H) Q=W (evE T Γ e l H) fun v H₁=>W (iT v H₁) fun b H₂=>(b=true→Q v H₂)∧(b=false→W (evB T Γ .Or (.cons e' r) l H₂) Q):=by
 rw[evB,aq]
 ·simp only[aq]
  congr 1;funext v H₁;congr 1;funext b H₂
  cases b<;>simp[gV]
 ·intro z;cases z
theorem yo (e:ME) (Q):W (evC T Γ (.not e) l H) Q=W (evC T Γ e l H) fun b H₁=>Q (!b) H₁:=by rw[evC,aq];rfl
theorem yk (op:BoolOp) (es:MEs) (Q):W (evC T Γ (.boo op es) l H) Q=W (iB T Γ op es l H) Q:=by rw[evC]
theorem yl (op:CmpOp) (a b:ME) (Q):W (evC T Γ (.cmp op a b) l H) Q=W (evE T Γ a l H) fun v H₁=>W (evE T Γ b l H₁) fun w H₂=>W (dO op v w H₂) Q:=by rw[evC,aq];simp only[aq]
theorem tG (e:ME) (f:Nat) (Q):W (evC T Γ (.attr e f) l H) Q=W (evE T Γ (.attr e f) l H) fun v H₁=>W (iT v H₁) Q:=by simp only[evC,aq]
theorem ym (x:Nat) (Q):W (evC T Γ (.loc x) l H) Q=W (evE T Γ (.loc x) l H) fun v H₁=>W (iT v H₁) Q:=by simp only[evC,aq]
theorem tH (o:ME) (m:Nat) (es:MEs) (Q):W (evC T Γ (.meth o m es) l H) Q=W (evE T Γ (.meth o m es) l H) fun v H₁=>W (iT v H₁) Q:=by simp only[evC,aq]
theorem yn (Q):W (iB T Γ .And .nil l H) Q=Q true H:=by rw[iB];rfl
theorem tI (Q):W (iB T Γ .Or .nil l H) Q=Q false H:=by rw[iB];rfl
theorem yj (e:ME) (r:MEs) (Q):W (iB T Γ .And (.cons e r) l H) Q=W (evC T Γ e l H) fun b H₁=>if b then W (iB T Γ .And r l H₁) Q else Q false H₁:=by
 rw[iB,aq]
 congr 1;funext b H₁;cases b<;>rfl
theorem c_or (e:ME) (r:MEs) (Q):W (iB T Γ .Or (.cons e r) l H) Q=W (evC T Γ e l H) fun b H₁=>if b then Q true H₁ else W (iB T Γ .Or r l H₁) Q:=by
 rw[iB,aq]
 congr 1;funext b H₁;cases b<;>rfl
theorem fR (Q):W (aM T Γ .nil l H) Q=Q (.next,l) H:=by rw[aM];rfl
def qH (r:MSs) (Q:Fl×Loc→Hp→Prop) (q:Fl×Loc) (H₁:Hp):Prop:=match q with
 |(.next,l')=>W (aM T Γ r l' H₁) Q
 |q=>Q q H₁
theorem eT (s:MS) (r:MSs) (Q):W (aM T Γ (.cons s r) l H) Q=W (exS T Γ s l H) (qH T Γ r Q):=by
 rw[aM,aq]
 congr 1;funext q H₁
 obtain⟨f,l'⟩:=q
 cases f<;>rfl
theorem jr (r:MSs) (Q:Fl×Loc→Hp→Prop):qH T Γ r Q (.next,l) H=W (aM T Γ r l H) Q:=nr rfl
theorem rV (r:MSs) (Q:Fl×Loc→Hp→Prop) (v:SV):qH T Γ r Q (.ret v,l) H=Q (.ret v,l) H:=nr rfl
theorem rU (r:MSs) (Q:Fl×Loc→Hp→Prop):qH T Γ r Q (.brk,l) H=Q (.brk,l) H:=nr rfl
theorem pJ (r:MSs) (Q:Fl×Loc→Hp→Prop):qH T Γ r Q (.cont,l) H=Q (.cont,l) H:=nr rfl
theorem yO (x:Nat) (e:ME) (Q):W (exS T Γ (.asg x e) l H) Q=W (evE T Γ e l H) fun v H₁=>Q (.next,upd l x v) H₁:=by rw[exS,aq];rfl
theorem u0 (o:ME) (f:Nat) (e:ME) (Q):W (exS T Γ (.asgA o f e) l H) Q=W (evE T Γ e l H) fun v H₁=>W (evE T Γ o l H₁) fun ov H₂=>W (qJ T ov f v H₂) fun _ H₃=>Q (.next,l) H₃:=by rw[exS,aq];simp only[aq,gV]
theorem u5 (o i e:ME) (Q):W (exS T Γ (.asgI o i e) l H) Q=W (evE T Γ e l H) fun v H₁=>W (evE T Γ o l H₁) fun ov H₂=>W (evE T Γ i l H₂) fun iv H₃=>W (qI ov iv v H₃) fun _ H₄=>Q (.next,l) H₄:=by rw[exS,aq];simp only[aq,gV]
theorem u6 (xs:List Nat) (e:ME) (Q):W (exS T Γ (.asgT xs e) l H) Q=W (evE T Γ e l H) fun v H₁=>match v with| .tup vs=>O (dR xs vs l) fun l'=>Q (.next,l') H₁|_=>False:=by
 rw[exS,aq]
 congr 1;funext v H₁
 cases v<;>first|rfl|skip
 rename_i vs
 cases h:dR xs vs l<;>simp[h,O,W]
theorem u9 (x:Nat) (op:Operator) (e:ME) (Q):W (exS T Γ (.augN x op e) l H) Q=O (l x) fun old=>W (evE T Γ e l H) fun v H₁=>W (ln op old v H₁) fun w H₂=>Q (.next,upd l x w) H₂:=by
 rw[exS]
 cases l x with
 |none=>rfl
 |some old=>simp only[aq,gV,O]
theorem u7 (o:ME) (f:Nat) (op:Operator) (e:ME) (Q):W (exS T Γ (.augA o f op e) l H) Q=W (evE T Γ o l H) fun ov H₁=>W (gC T ov f H₁) fun old H₂=>W (evE T Γ e l H₂) fun v H₃=>W (ln op old v H₃) fun w H₄=>W (qJ T ov f w H₄) fun _ H₅=>Q (.next,l) H₅:=by
 rw[exS,aq];simp only[aq,gV]
theorem u8 (o i:ME) (op:Operator) (e:ME) (Q):W (exS T Γ (.augI o i op e) l H) Q=W (evE T Γ o l H) fun ov H₁=>W (evE T Γ i l H₁) fun iv H₂=>W (j4 ov iv H₂) fun old H₃=>W (evE T Γ e l H₃) fun v H₄=>W (ln op old v H₄) fun w H₅=>W (qI ov iv w H₅) fun _ H₆=>Q (.next,l) H₆:=by
 rw[exS,aq];simp only[aq,gV]
theorem s_ex (e:ME) (Q):W (exS T Γ (.ex e) l H) Q=W (evE T Γ e l H) fun v H₁=>v= .none∧Q (.next,l) H₁:=by
 rw[exS,aq]
 congr 1;funext v H₁
 cases v<;>simp[W]
theorem yR (e:ME) (Q):W (exS T Γ (.exd e) l H) Q=W (evE T Γ e l H) fun _ H₁=>Q (.next,l) H₁:=by rw[exS,aq];rfl
theorem yT (e:ME) (Q):W (exS T Γ (.ret e) l H) Q=W (evE T Γ e l H) fun v H₁=>Q (.ret v,l) H₁:=by rw[exS,aq];rfl
theorem dG (c:ME) (a b:MSs) (Q):W (exS T Γ (.ite c a b) l H) Q=W (evC T Γ c l H) fun t H₁=>if t then W (aM T Γ a l H₁) Q else W (aM T Γ b l H₁) Q:=by
 rw[exS,aq]
 congr 1;funext t H₁;cases t<;>rfl
theorem vh (c:ME) (b:MSs) (Q):W (exS T Γ (.whl c b) l H) Q=W (cx (evC T Γ c) (aM T Γ b) l H) Q:=by rw[exS]
theorem vg (x:Nat) (args:MEs) (b:MSs) (Q):W (exS T Γ (.forR x args b) l H) Q=W (dB T Γ args l H) fun vs H₁=>O (bH vs) fun is=>W (jC x (aM T Γ b) is l H₁) Q:=by
 rw[exS,aq]
 congr 1;funext vs H₁
 cases h:bH vs<;>simp[O,tn]
theorem yP (Q):W (exS T Γ .brk l H) Q=Q (.brk,l) H:=by rw[exS];rfl
theorem vc (Q):W (exS T Γ .cont l H) Q=Q (.cont,l) H:=by rw[exS];rfl
theorem yQ (o i:ME) (Q):W (exS T Γ (.del o i) l H) Q=W (evE T Γ o l H) fun ov H₁=>W (evE T Γ i l H₁) fun iv H₂=>W (tK ov iv H₂) fun _ H₃=>Q (.next,l) H₃:=by rw[exS,aq];simp only[aq,gV]
theorem yS (Q):W (exS T Γ .rai l H) Q=False:=by rw[exS];rfl
def xz (Q:SV→Hp→Prop) (q:Fl×Loc) (H:Hp):Prop:=match q with
 |(.ret v,_)=>Q v H
 |(.next,_)=>Q .none H
 |_=>False
theorem w_run (ps:List Nat) (b:MSs) (vs:List SV) (Q:SV→Hp→Prop) (h:ps.length=vs.length):W (aj T Γ ps b vs H) Q=W (aM T Γ b (aN ps vs) H) (xz Q):=by
 unfold aj
 rw[if_pos h,aq]
 congr 1;funext q H₁
 obtain⟨f,l⟩:=q
 cases f<;>rfl
theorem rS (Q:SV→Hp→Prop) (v:SV):xz Q (.ret v,l) H=Q v H:=nr rfl
theorem pF (Q:SV→Hp→Prop):xz Q (.next,l) H=Q .none H:=nr rfl
end
section
variable (H:Hp)
theorem pU (b:Bool) (Q):W (iT (.bool b) H) Q=Q b H:=nr rfl
theorem cmp_ii (op:CmpOp) (x y:Int) (Q:Bool→Hp→Prop) (h:op≠.Is) (h':op≠.IsNot):W (dO op (.int x) (.int y) H) Q=O (zp op x y) fun b=>Q b H:=by
 cases op<;>first|rfl|exact absurd rfl h|exact absurd rfl h'
theorem yG (x y:Int) (Q:Bool→Hp→Prop):W (dO .Lt (.int x) (.int y) H) Q=Q (decide (x<y)) H:=nr rfl
theorem yE (x y:Int) (Q:Bool→Hp→Prop):W (dO .LtE (.int x) (.int y) H) Q=Q (decide (x≤y)) H:=nr rfl
theorem yx (x y:Int) (Q:Bool→Hp→Prop):W (dO .Gt (.int x) (.int y) H) Q=Q (decide (y<x)) H:=nr rfl
theorem yv (x y:Int) (Q:Bool→Hp→Prop):W (dO .GtE (.int x) (.int y) H) Q=Q (decide (y≤x)) H:=nr rfl
theorem tT (x y:Int) (Q:Bool→Hp→Prop):W (dO .Eq (.int x) (.int y) H) Q=Q (decide (x=y)) H:=nr rfl
theorem yJ (x y:Int) (Q:Bool→Hp→Prop):W (dO .NotEq (.int x) (.int y) H) Q=Q (!decide (x=y)) H:=nr rfl
theorem yF (x y:List UInt8) (Q:Bool→Hp→Prop):W (dO .Lt (.bytes x) (.bytes y) H) Q=Q (ltB x y) H:=nr rfl
theorem yw (x y:List UInt8) (Q:Bool→Hp→Prop):W (dO .Gt (.bytes x) (.bytes y) H) Q=Q (ltB y x) H:=nr rfl
theorem yD (x y:List UInt8) (Q:Bool→Hp→Prop):W (dO .LtE (.bytes x) (.bytes y) H) Q=Q (!ltB y x) H:=nr rfl
theorem yt (x y:List UInt8) (Q:Bool→Hp→Prop):W (dO .GtE (.bytes x) (.bytes y) H) Q=Q (!ltB x y) H:=nr rfl
theorem yp (x y:List UInt8) (Q:Bool→Hp→Prop):W (dO .Eq (.bytes x) (.bytes y) H) Q=Q (decide (x=y)) H:=nr rfl
theorem uL (x y:List UInt8) (Q:Bool→Hp→Prop):W (dO .NotEq (.bytes x) (.bytes y) H) Q=Q (!decide (x=y)) H:=nr rfl
theorem is_n (a:SV) (Q:Bool→Hp→Prop):W (dO .Is a .none H) Q=Q (isNone a) H:=nr rfl
theorem rA (a:SV) (Q:Bool→Hp→Prop):W (dO .IsNot a .none H) Q=Q (!isNone a) H:=by cases a<;>rfl
theorem tz (x y:Int) (Q):W (gH .Add (.int x) (.int y) H) Q=Q (.int (x+y)) H:=nr rfl
theorem vY (x y:Int) (Q):W (gH .Sub (.int x) (.int y) H) Q=Q (.int (x - y)) H:=nr rfl
theorem uK (x y:Int) (Q):W (gH .Mult (.int x) (.int y) H) Q=(isI x=true∧Q (.int (x*y)) H):=by
 show W (if isI x then _ else _) Q=_
 by_cases h:isI x=true<;>simp[h,W]
theorem q9 (x y:Int) (Q):W (gH .FloorDiv (.int x) (.int y) H) Q=((isI x=true∧isI y=true∧0<y)∧Q (.int (x.fdiv y)) H):=by
 show W (if isI x && isI y && decide (0<y) then _ else _) Q=_
 by_cases h:isI x=true∧isI y=true∧0<y
 ·obtain⟨a,b,c⟩:=h;simp[a,b,c,W]
 ·rw[if_neg (by simpa[and_assoc] using h)];simp only[h,false_and,W]
theorem uI (x y:Int) (Q):W (gH .Mod (.int x) (.int y) H) Q=(0<y∧Q (.int (x.fmod y)) H):=by
 show W (if 0<y then _ else _) Q=_
 by_cases h:0<y<;>simp[h,W]
theorem tA (x y:Int) (Q):W (gH .BitAnd (.int x) (.int y) H) Q=Q (.int (Builtin.bitAnd x y)) H:=nr rfl
theorem yN (x y:Int) (Q):W (gH .BitOr (.int x) (.int y) H) Q=Q (.int (Builtin.bitOr x y)) H:=nr rfl
theorem vk (x y:Int) (Q):W (gH .LShift (.int x) (.int y) H) Q=((isI x=true∧0≤y∧y≤64)∧Q (.int (x*2 ^ y.toNat)) H):=by
 show W (if isI x && decide (0≤y) && decide (y≤64) then _ else _) Q=_
 by_cases h:isI x=true∧0≤y∧y≤64
 ·obtain⟨a,b,c⟩:=h;simp[a,b,c,W]
 ·rw[if_neg (by simpa[and_assoc] using h)];simp only[h,false_and,W]
theorem vm (x y:Int) (Q):W (gH .RShift (.int x) (.int y) H) Q=(0≤y∧Q (.int (x.fdiv (2 ^ y.toNat))) H):=by
 show W (if 0≤y then _ else _) Q=_
 by_cases h:0≤y<;>simp[h,W]
theorem ty (x y:List UInt8) (Q):W (gH .Add (.bytes x) (.bytes y) H) Q=(x.length+y.length≤ag∧Q (.bytes (x++y)) H):=by
 show W (if x.length+y.length≤ag then _ else _) Q=_
 by_cases h:x.length+y.length≤ag<;>simp[h,W]
theorem rn (x y:Int) (Q):W (ln .Add (.int x) (.int y) H) Q=Q (.int (x+y)) H:=nr rfl
theorem rB (x y:Int) (Q):W (ln .Sub (.int x) (.int y) H) Q=Q (.int (x - y)) H:=nr rfl
theorem rq (x y:Int) (Q):W (ln .Mult (.int x) (.int y) H) Q=(isI x=true∧Q (.int (x*y)) H):=by
 show W (if isI x then _ else _) Q=_
 by_cases h:isI x=true<;>simp[h,W]
theorem dL (vs:List SV) (Q):W (bp vs H) Q=(vs.length≤ag∧Q (.ref H.length) (H++[.list vs])):=by
 unfold bp
 by_cases h:vs.length≤ag<;>simp[h,W,alloc]
theorem ji (vs:List SV) (i:Int) (Q):W (j4 (.tup vs) (.int i) H) Q=(i<2 ^ 62∧O (dv vs i) fun v=>Q v H):=by
 show W (if i<2 ^ 62 then _ else _) Q=_
 by_cases h:i<2 ^ 62
 ·simp only[h,if_true,true_and];cases dv vs i<;>rfl
 ·simp only[h,if_false,false_and,W]
theorem mB (bs:List UInt8) (i:Int) (Q):W (j4 (.bytes bs) (.int i) H) Q=(bs.length≤ag∧O (dv bs i) fun v=>Q (tF v) H):=by
 show W (if bs.length≤ag then _ else _) Q=_
 by_cases h:bs.length≤ag
 ·simp only[h,if_true,true_and];cases dv bs i<;>rfl
 ·simp only[h,if_false,false_and,W]
def ck (o:Option SO) (i:Int):Option SV:=match o with
 |some (.list vs)=>if i<2 ^ 62 then dv vs i else none
 |some (.dict es)=>getD i es
 |some (.rod es _)=>getD i es
 |_=>none
theorem rp (n:Nat) (i:Int) (Q):W (j4 (.ref n) (.int i) H) Q=O (ck H[n]? i) fun v=>Q v H:=by
 show W (match H[n]? with|some (.list vs)=>_|some (.dict es)=>_|some (.rod es _)=>_|_=>_) Q=_
 unfold ck
 split
 ·split
  ·cases dv _ i<;>rfl
  ·rfl
 ·cases getD i _<;>rfl
 ·cases getD i _<;>rfl
 ·rfl
def kZ (T:Tb) (o:Option SO) (f:Nat):Option SV:=match o with
 |some (.inst C fs)=>(match T.fld C f with|true=>gZ f fs|false=>none)
 |_=>none
theorem i7 (T:Tb) (n f:Nat) (Q):W (gC T (.ref n) f H) Q=O (kZ T H[n]? f) fun v=>Q v H:=by
 show W (match H[n]? with|some (.inst C fs)=>_|_=>_) Q=_
 unfold kZ
 split
 ·rename_i C fs _
  cases h:T.fld C f
  ·rfl
  ·cases hg:gZ f fs<;>simp[W,O]
 ·rfl
def ia (T:Tb) (o:Option SO) (f:Nat) (w:SV):Option SO:=match o with
 |some (.inst C fs)=>(match T.fld C f with|true=>(if fs.length≤100 then some (.inst C (gk f w fs)) else none)|false=>none)
 |_=>none
theorem rY (T:Tb) (n f:Nat) (w:SV) (Q):W (qJ T (.ref n) f w H) Q=O (ia T H[n]? f w) fun o=>Q () (H.set n o):=by
 show W (match H[n]? with|some (.inst C fs)=>_|_=>_) Q=_
 unfold ia
 split
 ·rename_i C fs _
  cases h:T.fld C f
  ·rfl
  ·by_cases c:fs.length≤100<;>simp[c,W,O]
 ·rfl
def fT (o:Option SO) (k:Int) (w:SV):Option SO:=match o with
 |some (.dict es)=>if es.length≤ag then some (.dict (hW k w es)) else none
 |some (.list vs)=>if 0≤k∧k<(vs.length:Int)∧k<2 ^ 62 then some (.list (vs.set k.toNat w)) else none
 |_=>none
theorem pK (n:Nat) (k:Int) (w:SV) (Q):W (qI (.ref n) (.int k) w H) Q=O (fT H[n]? k w) fun o=>Q () (H.set n o):=by
 show W (match H[n]? with|some (.dict es)=>_|some (.list vs)=>_|_=>_) Q=_
 unfold fT
 split
 ·split<;>rfl
 ·split<;>rfl
 ·rfl
def zq (o:Option SO) (k:Int):Option SO:=match o with
 |some (.dict es)=>if(getD k es).isSome && decide (es.length≤ag) then some (.dict (ml k es)) else none
 |_=>none
theorem oL (n:Nat) (k:Int) (Q):W (tK (.ref n) (.int k) H) Q=O (zq H[n]? k) fun o=>Q () (H.set n o):=by
 show W (match H[n]? with|some (.dict es)=>_|_=>_) Q=_
 unfold zq
 split
 ·split<;>rfl
 ·rfl
def lenO (o:Option SO):Option Int:=match o with
 |some (.list its)=>if its.length≤ag then some (its.length:Int) else none
 |_=>none
theorem rH (n:Nat) (Q):W (gI TT 0 [.ref n] H) Q=O (lenO H[n]?) fun i=>Q (.int i) H:=by
 show W (match H[n]? with|some (.list its)=>_|_=>_) Q=_
 unfold lenO
 split
 ·split<;>rfl
 ·rfl
theorem len_bytes (b:List UInt8) (Q):W (gI TT 0 [.bytes b] H) Q=(b.length≤ag∧Q (.int (b.length:Int)) H):=by
 show W (if b.length≤ag then _ else _) Q=_
 by_cases h:b.length≤ag<;>simp[h,W]
theorem qW (b:List UInt8) (Q):W (gI TT 2 [.bytes b] H) Q=Q (.bytes b) H:=nr rfl
def sg (o:Option SO):Option (List UInt8):=match o with
 |some (.list its)=>(match bE its with
  |some is=>if is.length≤ag then aX is else none
  |none=>none)
 |_=>none
theorem yi (n:Nat) (Q):W (gI TT 2 [.ref n] H) Q=O (sg H[n]?) fun b=>Q (.bytes b) H:=by
 show W (match H[n]? with|some (.list its)=>_|_=>_) Q=_
 unfold sg
 split
 ·rename_i its _
  cases hI:bE its with
  |none=>rfl
  |some is=>
   by_cases c:is.length≤ag
   ·cases hb:aX is<;>simp[c,hb,W,O]
   ·simp[c,W,O]
 ·rfl
theorem uG (a b:Int) (Q):W (gI TT 3 [.int a,.int b] H) Q=Q (.int (if b<a then b else a)) H:=nr rfl
theorem vq (bs:List UInt8) (h:Int) (Q):W (oh (.bytes bs) .none (.int h) H) Q=((bs.length≤ag∧0≤h∧h<2 ^ 62)∧Q (.bytes (bs.take h.toNat)) H):=by
 show W (if bs.length≤ag then(match(if 0≤h∧h<2 ^ 62 then some (bs.take h.toNat) else none) with|some x=>_|none=>_) else _) Q=_
 by_cases c:bs.length≤ag
 ·rw[if_pos c]
  by_cases d:0≤h∧h<2 ^ 62
  ·rw[if_pos d];simp only[c,d,W,and_self,true_and]
  ·rw[if_neg d];simp only[d,W,and_false,false_and]
 ·rw[if_neg c];simp only[c,W,false_and]
end
section
variable (T:Tb) (Γ:FT) (l:Loc) (H:Hp)
def mP (o:Option SO) (m:Nat):Option MK:=match o with
 |some (.inst C fs)=>(match T.meth C m with
  |some f=>(match gZ m fs with
   |none=>some (.fn f)
   |some _=>none)
  |none=>none)
 |some (.list _)=>if m=T.nAppend then some .app else if m=T.nInsert then some .ins else none
 |some (.dict _)=>if m=T.nGet then some .get else none
 |_=>none
theorem pj (n m:Nat) (Q):W (jn T (.ref n) m H) Q=O (mP T H[n]? m) fun k=>Q k H:=by
 show W (match H[n]? with|some (.inst C fs)=>_|some (.list _)=>_|some (.dict _)=>_|_=>_) Q=_
 unfold mP
 split
 ·rename_i C fs _
  cases hm:T.meth C m with
  |none=>rfl
  |some f=>cases c:gZ m fs<;>simp[W,O]
 ·by_cases c:m=T.nAppend
  ·simp[c,W,O]
  ·rw[if_neg c,if_neg c]
   by_cases d:m=T.nInsert
   ·rw[if_pos d,if_pos d];rfl
   ·rw[if_neg d,if_neg d];rfl
 ·by_cases c:m=T.nGet<;>simp[c,W,O]
 ·rfl
theorem pi (f:Addr) (v:SV) (vs:List SV) (Q):W (fN Γ (.fn f) v vs H) Q=W (aw (Γ f) (v::vs) H) Q:=nr rfl
def iK (o:Option SO) (x:SV):Option SO:=match o with
 |some (.list its)=>if its.length<ag then some (.list (its++[x])) else none
 |_=>none
theorem mM (n:Nat) (x:SV) (Q):W (fN Γ .app (.ref n) [x] H) Q=O (iK H[n]? x) fun o=>Q .none (H.set n o):=by
 show W (match H[n]?,[x] with|some (.list its),[x]=>_|_,_=>_) Q=_
 unfold iK
 cases H[n]? with
 |none=>rfl
 |some o=>cases o<;>first|rfl|(simp only;split<;>rfl)
def xi (o:Option SO) (i:Int) (x:SV):Option SO:=match o with
 |some (.list its)=>if 0≤i∧i≤(its.length:Int)∧its.length<ag then some (.list (iF its i.toNat x)) else none
 |_=>none
theorem mO (n:Nat) (i:Int) (x:SV) (Q):W (fN Γ .ins (.ref n) [.int i,x] H) Q=O (xi H[n]? i x) fun o=>Q .none (H.set n o):=by
 show W (match H[n]?,[SV.int i,x] with|some (.list its),[.int i,x]=>_|_,_=>_) Q=_
 unfold xi
 cases H[n]? with
 |none=>rfl
 |some o=>cases o<;>first|rfl|(simp only;split<;>rfl)
def Ac (o:Option SO) (k:Int) (d:SV):Option SV:=match o with
 |some (.dict es)=>some ((getD k es).getD d)
 |_=>none
theorem mN (n:Nat) (k:Int) (d:SV) (Q):W (fN Γ .get (.ref n) [.int k,d] H) Q=O (Ac H[n]? k d) fun v=>Q v H:=by
 show W (match H[n]?,[SV.int k,d] with|some (.dict es),[.int k,d]=>_|_,_=>_) Q=_
 unfold Ac
 cases H[n]? with
 |none=>rfl
 |some o=>cases o<;>rfl
theorem sM {C f:Addr} (hp:T.plain C=false) (hi:T.init C=some f) (vs:List SV) (Q):W (fC T Γ C vs H) Q=W (aw (Γ f) (.ref H.length::vs) (H++[.inst C []])) fun r H'=>r= .none∧Q (.ref H.length) H':=by
 unfold fC
 rw[hp,hi]
 simp only[Bool.false_eq_true,if_false]
 cases h:Γ f with
 |none=>rfl
 |some D=>
  simp only[aq,aw]
  congr 1;funext r H'
  cases r<;>simp[W]
theorem Ao {C:Addr} (hp:T.plain C=true) (Q):W (fC T Γ C [] H) Q=Q (.ref H.length) (H++[.inst C []]):=by
 unfold fC
 rw[hp];rfl
def dN (K:Loc→Hp→Prop) (Q:Fl×Loc→Hp→Prop) (q:Fl×Loc) (H:Hp):Prop:=match q with
 |(.next,l')=>K l' H
 |(.cont,l')=>K l' H
 |(.brk,l')=>Q (.next,l') H
 |(.ret v,l')=>Q (.ret v,l') H
theorem mK (K Q):dN K Q (.next,l) H=K l H:=nr rfl
theorem mJ (K Q):dN K Q (.cont,l) H=K l H:=nr rfl
theorem pg (K:Loc→Hp→Prop) (Q:Fl×Loc→Hp→Prop):dN K Q (.brk,l) H=Q (.next,l) H:=nr rfl
theorem ph (K:Loc→Hp→Prop) (Q:Fl×Loc→Hp→Prop) (v:SV):dN K Q (.ret v,l) H=Q (.ret v,l) H:=nr rfl
theorem jd (x:Nat) (b:fv) (Q):W (jC x b [] l H) Q=Q (.next,l) H:=nr rfl
theorem ig (x:Nat) (b:fv) (k:Int) (r:List Int) (Q):W (jC x b (k::r) l H) Q=W (b (upd l x (.int k)) H) (dN (fun l' H'=>W (jC x b r l' H') Q) Q):=by
 rw[jC,aq]
 congr 1;funext q H₁
 obtain⟨f,l'⟩:=q
 cases f<;>rfl
end
theorem dN.mono {K K':Loc→Hp→Prop} {Q Q':Fl×Loc→Hp→Prop} {q:Fl×Loc} {H:Hp} (h:dN K Q q H) (k:∀l H,K l H→K' l H) (kq:∀q H,Q q H→Q' q H):dN K' Q' q H:=by
 obtain⟨f,l⟩:=q
 cases f
 ·exact k _ _ h
 ·exact kq _ _ h
 ·exact k _ _ h
 ·exact kq _ _ h
theorem jc {x:Nat} {b:fv} {Q:Fl×Loc→Hp→Prop} (Inv:List Int→Loc→Hp→Prop) (step:∀k r l H,Inv (k::r) l H→W (b (upd l x (.int k)) H) (dN (Inv r) Q)) (done:∀l H,Inv [] l H→Q (.next,l) H):
 ∀(is:List Int) (l:Loc) (H:Hp),Inv is l H→W (jC x b is l H) Q
 |[],l,H,h=>done l H h
 |k::r,l,H,h=>by
  rw[ig]
  exact(step k r l H h).mono fun q H' hq=>hq.mono (fun l' H'' hi=>jc Inv step done r l' H'' hi) fun _ _ h=>h
theorem cw {tg:Tg} {b:fv} {n:Nat} {vs:List SV} {Q:Fl×Loc→Hp→Prop} (Inv:Nat→Loc→Hp→Prop) (at_:∀i l H,Inv i l H→H[n]? =some (.list vs))
 (step:∀i v l H,Inv i l H→vs[i]? =some v→O (tg.put v l) fun l₁=>W (b l₁ H) (dN (Inv (i+1)) Q)) (done:∀l H,Inv vs.length l H→Q (.next,l) H) {l:Loc} {H:Hp} (h:Inv 0 l H):W (gJ tg b n (vs.length+1) 0 l H) Q:=by
 have go:∀k i l H,i+k=vs.length→Inv i l H→W (gJ tg b n (k+1) i l H) Q:=by
  intro k
  induction k with
  |zero=>
   intro i l H e h
   rw[gJ,at_ i l H h]
   have:vs[i]? =none:=List.getElem?_eq_none (by omega)
   simp only[this]
   have e':i=vs.length:=by omega
   subst e'
   exact done l H h
  |succ k ih=>
   intro i l H e h
   rw[gJ,at_ i l H h]
   have hi:i<vs.length:=by omega
   have hv:vs[i]? =some vs[i]:=List.getElem?_eq_getElem hi
   simp only[hv]
   have s:=step i _ l H h hv
   cases hp:tg.put vs[i] l with
   |none=>rw[hp] at s;exact s.elim
   |some l₁=>
    rw[hp] at s
    simp only[aq]
    refine W.mono s fun q H' hq=> ?_
    obtain⟨f,l'⟩:=q
    cases f
    ·exact ih (i+1) l' H' (by omega) hq
    ·exact hq
    ·exact ih (i+1) l' H' (by omega) hq
    ·exact hq
 exact go vs.length 0 l H (by omega) h
theorem s8 {t:Loc→Hp→R Bool} {b:fv} {Q:Fl×Loc→Hp→Prop} (Inv:Loc→Hp→Prop) (μ:Loc→Hp→Nat)
 (step:∀l H,Inv l H→W (t l H) fun c H₁=>(c=true→W (b l H₁) (dN (fun l' H'=>Inv l' H'∧μ l' H'<μ l H) Q))∧(c=false→Q (.next,l) H₁)):
 ∀(k:Nat) (l:Loc) (H:Hp),μ l H≤k→Inv l H→W (cx t b l H) Q:=by
 intro k
 induction k using Nat.strongRecOn with
 |_ k ih=>
  intro l H hk hi
  rw[ib,aq]
  refine W.mono (step l H hi) fun c H₁ hc=> ?_
  cases c with
  |false=>exact hc.2 rfl
  |true=>
   simp only[if_true,aq]
   refine W.mono (hc.1 rfl) fun q H₂ hq=> ?_
   obtain⟨f,l'⟩:=q
   cases f
   ·exact ih _ (Nat.lt_of_lt_of_le hq.2 hk) l' H₂ (Nat.le_refl _) hq.1
   ·exact hq
   ·exact ih _ (Nat.lt_of_lt_of_le hq.2 hk) l' H₂ (Nat.le_refl _) hq.1
   ·exact hq
theorem aE {T:Tb} {Γ:FT} {tg:Tg} {e:ME} {b:MSs} {l:Loc} {H:Hp} {Q:Fl×Loc→Hp→Prop} (h:W (evE T Γ e l H) fun v H₁=>∃n vs,v= .ref n∧H₁[n]? =some (.list vs)∧W (gJ tg (aM T Γ b) n (vs.length+1) 0 l H₁) Q):
 W (exS T Γ (.forE tg e b) l H) Q:=by
 rw[exS,aq]
 refine h.mono fun v H₁ hv=> ?_
 obtain⟨n,vs,rfl,hn,hq⟩:=hv
 simp only[hn]
 exact hq
theorem ue {x:Nat} {b:fv} {n:Nat} {es:List (Int×SV)} {Q:Fl×Loc→Hp→Prop} (Inv:Nat→Loc→Hp→Prop) (at_:∀i l H,Inv i l H→H[n]? =some (.rod es i))
 (step:∀i p l H,Inv i l H→es[i]? =some p→W (b (upd l x (.int p.1)) (H.set n (.rod es (i+1)))) fun q H'=>(q.1= .next∨q.1= .cont)∧Inv (i+1) q.2 H') (done:∀l H,Inv es.length l H→Q (.next,l) (H.set n (.dict es))) {l:Loc} {H:Hp} (h:Inv 0 l H):
 W (lg x b n (es.length+1) l H) Q:=by
 have go:∀k i l H,i+k=es.length→Inv i l H→W (lg x b n (k+1) l H) Q:=by
  intro k
  induction k with
  |zero=>
   intro i l H e h
   rw[lg,at_ i l H h]
   have:es[i]? =none:=List.getElem?_eq_none (by omega)
   simp only[this]
   have e':i=es.length:=by omega
   subst e'
   exact done l H h
  |succ k ih=>
   intro i l H e h
   rw[lg,at_ i l H h]
   have hi:i<es.length:=by omega
   have hv:es[i]? =some es[i]:=List.getElem?_eq_getElem hi
   simp only[hv]
   have s:=step i _ l H h hv
   revert s
   cases b (upd l x (.int es[i].1)) (H.set n (.rod es (i+1))) with
   |fail=>exact fun s=>s.elim
   |exc H'=>exact fun s=>s.elim
   |ok q H'=>
    intro s
    obtain⟨f,l'⟩:=q
    obtain⟨hf,s⟩:=s
    cases f
    ·exact ih (i+1) l' H' (by omega) s
    ·rcases hf with hf|hf<;>cases hf
    ·exact ih (i+1) l' H' (by omega) s
    ·rcases hf with hf|hf<;>cases hf
 exact go es.length 0 l H (by omega) h
theorem pI {T:Tb} {Γ:FT} {x:Nat} {e:ME} {b:MSs} {l:Loc} {H:Hp} {Q:Fl×Loc→Hp→Prop} (h:W (evE T Γ e l H) fun v H₁=>∃n es,v= .ref n∧H₁[n]? =some (.dict es)∧W (lg x (aM T Γ b) n (es.length+1) l (H₁.set n (.rod es 0))) Q):
 W (exS T Γ (.forE (.one x) e b) l H) Q:=by
 rw[exS,aq]
 refine h.mono fun v H₁ hv=> ?_
 obtain⟨n,es,rfl,hn,hq⟩:=hv
 simp only[hn]
 exact hq
def Pr (S:Nat→Prop) (H H':Hp):Prop:=H.length≤H'.length∧∀(i:Nat) (o:SO),H[i]? =some o→¬S i→H'[i]? =some o
theorem Pr.refl (S) (H:Hp):Pr S H H:=⟨Nat.le_refl _,fun _ _ h _=>h⟩
theorem Pr.trans {S} {H H' H'':Hp} (a:Pr S H H') (b:Pr S H' H''):Pr S H H'':=⟨Nat.le_trans a.1 b.1,fun i o h n=>b.2 i o (a.2 i o h n) n⟩
theorem Pr.weak {S S':Nat→Prop} {H H':Hp} (a:Pr S H H') (h:∀i,i<H.length→S i→S' i):Pr S' H H':=⟨a.1,fun i o e n=>a.2 i o e fun s=>n (h i (List.getElem?_eq_some_iff.mp e).1 s)⟩
theorem Pr.app (S) (H L:Hp):Pr S H (H++L):=⟨by simp,fun i o h _=>by rw[List.getElem?_append_left (List.getElem?_eq_some_iff.mp h).1];exact h⟩
theorem Pr.set {S:Nat→Prop} (H:Hp) {n:Nat} (o:SO) (h:S n):Pr S H (H.set n o):=⟨by simp,fun i o' e hn=>by rw[List.getElem?_set_ne (fun q:n=i=>hn (by rw[←q];exact h))];exact e⟩
theorem Pr.get {S:Nat→Prop} {H H':Hp} (p:Pr S H H') {n:Nat} {o:SO} (h:H[n]? =some o) (hn:¬S n):H'[n]? =some o:=p.2 n o h hn
def none_ (_:Nat):Prop:=False
theorem ch {H:Hp} {n:Nat} {o:SO} (h:H[n]? =some o):n<H.length:=(List.getElem?_eq_some_iff.mp h).1
theorem aC (H:Hp) (o:SO):(H++[o])[H.length]? =some o:=by simp
theorem a5 {H:Hp} {n:Nat} {o:SO} (o':SO) (h:H[n]? =some o):(H.set n o')[n]? =some o':=List.getElem?_set_self (ch h)
theorem oe (H:Hp) (o o':SO):(H++[o]).set H.length o'=H++[o']:=by simp
theorem ab {H:Hp} {n:Nat} {o:SO} (h:H[n]? =some o) (L:Hp):(H++L)[n]? =some o:=by rw[List.getElem?_append_left (ch h)];exact h
theorem ai {H:Hp} {n k:Nat} {o:SO} (h:H[n]? =some o) (hn:k≠n) (o':SO):(H.set k o')[n]? =some o:=by rw[List.getElem?_set_ne hn];exact h
theorem W_and {α:Type} {r:R α} {P:Prop} {Q:α→Hp→Prop} (hp:P) (h:W r Q):W r fun a H=>P∧Q a H:=h.mono fun _ _ q=>⟨hp,q⟩
theorem n7 {α:Type} (a:α) (r:List α):dv (a::r) 0=some a:=nr rfl
theorem n8 {α:Type} (a b:α) (r:List α):dv (a::b::r) 1=some b:=nr rfl
theorem n9 {α:Type} (a b c:α) (r:List α):dv (a::b::c::r) 2=some c:=nr rfl
local macro_rules |`(tactic|walk_at "e")=>`(tactic|simp only[pV,yZ,y1,zd,qO,yU,y9,yY,yV,zc,zf,y8,y0,y7,ze,wi,za,wj,yX,zb,qP,w_b1,wh,yW,yo,yk,yl,tG,ym,tH,yn,tI,yj,c_or,
 fR,eT,jr,rV,rU,pJ,yO,u0,u5,u6,u9,u7,u8,s_ex,yR,yT,dG,vh,vg,yP,vc,yQ,yS,rS,pF,mK,mJ,pg,ph,
 pU,yG,yE,yx,yv,tT,yJ,yF,yw,yD,yt,yp,uL,is_n,rA,tz,vY,uK,q9,uI,tA,yN,vk,vm,ty,rn,rB,rq,dL,ji,mB,rp,i7,rY,pK,oL,
 rH,len_bytes,qW,yi,uG,vq,pj,pi,mM,mO,mN,gV,eO,n7,n8,n9,upd,aN,dR,isNone,↓reduceIte,Nat.reduceEqDiff,decide_eq_true_eq,Bool.not_eq_true',decide_eq_false_iff_not,reduceCtorEq])

local macro_rules |`(tactic|wrow_hasAny $t $p)=>`(tactic|(rw[w_run _ _ _ _ _ _ _ (by rfl),$t:ident,$p:ident]))
structure En where
 u:Fin 4
 s:Fin 16
 k:Fin 2
deriving DecidableEq
def usr (u:Fin 4):List UInt8:=match u with
 |0=>[]|1=>[97]|2=>[97,98]|3=>[98]
def kb (k:Fin 2):UInt8:=UInt8.ofNat k.val
def sb (s:Fin 16):UInt8:=UInt8.ofNat s.val
def ik (e:En):List UInt8:=usr e.u++[kb e.k,sb e.s,0,0,0,0,0,0]
theorem jQ:∀a b:Fin 4,ltB (usr a) (usr b)=decide (a<b):=by decide
theorem yg:∀a b:Fin 4,usr a=usr b→a=b:=by decide
theorem kL:∀a:Fin 4,(usr a).length≤2:=by decide
theorem lk (e:En):(ik e).length=(usr e.u).length+8:=by simp[ik]
theorem ik_ge (e:En):8≤(ik e).length:=by rw[lk];omega
theorem jj (e:En):(ik e).length≤ag:=by have:=kL e.u;rw[lk];unfold ag;omega
theorem ik_most (e:En):((ik e).length≤ag)=True:=eq_true (jj e)
def cR (Γ:FT):Prop:=∀(e:En) (H:Hp),aw (Γ 138) [.bytes (ik e)] H= .ok (.bytes (usr e.u)) H
theorem sA (n:Nat):cR (Gam (n+1)):=by
 intro e H
 refine cr ?_
 show W (aj TT (Gam n) ip ix [.bytes (ik e)] H) _
 wrow_hasAny ix ip
 walk_at "e"
 have h:=lk e
 have h2:=kL e.u
 refine⟨jj e,?_⟩
 rw[if_neg (by omega)]
 refine⟨jj e,⟨jj e,by omega,by omega⟩,?_⟩
 have:((ik e).length - 8:Int).toNat=(usr e.u).length:=by omega
 rw[this]
 simp[ik]
theorem fS {α:Type} (vs:List α) (i:Int) (k:Nat) (h:i=(k:Int)):dv vs i=vs[k]? :=by
 subst h;simp[dv]
def kU (Γ:FT):Prop:=∀(d:List UInt8) (i:Nat) (a b c e:UInt8) (H:Hp),d.length≤ag→d[i]? =some a→d[i+1]? =some b→d[i+2]? =some c→d[i+3]? =some e→
 aw (Γ 103) [.bytes d,.int i] H= .ok (.int (Builtin.bitOr (Builtin.bitOr (Builtin.bitOr (a.toNat:Int) ((b.toNat:Int)*2 ^ (8:Int).toNat)) ((c.toNat:Int)*2 ^ (16:Int).toNat)) ((e.toNat:Int)*2 ^ (24:Int).toNat))) H
theorem lp (b:UInt8):isI (b.toNat:Int)=true:=by
 unfold isI;simp only[Bool.and_eq_true,decide_eq_true_eq];have:=b.toNat_lt;omega
theorem tW (n:Nat):kU (Gam (n+1)):=by
 intro d i a b c e H hm ha hb hc he
 refine cr ?_
 show W (aj TT (Gam n) dE dJ [.bytes d,.int i] H) _
 wrow_hasAny dJ dE
 walk_at "e"
 have hl:=(List.getElem?_eq_some_iff.mp he).1
 rw[if_neg (by omega),if_neg (by omega)]
 rw[fS d _ i rfl,ha,fS d _ (i+1) (by omega),hb,fS d _ (i+2) (by omega),hc,fS d _ (i+3) (by omega),he]
 simp only[eO,tF]
 walk_at "e"
 exact⟨hm,hm,hm,⟨lp _,by decide,by decide⟩,hm,⟨lp _,by decide,by decide⟩,hm,⟨lp _,by decide,by decide⟩,trivial,trivial⟩
def iX (Γ:FT):Prop:=∀(e:En) (H:Hp),aw (Γ 145) [.bytes (ik e)] H= .ok (.int (e.s.val*256+e.k.val)) H
def kW (Γ:FT):Prop:=∀(e:En) (H:Hp),aw (Γ 110) [.bytes (ik e),.int ((usr e.u).length:Int)] H= .ok (.int (e.s.val*256+e.k.val)) H
theorem jU (e:En) (j:Nat):(ik e)[(usr e.u).length+j]? =([kb e.k,sb e.s,0,0,0,0,0,0]:List UInt8)[j]? :=by
 unfold ik
 rw[List.getElem?_append_right (by omega)]
 congr 1;omega
theorem ye:∀(s:Fin 16) (k:Fin 2),Builtin.bitOr (Builtin.bitOr (Builtin.bitOr ((kb k).toNat:Int) (((sb s).toNat:Int)*2 ^ (8:Int).toNat)) (((0:UInt8).toNat:Int)*2 ^ (16:Int).toNat)) (((0:UInt8).toNat:Int)*2 ^ (24:Int).toNat)=(s.val:Int)*256+k.val∧
 Builtin.bitOr ((s.val:Int)*256+k.val) (Builtin.bitOr (Builtin.bitOr (Builtin.bitOr ((0:UInt8).toNat:Int) (((0:UInt8).toNat:Int)*2 ^ (8:Int).toNat)) (((0:UInt8).toNat:Int)*2 ^ (16:Int).toNat)) (((0:UInt8).toNat:Int)*2 ^ (24:Int).toNat)*2 ^ (32:Int).toNat)=(s.val:Int)*256+k.val∧
 isI (Builtin.bitOr (Builtin.bitOr (Builtin.bitOr ((0:UInt8).toNat:Int) (((0:UInt8).toNat:Int)*2 ^ (8:Int).toNat)) (((0:UInt8).toNat:Int)*2 ^ (16:Int).toNat)) (((0:UInt8).toNat:Int)*2 ^ (24:Int).toNat))=true:=by decide+kernel
theorem tX (n:Nat) (h1:kU (Gam n)):kW (Gam (n+1)):=by
 intro e H
 refine cr ?_
 show W (aj TT (Gam n) dF dK [.bytes (ik e),.int _] H) _
 wrow_hasAny dK dF
 walk_at "e"
 have h:=lk e
 rw[if_neg (by omega)]
 refine⟨jj e,?_⟩
 rw[if_neg (by omega)]
 rw[h1 (ik e) (usr e.u).length (kb e.k) (sb e.s) 0 0 H (jj e) (jU e 0) (jU e 1) (jU e 2) (jU e 3)]
 have e4:(((usr e.u).length:Int)+4)=(((usr e.u).length+4:Nat):Int):=by omega
 rw[e4]
 walk_at "e"
 rw[h1 (ik e) ((usr e.u).length+4) 0 0 0 0 H (jj e) (jU e 4) (jU e 5) (jU e 6) (jU e 7)]
 walk_at "e"
 obtain⟨a,b,c⟩:=ye e.s e.k
 refine⟨⟨c,by decide,by decide⟩,?_,trivial⟩
 rw[a];exact congrArg SV.int b
theorem tZ (n:Nat) (h1:kW (Gam n)):iX (Gam (n+1)):=by
 intro e H
 refine cr ?_
 show W (aj TT (Gam n) jp jx [.bytes (ik e)] H) _
 wrow_hasAny jx jp
 walk_at "e"
 have h:=lk e
 refine⟨jj e,?_⟩
 rw[if_neg (by omega)]
 have e4:(((ik e).length:Int) - 8)=((usr e.u).length:Int):=by omega
 rw[e4,h1]
 exact⟨jj e,rfl,rfl⟩
def kw (Γ:FT):Prop:=∀(e:En) (H:Hp),aw (Γ 131) [.bytes (ik e)] H= .ok (.tup [.bytes (usr e.u),.int e.s.val,.int e.k.val]) H
theorem sW:∀(s:Fin 16) (k:Fin 2),Builtin.bitAnd ((s.val:Int)*256+k.val) 255=k.val∧¬(1:Int)<k.val∧((s.val:Int)*256+k.val).fdiv (2 ^ (8:Int).toNat)=s.val:=by decide+kernel
theorem wX (n:Nat) (h1:cR (Gam n)) (h2:iX (Gam n)):kw (Gam (n+1)):=by
 intro e H
 refine cr ?_
 show W (aj TT (Gam n) eE eJ [.bytes (ik e)] H) _
 wrow_hasAny eJ eE
 obtain⟨a,b,c⟩:=sW e.s e.k
 walk_at "e"
 rw[h1]
 walk_at "e"
 rw[h2]
 walk_at "e"
 rw[a,if_neg b,c]
 exact⟨by decide,⟨rfl,show 3≤ag by decide⟩,rfl,trivial⟩
def np (Γ:FT):Prop:=∀(o:SV) (a b:Fin 4) (H:Hp),aw (Γ 159) [o,.bytes (usr a),.bytes (usr b)] H= .ok (.int (if a<b then -1 else if b<a then 1 else 0)) H
theorem zI (n:Nat):np (Gam (n+1)):=by
 intro o a b H
 refine cr ?_
 show W (aj TT (Gam n) dc dh [o,.bytes (usr a),.bytes (usr b)] H) _
 wrow_hasAny dh dc
 walk_at "e"
 rw[jQ,jQ]
 by_cases h1:a<b
 ·simp[h1]
 ·by_cases h2:b<a
  ·simp[h1,h2]
  ·simp[h1,h2]
def ltE (a b:En):Bool:=decide (a.u<b.u) || (decide (a.u=b.u) && (decide (b.s<a.s) || (decide (a.s=b.s) && decide (b.k<a.k))))
def iA (a b:En):Int:=if ltE a b then -1 else if ltE b a then 1 else 0
def cU (H:Hp) (o:Nat):Prop:=∃u,H[o]? =some (.inst 272 [(33,.ref u)])∧H[u]? =some (.inst 218 [])
theorem cU.keep {S:Nat→Prop} {H H':Hp} {o:Nat} (p:Pr S H H') (hs:∀i C fs,H[i]? =some (.inst C fs)→C=272∨C=218→¬S i) (h:cU H o):cU H' o:=by
 obtain⟨u,h1,h2⟩:=h
 exact⟨u,p.get h1 (hs _ _ _ h1 (.inl rfl)),p.get h2 (hs _ _ _ h2 (.inr rfl))⟩
theorem cU.app {H:Hp} {o:Nat} (h:cU H o) (L:Hp):cU (H++L) o:=by
 obtain⟨u,h1,h2⟩:=h
 exact⟨u,ab h1 L,ab h2 L⟩
def jS (Γ:FT):Prop:=∀(o:Nat) (a b:En) (H:Hp),cU H o→aw (Γ 241) [.ref o,.bytes (ik a),.bytes (ik b)] H= .ok (.int (iA a b)) H
theorem qo (a b:En):(if a.u<b.u then(-1:Int) else if b.u<a.u then 1 else if(b.s.val:Int)*256+b.k.val<a.s.val*256+a.k.val then -1 else if(a.s.val:Int)*256+a.k.val<b.s.val*256+b.k.val then 1 else 0)=iA a b:=by
 obtain⟨au,as,ak⟩:=a
 obtain⟨bu,bs,bk⟩:=b
 unfold iA ltE
 simp only[Bool.or_eq_true,Bool.and_eq_true,decide_eq_true_eq,Fin.lt_def,Fin.ext_iff]
 repeat' split
 all_goals first|rfl|omega
theorem f_cmp (n:Nat) (h0:cR (Gam n)) (h1:iX (Gam n)) (h2:np (Gam n)):jS (Gam (n+1)):=by
 intro o a b H hO
 obtain⟨u,ho,hu⟩:=hO
 refine cr ?_
 show W (aj TT (Gam n) bC bD [.ref o,.bytes (ik a),.bytes (ik b)] H) _
 wrow_hasAny bD bC
 rw[←qo]
 walk_at "e"
 rw[ho]
 simp only[kZ,TT,qq,gZ]
 walk_at "e"
 rw[hu]
 simp only[mP,lC,gZ]
 walk_at "e"
 simp only[h0 _ _]
 walk_at "e"
 rw[h2]
 walk_at "e"
 simp only[h1 _ _]
 walk_at "e"
 by_cases c1:a.u<b.u
 ·simp only[c1,if_true];exact⟨trivial,trivial⟩
 ·by_cases c2:b.u<a.u
  ·simp only[c1,c2,if_true,if_false];exact⟨trivial,trivial⟩
  ·by_cases c3:(b.s.val:Int)*256+b.k.val<a.s.val*256+a.k.val
   ·simp only[c1,c2,c3,if_true,if_false];exact⟨trivial,trivial⟩
   ·by_cases c4:(a.s.val:Int)*256+a.k.val<b.s.val*256+b.k.val
    ·simp only[c1,c2,c3,c4,if_true,if_false];exact⟨trivial,trivial⟩
    ·simp only[c1,c2,c3,c4,if_true,if_false];exact⟨trivial,trivial⟩
def nt (Γ:FT):Prop:=∀(i:Int) (b:List UInt8) (H:Hp),0≤i→i≤4294967295→aX [Builtin.bitAnd i 255,Builtin.bitAnd (i.fdiv (2 ^ (8:Int).toNat)) 255,Builtin.bitAnd (i.fdiv (2 ^ (16:Int).toNat)) 255,i.fdiv (2 ^ (24:Int).toNat)]=some b→∃L,aw (Γ 89) [.int i] H= .ok (.bytes b) (H++L)
theorem nG {its:List SV} {is:List Int} {b:List UInt8} (h:bE its=some is) (hl:is.length≤ag) (hb:aX is=some b):sg (some (.list its))=some b:=by
 simp only[sg,h,if_pos hl,hb]
theorem wS (n:Nat):nt (Gam (n+1)):=by
 intro i b H h0 h1 hb
 refine⟨_,cr (H:=H++[.list [.int (Builtin.bitAnd i 255),.int (Builtin.bitAnd (i.fdiv (2 ^ (8:Int).toNat)) 255),.int (Builtin.bitAnd (i.fdiv (2 ^ (16:Int).toNat)) 255),.int (i.fdiv (2 ^ (24:Int).toNat))]]) ?_⟩
 show W (aj TT (Gam n) d7 eh [.int i] H) _
 wrow_hasAny eh d7
 walk_at "e"
 rw[if_neg (by omega),if_neg (by omega)]
 refine⟨by decide,by decide,by decide,show 4≤ag by decide,?_⟩
 rw[aC,nG (its:=[_,_,_,_]) (is:=[_,_,_,_]) rfl (show 4≤ag by decide) hb]
 exact⟨rfl,trivial⟩
def qc (Γ:FT):Prop:=∀(u:Fin 4) (s:Fin 16) (H:Hp),∃L,aw (Γ 124) [.bytes (usr u),.int s.val,.int 1] H= .ok (.bytes (ik ⟨u,s,1⟩)) (H++L)
def nu (Γ:FT):Prop:=∀(s:Fin 16) (H:Hp),∃L,aw (Γ 96) [.int (s.val*256+1)] H= .ok (.bytes [1,sb s,0,0,0,0,0,0]) (H++L)
theorem rR:∀s:Fin 16,aX [Builtin.bitAnd (Builtin.bitAnd ((s.val:Int)*256+1) 4294967295) 255,Builtin.bitAnd ((Builtin.bitAnd ((s.val:Int)*256+1) 4294967295).fdiv (2 ^ (8:Int).toNat)) 255,Builtin.bitAnd ((Builtin.bitAnd ((s.val:Int)*256+1) 4294967295).fdiv (2 ^ (16:Int).toNat)) 255,(Builtin.bitAnd ((s.val:Int)*256+1) 4294967295).fdiv (2 ^ (24:Int).toNat)]=some [1,sb s,0,0]∧
 aX [Builtin.bitAnd (((s.val:Int)*256+1).fdiv (2 ^ (32:Int).toNat)) 255,Builtin.bitAnd ((((s.val:Int)*256+1).fdiv (2 ^ (32:Int).toNat)).fdiv (2 ^ (8:Int).toNat)) 255,Builtin.bitAnd ((((s.val:Int)*256+1).fdiv (2 ^ (32:Int).toNat)).fdiv (2 ^ (16:Int).toNat)) 255,(((s.val:Int)*256+1).fdiv (2 ^ (32:Int).toNat)).fdiv (2 ^ (24:Int).toNat)]=some [0,0,0,0]∧
 0≤Builtin.bitAnd ((s.val:Int)*256+1) 4294967295∧Builtin.bitAnd ((s.val:Int)*256+1) 4294967295≤4294967295∧0≤((s.val:Int)*256+1).fdiv (2 ^ (32:Int).toNat)∧((s.val:Int)*256+1).fdiv (2 ^ (32:Int).toNat)≤4294967295∧
 Builtin.bitOr ((s.val:Int)*2 ^ (8:Int).toNat) 1=s.val*256+1∧isI (s.val:Int)=true:=by decide+kernel
theorem wT (n:Nat) (h1:nt (Gam n)):nu (Gam (n+1)):=by
 intro s H
 obtain⟨v1,v2,v3,v4,v5,v6,v7,v8⟩:=rR s
 obtain⟨L1,e1⟩:=h1 _ _ H v3 v4 v1
 obtain⟨L2,e2⟩:=h1 _ _ (H++L1) v5 v6 v2
 refine⟨L1++L2,cr ?_⟩
 show W (aj TT (Gam n) d8 ei [.int _] H) _
 wrow_hasAny ei d8
 walk_at "e"
 rw[if_neg (by omega),if_neg (by omega),e1]
 walk_at "e"
 rw[e2]
 walk_at "e"
 exact⟨by decide,show 4+4≤ag by decide,rfl,by rw[List.append_assoc]⟩
def qe (Γ:FT):Prop:=∀(s:Fin 16) (H:Hp),aw (Γ 117) [.int s.val,.int 1] H= .ok (.int (s.val*256+1)) H
theorem zJ (n:Nat):qe (Gam (n+1)):=by
 intro s H
 obtain⟨v1,v2,v3,v4,v5,v6,v7,v8⟩:=rR s
 refine cr ?_
 show W (aj TT (Gam n) gi gA [.int _,.int 1] H) _
 wrow_hasAny gA gi
 walk_at "e"
 rw[if_neg (by omega),if_neg (by omega),v7]
 simp[v8]
theorem zC (n:Nat) (h1:qe (Gam n)) (h2:nu (Gam n)):qc (Gam (n+1)):=by
 intro u s H
 obtain⟨L,e⟩:=h2 s H
 refine⟨L,cr ?_⟩
 show W (aj TT (Gam n) ff fp [.bytes _,.int _,.int 1] H) _
 wrow_hasAny fp ff
 walk_at "e"
 rw[h1]
 walk_at "e"
 rw[e]
 walk_at "e"
 refine⟨?_,rfl,trivial⟩
 have:=kL u
 show(usr u).length+8≤ag
 unfold ag;omega
def enV (e:En):SV:= .tup [.int e.u.val,.int (-(e.s.val:Int)),.int e.k.val]
def kz (Γ:FT):Prop:=∀(H:Hp),aw (Γ 701) [] H= .ok (.ref H.length) (H++[.list [.bytes [],.bytes [97],.bytes [97,98],.bytes [98]]])
theorem wZ (n:Nat):kz (Gam (n+1)):=by
 intro H
 refine cr ?_
 show W (aj TT (Gam n) fb fk [] H) _
 wrow_hasAny fk fb
 walk_at "e"
 exact⟨show 4≤ag by decide,trivial,trivial⟩
def gU (Γ:FT):Prop:=∀(e:En) (H:Hp),∃L,aw (Γ 715) [enV e] H= .ok (.bytes (ik e)) (H++L)
theorem oZ:∀(u:Fin 4) (s:Fin 16) (k:Fin 2),dv [SV.bytes [],SV.bytes [97],SV.bytes [97,98],SV.bytes [98]] (u.val:Int)=some (.bytes (usr u))∧
 aX [(k.val:Int),0 - -(s.val:Int),0,0,0,0,0,0]=some [kb k,sb s,0,0,0,0,0,0]∧(u.val:Int)<2 ^ 62:=by
 intro u s k
 have h1:∀u:Fin 4,dv [SV.bytes [],SV.bytes [97],SV.bytes [97,98],SV.bytes [98]] (u.val:Int)=some (.bytes (usr u))∧(u.val:Int)<2 ^ 62:=by
  intro u;match u with
  |0=>exact⟨rfl,by decide⟩
  |1=>exact⟨rfl,by decide⟩
  |2=>exact⟨rfl,by decide⟩
  |3=>exact⟨rfl,by decide⟩
 have h2:∀(s:Fin 16) (k:Fin 2),aX [(k.val:Int),0 - -(s.val:Int),0,0,0,0,0,0]=some [kb k,sb s,0,0,0,0,0,0]:=by decide+kernel
 exact⟨(h1 u).1,h2 s k,(h1 u).2⟩
theorem zA (n:Nat) (h1:kz (Gam n)):gU (Gam (n+1)):=by
 intro e H
 obtain⟨v1,v2,v3⟩:=oZ e.u e.s e.k
 refine⟨[.list [.bytes [],.bytes [97],.bytes [97,98],.bytes [98]]]++[.list [.int e.k.val,.int (0 - -(e.s.val:Int)),.int 0,.int 0,.int 0,.int 0,.int 0,.int 0]],cr ?_⟩
 show W (aj TT (Gam n) gc gw [enV e] H) _
 wrow_hasAny gw gc
 unfold enV
 walk_at "e"
 rw[h1]
 walk_at "e"
 refine⟨by decide,?_⟩
 rw[aC]
 simp only[ck]
 rw[if_pos v3,v1]
 walk_at "e"
 refine⟨by decide,by decide,show 8≤ag by decide,?_⟩
 rw[aC,nG (its:=[_,_,_,_,_,_,_,_]) (is:=[_,_,_,_,_,_,_,_]) rfl (show 8≤ag by decide) v2]
 walk_at "e"
 refine⟨?_,rfl,by rw[List.append_assoc]⟩
 have:=kL e.u
 show(usr e.u).length+8≤ag
 unfold ag;omega

local macro_rules |`(tactic|walk_at "z")=>`(tactic|first|with_reducible rfl|exact True.intro|assumption|rfl)

local macro_rules |`(tactic|walk_at "q")=>`(tactic|(repeat' (first|trivial|rfl|refine⟨?_,?_⟩)))
structure Fi where
 num:Nat
 sz:Nat
 lo:En
 hi:En
deriving DecidableEq
def aT (f:Fi):SO:= .inst 368 [(73,.int f.num),(74,.int f.sz),(64,.bytes (ik f.lo)),(75,.bytes (ik f.hi))]
def IsF (H:Hp) (a:Nat) (f:Fi):Prop:=H[a]? =some (aT f)
def be (H:Hp) (n:Nat) (fs:List Fi):Prop:=∃as:List Nat,H[n]? =some (.list (as.map SV.ref))∧A2 (IsF H) as fs
def b9 (cnt ord fl:Nat) (sc sl:SV):SO:= .inst 494 [(45,.int cnt),(85,.ref ord),(84,.ref fl),(91,.int 0),(90,sc),(89,sl)]
def aI (H:Hp) (v:Nat) (V:List (List Fi)) (sc sl:SV):Prop:=∃ord fl ls,H[v]? =some (b9 V.length ord fl sc sl)∧cU H ord∧H[fl]? =some (.list (ls.map SV.ref))∧A2 (be H) ls V
theorem wa (C f:Nat):TT.fld C f=qq C f:=nr rfl
theorem r6 (C f:Nat):TT.meth C f=lC C f:=nr rfl
theorem v9:TT.nAppend=5:=nr rfl
theorem wc:TT.nInsert=6:=nr rfl
theorem wb:TT.nGet=7:=nr rfl
theorem k6 (T:Tb) (C:Addr) (fs:List (Nat×SV)) (f:Nat):kZ T (some (.inst C fs)) f=(match T.fld C f with|true=>gZ f fs|false=>none):=nr rfl
theorem mT (T:Tb) (C:Addr) (fs:List (Nat×SV)) (f:Nat) (w:SV):ia T (some (.inst C fs)) f w=(match T.fld C f with|true=>(if fs.length≤100 then some (.inst C (gk f w fs)) else none)|false=>none):=nr rfl
theorem lE (T:Tb) (C:Addr) (fs:List (Nat×SV)) (m:Nat):mP T (some (.inst C fs)) m=(match T.meth C m with
 |some f=>(match gZ m fs with
  |none=>some (.fn f)
  |some _=>none)
 |none=>none):=nr rfl
theorem lF (T:Tb) (vs:List SV) (m:Nat):mP T (some (.list vs)) m=if m=T.nAppend then some .app else if m=T.nInsert then some .ins else none:=nr rfl
theorem lD (T:Tb) (es:List (Int×SV)) (m:Nat):mP T (some (.dict es)) m=if m=T.nGet then some .get else none:=nr rfl
local macro_rules |`(tactic|walk_at "a")=>`(tactic|simp only[k6,mT,lE,lF,lD,aT,b9,wa,r6,v9,wc,wb,qq,gZ,lC,Nat.reduceEqDiff,↓reduceIte])

local macro_rules |`(tactic|wide_line with[$ts,*])=>`(tactic|simp only[pV,yZ,y1,zd,qO,yU,y9,yY,yV,zc,zf,y8,y0,y7,ze,wi,za,wj,yX,zb,qP,w_b1,wh,yW,yo,yk,yl,tG,ym,tH,yn,tI,yj,c_or,
 fR,eT,jr,rV,rU,pJ,yO,u0,u5,u6,u9,u7,u8,s_ex,yR,yT,dG,vh,vg,yP,vc,yQ,yS,rS,pF,mK,mJ,pg,ph,
 pU,yG,yE,yx,yv,tT,yJ,yF,yw,yD,yt,yp,uL,is_n,rA,tz,vY,uK,q9,uI,tA,yN,vk,vm,ty,rn,rB,rq,dL,ji,mB,rp,i7,rY,pK,oL,
 rH,len_bytes,qW,yi,uG,vq,pj,pi,mM,mO,mN,gV,eO,n7,n8,n9,upd,aN,dR,isNone,↓reduceIte,Nat.reduceEqDiff,decide_eq_true_eq,Bool.not_eq_true',decide_eq_false_iff_not,reduceCtorEq,k6,mT,lE,lF,lD,aT,b9,wa,r6,v9,wc,wb,qq,gZ,lC,$[$ts:term],*])
theorem A2.get' {α β:Type} {p:α→β→Prop}:∀{l:List α} {r:List β} {i:Nat} {b:β},A2 p l r→r[i]? =some b→∃a,l[i]? =some a∧p a b
 |x::_,y::_,0,b,h,e=>by cases e;exact⟨x,rfl,h.1⟩
 |_::_,_::_,i+1,b,h,e=>A2.get' (i:=i) h.2 (by simpa using e)
 |[],[],i,b,h,e=>by simp at e
theorem A2.mem {α β:Type} {p:α→β→Prop}:∀{l:List α} {r:List β} {a:α},A2 p l r→a∈l→∃b∈r,p a b
 |x::l,y::r,a,h,hm=>by
  rcases List.mem_cons.mp hm with rfl|hm
  ·exact⟨y,List.mem_cons_self ..,h.1⟩
  ·obtain⟨b,hb,q⟩:=A2.mem h.2 hm
   exact⟨b,List.mem_cons_of_mem _ hb,q⟩
 |[],[],_,_,hm=>nomatch hm
theorem A2.impM {α β:Type} {p q:α→β→Prop}:∀{l:List α} {r:List β},(∀a∈l,∀b∈r,p a b→q a b)→A2 p l r→A2 q l r
 |[],[],_,_=>trivial
 |x::l,y::r,f,h=>⟨f x (List.mem_cons_self ..) y (List.mem_cons_self ..) h.1,A2.impM (fun a ha b hb=>f a (List.mem_cons_of_mem _ ha) b (List.mem_cons_of_mem _ hb)) h.2⟩
def r7 (H:Hp) (S:Nat→Prop):Prop:=∀i f,H[i]? =some (aT f)→¬S i
theorem IsF.keep {S:Nat→Prop} {H H':Hp} {a:Nat} {f:Fi} (p:Pr S H H') (o:r7 H S) (h:IsF H a f):IsF H' a f:=p.get h (o _ _ h)
theorem IsF.app {H:Hp} {a:Nat} {f:Fi} (h:IsF H a f) (L:Hp):IsF (H++L) a f:=ab h L
theorem be.app {H:Hp} {n:Nat} {fs:List Fi} (h:be H n fs) (L:Hp):be (H++L) n fs:=by
 obtain⟨as,h1,h2⟩:=h
 exact⟨as,ab h1 L,h2.imp fun _ _ h=>h.app L⟩
theorem be.keep {S:Nat→Prop} {H H':Hp} {n:Nat} {fs:List Fi} (p:Pr S H H') (o:r7 H S) (hn:¬S n) (h:be H n fs):be H' n fs:=by
 obtain⟨as,h1,h2⟩:=h
 exact⟨as,p.get h1 hn,h2.imp fun _ _ h=>h.keep p o⟩
theorem aI.app {H:Hp} {v:Nat} {V:List (List Fi)} {sc sl:SV} (h:aI H v V sc sl) (L:Hp):aI (H++L) v V sc sl:=by
 obtain⟨ord,fl,ls,h1,h2,h3,h4⟩:=h
 exact⟨ord,fl,ls,ab h1 L,h2.app L,ab h3 L,h4.imp fun _ _ h=>h.app L⟩
theorem gm (x:Nat) (v:SV) (l:Loc) (Q:Loc→Prop):O (Tg.put (.one x) v l) Q=Q (upd l x v):=rfl
theorem jq (x y:Nat) (a b:SV) (l:Loc) (Q:Loc→Prop):O (Tg.put (.two x y) (.tup [a,b]) l) Q=Q (upd (upd l x a) y b):=rfl
theorem cP {x:Nat} {b:fv} {n:Nat} {as:List Nat} {fs:List Fi} {H₀:Hp} {Q:Fl×Loc→Hp→Prop} (ha:A2 (IsF H₀) as fs) (Inv:Nat→Loc→Hp→Prop) (at_:∀i l H,Inv i l H→H[n]? =some (.list (as.map SV.ref)))
 (step:∀i a f l H,Inv i l H→as[i]? =some a→fs[i]? =some f→IsF H₀ a f→W (b (upd l x (.ref a)) H) (dN (Inv (i+1)) Q)) (done:∀l H,Inv fs.length l H→Q (.next,l) H) {l:Loc} {H:Hp} (h:Inv 0 l H):
 W (gJ (.one x) b n ((as.map SV.ref).length+1) 0 l H) Q:=by
 refine cw Inv at_ (fun i v l H hi hv=> ?_) (fun l H h=>done l H (by rw[List.length_map,ha.len] at h;exact h)) h
 rw[List.getElem?_map] at hv
 cases hx:as[i]? with
 |none=>rw[hx] at hv;cases hv
 |some a=>
  rw[hx] at hv;cases hv
  obtain⟨f,hf,q⟩:=ha.get hx
  rw[gm]
  exact step i a f l H hi hx hf q
theorem iH {α:Type} (g:α→Nat) {fs:List α} {i:Nat} {f:α} (h:fs[i]? =some f):((fs.take (i+1)).map g).sum=((fs.take i).map g).sum+g f:=by
 rw[List.take_succ,h];simp
def szs (fs:List Fi):Nat:=(fs.map (·.sz)).sum
def ky (Γ:FT):Prop:=∀(n:Nat) (fs:List Fi) (H:Hp),be H n fs→aw (Γ 561) [.ref n] H= .ok (.int (szs fs)) H
theorem wY (n:Nat):ky (Gam (n+1)):=by
 intro r fs H hf
 obtain⟨as,h1,h2⟩:=hf
 refine cr ?_
 show W (aj TT (Gam n) eF eK [.ref r] H) _
 wrow_hasAny eK eF
 walk_at "e"
 refine aE ?_
 walk_at "e"
 refine⟨r,_,rfl,h1,cP h2 (fun i l H'=>H'=H∧l 118=some (.int (szs (fs.take i)))) (fun i l H' h=>h.1▸h1) ?_ ?_ ⟨rfl,rfl⟩⟩
 ·rintro i a f l H' ⟨rfl,hl⟩ _ hfi ha
  walk_at "e"
  rw[hl]
  walk_at "e"
  rw[ha]
  walk_at "a"
  walk_at "e"
  refine⟨trivial,?_⟩
  unfold szs
  rw[iH _ hfi]
  simp
 ·rintro l H' ⟨rfl,hl⟩
  walk_at "e"
  rw[hl]
  walk_at "e"
  rw[List.take_length]
  walk_at "q"
theorem aI.level {H:Hp} {v:Nat} {V:List (List Fi)} {sc sl:SV} (h:aI H v V sc sl) {j:Nat} {fs:List Fi} (hj:V[j]? =some fs):∃ord fl ls n,H[v]? =some (b9 V.length ord fl sc sl)∧cU H ord∧H[fl]? =some (.list (ls.map SV.ref))∧A2 (be H) ls V∧ls[j]? =some n∧be H n fs:=by
 obtain⟨ord,fl,ls,h1,h2,h3,h4⟩:=h
 obtain⟨n,h5,h6⟩:=A2.get' h4 hj
 exact⟨ord,fl,ls,n,h1,h2,h3,h4,h5,h6⟩
theorem aG {vs:List SV} {j:Nat} {x:SV} (h:vs[j]? =some x) (hj:vs.length≤ag):ck (some (.list vs)) (j:Int)=some x:=by
 have:=(List.getElem?_eq_some_iff.mp h).1
 unfold ag at hj
 simp only[ck]
 rw[if_pos (by omega),fS _ _ j rfl,h]
theorem aH {ls:List Nat} {j n:Nat} (h:ls[j]? =some n) (hj:ls.length≤ag):ck (some (.list (ls.map SV.ref))) (j:Int)=some (.ref n):=aG (by rw[List.getElem?_map,h];rfl) (by simpa using hj)
def kS (Γ:FT):Prop:=∀(v:Nat) (V:List (List Fi)) (sc sl:SV) (j:Nat) (fs:List Fi) (H:Hp),aI H v V sc sl→V.length≤ag→V[j]? =some fs→aw (Γ 470) [.ref v,.int j] H= .ok (.int (szs fs)) H
theorem tV (n:Nat):kS (Gam (n+1)):=by
 intro v V sc sl j fs H hv hV hj
 obtain⟨ord,fl,ls,r,h1,h2,h3,h4,h5,as,h6,h7⟩:=hv.level hj
 refine cr ?_
 show W (aj TT (Gam n) bG bI [.ref v,.int j] H) _
 wrow_hasAny bI bG
 walk_at "e"
 refine aE ?_
 walk_at "e"
 rw[h1]
 walk_at "a"
 walk_at "e"
 rw[h3,aH h5 (by rw[h4.len];exact hV)]
 walk_at "e"
 refine⟨r,_,rfl,h6,cP h7 (fun i l H'=>H'=H∧l 66=some (.int (szs (fs.take i)))) (fun i l H' h=>h.1▸h6) ?_ ?_ ⟨rfl,rfl⟩⟩
 ·rintro i a f l H' ⟨rfl,hl⟩ _ hfi ha
  walk_at "e"
  rw[hl]
  walk_at "e"
  rw[ha]
  walk_at "a"
  walk_at "e"
  refine⟨trivial,?_⟩
  unfold szs
  rw[iH _ hfi]
  simp
 ·rintro l H' ⟨rfl,hl⟩
  walk_at "e"
  rw[hl]
  walk_at "e"
  rw[List.take_length]
  walk_at "q"
theorem wf {α:Type} {p:α→Bool}:∀{l:List α} {i:Nat} {a:α},(∀(j k:Nat) (x y:α),j<k→l[j]? =some x→l[k]? =some y→p y=true→p x=true)→l[i]? =some a→p a=true→i<(l.takeWhile p).length
 |x::l,0,a,_,h,hp=>by cases h;rw[List.takeWhile_cons,hp];simp
 |x::l,i+1,a,m,h,hp=>by
  have h':l[i]? =some a:=by simpa using h
  have hx:p x=true:=m 0 (i+1) x a (by omega) rfl h hp
  rw[List.takeWhile_cons,hx]
  have:=wf (l:=l) (i:=i) (fun j k x y hjk hx hy=>m (j+1) (k+1) x y (by omega) (by simpa using hx) (by simpa using hy)) h' hp
  simp only[if_true,List.length_cons];omega
 |[],i,a,_,h,_=>by simp at h
theorem we {α:Type} {p:α→Bool}:∀{l:List α} {i:Nat} {a:α},l[i]? =some a→p a=false→(l.takeWhile p).length≤i
 |x::l,0,a,h,hp=>by cases h;rw[List.takeWhile_cons,hp];simp
 |x::l,i+1,a,h,hp=>by
  have:=we (l:=l) (i:=i) (by simpa using h) hp
  rw[List.takeWhile_cons]
  split
  ·simp only[List.length_cons];omega
  ·simp
 |[],i,a,h,_=>by simp at h
theorem qN {α:Type} {p:α→Bool} (l:List α):(l.takeWhile p).length≤l.length:=(List.takeWhile_prefix p).length_le
theorem dt {a:Int} (h0:0≤a) (h1:a≤1000000):isI a=true:=by
 unfold isI;simp only[Bool.and_eq_true,decide_eq_true_eq];omega
def Ab (l:Loc) (_:Hp):Nat:=match l 86,l 87 with
 |some (.int a),some (.int b)=>(b - a).toNat
 |_,_=>0
def iC (fs:List Fi) (e:En):Nat:=(fs.takeWhile fun f=>ltE f.hi e).length
def pX (p:Fi→Bool) (fs:List Fi):Prop:=∀(j k:Nat) (x y:Fi),j<k→fs[j]? =some x→fs[k]? =some y→p y=true→p x=true
theorem k8 (a b:En):(iA a b<0)=(ltE a b=true):=by
 unfold iA
 split
 ·rename_i h;simp[h]
 ·rename_i h;split<;>simp[h]
def qb (Γ:FT):Prop:=∀(r o:Nat) (fs:List Fi) (e:En) (H:Hp),be H r fs→fs.length≤100→cU H o→pX (fun f=>ltE f.hi e) fs→aw (Γ 414) [.ref r,.bytes (ik e),.ref o] H= .ok (.int (iC fs e)) H
theorem zy (n:Nat) (hc:jS (Gam n)):qb (Gam (n+1)):=by
 intro r o fs e H hf hl ho hm
 obtain⟨as,h1,h2⟩:=hf
 have hc:=hc o
 have hO:=ho
 obtain⟨u,ho1,ho2⟩:=ho
 refine cr ?_
 show W (aj TT (Gam n) e9 fh [.ref r,.bytes (ik e),.ref o] H) _
 wrow_hasAny fh e9
 have hal:(as.map SV.ref).length=fs.length:=by rw[List.length_map,h2.len]
 have hln:lenO (some (.list (as.map SV.ref)))=some (fs.length:Int):=by
  simp only[lenO];rw[if_pos (by rw[hal];unfold ag;omega),hal]
 walk_at "e"
 rw[h1,hln]
 walk_at "e"
 refine s8 (fun l H'=>H'=H∧l 84=some (.ref r)∧l 65=some (.bytes (ik e))∧l 85=some (.ref o)∧∃a b:Nat,l 86=some (.int a)∧l 87=some (.int b)∧a≤iC fs e∧iC fs e≤b∧b≤fs.length) Ab ?_ _ _ _ (Nat.le_refl _) ⟨rfl,rfl,rfl,rfl,0,fs.length,rfl,rfl,Nat.zero_le _,qN _,Nat.le_refl _⟩
 rintro l H' ⟨rfl,l1,l2,l3,a,b,l4,l5,ha,hb,hbl⟩
 walk_at "e"
 rw[l4,l5]
 walk_at "e"
 refine⟨fun hlt=> ?_,fun hlt=> ?_⟩
 ·have hab:a<b:=by omega
  refine⟨⟨dt (by omega) (by omega),by decide,by decide⟩,?_⟩
  rw[l3,l1]
  obtain⟨mid,hmid⟩:∃mid:Nat,((a:Int)+b).fdiv 2=(mid:Int):=⟨(a+b) / 2,by rw[Int.fdiv_eq_ediv_of_nonneg _ (by decide)];omega⟩
  have hm1:a≤mid∧mid<b:=by
   rw[Int.fdiv_eq_ediv_of_nonneg _ (by decide)] at hmid;omega
  have hml:mid<fs.length:=by omega
  obtain⟨f,hfm⟩:∃f,fs[mid]? =some f:=⟨_,List.getElem?_eq_getElem hml⟩
  obtain⟨am,ham,hF⟩:=A2.get' h2 hfm
  rw[hmid]
  walk_at "e"
  rw[ho1]
  walk_at "a"
  walk_at "e"
  rw[h1,aH ham (by have:=h2.len;unfold ag;omega)]
  walk_at "e"
  rw[hF]
  walk_at "a"
  walk_at "e"
  rw[l2]
  walk_at "e"
  rw[hc _ _ _ hO]
  walk_at "e"
  by_cases c:ltE f.hi e=true
  ·have c':iA f.hi e<0:=by rw[k8];exact c
   rw[if_pos c']
   have:=wf (l:=fs) (p:=fun f:Fi=>ltE f.hi e) hm hfm c
   refine⟨⟨by walk_at "z",by walk_at "z",by walk_at "z",by walk_at "z",mid+1,b,rfl,by walk_at "z",this,hb,hbl⟩,?_⟩
   simp only[Ab,l4,l5,upd];simp;omega
  ·have c':¬iA f.hi e<0:=by rw[k8];exact c
   rw[if_neg c']
   have:=we (l:=fs) (p:=fun f:Fi=>ltE f.hi e) hfm (by simpa using c)
   refine⟨⟨by walk_at "z",by walk_at "z",by walk_at "z",by walk_at "z",a,mid,by walk_at "z",rfl,ha,this,by omega⟩,?_⟩
   simp only[Ab,l4,l5,upd];simp;omega
 ·have:a=iC fs e:=by omega
  subst this
  walk_at "q"
theorem be.pairs {H:Hp} {n:Nat} {fs:List Fi} (h:be H n fs):∃afs:List (Nat×Fi),H[n]? =some (.list (afs.map fun x=> .ref x.1))∧afs.map (·.2)=fs∧∀x∈afs,IsF H x.1 x.2:=by
 obtain⟨as,h1,h2⟩:=h
 refine⟨as.zip fs,?_,?_,?_⟩
 ·rw[h1]
  congr 2
  have:∀{as:List Nat} {fs:List Fi},A2 (IsF H) as fs→as.map SV.ref=(as.zip fs).map fun x=>SV.ref x.1:=fun {as}=>by
   induction as with
   |nil=>intro fs h;cases fs with|nil=>rfl|cons=>exact h.elim
   |cons a as ih=>intro fs h;cases fs with|nil=>exact h.elim|cons f fs=>simp[ih h.2]
  exact this h2
 ·have:∀{as:List Nat} {fs:List Fi},A2 (IsF H) as fs→(as.zip fs).map (·.2)=fs:=fun {as}=>by
   induction as with
   |nil=>intro fs h;cases fs with|nil=>rfl|cons=>exact h.elim
   |cons a as ih=>intro fs h;cases fs with|nil=>exact h.elim|cons f fs=>simp[ih h.2]
  exact this h2
 ·have:∀{as:List Nat} {fs:List Fi},A2 (IsF H) as fs→∀x∈as.zip fs,IsF H x.1 x.2:=fun {as}=>by
   induction as with
   |nil=>intro fs h x hx;cases fs with|nil=>cases hx|cons=>exact h.elim
   |cons a as ih=>
    intro fs h x hx
    cases fs with
    |nil=>exact h.elim
    |cons f fs=>
     rcases List.mem_cons.mp hx with rfl|hx
     ·exact h.1
     ·exact ih h.2 x hx
  exact this h2
theorem be.of {H:Hp} {n:Nat} {afs:List (Nat×Fi)} (h:H[n]? =some (.list (afs.map fun x=> .ref x.1))) (hx:∀x∈afs,IsF H x.1 x.2):be H n (afs.map (·.2)):=by
 refine⟨afs.map (·.1),by rw[h,List.map_map];rfl,?_⟩
 clear h
 induction afs with
 |nil=>exact trivial
 |cons a r ih=>exact⟨hx a (List.mem_cons_self ..),ih fun x h=>hx x (List.mem_cons_of_mem _ h)⟩
theorem iz {t:Loc→Hp→R Bool} {b:fv} {Q:Fl×Loc→Hp→Prop} (Inv:Nat→Loc→Hp→Prop)
 (step:∀k l H,Inv k l H→W (t l H) fun c H₁=>(c=true→W (b l H₁) (dN (fun l' H'=>∃k',k'<k∧Inv k' l' H') Q))∧(c=false→Q (.next,l) H₁)):
 ∀(k:Nat) (l:Loc) (H:Hp),Inv k l H→W (cx t b l H) Q:=by
 intro k
 induction k using Nat.strongRecOn with
 |_ k ih=>
  intro l H hi
  rw[ib,aq]
  refine W.mono (step k l H hi) fun c H₁ hc=> ?_
  cases c with
  |false=>exact hc.2 rfl
  |true=>
   simp only[if_true,aq]
   refine W.mono (hc.1 rfl) fun q H₂ hq=> ?_
   obtain⟨f,l'⟩:=q
   cases f
   ·obtain⟨k',h1,h2⟩:=hq
    exact ih k' h1 l' H₂ h2
   ·exact hq
   ·obtain⟨k',h1,h2⟩:=hq
    exact ih k' h1 l' H₂ h2
   ·exact hq
def aW (is:List Int):List Int:=cd (fun a b=>decide (a≤b)) is
theorem eP:∀is:List Int,bE (is.map SV.int)=some is
 |[]=>rfl
 |i::r=>by rw[List.map_cons,bE,eP r];rfl
theorem pR {H:Hp} {r:Nat} {is:List Int} (h:H[r]? =some (.list (is.map SV.int))) (hl:is.length<64) (Q):W (gI TT 1 [.ref r] H) Q=(((aW is).map SV.int).length≤ag∧Q (.ref H.length) (H++[.list ((aW is).map SV.int)])):=by
 have:gI TT 1 [.ref r] H=bp ((aW is).map SV.int) H:=by
  show(match H[r]? with|some (.list its)=>_|some (.dict es)=>_|_=>_)=_
  rw[h]
  simp only[List.length_map,hl,if_true,mX,eP]
  rfl
 rw[this,dL]
theorem dS {α:Type} (le:α→α→Bool):∀l:List α,(cd le l).length=l.length
 |[]=>rfl
 |x::r=>by
  have ins:∀l:List α,(fK le x l).length=l.length+1:=fun l=>by
   induction l with
   |nil=>rfl
   |cons y l ih=>unfold fK;split<;>simp[ih]
  rw[cd,ins,dS le r];rfl
def aL (V:List (List Fi)):List Int:=V.flatten.map fun f=>(f.num:Int)
def eN (Γ:FT):Prop:=∀(v:Nat) (V:List (List Fi)) (sc sl:SV) (H:Hp),aI H v V sc sl→V.flatten.length<64→aw (Γ 477) [.ref v] H= .ok (.ref (H.length+1)) (H++[.list ((aL V).map SV.int),.list ((aW (aL V)).map SV.int)])
theorem sy (n:Nat):eN (Gam (n+1)):=by
 intro v V sc sl H hv hz
 obtain⟨ord,fl,ls,h1,h2,h3,h4⟩:=hv
 refine cr ?_
 show W (aj TT (Gam n) cL cN [.ref v] H) _
 wrow_hasAny cN cL
 walk_at "e"
 refine⟨by decide,?_⟩
 refine aE ?_
 walk_at "e"
 rw[ab h1]
 walk_at "a"
 walk_at "e"
 refine⟨fl,_,rfl,ab h3 _,cw (fun i l H'=>H'=H++[.list (((V.take i).flatten.map fun f=>(f.num:Int)).map SV.int)]∧l 95=some (.ref H.length)) (fun i l H' h=>h.1▸ab h3 _) ?_ ?_ ⟨rfl,rfl⟩⟩
 ·rintro i x l H' ⟨rfl,hl⟩ hx
  rw[List.getElem?_map] at hx
  cases hi:ls[i]? with
  |none=>rw[hi] at hx;cases hx
  |some r=>
   rw[hi] at hx;cases hx
   obtain⟨fs,hfs,as,h6,h7⟩:=h4.get hi
   rw[gm]
   walk_at "e"
   refine aE ?_
   walk_at "e"
   have hpre:(V.take (i+1)).flatten=(V.take i).flatten++fs:=by rw[List.take_succ,hfs];simp
   have hle:(V.take (i+1)).flatten.length≤V.flatten.length:=by
    have:=List.take_append_drop (i+1) V
    rw[←this,List.flatten_append,List.length_append,this];omega
   refine⟨r,_,rfl,ab h6 _,cP (H₀:=H) h7 (fun j l H'=>H'=H++[.list ((((V.take i).flatten++fs.take j).map fun f=>(f.num:Int)).map SV.int)]∧l 95=some (.ref H.length)) (fun j l H' h=>h.1▸ab h6 _) ?_ ?_ ⟨by simp,hl⟩⟩
   ·rintro j a f l H' ⟨rfl,hl⟩ _ hfj ha
    walk_at "e"
    rw[hl]
    walk_at "e"
    rw[aC]
    walk_at "a"
    walk_at "e"
    rw[ab (show H[a]? =some (aT f) from ha)]
    walk_at "a"
    walk_at "e"
    rw[aC]
    simp only[iK]
    have hj:fs.take (j+1)=fs.take j++[f]:=by rw[List.take_succ,hfj];rfl
    have hlt:(((V.take i).flatten++fs.take (j+1)).length)≤V.flatten.length:=by
     rw[hpre] at hle
     have:(fs.take (j+1)).length≤fs.length:=by simp;omega
     simp only[List.length_append] at hle⊢;omega
    rw[if_pos (by rw[hj] at hlt;simp only[List.length_map,List.length_append,List.length_singleton] at hlt⊢;unfold ag;omega)]
    walk_at "e"
    refine⟨trivial,?_,by walk_at "z"⟩
    rw[oe,hj]
    simp
   ·rintro l H' ⟨rfl,hl⟩
    walk_at "e"
    rw[List.take_length,hpre]
    exact⟨rfl,hl⟩
 ·rintro l H' ⟨rfl,hl⟩
  walk_at "e"
  rw[List.length_map,h4.len,List.take_length,hl]
  walk_at "e"
  show W (gI TT 1 [.ref H.length] (H++[.list ((aL V).map SV.int)])) _
  rw[pR (is:=aL V) (aC _ _) (by rw[aL,List.length_map];exact hz)]
  refine⟨by rw[List.length_map,aW,dS,aL,List.length_map];unfold ag;omega,?_,?_⟩
  ·simp
  ·simp[aL]
def rk (e:En):Nat:=e.u.val*32+(15 - e.s.val)*2+(1 - e.k.val)
theorem iO (a b:En):(ltE a b=true)↔rk a<rk b:=by
 obtain⟨au,as,ak⟩:=a
 obtain⟨bu,bs,bk⟩:=b
 unfold ltE rk
 simp only[Bool.or_eq_true,Bool.and_eq_true,decide_eq_true_eq,Fin.lt_def,Fin.ext_iff]
 omega
theorem rk_u {a b:En} (h:rk a≤rk b):a.u≤b.u:=by
 unfold rk at h
 have:=a.s.2;have:=b.s.2;have:=a.k.2;have:=b.k.2
 rw[Fin.le_def];omega
theorem kA (a b:En):(iA a b<0)↔rk a<rk b:=by rw[k8,iO]
theorem ie (a b:En):(0<iA a b)↔rk b<rk a:=by
 rw[←iO]
 unfold iA
 by_cases h:ltE a b=true
 ·rw[if_pos h]
  have h1:=(iO a b).mp h
  constructor
  ·intro z;simp at z
  ·intro z;have:=(iO b a).mp z;omega
 ·rw[if_neg h]
  by_cases h2:ltE b a=true
  ·rw[if_pos h2];simp[h2]
  ·rw[if_neg h2];simp[h2]
theorem vn {H:Hp} {r:Nat} {vs:List SV} (h:H[r]? =some (.list vs)) (hl:vs.length≤ag) (Q):W (oh (.ref r) (.int 1) .none H) Q=((vs.drop 1).length≤ag∧Q (.ref H.length) (H++[.list (vs.drop 1)])):=by
 have:oh (.ref r) (.int 1) .none H=bp (vs.drop 1) H:=by
  show(match H[r]? with|some (.list vs)=>_|_=>_)=_
  rw[h]
  simp only[hl,if_true]
  rfl
 rw[this,dL]
def zh (fs:List Fi) (lo hi:En):Prop:=(∃f∈fs,f.lo=lo)∧(∃f∈fs,f.hi=hi)∧∀f∈fs,rk lo≤rk f.lo∧rk f.hi≤rk hi
def kn (Γ:FT):Prop:=∀(r o:Nat) (fs:List Fi) (H:Hp),be H r fs→fs.length≤100→fs≠[]→cU H o→∃L lo hi,aw (Γ 568) [.ref r,.ref o] H= .ok (.tup [.bytes (ik lo),.bytes (ik hi)]) (H++L)∧zh fs lo hi
theorem wU (n:Nat) (hc:jS (Gam n)):kn (Gam (n+1)):=by
 intro r o fs H hf hl hne ho
 obtain⟨afs,h1,rfl,h3⟩:=hf.pairs
 match afs,h1,h3,hl,hne with
 |x::afs,h1,h3,hl,hne=>
  have hO:=ho
  obtain⟨u,ho1,ho2⟩:=ho
  have hmost:((x::afs).map fun x=>SV.ref x.1).length≤ag:=by rw[List.length_map] at hl⊢;unfold ag;omega
  suffices h:W (aw (Gam (n+1) 568) [.ref r,.ref o] H) fun v H'=>∃lo hi,v= .tup [.bytes (ik lo),.bytes (ik hi)]∧H'=H++[.list (((x::afs).map fun x=>SV.ref x.1).drop 1)]∧zh ((x::afs).map (·.2)) lo hi by
   revert h
   cases aw (Gam (n+1) 568) [.ref r,.ref o] H with
   |ok v H'=>
    rintro⟨lo,hi,rfl,rfl,h⟩
    exact⟨_,lo,hi,rfl,h⟩
   |exc H'=>exact fun h=>h.elim
   |fail=>exact fun h=>h.elim
  show W (aj TT (Gam n) fa fj [.ref r,.ref o] H) _
  wrow_hasAny fj fa
  have hx:=h3 x (List.mem_cons_self ..)
  have i0:ck (some (.list ((x::afs).map fun x=>SV.ref x.1))) 0=some (.ref x.1):=aG (j:=0) rfl hmost
  walk_at "e"
  rw[h1,i0]
  walk_at "e"
  rw[show H[x.1]? =some (aT x.2) from hx]
  walk_at "a"
  walk_at "e"
  rw[h1,i0]
  walk_at "e"
  rw[show H[x.1]? =some (aT x.2) from hx]
  walk_at "a"
  walk_at "e"
  refine aE ?_
  walk_at "e"
  rw[vn h1 hmost]
  have hmost2:(((x::afs).map fun x=>SV.ref x.1).drop 1).length≤ag:=by rw[List.length_drop];omega
  refine⟨hmost2,?_⟩
  have hdrop:((x::afs).map fun x=>SV.ref x.1).drop 1=(afs.map (·.1)).map SV.ref:=by simp[List.map_map]
  rw[hdrop]
  have hA2:A2 (IsF H) (afs.map (·.1)) (afs.map (·.2)):=by
   have:∀{l:List (Nat×Fi)},(∀x∈l,IsF H x.1 x.2)→A2 (IsF H) (l.map (·.1)) (l.map (·.2)):=fun {l}=>by
    induction l with
    |nil=>intro _;exact trivial
    |cons a l ih=>intro h;exact⟨h a (List.mem_cons_self ..),ih fun y hy=>h y (List.mem_cons_of_mem _ hy)⟩
   exact this fun y hy=>h3 y (List.mem_cons_of_mem _ hy)
  refine⟨_,_,rfl,aC _ _,cP (H₀:=H) hA2 (fun i l H'=>H'=H++[.list ((afs.map (·.1)).map SV.ref)]∧l 85=some (.ref o)∧∃lo hi,l 64=some (.bytes (ik lo))∧l 75=some (.bytes (ik hi))∧zh (x.2::(afs.map (·.2)).take i) lo hi)
   (fun i l H' h=>h.1▸aC _ _) ?_ ?_ ⟨rfl,rfl,_,_,rfl,rfl,⟨_,List.mem_cons_self ..,rfl⟩,⟨_,List.mem_cons_self ..,rfl⟩,fun f hf=> ?_⟩⟩
  ·rintro i a f l H' ⟨rfl,l1,lo,hi,l2,l3,⟨f1,hf1,e1⟩,⟨f2,hf2,e2⟩,he⟩ _ hfi ha
   have ht:(afs.map (·.2)).take (i+1)=(afs.map (·.2)).take i++[f]:=by rw[List.take_succ,hfi];rfl
   have hO':=hO.app [.list ((afs.map (·.1)).map SV.ref)]
   have mem:∀g,g∈x.2::((afs.map (·.2)).take i++[f])↔g∈x.2::(afs.map (·.2)).take i∨g=f:=fun g=>by simp[or_assoc]
   have hF:(H++[.list ((afs.map (·.1)).map SV.ref)])[a]? =some (aT f):=ab ha _
   have hR:=ab ho1 [.list ((afs.map (·.1)).map SV.ref)]
   wide_line with[l1,l2,l3,hF,hR,hc _ _ _ _ hO']
   by_cases c1:iA f.lo lo<0
   ·have c1':=(kA _ _).mp c1
    rw[if_pos c1]
    by_cases c2:0<iA f.hi hi
    ·rw[if_pos c2]
     have c2':=(ie _ _).mp c2
     refine⟨by walk_at "z",by walk_at "z",_,_,rfl,rfl,⟨f,by rw[ht];simp,rfl⟩,⟨f,by rw[ht];simp,rfl⟩,fun g hg=> ?_⟩
     rw[ht] at hg
     rcases(mem g).mp hg with hg|rfl
     ·have:=he g hg;omega
     ·omega
    ·rw[if_neg c2]
     have c2':¬rk hi<rk f.hi:=fun z=>c2 ((ie _ _).mpr z)
     refine⟨by walk_at "z",by walk_at "z",_,_,rfl,rfl,⟨f,by rw[ht];simp,rfl⟩,⟨f2,by rw[ht];exact(mem f2).mpr (.inl hf2),e2⟩,fun g hg=> ?_⟩
     rw[ht] at hg
     rcases(mem g).mp hg with hg|rfl
     ·have:=he g hg;omega
     ·omega
   ·rw[if_neg c1]
    have c1':¬rk f.lo<rk lo:=fun z=>c1 ((kA _ _).mpr z)
    by_cases c2:0<iA f.hi hi
    ·rw[if_pos c2]
     have c2':=(ie _ _).mp c2
     refine⟨by walk_at "z",by walk_at "z",_,_,rfl,rfl,⟨f1,by rw[ht];exact(mem f1).mpr (.inl hf1),e1⟩,⟨f,by rw[ht];simp,rfl⟩,fun g hg=> ?_⟩
     rw[ht] at hg
     rcases(mem g).mp hg with hg|rfl
     ·have:=he g hg;omega
     ·omega
    ·rw[if_neg c2]
     have c2':¬rk hi<rk f.hi:=fun z=>c2 ((ie _ _).mpr z)
     refine⟨by walk_at "z",by walk_at "z",_,_,rfl,rfl,⟨f1,by rw[ht];exact(mem f1).mpr (.inl hf1),e1⟩,⟨f2,by rw[ht];exact(mem f2).mpr (.inl hf2),e2⟩,fun g hg=> ?_⟩
     rw[ht] at hg
     rcases(mem g).mp hg with hg|rfl
     ·have:=he g hg;omega
     ·omega
  ·rintro l H' ⟨rfl,l1,lo,hi,l2,l3,he⟩
   walk_at "e"
   rw[l2,l3]
   walk_at "e"
   rw[List.take_length] at he
   exact⟨⟨rfl,show 2≤ag by decide⟩,lo,hi,by walk_at "z",by walk_at "z",he⟩
  ·have:f=x.2:=by simpa using hf
   subst this;exact⟨Nat.le_refl _,Nat.le_refl _⟩
 |[],_,_,_,hne=>exact absurd rfl hne
def iE (fs:List Fi) (a b:Fin 4):Prop:=(∃f∈fs,f.lo.u=a)∧(∃f∈fs,f.hi.u=b)∧∀f∈fs,a≤f.lo.u∧f.hi.u≤b
def kO (H:Hp) (p op o:Nat):Prop:=H[p]? =some (.inst 690 [(70,.ref op),(85,.ref o)])
def iY (Γ:FT):Prop:=∀(p op o r:Nat) (fs:List Fi) (H:Hp),kO H p op o→be H r fs→fs.length≤100→fs≠[]→cU H o→∃L a b,aw (Γ 666) [.ref p,.ref r] H= .ok (.tup [.bytes (usr a),.bytes (usr b)]) (H++L)∧iE fs a b
theorem t8 (n:Nat) (hu:cR (Gam n)) (hr:kn (Gam n)):iY (Gam (n+1)):=by
 intro p op o r fs H hp hf hl hne ho
 obtain⟨L,lo,hi,e,⟨f1,g1,e1⟩,⟨f2,g2,e2⟩,he⟩:=hr r o fs H hf hl hne ho
 refine⟨L,lo.u,hi.u,cr ?_,⟨f1,g1,by rw[e1]⟩,⟨f2,g2,by rw[e2]⟩,fun f hf=>⟨rk_u (he f hf).1,rk_u (he f hf).2⟩⟩
 show W (aj TT (Gam n) co cq [.ref p,.ref r] H) _
 wrow_hasAny cq co
 walk_at "e"
 rw[show H[p]? =some _ from hp]
 walk_at "a"
 walk_at "e"
 rw[e]
 walk_at "e"
 refine⟨by decide,?_⟩
 rw[hu]
 walk_at "e"
 refine⟨by decide,?_⟩
 rw[hu]
 walk_at "e"
 exact⟨⟨by rfl,show 2≤ag by decide⟩,trivial,trivial⟩
def ov (a b:Fin 4) (f:Fi):Bool:= !(decide (f.hi.u<a)) && !(decide (b<f.lo.u))
def kj (Γ:FT):Prop:=∀(v:Nat) (V:List (List Fi)) (sc sl:SV) (j:Nat) (a b:Fin 4) (fs:List Fi) (H:Hp),aI H v V sc sl→V.length≤100→V[j]? =some fs→fs.length≤100→
 ∃L p a' b',aw (Γ 435) [.ref v,.int j,.bytes (usr a),.bytes (usr b)] H= .ok (.ref p) (H++L)∧be (H++L) p (fs.filter (ov a' b'))∧H.length≤p∧a'≤a∧b≤b'∧(j≠0→a'=a∧b'=b)∧(j=0→∀f∈fs.filter (ov a' b'),a'≤f.lo.u∧f.hi.u≤b')
theorem dw {H L:Hp} {p:Nat} {o:SO} (h:H.length≤p):(H++L).set p o=H++L.set (p - H.length) o:=by
 rw[List.set_append,if_neg (by omega)]
theorem bh {α:Type} {f:α→SV} {l:List α} (h:l.length≤ag):lenO (some (.list (l.map f)))=some (l.length:Int):=by
 simp only[lenO,List.length_map,if_pos h]
theorem cJ {vs:List SV} {x:SV} (h:vs.length<ag):iK (some (.list vs)) x=some (.list (vs++[x])):=by
 simp only[iK,if_pos h]
structure OvI (H:Hp) (v j:Nat) (a b:Fin 4) (afs:List (Nat×Fi)) (k:Nat) (l:Loc) (H':Hp) (a' b':Fin 4) (i p:Nat) (L:Hp):Prop where
 l29:l 29=some (.ref v)
 l92:l 92=some (.int j)
 l86:l 86=some (.bytes (usr a'))
 l87:l 87=some (.bytes (usr b'))
 l96:l 96=some (.int i)
 l95:l 95=some (.ref p)
 hH:H'=H++L
 hp:(H++L)[p]? =some (.list (((afs.take i).filter fun x=>ov a' b' x.2).map fun x=> .ref x.1))
 hl:H.length≤p
 hi:i≤afs.length
 ha:a'≤a
 hb:b≤b'
 hj:j≠0→a'=a∧b'=b
 h0:j=0→∀x∈(afs.take i).filter (fun x=>ov a' b' x.2),a'≤x.2.lo.u∧x.2.hi.u≤b'
 hk:k=(a'.val+(3 - b'.val))*200+(afs.length - i)
theorem fU {α:Type} {l:List α} {i:Nat} {x:α} {p:α→Bool} (h:l[i]? =some x):(l.take (i+1)).filter p=(l.take i).filter p++(if p x then[x] else[]):=by
 rw[List.take_succ,h,List.filter_append]
 cases hp:p x<;>simp[hp]
theorem wQ (n:Nat) (hu:cR (Gam n)):kj (Gam (n+1)):=by
 intro v V sc sl j a b fs H hv hV hj hfl
 obtain⟨ord,fl,ls,r,h1,h2,h3,h4,h5,hfs⟩:=hv.level hj
 obtain⟨afs,h6,rfl,h7⟩:=hfs.pairs
 rw[List.length_map] at hfl
 suffices h:W (aw (Gam (n+1) 435) [.ref v,.int j,.bytes (usr a),.bytes (usr b)] H) fun x H'=>∃L p a' b',x= .ref p∧H'=H++L∧be (H++L) p ((afs.map (·.2)).filter (ov a' b'))∧H.length≤p∧a'≤a∧b≤b'∧(j≠0→a'=a∧b'=b)∧(j=0→∀f∈(afs.map (·.2)).filter (ov a' b'),a'≤f.lo.u∧f.hi.u≤b') by
  revert h
  cases aw (Gam (n+1) 435) [.ref v,.int j,.bytes (usr a),.bytes (usr b)] H with
  |ok x H'=>
   rintro⟨L,p,a',b',rfl,rfl,h⟩
   exact⟨L,p,a',b',rfl,h⟩
  |exc H'=>exact fun h=>h.elim
  |fail=>exact fun h=>h.elim
 show W (aj TT (Gam n) bN bR [.ref v,.int j,.bytes (usr a),.bytes (usr b)] H) _
 wrow_hasAny bR bN
 have hlm:ls.length≤ag:=by rw[h4.len];unfold ag;omega
 have ham:afs.length≤ag:=by unfold ag;omega
 walk_at "e"
 refine⟨by decide,?_⟩
 refine iz (fun k l H'=>∃a' b' i p L,OvI H v j a b afs k l H' a' b' i p L) ?_ ((a.val+(3 - b.val))*200+(afs.length - 0)) _ _ ⟨a,b,0,H.length,[.list []],{l29:=rfl,l92:=rfl,l86:=rfl,l87:=rfl,l96:=rfl,l95:=rfl,hH:=rfl,hp:=aC _ _,hl:=Nat.le_refl _,hi:=Nat.zero_le _,ha:=Nat.le_refl _,hb:=Nat.le_refl _,hj:=fun _=>⟨rfl,rfl⟩,h0:=fun _ x hx=>(by simp at hx),hk:=rfl}⟩
 rintro k l H' ⟨a',b',i,p,L,I⟩
 have hH:=I.hH
 subst hH
 wide_line with[I.l29,I.l92,I.l86,I.l87,I.l96,I.l95,ab h1 L,ab h3 L,aH h5 hlm,ab h6 L,bh ham]
 refine⟨fun hlt=> ?_,fun hlt=> ?_⟩
 ·have hil:i<afs.length:=by omega
  have hx:=List.getElem?_eq_getElem hil
  generalize afs[i]=x at hx
  have hF:(H++L)[x.1]? =some (aT x.2):=ab (h7 x (List.mem_of_getElem? hx)) L
  have hid:ck (some (.list (afs.map fun x=>SV.ref x.1))) (i:Int)=some (.ref x.1):=aG (by rw[List.getElem?_map,hx];rfl) (by rw[List.length_map];exact ham)
  wide_line with[hid,hF,hu _ _,jQ,Bool.not_false,if_true]
  have hts:= @fU _ afs i x (fun x=>ov a' b' x.2) hx
  have hi1:(i:Int)+1=((i+1:Nat):Int):=by omega
  rw[hi1]
  by_cases c1:x.2.hi.u<a'
  ·rw[if_pos c1]
   have hov:ov a' b' x.2=false:=by simp[ov,c1]
   rw[hov,if_neg (by simp),List.append_nil] at hts
   exact⟨(a'.val+(3 - b'.val))*200+(afs.length - (i+1)),by rw[I.hk];omega,a',b',i+1,p,L,{l29:=I.l29,l92:=I.l92,l86:=I.l86,l87:=I.l87,l96:=rfl,l95:=I.l95,hH:=rfl,hp:=by rw[hts];exact I.hp,hl:=I.hl,hi:=hil,ha:=I.ha,hb:=I.hb,hj:=I.hj,h0:=by rw[hts];exact I.h0,hk:=rfl}⟩
  ·rw[if_neg c1]
   by_cases c2:b'<x.2.lo.u
   ·rw[if_pos c2]
    have hov:ov a' b' x.2=false:=by simp[ov,c2]
    rw[hov,if_neg (by simp),List.append_nil] at hts
    exact⟨(a'.val+(3 - b'.val))*200+(afs.length - (i+1)),by rw[I.hk];omega,a',b',i+1,p,L,{l29:=I.l29,l92:=I.l92,l86:=I.l86,l87:=I.l87,l96:=rfl,l95:=I.l95,hH:=rfl,hp:=by rw[hts];exact I.hp,hl:=I.hl,hi:=hil,ha:=I.ha,hb:=I.hb,hj:=I.hj,h0:=by rw[hts];exact I.h0,hk:=rfl}⟩
   ·rw[if_neg c2]
    have hov:ov a' b' x.2=true:=by simp[ov,c1,c2]
    rw[hov,if_pos rfl] at hts
    have hfl2:((afs.take i).filter fun x=>ov a' b' x.2).length≤afs.length:=Nat.le_trans (List.length_filter_le _ _) (by simp;omega)
    wide_line with[I.hp,cJ (vs:=((afs.take i).filter fun x=>ov a' b' x.2).map fun x=>SV.ref x.1) (x:= .ref x.1) (by rw[List.length_map];unfold ag;omega),dw I.hl]
    refine⟨trivial,?_⟩
    generalize hLs:L.set (p - H.length) (.list ((((afs.take i).filter fun x=>ov a' b' x.2).map fun x=>SV.ref x.1)++[.ref x.1]))=L'
    have hp':(H++L')[p]? =some (.list (((afs.take (i+1)).filter fun x=>ov a' b' x.2).map fun x=>SV.ref x.1)):=by
     rw[←hLs,←dw I.hl,a5 _ I.hp,hts,List.map_append];rfl
    by_cases cj:(j:Int)=0
    ·rw[if_pos cj]
     have hj0:j=0:=by omega
     by_cases c3:x.2.lo.u<a'
     ·rw[if_pos c3]
      refine⟨by decide,(x.2.lo.u.val+(3 - b'.val))*200+(afs.length - 0),by rw[I.hk];have:x.2.lo.u.val<a'.val:=c3;omega,x.2.lo.u,b',0,(H++L').length,L'++[.list []],
       {l29:=I.l29,l92:=I.l92,l86:=rfl,l87:=I.l87,l96:=rfl,l95:=rfl,hH:=by rw[List.append_assoc],hp:=by rw[←List.append_assoc];exact aC _ _,hl:=by simp,hi:=Nat.zero_le _,ha:=Fin.le_trans (Fin.le_of_lt c3) I.ha,hb:=I.hb,hj:=fun h=>absurd hj0 h,h0:=fun _ x hx=>(by simp at hx),hk:=rfl}⟩
     ·rw[if_neg c3]
      by_cases c4:b'<x.2.hi.u
      ·rw[if_pos c4]
       refine⟨by decide,(a'.val+(3 - x.2.hi.u.val))*200+(afs.length - 0),by rw[I.hk];have h1:b'.val<x.2.hi.u.val:=c4;have:=x.2.hi.u.2;omega,a',x.2.hi.u,0,(H++L').length,L'++[.list []],
        {l29:=I.l29,l92:=I.l92,l86:=I.l86,l87:=rfl,l96:=rfl,l95:=rfl,hH:=by rw[List.append_assoc],hp:=by rw[←List.append_assoc];exact aC _ _,hl:=by simp,hi:=Nat.zero_le _,ha:=I.ha,hb:=Fin.le_trans I.hb (Fin.le_of_lt c4),hj:=fun h=>absurd hj0 h,h0:=fun _ x hx=>(by simp at hx),hk:=rfl}⟩
      ·rw[if_neg c4]
       refine⟨(a'.val+(3 - b'.val))*200+(afs.length - (i+1)),by rw[I.hk];omega,a',b',i+1,p,L',
        {l29:=I.l29,l92:=I.l92,l86:=I.l86,l87:=I.l87,l96:=rfl,l95:=I.l95,hH:=rfl,hp:=hp',hl:=I.hl,hi:=hil,ha:=I.ha,hb:=I.hb,hj:=I.hj,h0:=fun h0 y hy=> ?_,hk:=rfl}⟩
       rw[hts] at hy
       rcases List.mem_append.mp hy with hy|hy
       ·exact I.h0 h0 y hy
       ·have:y=x:=by simpa using hy
        subst this
        exact⟨Fin.not_lt.mp c3,Fin.not_lt.mp c4⟩
    ·rw[if_neg cj]
     refine⟨(a'.val+(3 - b'.val))*200+(afs.length - (i+1)),by rw[I.hk];omega,a',b',i+1,p,L',
      {l29:=I.l29,l92:=I.l92,l86:=I.l86,l87:=I.l87,l96:=rfl,l95:=I.l95,hH:=rfl,hp:=hp',hl:=I.hl,hi:=hil,ha:=I.ha,hb:=I.hb,hj:=I.hj,h0:=fun h0 y hy=>absurd (by rw[h0];rfl) cj,hk:=rfl}⟩
 ·have hie:i=afs.length:=by have:=I.hi;omega
  have hp:=I.hp
  have h0:=I.h0
  rw[hie,List.take_length] at hp h0
  have hmap:(afs.map (·.2)).filter (ov a' b')=(afs.filter fun x=>ov a' b' x.2).map (·.2):=by rw[List.filter_map];rfl
  refine⟨L,p,a',b',rfl,rfl,?_,I.hl,I.ha,I.hb,I.hj,?_⟩
  ·rw[hmap]
   exact be.of hp fun x hx=>(h7 x (List.mem_filter.mp hx).1).app L
  ·rw[hmap]
   intro hz f hf
   obtain⟨x,hx,rfl⟩:=List.mem_map.mp hf
   exact h0 hz x hx
def inr (u:Fin 4) (f:Fi):Bool:=decide (f.lo.u≤u) && decide (u≤f.hi.u)
def cZ (fs:List Fi) (e:En):List Fi:=match fs[iC fs e]? with
 |some f=>if f.lo.u≤e.u then[f] else[]
 |none=>[]
def dA (V:List (List Fi)) (e:En):List Fi:=match V with
 |[]=>[]
 |fs::r=>fs.reverse.filter (inr e.u)++r.flatMap fun fs=>cZ fs e
abbrev Cd:=Nat×Nat×Fi
def cdV (x:Cd):SV:= .tup [.int x.1,.ref x.2.1]
def qa (Γ:FT):Prop:=∀(v:Nat) (V:List (List Fi)) (sc sl:SV) (e:En) (H:Hp),aI H v V sc sl→V.length≤100→V≠[]→(∀fs∈V,fs.length≤100)→(∀fs∈V.drop 1,pX (fun f=>ltE f.hi e) fs)→
 ∃(L:Hp) (p:Nat) (xs:List Cd),aw (Γ 442) [.ref v,.bytes (ik e)] H= .ok (.ref p) (H++L)∧(H++L)[p]? =some (.list (xs.map cdV))∧xs.map (·.2.2)=dA V e∧∀x∈xs,IsF H x.2.1 x.2.2
theorem xC (m:Nat):dy (((m+1:Nat):Int) - 1) (-1) (m+1)=(m:Int)::dy ((m:Int) - 1) (-1) m:=by
 rw[dy]
 have e1:((m+1:Nat):Int) - 1=m:=by omega
 rw[e1];rfl
theorem en {a:Int} (h0: -1000000≤a) (h1:a≤1000000):cT a=true:=by
 unfold cT;simp only[Bool.and_eq_true,decide_eq_true_eq];omega
theorem uV {m:Nat} (h:m≤1000):bH [.int ((m:Int) - 1),.int (-1),.int (-1)]=some (dy ((m:Int) - 1) (-1) m):=by
 simp only[bH]
 rw[en (by omega) (by omega),en (by omega) (by omega)]
 have:((m:Int) - 1 - -1).toNat=m:=by omega
 rw[this];rfl
theorem lX {a b:Nat} (ha:a≤1000) (hb:b≤1000):bH [.int (a:Int),.int (b:Int)]=some (dy (a:Int) 1 (b - a)):=by
 simp only[bH]
 rw[en (by omega) (by omega),en (by omega) (by omega)]
 have:((b:Int) - (a:Int)).toNat=b - a:=by omega
 rw[this];rfl
theorem ir {b:Nat} (hb:b≤1000):bH [.int (b:Int)]=some (dy 0 1 b):=by
 simp only[bH]
 rw[en (by omega) (by omega)]
 rfl
theorem zv (n:Nat) (hu:cR (Gam n)) (hfd:qb (Gam n)):qa (Gam (n+1)):=by
 intro v V sc sl e H hv hV hne hlen hmono
 obtain⟨ord,fl,ls,h1,hO,h3,h4⟩:=hv
 match V,ls,h4,hne,h1,hlen,hmono,hV,h3 with
 |fs0::V',r0::ls',h4,hne,h1,hlen,hmono,hV,h3=>
 obtain⟨afs,h6,hfs0,h7⟩:=h4.1.pairs
 have h0l:afs.length≤100:=by have:=hlen fs0 (List.mem_cons_self ..);rw[←hfs0,List.length_map] at this;exact this
 have hlm:(r0::ls').length≤ag:=by rw[h4.len];unfold ag;omega
 have ham:afs.length≤ag:=by unfold ag;omega
 suffices h:W (aw (Gam (n+1) 442) [.ref v,.bytes (ik e)] H) fun x H'=>∃(L:Hp) (p:Nat) (xs:List Cd),x= .ref p∧H'=H++L∧(H++L)[p]? =some (.list (xs.map cdV))∧xs.map (·.2.2)=dA (fs0::V') e∧∀x∈xs,IsF H x.2.1 x.2.2 by
  revert h
  cases aw (Gam (n+1) 442) [.ref v,.bytes (ik e)] H with
  |ok x H'=>
   rintro⟨L,p,xs,rfl,rfl,h⟩
   exact⟨L,p,xs,rfl,h⟩
  |exc H'=>exact fun h=>h.elim
  |fail=>exact fun h=>h.elim
 show W (aj TT (Gam n) bX b8 [.ref v,.bytes (ik e)] H) _
 wrow_hasAny b8 bX
 have i0:ck (some (.list ((r0::ls').map SV.ref))) 0=some (.ref r0):=aH (j:=0) rfl hlm
 wide_line with[hu _ _]
 refine⟨by decide,?_⟩
 wide_line with[ab h1 _,ab h3 _,i0,ab h6 _,bh ham,uV (show afs.length≤1000 by omega)]
 refine jc (fun is l H'=>∃(m:Nat) (xs:List Cd),is=dy ((m:Int) - 1) (-1) m∧m≤afs.length∧l 101=some (.ref r0)∧l 95=some (.ref H.length)∧l 20=some (.bytes (usr e.u))∧l 29=some (.ref v)∧l 65=some (.bytes (ik e))∧
  H'=H++[.list (xs.map cdV)]∧xs.length≤afs.length - m∧xs.map (·.2.2)=((afs.drop m).map (·.2)).reverse.filter (inr e.u)∧∀x∈xs,IsF H x.2.1 x.2.2) ?_ ?_ _ _ _ ⟨afs.length,[],rfl,Nat.le_refl _,rfl,rfl,rfl,rfl,rfl,rfl,Nat.zero_le _,by simp,fun _ h=>(by simp at h)⟩
 ·rintro k r l H' ⟨m,xs,e1,hm,l1,l2,l3,l4,l5,rfl,hx1,hx2,hx3⟩
  cases m with
  |zero=>cases e1
  |succ m=>
   rw[xC] at e1
   cases e1
   have hx:=List.getElem?_eq_getElem (show m<afs.length by omega)
   have hdm:afs.drop m=afs[m]::afs.drop (m+1):=List.drop_eq_getElem_cons (by omega)
   generalize afs[m]=x at hx hdm
   have hF:(H++[.list (xs.map cdV)])[x.1]? =some (aT x.2):=ab (h7 x (List.mem_of_getElem? hx)) _
   have hid:ck (some (.list (afs.map fun x=>SV.ref x.1))) (m:Int)=some (.ref x.1):=aG (by rw[List.getElem?_map,hx];rfl) (by rw[List.length_map];exact ham)
   wide_line with[l1,l2,l3,ab h6 _,hid,hF,hu _ _,jQ,aC]
   have hdr:((afs.drop m).map (·.2)).reverse.filter (inr e.u)=((afs.drop (m+1)).map (·.2)).reverse.filter (inr e.u)++(if inr e.u x.2 then[x.2] else[]):=by
    rw[hdm,List.map_cons,List.reverse_cons,List.filter_append,List.filter_cons,List.filter_nil]
   by_cases c1:e.u<x.2.lo.u
   ·have hi:inr e.u x.2=false:=by simp[inr,Fin.not_le.mpr c1]
    rw[hi,if_neg (by simp),List.append_nil] at hdr
    simp only[c1,decide_true,Bool.not_true,Bool.false_eq_true,if_false]
    exact⟨m,xs,rfl,by omega,by walk_at "z",by walk_at "z",by walk_at "z",l4,l5,by walk_at "z",by omega,by rw[hdr];exact hx2,hx3⟩
   ·simp only[c1,decide_false,Bool.not_false,if_true]
    by_cases c2:x.2.hi.u<e.u
    ·have hi:inr e.u x.2=false:=by simp[inr,Fin.not_le.mpr c2]
     rw[hi,if_neg (by simp),List.append_nil] at hdr
     simp only[c2,decide_true,Bool.not_true,Bool.false_eq_true,if_false]
     exact⟨m,xs,rfl,by omega,by walk_at "z",by walk_at "z",by walk_at "z",l4,l5,by walk_at "z",by omega,by rw[hdr];exact hx2,hx3⟩
    ·have hi:inr e.u x.2=true:=by simp[inr,Fin.not_lt.mp c1,Fin.not_lt.mp c2]
     rw[hi,if_pos rfl] at hdr
     simp only[c2,decide_false,Bool.not_false,if_true]
     wide_line with[cJ (vs:=xs.map cdV) (by rw[List.length_map];unfold ag;omega),oe]
     refine⟨⟨by rfl,show 2≤ag by decide⟩,trivial,m,xs++[(0,x.1,x.2)],rfl,by omega,by walk_at "z",by walk_at "z",by walk_at "z",l4,l5,?_,?_,?_,?_⟩
     ·rw[List.map_append];rfl
     ·rw[List.length_append,List.length_singleton];omega
     ·rw[hdr,List.map_append,hx2];rfl
     ·intro y hy
      rcases List.mem_append.mp hy with hy|hy
      ·exact hx3 y hy
      ·have:y=(0,x.1,x.2):=by simpa using hy
       subst this
       exact h7 x (List.mem_of_getElem? hx)
 ·rintro l H' ⟨m,xs,e1,hm,l1,l2,l3,l4,l5,rfl,hx1,hx2,hx3⟩
  cases m with
  |succ m=>cases e1
  |zero=>
   rw[List.drop_zero,hfs0] at hx2
   have hcnt:(((fs0::V').length:Nat):Int)=(((fs0::V').length:Nat):Int):=rfl
   wide_line with[l1,l2,l3,l4,l5,ab h1 _]
   rw[show(SV.int 1)=SV.int ((1:Nat):Int) from rfl,lX (by decide) (by omega)]
   wide_line with[]
   refine jc (fun is l H'=>∃(j:Nat) (xs:List Cd),is=dy (j:Int) 1 ((fs0::V').length - j)∧1≤j∧j≤(fs0::V').length∧l 95=some (.ref H.length)∧l 20=some (.bytes (usr e.u))∧l 29=some (.ref v)∧l 65=some (.bytes (ik e))∧
    H'=H++[.list (xs.map cdV)]∧xs.length≤afs.length+j∧xs.map (·.2.2)=fs0.reverse.filter (inr e.u)++(V'.take (j - 1)).flatMap (fun fs=>cZ fs e)∧∀x∈xs,IsF H x.2.1 x.2.2) ?_ ?_ _ _ _ ⟨1,xs,rfl,Nat.le_refl _,by simp,l2,l3,l4,l5,rfl,by omega,by rw[hx2];simp,hx3⟩
   ·rintro k r l H' ⟨j,xs,e1,hj1,hj2,l1,l2,l3,l4,rfl,hx1,hx2,hx3⟩
    obtain⟨w,hw⟩:∃w,(fs0::V').length - j=w+1:=by
     cases hz:(fs0::V').length - j with
     |zero=>rw[hz] at e1;cases e1
     |succ w=>exact⟨w,rfl⟩
    rw[hw,dy] at e1
    cases e1
    have hw':(fs0::V').length - (j+1)=w:=by omega
    have hj1':((j+1:Nat):Int)=(j:Int)+1:=by omega
    have hjl:j - 1<V'.length:=by simp only[List.length_cons] at hw;omega
    have hVj:=List.getElem?_eq_getElem hjl
    generalize V'[j - 1]=fs at hVj
    have hVj':(fs0::V')[j]? =some fs:=by
     obtain⟨j',rfl⟩:∃j',j=j'+1:=⟨j - 1,by omega⟩
     simpa using hVj
    obtain⟨rj,hlj,hfj⟩:=A2.get' h4 hVj'
    have hfj':=hfj.app [.list (xs.map cdV)]
    obtain⟨bfs,g1,g2,g3⟩:=hfj.pairs
    have hmem:fs∈(fs0::V').drop 1:=by simpa using List.mem_of_getElem? hVj
    have hfl:fs.length≤100:=hlen fs (List.mem_of_mem_drop hmem)
    have hbl:bfs.length=fs.length:=by rw[←g2,List.length_map]
    have hbm:bfs.length≤ag:=by unfold ag;omega
    have hidx:iC fs e≤fs.length:=qN fs
    have htk:(V'.take j).flatMap (fun fs=>cZ fs e)=(V'.take (j - 1)).flatMap (fun fs=>cZ fs e)++cZ fs e:=by
     obtain⟨j',rfl⟩:∃j',j=j'+1:=⟨j - 1,by omega⟩
     rw[List.take_succ,show V'[j']? =some fs from hVj];simp
    have hid:ck (some (.list ((r0::ls').map SV.ref))) (j:Int)=some (.ref rj):=aH hlj hlm
    wide_line with[l1,l2,l3,l4,ab h1 _,ab h3 _,hid,hfd _ _ _ _ _ hfj' hfl (hO.app _) (hmono fs hmem),ab g1 _,bh hbm]
    by_cases c1:(iC fs e:Int)<(bfs.length:Int)
    ·rw[if_pos c1]
     have hbx:=List.getElem?_eq_getElem (show iC fs e<bfs.length by omega)
     generalize bfs[iC fs e]=x at hbx
     have hfx:fs[iC fs e]? =some x.2:=by rw[←g2,List.getElem?_map,g2,hbx];rfl
     have hid2:ck (some (.list (bfs.map fun x=>SV.ref x.1))) ((iC fs e:Nat):Int)=some (.ref x.1):=aG (by rw[List.getElem?_map,hbx];rfl) (by rw[List.length_map];exact hbm)
     have hF:(H++[.list (xs.map cdV)])[x.1]? =some (aT x.2):=ab (g3 x (List.mem_of_getElem? hbx)) _
     wide_line with[hid2,hF,hu _ _,jQ]
     by_cases c2:e.u<x.2.lo.u
     ·simp only[c2,decide_true,Bool.not_true,Bool.false_eq_true,if_false]
      have hc:cZ fs e=[]:=by unfold cZ;rw[hfx];simp[Fin.not_le.mpr c2]
      rw[hc,List.append_nil] at htk
      exact⟨j+1,xs,by rw[hw',hj1'],by omega,by omega,by walk_at "z",by walk_at "z",by walk_at "z",by walk_at "z",by walk_at "z",by omega,by rw[hx2,←htk];rfl,hx3⟩
     ·simp only[c2,decide_false,Bool.not_false,if_true]
      have hc:cZ fs e=[x.2]:=by unfold cZ;rw[hfx];simp[Fin.not_lt.mp c2]
      rw[hc] at htk
      have hxl:xs.length<1000:=by omega
      wide_line with[ab g1 _,hid2,aC,cJ (vs:=xs.map cdV) (by rw[List.length_map];unfold ag;omega),oe]
      refine⟨⟨by rfl,show 2≤ag by decide⟩,trivial,j+1,xs++[(j,x.1,x.2)],by rw[hw',hj1'],by omega,by omega,by walk_at "z",by walk_at "z",by walk_at "z",by walk_at "z",?_,?_,?_,?_⟩
      ·rw[List.map_append];rfl
      ·rw[List.length_append,List.length_singleton];omega
      ·rw[List.map_append,hx2,List.append_assoc]
       show _++((V'.take (j - 1)).flatMap (fun fs=>cZ fs e)++[x.2])=_++(V'.take j).flatMap (fun fs=>cZ fs e)
       rw[htk]
      ·intro y hy
       rcases List.mem_append.mp hy with hy|hy
       ·exact hx3 y hy
       ·have:y=(j,x.1,x.2):=by simpa using hy
        subst this
        exact g3 x (List.mem_of_getElem? hbx)
    ·rw[if_neg c1]
     have hc:cZ fs e=[]:=by unfold cZ;rw[List.getElem?_eq_none (by omega)]
     rw[hc,List.append_nil] at htk
     exact⟨j+1,xs,by rw[hw',hj1'],by omega,by omega,by walk_at "z",by walk_at "z",by walk_at "z",by walk_at "z",by walk_at "z",by omega,by rw[hx2,←htk];rfl,hx3⟩
   ·rintro l H' ⟨j,xs,e1,hj1,hj2,l1,l2,l3,l4,rfl,hx1,hx2,hx3⟩
    have hj:j=(fs0::V').length:=by
     cases hz:(fs0::V').length - j with
     |zero=>omega
     |succ w=>rw[hz] at e1;cases e1
    wide_line with[l1]
    refine⟨_,_,xs,rfl,rfl,aC _ _,?_,hx3⟩
    rw[hx2,hj]
    simp[dA]
 |[],[],_,hne,_,_,_,_,_=>exact absurd rfl hne
 |_::_,[],h,_,_,_,_,_,_=>exact h.elim
 |[],_::_,h,_,_,_,_,_,_=>exact h.elim
def vb (s:Fin 16):List UInt8:=[UInt8.ofNat (64+s.val)]
def cv:Option En→SV
 |none=> .none
 |some e=> .tup [.bytes (ik e),.bytes (vb e.s)]
def fA (u:Fin 4) (cm:Nat→Option En):List Fi→Option En
 |[]=>none
 |f::r=>match cm f.num with
  |some e=>if e.u=u then some e else fA u cm r
  |none=>fA u cm r
def gv:Option En→SV
 |none=> .tup [.bool false,.int 0,.bytes []]
 |some e=>if e.k=0 then .tup [.bool true,.int 0,.bytes []] else .tup [.bool true,.int 1,.bytes (vb e.s)]
theorem jD {u:Fin 4} {cm:Nat→Option En} {f:Fi} {r:List Fi} (h:cm f.num=none):fA u cm (f::r)=fA u cm r:=by rw[fA,h]
theorem iM {u:Fin 4} {cm:Nat→Option En} {f:Fi} {e:En} {r:List Fi} (h:cm f.num=some e) (hu:e.u≠u):fA u cm (f::r)=fA u cm r:=by rw[fA,h];simp[hu]
theorem jF {u:Fin 4} {cm:Nat→Option En} {f:Fi} {e:En} {r:List Fi} (h:cm f.num=some e) (hu:e.u=u):fA u cm (f::r)=some e:=by rw[fA,h];simp[hu]
def th (Γ:FT):Prop:=∀(v:Nat) (V:List (List Fi)) (sc sl:SV) (u:Fin 4) (s:Fin 16) (ca:Nat) (es:List (Int×SV)) (cm:Nat→Option En) (H:Hp),aI H v V sc sl→V.length≤100→V≠[]→(∀fs∈V,fs.length≤100)→(∀fs∈V.drop 1,pX (fun f=>ltE f.hi ⟨u,s,1⟩) fs)→
 H[ca]? =some (.dict es)→(∀f∈dA V ⟨u,s,1⟩,getD f.num es=some (cv (cm f.num)))→∃L,aw (Γ 449) [.ref v,.ref ca,.bytes (usr u),.int s.val] H= .ok (gv (fA u cm (dA V ⟨u,s,1⟩))) (H++L)
theorem wg (a b:Fin 4):decide (usr a=usr b)=decide (a=b):=by
 by_cases h:a=b
 ·subst h;simp
 ·have:usr a≠usr b:=fun e=>h (yg _ _ e)
  simp[h,this]
theorem sC (es:List (Int×SV)) (k:Int) (d:SV):Ac (some (.dict es)) k d=some ((getD k es).getD d):=nr rfl
theorem f_get (n:Nat) (hm:qc (Gam n)) (hcd:qa (Gam n)) (hsp:kw (Gam n)):th (Gam (n+1)):=by
 intro v V sc sl u s ca es cm H hv hV hne hlen hmono hca hcm
 obtain⟨L1,e1⟩:=hm u s H
 obtain⟨L2,p,xs,e2,hp,hxs,hxF⟩:=hcd v V sc sl ⟨u,s,1⟩ (H++L1) (hv.app L1) hV hne hlen hmono
 refine⟨L1++L2,cr ?_⟩
 show W (aj TT (Gam n) d0 ee [.ref v,.ref ca,.bytes (usr u),.int s.val] H) _
 wrow_hasAny ee d0
 obtain⟨ord,fl,ls,h1,hO,h3,h4⟩:=hv
 wide_line with[e1]
 refine aE ?_
 wide_line with[ab h1 L1,e2]
 refine⟨p,_,rfl,hp,cw (fun i l H'=>H'=H++L1++L2∧l 102=some (.ref ca)∧l 65=some (.bytes (ik ⟨u,s,1⟩))∧l 20=some (.bytes (usr u))∧fA u cm (dA V ⟨u,s,1⟩)=fA u cm ((xs.drop i).map (·.2.2))) (fun i l H' h=>h.1▸hp) ?_ ?_ ⟨rfl,rfl,rfl,rfl,by rw[List.drop_zero,hxs]⟩⟩
 ·rintro i x l H' ⟨rfl,l1,l2,l3,hg⟩ hx
  rw[List.getElem?_map] at hx
  cases hxi:xs[i]? with
  |none=>rw[hxi] at hx;cases hx
  |some y=>
   rw[hxi] at hx;cases hx
   have hil:=(List.getElem?_eq_some_iff.mp hxi).1
   have hdr:xs.drop i=y::xs.drop (i+1):=by rw[List.drop_eq_getElem_cons hil];congr 1;exact(List.getElem?_eq_some_iff.mp hxi).2
   rw[hdr,List.map_cons] at hg
   have hmem:y∈xs:=List.mem_of_getElem? hxi
   have hF:(H++L1++L2)[y.2.1]? =some (aT y.2.2):=ab (hxF y hmem) L2
   have hca':(H++L1++L2)[ca]? =some (.dict es):=ab (ab hca L1) L2
   have hgd:=hcm y.2.2 (by rw[←hxs];exact List.mem_map.mpr ⟨y,hmem,rfl⟩)
   rw[cdV,jq]
   wide_line with[l1,l2,l3,hca',hF,sC,hgd,Option.getD_some]
   cases hcmy:cm y.2.2.num with
   |none=>
    rw[jD hcmy] at hg
    wide_line with[cv]
    exact⟨by walk_at "z",by walk_at "z",by walk_at "z",by walk_at "z",hg⟩
   |some e=>
    wide_line with[cv,hsp _ _,wg,l1,l2,l3]
    refine⟨by decide,?_⟩
    by_cases hu:e.u=u
    ·rw[jF hcmy hu] at hg
     rw[if_pos (by simpa using hu)]
     by_cases hk:e.k=0
     ·rw[if_pos (by rw[hk];rfl)]
      refine⟨⟨by rfl,show 3≤ag by decide⟩,?_,by rw[List.append_assoc]⟩
      rw[hg,gv,if_pos hk]
     ·rw[if_neg (by have:=e.k.2;have h0:e.k.val≠0:=fun z=>hk (Fin.ext z);omega)]
      refine⟨by decide,⟨by rfl,show 3≤ag by decide⟩,?_,by rw[List.append_assoc]⟩
      rw[hg,gv,if_neg hk]
    ·rw[iM hcmy hu] at hg
     rw[if_neg (by simpa using hu)]
     exact⟨by walk_at "z",by walk_at "z",by walk_at "z",by walk_at "z",hg⟩
 ·rintro l H' ⟨rfl,l1,l2,l3,hg⟩
  rw[List.length_map,List.drop_length] at hg
  wide_line with[]
  refine⟨⟨by rfl,show 3≤ag by decide⟩,?_,by rw[List.append_assoc]⟩
  rw[hg];rfl
theorem en_0 (e:En) (H:Hp) (Q):W (j4 (enV e) (.int 0) H) Q=Q (.int e.u.val) H:=by
 rw[enV,ji,n7,eO];simp
theorem en_1 (e:En) (H:Hp) (Q):W (j4 (enV e) (.int 1) H) Q=Q (.int (-(e.s.val:Int))) H:=by
 rw[enV,ji,n8,eO];simp
theorem en_2 (e:En) (H:Hp) (Q):W (j4 (enV e) (.int 2) H) Q=Q (.int e.k.val) H:=by
 rw[enV,ji,n9,eO];simp
abbrev aO:=List (Nat×List En)
def TE (H:Hp) (e:Int×SV) (t:Nat×List En):Prop:=e.1=(t.1:Int)∧∃a,e.2= .ref a∧H[a]? =some (.list (t.2.map enV))∧14<a
def cO (H:Hp) (tb:Nat) (T:aO):Prop:=∃es,H[tb]? =some (.dict es)∧A2 (TE H) es T
def geE (u:Fin 4) (s:Fin 16) (e:En):Bool:=decide (u<e.u) || (decide (e.u=u) && decide (e.s≤s))
theorem ut (u:Fin 4) (s:Fin 16):∀rows:List En,geL (u.val:Int) (s.val:Int) (rows.map enV)=some ((rows.filter (geE u s)).map enV)
 |[]=>rfl
 |e::r=>by
  rw[List.map_cons,enV,geL,ut u s r,List.filter_cons]
  have:(decide ((u.val:Int)<e.u.val) || (decide ((e.u.val:Int)=u.val) && decide (0 - (s.val:Int)≤-(e.s.val:Int))))=geE u s e:=by
   unfold geE
   have h1:((u.val:Int)<e.u.val)↔u<e.u:=by rw[Fin.lt_def];omega
   have h2:((e.u.val:Int)=u.val)↔e.u=u:=by rw[Fin.ext_iff];omega
   have h3:(0 - (s.val:Int)≤-(e.s.val:Int))↔e.s≤s:=by rw[Fin.le_def];omega
   simp only[h1,h2,h3]
  rw[this]
  cases geE u s e<;>rfl
def geV (i j:Int) (v:SV) (H:Hp):R SV:=match v with
 | .ref r=>(match H[r]? with
   |some (.list its)=>if its.length≤ag then(match geL i j its with|some vs=>bp vs H|none=> .fail) else .fail
   |_=> .fail)
 |_=> .fail
theorem Ax {T:Tb} {Γ:FT} {l:Loc} {H:Hp} {y x u s:Nat} {src:ME} {i j:Int} (hu:l u=some (.int i)) (hs:l s=some (.int j)) (Q:Fl×Loc→Hp→Prop):
 W (exS T Γ (.asgG y x u s src) l H) Q=W (evE T Γ src l H) fun v H₁=>W (geV i j v H₁) fun w H₂=>Q (.next,upd l y w) H₂:=by
 rw[exS,hu,hs]
 simp only[aq]
 congr 1;funext v H₁
 unfold geV
 cases v with
 |ref r=>
  simp only
  cases H₁[r]? with
  |none=>rfl
  |some o=>
   cases o with
   |list its=>
    simp only
    by_cases c:its.length≤ag
    ·rw[if_pos c,if_pos c]
     cases geL i j its with
     |none=>rfl
     |some vs=>simp only[aq,gV]
    ·rw[if_neg c,if_neg c];rfl
   |_=>rfl
 |_=>rfl
theorem uu {H:Hp} {r:Nat} {u:Fin 4} {s:Fin 16} {rows:List En} (h:H[r]? =some (.list (rows.map enV))) (hl:rows.length≤ag) (Q:SV→Hp→Prop):W (geV (u.val:Int) (s.val:Int) (.ref r) H) Q=(((rows.filter (geE u s)).map enV).length≤ag∧Q (.ref H.length) (H++[.list ((rows.filter (geE u s)).map enV)])):=by
 unfold geV
 simp only[h,List.length_map,if_pos hl,ut,dL]
theorem hY {k:Int} {v:SV}:∀{es:List (Int×SV)},(∀e∈es,e.1≠k)→hW k v es=es++[(k,v)]
 |[],_=>rfl
 |(g,w)::r,h=>by
  rw[hW,if_neg (h _ (List.mem_cons_self ..)),hY fun e he=>h e (List.mem_cons_of_mem _ he)];rfl
theorem mS {k:Int} {v w:SV}:∀{es:List (Int×SV)},(∀e∈es,e.1≠k)→hW k v (es++[(k,w)])=es++[(k,v)]
 |[],_=>by simp[hW]
 |(g,w')::r,h=>by
  rw[List.cons_append,hW,if_neg (h _ (List.mem_cons_self ..)),mS fun e he=>h e (List.mem_cons_of_mem _ he)];rfl
theorem kC:∀{es:List (Int×SV)} {i:Nat} {k:Int} {v:SV},(es.map (·.1)).Nodup→es[i]? =some (k,v)→getD k es=some v
 |(g,w)::r,0,k,v,_,h=>by cases h;simp[getD]
 |(g,w)::r,i+1,k,v,hn,h=>by
  rw[List.map_cons,List.nodup_cons] at hn
  have h':r[i]? =some (k,v):=by simpa using h
  have:g≠k:=fun e=>hn.1 (e▸List.mem_map.mpr ⟨_,List.mem_of_getElem? h',rfl⟩)
  rw[getD,if_neg this]
  exact kC hn.2 h'
theorem ol {H:Hp}:∀{es:List (Int×SV)} {T:aO},A2 (TE H) es T→es.map (·.1)=T.map fun t=>(t.1:Int)
 |[],[],_=>rfl
 |e::es,t::T,h=>by rw[List.map_cons,List.map_cons,h.1.1,ol h.2]
 |[],_::_,h=>h.elim
 |_::_,[],h=>h.elim
theorem f4:∀{T:aO},(T.map (·.1)).Nodup→(T.map fun t=>(t.1:Int)).Nodup
 |[],_=>List.nodup_nil
 |t::T,h=>by
  rw[List.map_cons,List.nodup_cons] at h⊢
  refine⟨fun hm=>h.1 ?_,f4 h.2⟩
  obtain⟨x,hx,e⟩:=List.mem_map.mp hm
  exact List.mem_map.mpr ⟨x,hx,by omega⟩
theorem oH:∀s:Fin 16,aX [64 - -(s.val:Int)]=some (vb s):=by decide+kernel
def hdE (u:Fin 4) (s:Fin 16) (rows:List En):Option En:=(rows.filter (geE u s)).head?
def cmT (T:aO) (u:Fin 4) (s:Fin 16) (n:Nat):Option En:=(T.lookup n).bind (hdE u s)
def caE (T:aO) (u:Fin 4) (s:Fin 16):List (Int×SV):=T.map fun t=>((t.1:Int),cv (hdE u s t.2))
def eW:Option En→SV
 |some e=>if e.k=1 then .bytes (vb e.s) else .none
 |none=> .none
def kX (Γ:FT):Prop:=∀(v tb:Nat) (V:List (List Fi)) (sc sl:SV) (T:aO) (u:Fin 4) (s:Fin 16) (H:Hp),aI H v V sc sl→V.length≤100→V≠[]→(∀fs∈V,fs.length≤100)→(∀fs∈V.drop 1,pX (fun f=>ltE f.hi ⟨u,s,1⟩) fs)→
 cO H tb T→(T.map (·.1)).Nodup→T.length≤100→(∀t∈T,t.2.length≤100)→(∀f∈dA V ⟨u,s,1⟩,f.num∈T.map (·.1))→
 ∃L,aw (Γ 741) [.ref v,.ref tb,.int u.val,.int s.val] H= .ok (eW (fA u (cmT T u s) (dA V ⟨u,s,1⟩))) (H++L)
theorem W_noX {α:Type} {r:R α} {Q:α→Hp→Prop} (h:W r Q):W (noX r) Q:=by
 cases r with
 |ok a H=>exact h
 |exc H=>exact h.elim
 |fail=>exact h.elim
theorem W_ex {α:Type} {r:R α} {a:α} {H:Hp} (h:W r fun b H'=>b=a∧∃L,H'=H++L):∃L,r= .ok a (H++L):=by
 cases r with
 |ok b H'=>obtain⟨rfl,L,rfl⟩:=h;exact⟨L,rfl⟩
 |exc H=>exact h.elim
 |fail=>exact h.elim
theorem uz (es:List (Int×SV)) (i:Nat) (k:Int):ck (some (.rod es i)) k=getD k es:=nr rfl
theorem eU {es:List (Int×SV)} {k:Int} {w:SV} (h:es.length≤ag):fT (some (.dict es)) k w=some (.dict (hW k w es)):=by simp only[fT,if_pos h]
theorem mH {T:aO} {i:Nat} {t:Nat×List En} (hn:(T.map (·.1)).Nodup) (h:T[i]? =some t):T.lookup t.1=some t.2:=by
 induction T generalizing i with
 |nil=>simp at h
 |cons x r ih=>
  rw[List.map_cons,List.nodup_cons] at hn
  cases i with
  |zero=>cases h;rw[List.lookup_cons,beq_self_eq_true]
  |succ i=>
   have h':r[i]? =some t:=by simpa using h
   have:(t.1 == x.1)=false:=by
    simp only[beq_eq_false_iff_ne,ne_eq]
    exact fun e=>hn.1 (e▸List.mem_map.mpr ⟨t,List.mem_of_getElem? h',rfl⟩)
   rw[List.lookup_cons,this]
   exact ih hn.2 h'
theorem wy {T:aO} {u:Fin 4} {s:Fin 16} {k:Nat} (hn:(T.map (·.1)).Nodup) (h:k∈T.map (·.1)):getD k (caE T u s)=some (cv (cmT T u s k)):=by
 obtain⟨t,ht,rfl⟩:=List.mem_map.mp h
 obtain⟨i,hi⟩:=List.getElem?_of_mem ht
 have:(caE T u s)[i]? =some ((t.1:Int),cv (hdE u s t.2)):=by rw[caE,List.getElem?_map,hi];rfl
 rw[kC (by rw[caE,List.map_map];exact f4 hn) this,cmT,mH hn hi];rfl
theorem zM (n:Nat) (hus:kz (Gam n)) (hik:gU (Gam n)) (hg:th (Gam n)):kX (Gam (n+1)):=by
 intro v tb V sc sl T u s H hv hV hne hlen hmono hT hnd hTl hrl hcd
 obtain⟨es,ht,hte⟩:=hT
 have htb:=ch ht
 have hek:=ol hte
 have hnd2:(es.map (·.1)).Nodup:=by rw[hek];exact f4 hnd
 have hel:es.length=T.length:=hte.len
 refine W_ex ?_
 show W (noX (aj TT (Gam n) gh gz [.ref v,.ref tb,.int u.val,.int s.val] H)) _
 refine W_noX ?_
 wrow_hasAny gz gh
 wide_line with[]
 refine pI ?_
 wide_line with[]
 refine⟨tb,es,rfl,ab ht _,?_⟩
 have hs1:∀(L:Hp) (o:SO),(H++L).set tb o=H.set tb o++L:=fun L o=>by rw[List.set_append,if_pos htb]
 rw[hs1]
 refine ue (fun i l H'=>∃L ca,H'=H.set tb (.rod es i)++L∧l 165=some (.ref tb)∧l 119=some (.ref v)∧l 176=some (.int u.val)∧l 177=some (.int s.val)∧l 102=some (.ref ca)∧H.length≤ca∧(H.set tb (.rod es i)++L)[ca]? =some (.dict (caE (T.take i) u s)))
  ?_ ?_ ?_ ⟨[.dict []],H.length,rfl,rfl,rfl,rfl,rfl,rfl,Nat.le_refl _,by have:=aC (H.set tb (.rod es 0)) (.dict []);rw[List.length_set] at this;exact this⟩
 ·rintro i l H' ⟨L,ca,rfl,_⟩
  exact ab (a5 _ ht) L
 ·rintro i p l H' ⟨L,ca,rfl,l1,l2,l3,l4,l5,hca,hcaE⟩ hp
  obtain⟨t,hti,hp1,a,hp2,ha,_⟩:=hte.get hp
  have hss:(H.set tb (.rod es i)++L).set tb (.rod es (i+1))=H.set tb (.rod es (i+1))++L:=by
   rw[List.set_append,if_pos (by rw[List.length_set];exact htb),List.set_set]
  rw[hss]
  have hne_ca:ca≠tb:=by omega
  have hat:a≠tb:=fun e=>by subst e;rw[ht] at ha;cases ha
  have hcaK:(H.set tb (.rod es (i+1))++L)[ca]? =some (.dict (caE (T.take i) u s)):=by
   rw[←hss];exact ai hcaE (Ne.symm hne_ca) _
  generalize hK:H.set tb (.rod es (i+1))=K at hcaK
  have hKl:K.length=H.length:=by rw[←hK,List.length_set]
  have hKt:K[tb]? =some (.rod es (i+1)):=by rw[←hK];exact a5 _ ht
  have hKa:K[a]? =some (.list (t.2.map enV)):=by rw[←hK];exact ai ha (Ne.symm hat) _
  have hgt:getD p.1 es=some (.ref a):=kC hnd2 (by rw[hp,←hp2])
  have hti':=(List.getElem?_eq_some_iff.mp hti).1
  have hmem:=List.mem_of_getElem? hti
  have htake:T.take (i+1)=T.take i++[t]:=by rw[List.take_succ,hti];rfl
  have hce:∀e∈caE (T.take i) u s,e.1≠(t.1:Int):=fun e he=>by
   obtain⟨x,hx,rfl⟩:=List.mem_map.mp he
   intro e2
   have e3:x.1=t.1:=Int.ofNat.inj e2
   have hnd3:((T.take (i+1)).map (·.1)).Nodup:=List.Nodup.sublist ((List.take_sublist _ _).map _) hnd
   rw[htake,List.map_append,List.nodup_append] at hnd3
   exact hnd3.2.2 _ (List.mem_map.mpr ⟨x,hx,rfl⟩) _ (List.mem_map.mpr ⟨t,List.mem_singleton.mpr rfl,rfl⟩) e3
  have hcl:(caE (T.take i) u s).length≤100:=by rw[caE,List.length_map,List.length_take];omega
  rw[←hKl] at hca
  obtain⟨L1,hL1⟩:∃L1,L.set (ca - K.length) (.dict (caE (T.take i) u s++[((t.1:Int),.none)]))=L1:=⟨_,rfl⟩
  have hca1:(K++L1)[ca]? =some (.dict (caE (T.take i) u s++[((t.1:Int),.none)])):=by
   rw[←hL1,←dw hca];exact a5 _ hcaK
  have hsG:∀(l':Loc) (Q:Fl×Loc→Hp→Prop),l' 176=some (.int u.val)→l' 177=some (.int s.val)→_:=fun l' Q h1 h2=> @Ax TT (Gam n) l' (K++L1) 179 156 176 177 (.idx (.loc 165) (.loc 73)) _ _ h1 h2 Q
  wide_line with[l1,l2,l3,l4,l5,hp1,hcaK,eU (show(caE (T.take i) u s).length≤ag by unfold ag;omega),hY hce,dw hca,hL1]
  rw[hsG _ _ (by wide_line with[l3]) (by wide_line with[l4])]
  rw[hp1] at hgt
  have hrows:=hrl t hmem
  have hfl:(t.2.filter (geE u s)).length≤100:=Nat.le_trans (List.length_filter_le _ _) hrows
  have hce2:caE (T.take (i+1)) u s=caE (T.take i) u s++[((t.1:Int),cv (hdE u s t.2))]:=by rw[htake,caE,List.map_append];rfl
  wide_line with[l1,l2,l3,l4,l5,ab hKt L1,uz,hgt,uu (u:=u) (s:=s) (ab hKa L1) (show t.2.length≤ag by unfold ag;omega),aC,bh (f:=enV) (l:=t.2.filter (geE u s)) (show _≤ag by unfold ag;omega)]
  refine⟨by rw[List.length_map];unfold ag;omega,?_⟩
  cases hf:t.2.filter (geE u s) with
  |nil=>
   rw[if_neg (by simp)]
   have hh:hdE u s t.2=none:=by rw[hdE,hf];rfl
   refine⟨.inl trivial,L1++[.list []],ca,by rw[List.append_assoc];rfl,by walk_at "z",by walk_at "z",by walk_at "z",by walk_at "z",by walk_at "z",by omega,?_⟩
   rw[hce2,hh,←List.append_assoc]
   exact ab hca1 _
  |cons e r=>
   rw[if_pos (by simp only[List.length_cons];omega)]
   have hh:hdE u s t.2=some e:=by rw[hdE,hf];rfl
   obtain⟨L2,e2⟩:=hik e (K++L1++[.list ((e::r).map enV)])
   have hfe:(e::r).length≤ag:=by rw[←hf];unfold ag;omega
   have i0:ck (some (.list ((e::r).map enV))) 0=some (enV e):=aG (j:=0) rfl (by rw[List.length_map];exact hfe)
   have hnew:(K++L1++[.list ((e::r).map enV)]++L2)[(K++L1).length]? =some (.list ((e::r).map enV)):=ab (aC _ _) L2
   have hb:sg (some (.list [.int (64 - -(e.s.val:Int))]))=some (vb e.s):=nG (its:=[_]) (is:=[_]) rfl (show 1≤ag by decide) (oH e.s)
   have hca2:=ab (ab (ab hca1 [.list ((e::r).map enV)]) L2) [.list [.int (64 - -(e.s.val:Int))]]
   wide_line with[l1,l2,l3,l4,l5,aC,i0,e2,hnew,en_1,hb,hca2,eU (show(caE (T.take i) u s++[((t.1:Int),SV.none)]).length≤ag by rw[List.length_append,List.length_singleton];unfold ag;omega),mS hce]
   refine⟨show 1≤ag by decide,⟨rfl,show 2≤ag by decide⟩,.inl trivial,(L1++[SO.list ((e::r).map enV)]++L2++[SO.list [.int (64 - -(e.s.val:Int))]]).set (ca - K.length) (.dict (caE (T.take i) u s++[((t.1:Int),cv (some e))])),ca,?_,by walk_at "z",by walk_at "z",by walk_at "z",by walk_at "z",by walk_at "z",by omega,?_⟩
   ·rw[←dw hca];simp only[List.append_assoc];rfl
   ·rw[hce2,hh,←dw hca]
    refine a5 _ (o:= .dict (caE (T.take i) u s++[((t.1:Int),.none)])) ?_
    simp only[List.append_assoc] at hca2⊢
    exact hca2
 ·rintro l H' ⟨L,ca,rfl,l1,l2,l3,l4,l5,hca,hcaE⟩
  have hback:(H.set tb (.rod es es.length)++L).set tb (.dict es)=H++L:=by
   rw[List.set_append,if_pos (by rw[List.length_set];exact htb),List.set_set]
   congr 1
   obtain⟨hl,he⟩:=List.getElem?_eq_some_iff.mp ht
   rw[←he];exact List.set_getElem_self hl
  have hcaH:(H++L)[ca]? =some (.dict (caE T u s)):=by
   rw[←hback]
   refine ai ?_ (by omega) _
   rw[hcaE,hel,List.take_length]
  rw[hback]
  have hv':=hv.app L
  have hv2:=hv'.app [.list [.bytes [],.bytes [97],.bytes [97,98],.bytes [98]]]
  obtain⟨v1,_,v3⟩:=oZ u 0 0
  obtain⟨L3,e3⟩:=hg v V sc sl u s ca _ (cmT T u s) _ hv2 hV hne hlen hmono (ab hcaH _) (fun f hf=>wy hnd (hcd f hf))
  obtain⟨ord,fl,ls,h1,hO,h3,h4⟩:=hv'
  have hid:ck (some (.list [.bytes [],.bytes [97],.bytes [97,98],.bytes [98]])) (u.val:Int)=some (.bytes (usr u)):=by
   simp only[ck];rw[if_pos v3,v1]
  wide_line with[l1,l2,l3,l4,l5,h1,hus _,aC,hid,e3]
  cases hgs:fA u (cmT T u s) (dA V ⟨u,s,1⟩) with
  |none=>
   rw[gv]
   wide_line with[]
   exact⟨rfl,_,by rw[List.append_assoc,List.append_assoc]⟩
  |some e=>
   by_cases hk:e.k=0
   ·rw[gv,if_pos hk]
    have:¬e.k=1:=by rw[hk];decide
    wide_line with[]
    exact⟨by rw[eW,if_neg this],_,by rw[List.append_assoc,List.append_assoc]⟩
   ·rw[gv,if_neg hk]
    have:e.k=1:=by
     have h2:=e.k.2
     have h0:e.k.val≠0:=fun z=>hk (Fin.ext z)
     exact Fin.ext (by show e.k.val=1;omega)
    wide_line with[]
    exact⟨by rw[eW,if_pos this],_,by rw[List.append_assoc,List.append_assoc]⟩
theorem gt0 (H L:Hp):(H++L)[H.length]? =L[0]? :=by rw[List.getElem?_append_right (Nat.le_refl _),Nat.sub_self]
theorem gtk (H L:Hp) (k:Nat):(H++L)[H.length+k]? =L[k]? :=by rw[List.getElem?_append_right (by omega)];congr 1;omega
theorem st0 (H L:Hp) (o:SO):(H++L).set H.length o=H++L.set 0 o:=by rw[List.set_append,if_neg (by omega),Nat.sub_self]
theorem stk (H L:Hp) (k:Nat) (o:SO):(H++L).set (H.length+k) o=H++L.set k o:=by
 rw[List.set_append,if_neg (by omega)];congr 2;omega
theorem tt_plain (C:Addr):TT.plain C=lU C:=nr rfl
theorem tt_init (C:Addr):TT.init C=o0 C:=nr rfl
local macro_rules |`(tactic|wide_open with[$ts,*])=>`(tactic|(wide_line with[gk,gt0,gtk,st0,stk,List.append_assoc,List.cons_append,List.nil_append,List.length_append,List.length_cons,List.length_nil,Nat.reduceAdd,Nat.add_assoc,Nat.zero_add,Nat.reduceLeDiff,List.getElem?_cons_zero,List.getElem?_cons_succ,List.set_cons_zero,List.set_cons_succ,jd,ig,$ts,*]))
theorem dY {Γ:FT} {C f:Addr} (hp:lU C=false) (hi:o0 C=some f) {vs:List SV} {H H':Hp} (h:W (aw (Γ f) (.ref H.length::vs) (H++[.inst C []])) fun r H₁=>r= .none∧H₁=H'):fC TT Γ C vs H= .ok (.ref H.length) H':=by
 refine cr ?_
 rw[sM TT Γ H hp hi]
 exact h.mono fun r H₁ h=>⟨h.1,rfl,h.2⟩
theorem yL (Γ:FT) (H:Hp):fC TT Γ 218 [] H= .ok (.ref H.length) (H++[.inst 218 []]):=nr rfl
def iU (Γ:FT):Prop:=∀(f:Fi) (H:Hp),fC TT Γ 368 [.int f.num,.int f.sz,.bytes (ik f.lo),.bytes (ik f.hi)] H= .ok (.ref H.length) (H++[aT f])
theorem wM (n:Nat):iU (Gam (n+1)):=by
 intro f H
 refine dY (f:=358) rfl rfl ?_
 show W (aj TT (Gam n) c9 dg _ _) _
 wrow_hasAny dg c9
 wide_open with[]
 walk_at "q"
def kQ (Γ:FT):Prop:=∀(H:Hp),fC TT Γ 272 [] H= .ok (.ref H.length) (H++[.inst 272 [(33,.ref (H.length+1))],.inst 218 []])
theorem zG (n:Nat):kQ (Gam (n+1)):=by
 intro H
 refine dY (f:=234) rfl rfl ?_
 show W (aj TT (Gam n) bV bZ _ _) _
 wrow_hasAny bZ bV
 wide_open with[yL]
 walk_at "q"
def aY (cp dl ad:Nat):SO:= .inst 403 [(83,.none),(82,.none),(81,.none),(80,.none),(79,.ref cp),(78,.ref dl),(77,.ref ad),(76,.bool false)]
def fV (Γ:FT):Prop:=∀(H:Hp),fC TT Γ 403 [] H= .ok (.ref H.length) (H++[aY (H.length+1) (H.length+2) (H.length+3),.list [],.list [],.list []])
theorem wL (n:Nat):fV (Gam (n+1)):=by
 intro H
 refine dY (f:=386) rfl rfl ?_
 show W (aj TT (Gam n) cB cC _ _) _
 wrow_hasAny cC cB
 wide_open with[]
 simp[aY,ag]
theorem rg3:bH [.int ((3:Nat):Int)]=some [0,1,2]:=by decide
theorem rg4:bH [.int ((4:Nat):Int)]=some [0,1,2,3]:=by decide
def iG (a c:Nat):List SV:=(List.range c).map fun i=> .ref (a+i)
def bF (a c o:Nat):Hp:=b9 c o (a+1) (.tup [.int 0,.int 1]) (.int (-1)):: .list (iG (a+2) c)::List.replicate c (.list [])
def kR (Γ:FT):Prop:=∀(c o:Nat) (H:Hp),c=3∨c=4→fC TT Γ 494 [.int c,.ref o] H= .ok (.ref H.length) (H++bF H.length c o)
theorem fH (vs:List SV) (x:SV):iK (some (.list vs)) x=if vs.length<ag then some (.list (vs++[x])) else none:=nr rfl
theorem zH (n:Nat):kR (Gam (n+1)):=by
 intro c o H hc
 refine dY (f:=428) rfl rfl ?_
 show W (aj TT (Gam n) dD dI _ _) _
 wrow_hasAny dI dD
 have m4:ag=4000:=rfl
 rcases hc with rfl|rfl
 ·wide_open with[rg3,fH,m4,Nat.reduceLT]
  simp[bF,iG,b9,List.range,List.range.loop,List.replicate,e6]
 ·wide_open with[rg4,fH,m4,Nat.reduceLT]
  simp[bF,iG,b9,List.range,List.range.loop,List.replicate,e6]
def er (b dl ad:Nat) (dr:Bool):SO:= .inst 550 [(111,.ref b),(112,.bool dr),(78,.ref dl),(77,.ref ad)]
def jz (Γ:FT):Prop:=∀(c b o fl:Nat) (sc sl:SV) (H:Hp),c=3∨c=4→H[b]? =some (b9 c o fl sc sl)→∃da aa:List Nat,∃L,fC TT Γ 550 [.ref b] H= .ok (.ref H.length) (H++er b (H.length+1) (H.length+2) false:: .list (da.map SV.ref):: .list (aa.map SV.ref)::L)∧
 L.length=c+c∧(∀x∈L,x= .dict [])∧da.length=c∧aa.length=c∧(da++aa).Nodup∧∀x∈da++aa,H.length+3≤x∧x<H.length+3+(c+c)
theorem zE (n:Nat):jz (Gam (n+1)):=by
 intro c b o fl sc sl H hc hb
 have m4:ag=4000:=rfl
 have hb':∀L,(H++L)[b]? =some (b9 c o fl sc sl):=fun L=>ab hb L
 rcases hc with rfl|rfl
 ·refine⟨[H.length+3,H.length+5,H.length+7],[H.length+4,H.length+6,H.length+8],[.dict [],.dict [],.dict [],.dict [],.dict [],.dict []],dY (f:=512) rfl rfl ?_,rfl,by simp,rfl,rfl,by simp,by simp⟩
  show W (aj TT (Gam n) bi bj _ _) _
  wrow_hasAny bj bi
  wide_open with[rg3,fH,m4,Nat.reduceLT,hb']
  simp[er]
 ·refine⟨[H.length+3,H.length+5,H.length+7,H.length+9],[H.length+4,H.length+6,H.length+8,H.length+10],[.dict [],.dict [],.dict [],.dict [],.dict [],.dict [],.dict [],.dict []],dY (f:=512) rfl rfl ?_,rfl,by simp,rfl,rfl,by simp,by simp⟩
  show W (aj TT (Gam n) bi bj _ _) _
  wrow_hasAny bj bi
  wide_open with[rg4,fH,m4,Nat.reduceLT,hb']
  simp[er]
def uJ (o:Option SO) (y:Int):Option (List SV):=match o with
 |some (.list [v])=>if 0≤y∧y≤100 then some (List.replicate y.toNat v) else none
 |_=>none
theorem rM (H:Hp) (n:Nat) (y:Int) (Q):W (gH .Mult (.ref n) (.int y) H) Q=O (uJ H[n]? y) fun vs=>W (bp vs H) Q:=by
 show W (match H[n]? with|some (.list [v])=>_|_=>_) Q=_
 unfold uJ
 split
 ·by_cases c:0≤y∧y≤100
  ·rw[if_pos c,if_pos c];rfl
  ·rw[if_neg c,if_neg c];rfl
 ·rfl
theorem lJ {v:SV} {y:Nat} (h:y≤100):uJ (some (.list [v])) (y:Int)=some (List.replicate y v):=by
 simp only[uJ];rw[if_pos (by omega)];rfl
def tv (a b:Option SO):Option (List SV):=match a,b with
 |some (.list u),some (.list v)=>some (u++v)
 |_,_=>none
theorem nC (H:Hp) (x y:Nat) (Q):W (gH .Add (.ref x) (.ref y) H) Q=O (tv H[x]? H[y]?) fun vs=>W (bp vs H) Q:=by
 show W (match H[x]?,H[y]? with|some (.list u),some (.list v)=>_|_,_=>_) Q=_
 unfold tv
 split
 ·rfl
 ·rfl
theorem iJ (u v:List SV):tv (some (.list u)) (some (.list v))=some (u++v):=nr rfl
def aK (nl l0 bb lf mf ef gf:Nat):SO:= .inst 305 [(59,.int 1),(57,.int 32768),(56,.bool true),(55,.bool true),(54,.bool false),(53,.int 4194304),(52,.int 12),(51,.tup [.int 1,.int 2,.int 1,.int 3,.int 1,.int 2,.int 1,.int 4]),(50,.int 4096),(49,.int 16),(48,.int 10),(47,.int 11),(46,.int mf),(45,.int nl),(44,.int l0),(43,.int 12),(42,.int bb),(41,.int lf),(40,.int 2),(39,.int gf),(38,.int ef)]
def ng (Γ:FT):Prop:=∀(H:Hp),fC TT Γ 305 [] H= .ok (.ref H.length) (H++[aK 7 4 10485760 10 2097152 25 10])
theorem zF (n:Nat):ng (Gam (n+1)):=by
 intro H
 refine dY (f:=288) rfl rfl ?_
 show W (aj TT (Gam n) dC dH _ _) _
 wrow_hasAny dH dC
 wide_open with[]
 simp[aK,e6,ag]
def aA (lev:Nat) (v op ord us inp gr ed:Nat) (ga go:Int) (sk:Bool) (pl:Nat):SO:= .inst 620 [(92,.int lev),(119,.ref v),(70,.ref op),(85,.ref ord),(128,.ref us),(127,.ref inp),(126,.ref gr),(113,.ref ed),(124,.bool false),(123,.int ga),(122,.int go),(121,.bool sk),(120,.ref pl)]
def fX (a lev v op c:Nat):Hp:=[aA lev v op (a+1) (a+3) (a+6) (a+7) (a+8) 0 0 false (a+13),.inst 272 [(33,.ref (a+2))],.inst 218 [],.inst 218 [],.list [],.list [],.list [.ref (a+4),.ref (a+5)],.list [],aY (a+9) (a+10) (a+11),.list [],.list [],.list [],.list [.int 0],.list (List.replicate c (.int 0))]
def nc (Γ:FT):Prop:=∀(lev v op c l0 bb lf mf ef gf:Nat) (H:Hp),H[op]? =some (aK c l0 bb lf mf ef gf)→c≤100→fC TT Γ 620 [.int lev,.ref v,.ref op] H= .ok (.ref H.length) (H++fX H.length lev v op c)
theorem wK (n:Nat) (ho:kQ (Gam n)) (he:fV (Gam n)):nc (Gam (n+1)):=by
 intro lev v op c l0 bb lf mf ef gf H hop hc
 refine dY (f:=582) rfl rfl ?_
 show W (aj TT (Gam n) cK cM _ _) _
 wrow_hasAny cM cK
 have hop':∀L,(H++L)[op]? =some (aK c l0 bb lf mf ef gf):=fun L=>ab hop L
 simp only[aK] at hop'
 wide_open with[ho _,he _,yL,rM,lJ hc,hop',aY]
 simp[fX,aA,aY,ag]
 omega
def kh (Γ:FT):Prop:=∀(op o:Nat) (H:Hp),fC TT Γ 690 [.ref op,.ref o] H= .ok (.ref H.length) (H++[.inst 690 [(70,.ref op),(85,.ref o)]])
theorem wN (n:Nat):kh (Gam (n+1)):=by
 intro op o H
 refine dY (f:=652) rfl rfl ?_
 show W (aj TT (Gam n) dZ ec _ _) _
 wrow_hasAny ec dZ
 wide_open with[]
 walk_at "q"
def cF (c:Nat) (sm:Int) (cur:SV) (newer:Int) (st:Bool):SO:= .inst 340 [(36,.ref c),(64,.int sm),(63,cur),(62,.int newer),(61,.bool st)]
def ni (Γ:FT):Prop:=∀(c:Nat) (sm:Int) (H:Hp),fC TT Γ 340 [.ref c,.int sm] H= .ok (.ref H.length) (H++[cF c sm .none 72057594037927936 false])
theorem wO (n:Nat):ni (Gam (n+1)):=by
 intro c sm H
 refine dY (f:=330) rfl rfl ?_
 show W (aj TT (Gam n) eB eG _ _) _
 wrow_hasAny eG eB
 wide_open with[]
 simp[cF]
theorem Pr.pre {S:Nat→Prop} {H H':Hp} (p:Pr S H H') (h:∀i,i<H.length→¬S i):∃L,H'=H++L:=by
 refine⟨H'.drop H.length,?_⟩
 have:H'.take H.length=H:=by
  refine List.ext_getElem? fun i=> ?_
  rw[List.getElem?_take]
  split
  ·rename_i hi
   have:=p.2 i H[i] (List.getElem?_eq_getElem hi) (h i hi)
   rw[this,List.getElem?_eq_getElem hi]
  ·rename_i hi
   rw[List.getElem?_eq_none (by omega)]
 calc H'=H'.take H.length++H'.drop H.length:=(List.take_append_drop _ _).symm
  _=H++H'.drop H.length:=by rw[this]
def bef (lev:Nat) (f g:Fi):Bool:=if lev=0 then decide (f.num<g.num) else decide (rk f.lo<rk g.lo) || (decide (rk f.lo=rk g.lo) && decide (f.num<g.num))
theorem sh (a b:En):(iA a b=0)↔rk a=rk b:=by
 have h1:=kA a b
 have h2:=ie a b
 omega
def tf (Γ:FT):Prop:=∀(m b dl ad c o fl a a' lev:Nat) (dr:Bool) (sc sl:SV) (f g:Fi) (H:Hp),H[m]? =some (er b dl ad dr)→H[b]? =some (b9 c o fl sc sl)→cU H o→IsF H a f→IsF H a' g→aw (Γ 533) [.ref m,.int lev,.ref a,.ref a'] H= .ok (.bool (bef lev f g)) H
theorem f_bef (n:Nat) (hc:jS (Gam n)):tf (Gam (n+1)):=by
 intro m b dl ad c o fl a a' lev dr sc sl f g H hm hb hO hf hg
 refine cr ?_
 show W (aj TT (Gam n) bL bP _ _) _
 wrow_hasAny bP bL
 have hO':=hO
 obtain⟨u,ho1,ho2⟩:=hO
 have hf':H[a]? =some (aT f):=hf
 have hg':H[a']? =some (aT g):=hg
 simp only[er] at hm
 wide_line with[hm,hb,ho1,hf',hg',hc _ _ _ _ hO']
 by_cases h0:lev=0
 ·subst h0
  rw[if_neg (by decide)]
  refine⟨?_,trivial⟩
  simp[bef]
 ·rw[if_pos (by omega)]
  have h1:=kA f.lo g.lo
  have h2:=sh f.lo g.lo
  by_cases c0:iA f.lo g.lo=0
  ·rw[if_neg (by simpa using c0)]
   refine⟨?_,trivial⟩
   have:=h2.mp c0
   simp[bef,h0,this]
  ·rw[if_pos c0]
   refine⟨?_,trivial⟩
   have h3:¬rk f.lo=rk g.lo:=fun z=>c0 (h2.mpr z)
   simp[bef,h0,h1,h3]
def plc (lev:Nat) (fs:List Fi) (g:Fi):List Fi:=fs.takeWhile (fun f=>bef lev f g)++g::fs.dropWhile (fun f=>bef lev f g)
theorem r5 {α:Type} (p:α→Bool):∀l:List α,l.take (l.takeWhile p).length=l.takeWhile p
 |[]=>rfl
 |a::l=>by
  rw[List.takeWhile_cons]
  split
  ·rw[List.length_cons,List.take_succ_cons,r5 p l]
  ·rfl
theorem q8 {α:Type} (p:α→Bool):∀l:List α,l.drop (l.takeWhile p).length=l.dropWhile p
 |[]=>rfl
 |a::l=>by
  rw[List.takeWhile_cons,List.dropWhile_cons]
  split
  ·rename_i h
   rw[List.length_cons,List.drop_succ_cons,q8 p l]
  ·rfl
def nq (Γ:FT):Prop:=∀(m b dl ad c o fl r a lev:Nat) (dr:Bool) (sc sl:SV) (afs:List (Nat×Fi)) (g:Fi) (H:Hp),H[m]? =some (er b dl ad dr)→H[b]? =some (b9 c o fl sc sl)→cU H o→
 H[r]? =some (.list (afs.map fun x=> .ref x.1))→(∀x∈afs,IsF H x.1 x.2)→IsF H a g→afs.length≤100→pX (fun f=>bef lev f g) (afs.map (·.2))→
 ∃bfs:List (Nat×Fi),aw (Γ 540) [.ref m,.int lev,.ref r,.ref a] H= .ok .none (H.set r (.list (bfs.map fun x=> .ref x.1)))∧bfs.map (·.2)=plc lev (afs.map (·.2)) g∧∀x∈bfs,x∈afs∨x=(a,g)
theorem wR (n:Nat) (hbf:tf (Gam n)):nq (Gam (n+1)):=by
 intro m b dl ad c o fl r a lev dr sc sl afs g H hm hb hO h6 h7 hg hal hmono
 have ham:afs.length≤ag:=by unfold ag;omega
 obtain⟨idx,hidx⟩:∃idx,((afs.map (·.2)).takeWhile fun f=>bef lev f g).length=idx:=⟨_,rfl⟩
 have hil:idx≤afs.length:=by rw[←hidx];have:=qN (p:=fun f=>bef lev f g) (afs.map (·.2));rwa [List.length_map] at this
 refine⟨afs.take idx++(a,g)::afs.drop idx,cr ?_,?_,?_⟩
 ·show W (aj TT (Gam n) bW b7 _ _) _
  wrow_hasAny b7 bW
  wide_line with[h6,bh ham]
  refine iz (fun k l H'=>H'=H∧l 29=some (.ref m)∧l 92=some (.int lev)∧l 84=some (.ref r)∧l 99=some (.ref a)∧∃x y:Nat,l 86=some (.int x)∧l 87=some (.int y)∧x≤idx∧idx≤y∧y≤afs.length∧k=y - x) ?_ (afs.length - 0) _ _ ⟨rfl,rfl,rfl,rfl,rfl,0,afs.length,rfl,rfl,Nat.zero_le _,hil,Nat.le_refl _,rfl⟩
  rintro k l H' ⟨rfl,l1,l2,l3,l4,x,y,l5,l6,hx,hy,hyl,rfl⟩
  have hm0:=hm
  simp only[er] at hm
  wide_line with[l1,l2,l3,l4,l5,l6,hm,h6]
  refine⟨fun hlt=> ?_,fun hlt=> ?_⟩
  ·have hxy:x<y:=by omega
   refine⟨⟨dt (by omega) (by omega),by decide,by decide⟩,?_⟩
   obtain⟨mid,hmid⟩:∃mid:Nat,((x:Int)+y).fdiv 2=(mid:Int):=⟨(x+y) / 2,by rw[Int.fdiv_eq_ediv_of_nonneg _ (by decide)];omega⟩
   have hm1:x≤mid∧mid<y:=by
    rw[Int.fdiv_eq_ediv_of_nonneg _ (by decide)] at hmid;omega
   have hxm:=List.getElem?_eq_getElem (show mid<afs.length by omega)
   generalize afs[mid]=z at hxm
   have hid:ck (some (.list (afs.map fun x=>SV.ref x.1))) (mid:Int)=some (.ref z.1):=aG (by rw[List.getElem?_map,hxm];rfl) (by rw[List.length_map];exact ham)
   have hfz:(afs.map (·.2))[mid]? =some z.2:=by rw[List.getElem?_map,hxm];rfl
   have hz:=h7 z (List.mem_of_getElem? hxm)
   rw[hmid]
   wide_line with[hid,hbf m b dl ad c o fl z.1 a lev dr sc sl z.2 g H' hm0 hb hO hz hg]
   have hmm:(mid:Int)+1=((mid+1:Nat):Int):=by omega
   rw[hmm]
   by_cases cb:bef lev z.2 g=true
   ·rw[if_pos cb]
    have:=wf (l:=afs.map fun x:Nat×Fi=>x.2) (p:=fun f:Fi=>bef lev f g) hmono hfz cb
    rw[hidx] at this
    exact⟨y - (mid+1),by omega,by walk_at "z",by walk_at "z",by walk_at "z",by walk_at "z",by walk_at "z",mid+1,y,rfl,by walk_at "z",this,hy,hyl,rfl⟩
   ·rw[if_neg cb]
    have:=we (l:=afs.map fun x:Nat×Fi=>x.2) (p:=fun f:Fi=>bef lev f g) hfz (by simpa using cb)
    rw[hidx] at this
    exact⟨mid - x,by omega,by walk_at "z",by walk_at "z",by walk_at "z",by walk_at "z",by walk_at "z",x,mid,by walk_at "z",rfl,hx,this,by omega,rfl⟩
  ·have hxe:x=idx:=by omega
   subst hxe
   have hins:xi (some (.list (afs.map fun x=>SV.ref x.1))) (x:Int) (.ref a)=some (.list ((afs.take x++(a,g)::afs.drop x).map fun x=>SV.ref x.1)):=by
    simp only[xi,List.length_map]
    rw[if_pos ⟨by omega,by omega,by unfold ag;omega⟩]
    simp[iF]
   wide_line with[l1,l2,l3,l4,l5,l6,h6,hins]
   walk_at "q"
 ·rw[plc,←r5,←q8,hidx,List.map_append,List.map_cons,List.map_take,List.map_drop]
 ·intro x hx
  rcases List.mem_append.mp hx with hx|hx
  ·exact .inl (List.mem_of_mem_take hx)
  ·rcases List.mem_cons.mp hx with rfl|hx
   ·exact .inr rfl
   ·exact .inl (List.mem_of_mem_drop hx)
structure OkL (lev:Nat) (fs:List Fi):Prop where
 ends:∀f∈fs,rk f.lo≤rk f.hi
 zero:lev=0→∀(i:Nat) (f g:Fi),fs[i]? =some f→fs[i+1]? =some g→f.num<g.num
 more:lev≠0→∀(i:Nat) (f g:Fi),fs[i]? =some f→fs[i+1]? =some g→f.hi.u<g.lo.u
theorem c8 {x:Nat} {b:fv} {Q:Fl×Loc→Hp→Prop} (a n:Nat) (Inv:Nat→Loc→Hp→Prop) (step:∀k l H,a≤k→k<n→Inv k l H→W (b (upd l x (.int (k:Int))) H) (dN (Inv (k+1)) Q)) (done:∀l H,Inv n l H→Q (.next,l) H) {l:Loc} {H:Hp} (ha:a≤n) (h:Inv a l H):W (jC x b (dy (a:Int) 1 (n - a)) l H) Q:=by
 refine jc (fun is l H=>∃k,a≤k∧k≤n∧is=dy (k:Int) 1 (n - k)∧Inv k l H) ?_ ?_ _ _ _ ⟨a,Nat.le_refl _,ha,rfl,h⟩
 ·rintro i r l H ⟨k,h1,h2,e,hi⟩
  cases hz:n - k with
  |zero=>rw[hz] at e;cases e
  |succ w=>
   rw[hz,dy] at e
   cases e
   have hw:n - (k+1)=w:=by omega
   refine(step k l H h1 (by omega) hi).mono fun q H' hq=>hq.mono (fun l' H'' hI=>⟨k+1,by omega,by omega,by rw[hw];rfl,hI⟩) fun _ _ h=>h
 ·rintro l H ⟨k,h1,h2,e,hi⟩
  have:k=n:=by
   cases hz:n - k with
   |zero=>omega
   |succ w=>rw[hz] at e;cases e
  subst this
  exact done l H hi
theorem mA {is:List Int} {j:Nat} {x:Int} (h:is[j]? =some x) (hj:is.length≤ag):ck (some (.list (is.map SV.int))) (j:Int)=some (.int x):=aG (by rw[List.getElem?_map,h];rfl) (by simpa using hj)
def na (Γ:FT):Prop:=∀(v:Nat) (V:List (List Fi)) (sc sl:SV) (H:Hp),aI H v V sc sl→V.length≤100→V.flatten.length<64→(aL V).Nodup→(∀j fs,V[j]? =some fs→OkL j fs)→∃L,aw (Γ 491) [.ref v] H= .ok .none (H++L)
theorem oP {V:List (List Fi)} {fs:List Fi} (h:fs∈V):fs.length≤V.flatten.length:=by
 obtain⟨a,b,rfl⟩:=List.append_of_mem h
 simp only[List.flatten_append,List.flatten_cons,List.length_append]
 omega
theorem nZ {b:Nat} (hb:b≤1000):bH [.int 1,.int (b:Int)]=some (dy ((1:Nat):Int) 1 (b - 1)):=lX (a:=1) (by decide) hb
theorem wJ (n:Nat) (hu:cR (Gam n)) (hc:jS (Gam n)) (hnu:eN (Gam n)):na (Gam (n+1)):=by
 intro v V sc sl H hv hV hz hnd hok
 refine⟨[.list ((aL V).map SV.int),.list ((aW (aL V)).map SV.int)],cr ?_⟩
 show W (aj TT (Gam n) dd di _ _) _
 wrow_hasAny di dd
 have e1:=hnu v V sc sl H hv hz
 have hvH:=hv
 obtain⟨ord,fl,ls,h1,hO,h3,h4⟩:=hv
 have hsl:(aW (aL V)).length=V.flatten.length:=by rw[aW,dS,aL,List.length_map]
 have hsn:(aW (aL V)).Nodup:=(cy _).nodup_iff.mpr hnd
 obtain⟨L,hL⟩:∃L:Hp,[.list ((aL V).map SV.int),.list ((aW (aL V)).map SV.int)]=L:=⟨_,rfl⟩
 have hnum:(H++L)[H.length+1]? =some (.list ((aW (aL V)).map SV.int)):=by rw[←hL,gtk];rfl
 rw[hL] at e1⊢
 have hlen:lenO (some (.list ((aW (aL V)).map SV.int)))=some (((V.flatten.length:Nat):Int)):=by
  rw[bh (by rw[hsl];unfold ag;omega),hsl]
 wide_line with[h1,e1,hnum,hlen,nZ (show V.flatten.length≤1000 by omega)]
 have hfin:∀l:Loc,l 29=some (.ref v)→W (aM TT (Gam n) (.cons (.forR 92 (.cons (.attr (.loc 29) 45) .nil) (.cons (.asg 84 (.idx (.attr (.loc 29) 84) (.loc 92))) (.cons (.forR 96 (.cons (.bui 0 (.cons (.loc 84) .nil)) .nil)
  (.cons (.asg 99 (.idx (.loc 84) (.loc 96))) (.cons (.ite (.cmp .Gt (.meth (.attr (.loc 29) 85) 37 (.cons (.attr (.loc 99) 64) (.cons (.attr (.loc 99) 75) .nil))) (.con (.int 0))) (.cons (.rai) .nil) (.nil)) (.cons (.ite (.cmp .Eq (.loc 96) (.con (.int 0))) (.cons (.cont) .nil) (.nil)) (.cons (.asg 109 (.idx (.loc 84) (.bin .Sub (.loc 96) (.con (.int 1))))) (.cons (.ite (.cmp .Eq (.loc 92) (.con (.int 0))) (.cons (.ite (.cmp .GtE (.attr (.loc 109) 73) (.attr (.loc 99) 73)) (.cons (.rai) .nil) (.nil)) .nil) (.cons (.ite (.cmp .GtE (.call 26 138 (.cons (.attr (.loc 109) 75) .nil)) (.call 26 138 (.cons (.attr (.loc 99) 64) .nil))) (.cons (.rai) .nil) (.nil)) .nil)) .nil)))))) .nil))) .nil) l (H++L)) (xz fun b H'=>b= .none∧H'=H++L):=by
  intro l l29
  have hcv:bH [.int (V.length:Int)]=some (dy ((0:Nat):Int) 1 (V.length - 0)):=ir (by omega)
  have hlm:ls.length≤ag:=by rw[h4.len];unfold ag;omega
  have hO':=hO.app L
  obtain⟨u,ho1,ho2⟩:=hO'
  wide_line with[l29,ab h1 L,hcv]
  refine c8 0 V.length (fun k l H'=>H'=H++L∧l 29=some (.ref v)) ?_ ?_ (Nat.zero_le _) ⟨rfl,l29⟩
  ·rintro k l H' _ hk ⟨rfl,l29⟩
   have hVk:=List.getElem?_eq_getElem hk
   generalize V[k]=fs at hVk
   obtain⟨r,hr,hfs⟩:=A2.get' h4 hVk
   obtain⟨afs,h6,h6',h7⟩:=hfs.pairs
   have hfl:fs.length≤V.flatten.length:=oP (List.mem_of_getElem? hVk)
   have hal:afs.length=fs.length:=by rw[←h6',List.length_map]
   have ham:afs.length≤ag:=by unfold ag;omega
   have ok:=hok k fs hVk
   have hcf:bH [.int (afs.length:Int)]=some (dy ((0:Nat):Int) 1 (afs.length - 0)):=ir (by omega)
   wide_line with[l29,ab h1 L,ab h3 L,aH hr hlm,ab h6 L,bh ham,hcf]
   refine c8 0 afs.length (fun j l H'=>H'=H++L∧l 29=some (.ref v)∧l 84=some (.ref r)∧l 92=some (.int k)) ?_ ?_ (Nat.zero_le _) ⟨rfl,l29,rfl,rfl⟩
   ·rintro j l H' _ hj ⟨rfl,l29,l84,l92⟩
    have hx:=List.getElem?_eq_getElem hj
    generalize afs[j]=x at hx
    have hF:(H++L)[x.1]? =some (aT x.2):=ab (h7 x (List.mem_of_getElem? hx)) L
    have hfx:fs[j]? =some x.2:=by rw[←h6',List.getElem?_map,hx];rfl
    have hid:ck (some (.list (afs.map fun x=>SV.ref x.1))) (j:Int)=some (.ref x.1):=aG (by rw[List.getElem?_map,hx];rfl) (by rw[List.length_map];exact ham)
    wide_line with[l29,l84,l92,ab h1 L,ab h6 L,hid,hF,ho1,hc _ _ _ _ (show cU (H++L) ord from⟨u,ho1,ho2⟩)]
    have hle:=ok.ends x.2 (List.mem_of_getElem? hfx)
    rw[if_neg (fun z=>by have:=(ie _ _).mp z;omega)]
    by_cases hj0:j=0
    ·rw[if_pos (by rw[hj0];rfl)]
     exact⟨by walk_at "z",by walk_at "z",by walk_at "z",by walk_at "z"⟩
    ·rw[if_neg (by omega)]
     obtain⟨i,rfl⟩:∃i,j=i+1:=⟨j - 1,by omega⟩
     have hy:=List.getElem?_eq_getElem (show i<afs.length by omega)
     generalize afs[i]=y at hy
     have hFy:(H++L)[y.1]? =some (aT y.2):=ab (h7 y (List.mem_of_getElem? hy)) L
     have hfy:fs[i]? =some y.2:=by rw[←h6',List.getElem?_map,hy];rfl
     have hid2:ck (some (.list (afs.map fun x=>SV.ref x.1))) (((i+1:Nat):Int) - 1)=some (.ref y.1):=by
      have:(((i+1:Nat):Int) - 1)=(i:Int):=by omega
      rw[this]
      exact aG (by rw[List.getElem?_map,hy];rfl) (by rw[List.length_map];exact ham)
     wide_line with[l29,l84,l92,ab h1 L,ab h6 L,hid2,hFy,hF,hu _ _,jQ]
     by_cases hk0:k=0
     ·rw[if_pos (by rw[hk0];rfl)]
      have:=ok.zero hk0 i _ _ hfy hfx
      rw[if_neg (by omega)]
      exact⟨by walk_at "z",by walk_at "z",by walk_at "z",by walk_at "z"⟩
     ·rw[if_neg (by omega)]
      have:=ok.more hk0 i _ _ hfy hfx
      simp only[this,decide_true,Bool.not_true,Bool.false_eq_true,if_false]
      exact⟨by walk_at "z",by walk_at "z",by walk_at "z",by walk_at "z"⟩
   ·rintro l H' ⟨rfl,l29,_⟩
    wide_line with[]
    exact⟨by walk_at "z",l29⟩
  ·rintro l H' ⟨rfl,l29⟩
   wide_line with[]
   walk_at "q"
 by_cases h0:V.flatten.length=0
 ·have:V.flatten.length - 1=0:=by omega
  rw[this]
  simp only[dy,jd,jr]
  exact hfin _ rfl
 ·refine c8 1 V.flatten.length (fun k l H'=>H'=H++L∧l 29=some (.ref v)∧l 110=some (.ref (H.length+1))) ?_ ?_ (by omega) ⟨rfl,rfl,rfl⟩
  ·rintro k l H' hk1 hk2 ⟨rfl,l29,l110⟩
   have hx:=List.getElem?_eq_getElem (show k<(aW (aL V)).length by omega)
   have hy:=List.getElem?_eq_getElem (show k - 1<(aW (aL V)).length by omega)
   have hne:(aW (aL V))[k - 1]≠(aW (aL V))[k]:=fun e=>by
    have:=(List.getElem_inj hsn).mp e
    omega
   have hk':((k:Int) - 1)=((k - 1:Nat):Int):=by omega
   wide_line with[l110,hnum,hk',mA hx (by rw[hsl];unfold ag;omega),mA hy (by rw[hsl];unfold ag;omega)]
   rw[if_neg hne]
   exact⟨by walk_at "z",by walk_at "z",by walk_at "z"⟩
  ·rintro l H' ⟨rfl,l29,l110⟩
   rw[jr]
   exact hfin l l29
def inO (o:Option SO) (k:Int):Option Bool:=match o with
 |some (.dict es)=>some (getD k es).isSome
 |_=>none
theorem qt (H:Hp) (k:Int) (d:Nat) (Q:Bool→Hp→Prop):W (dO .In (.int k) (.ref d) H) Q=O (inO H[d]? k) fun b=>Q b H:=by
 show W (match H[d]? with|some (.dict es)=>_|_=>_) Q=_
 unfold inO
 split<;>rfl
theorem lm (es:List (Int×SV)) (k:Int):inO (some (.dict es)) k=some (getD k es).isSome:=nr rfl
theorem kD {k:Int}:∀{es:List (Int×SV)},(∀e∈es,e.1≠k)→getD k es=none
 |[],_=>rfl
 |(g,w)::r,h=>by rw[getD,if_neg (h _ (List.mem_cons_self ..)),kD fun e he=>h e (List.mem_cons_of_mem _ he)]
def iZ (Γ:FT):Prop:=∀(m b md ma c o fl:Nat) (dr:Bool) (sc sl:SV) (lev:Int) (H:Hp),H[m]? =some (er b md ma dr)→H[b]? =some (b9 c o fl sc sl)→c≤8→
 (0≤lev→lev<c→aw (Γ 519) [.ref m,.int lev] H= .ok .none H)∧(-8≤lev→lev≤8→(lev<0∨(c:Int)≤lev)→aw (Γ 519) [.ref m,.int lev] H= .exc H)
theorem t9 (n:Nat):iZ (Gam (n+1)):=by
 intro m b md ma c o fl dr sc sl lev H hm hb hc
 have hm':=hm
 simp only[er] at hm'
 have hC:evC TT (Gam n) a4 (aN ar [.ref m,.int lev]) H= .ok (decide (lev<0) || decide ((c:Int)≤lev)) H:=by
  refine cr ?_
  rw[a4,ar]
  wide_line with[hm',hb]
  by_cases c1:lev<0
  ·rw[if_pos c1];simp[c1]
  ·rw[if_neg c1];simp[c1]
 constructor
 ·intro h1 h2
  show pH TT (Gam n) ar a4 aR aS [.ref m,.int lev] H=_
  unfold pH
  rw[if_pos (show ar.length=[SV.ref m,SV.int lev].length from rfl),hC]
  have:(decide (lev<0) || decide ((c:Int)≤lev))=false:=by simp;omega
  rw[this];rfl
 ·intro h1 h2 h3
  show pH TT (Gam n) ar a4 aR aS [.ref m,.int lev] H=_
  unfold pH
  rw[if_pos (show ar.length=[SV.ref m,SV.int lev].length from rfl),hC]
  have:(decide (lev<0) || decide ((c:Int)≤lev))=true:=by simpa using h3
  rw[this]
  have ha:evE TT (Gam n) aR (aN ar [.ref m,.int lev]) H= .ok (.int lev) H:=by
   refine cr ?_
   rw[aR,ar]
   wide_line with[]
   walk_at "q"
  have hb2:evE TT (Gam n) aS (aN ar [.ref m,.int lev]) H= .ok (.int c) H:=by
   refine cr ?_
   rw[aS,ar]
   wide_line with[hm',hb]
   walk_at "q"
  have e1:i9 (.int lev)=true:=by simp only[i9,jP];simp;omega
  have e2:i9 (.int (c:Int))=true:=by simp only[i9,jP];simp;omega
  simp only[R.bind,if_true,ha,hb2]
  rw[if_pos e1,if_pos e2]
abbrev Del:=Nat×Nat
abbrev Add:=Nat×Nat×Fi
def cX (x:Del):SV:= .tup [.int x.1,.int x.2]
def fG (x:Add):SV:= .tup [.int x.1,.ref x.2.1]
def iI (H:Hp) (e:Nat) (D:List Del) (A:List Add):Prop:=∃cp dl ad,H[e]? =some (aY cp dl ad)∧H[dl]? =some (.list (D.map cX))∧H[ad]? =some (.list (A.map fG))∧∀x∈A,IsF H x.2.1 x.2.2
def iL (D:List Del) (j:Nat):List (Int×SV):=(D.filter fun x=>x.1 == j).map fun x=>((x.2:Int),.bool true)
def fy (A:List Add) (j:Nat):List (Int×SV):=(A.filter fun x=>x.1 == j).map fun x=>((x.2.2.num:Int),.ref x.2.1)
structure gG (H:Hp) (m b c:Nat) (da aa:List Nat) (de ae:Nat→List (Int×SV)):Prop where
 mkr:∃md ma,H[m]? =some (er b md ma false)∧H[md]? =some (.list (da.map SV.ref))∧H[ma]? =some (.list (aa.map SV.ref))
 ld:da.length=c
 la:aa.length=c
 nd:(da++aa).Nodup
 del:∀(j x:Nat),da[j]? =some x→H[x]? =some (.dict (de j))
 add:∀(j x:Nat),aa[j]? =some x→H[x]? =some (.dict (ae j))
theorem Pr.len {S:Nat→Prop} {H H':Hp} (p:Pr S H H'):H.length≤H'.length:=p.1
theorem gG.dict {H:Hp} {m b c:Nat} {da aa:List Nat} {de ae:Nat→List (Int×SV)} (I:gG H m b c da aa de ae) {x:Nat} (hx:x∈da++aa):∃es,H[x]? =some (.dict es):=by
 rcases List.mem_append.mp hx with h|h
 ·obtain⟨j,hj⟩:=List.getElem?_of_mem h
  exact⟨_,I.del j x hj⟩
 ·obtain⟨j,hj⟩:=List.getElem?_of_mem h
  exact⟨_,I.add j x hj⟩
theorem gG.off {H:Hp} {m b c:Nat} {da aa:List Nat} {de ae:Nat→List (Int×SV)} (I:gG H m b c da aa de ae) {i:Nat} {o:SO} (h:H[i]? =some o) (ho:∀es,o≠.dict es):i∉da++aa:=fun hx=>by
 obtain⟨es,e⟩:=I.dict hx
 rw[h] at e;cases e
 exact ho es rfl
theorem gG.setD {H:Hp} {m b c:Nat} {da aa:List Nat} {de ae:Nat→List (Int×SV)} (I:gG H m b c da aa de ae) {j x:Nat} (hx:da[j]? =some x) (es:List (Int×SV)):gG (H.set x (.dict es)) m b c da aa (fun k=>if k=j then es else de k) ae:=by
 have hmem:x∈da++aa:=List.mem_append_left _ (List.mem_of_getElem? hx)
 obtain⟨md,ma,h1,h2,h3⟩:=I.mkr
 have ne:∀{i:Nat} {o:SO},H[i]? =some o→(∀es,o≠.dict es)→x≠i:=fun h ho e=>I.off h ho (e▸hmem)
 obtain⟨nd1,nd2,nd3⟩:=List.nodup_append.mp I.nd
 refine⟨⟨md,ma,ai h1 (ne h1 (fun _ h=>by cases h)) _,ai h2 (ne h2 (fun _ h=>by cases h)) _,ai h3 (ne h3 (fun _ h=>by cases h)) _⟩,I.ld,I.la,I.nd,fun k y hy=> ?_,fun k y hy=> ?_⟩
 ·by_cases c:k=j
  ·subst c
   rw[hx] at hy;cases hy
   rw[if_pos rfl];exact a5 _ (I.del k x hx)
  ·rw[if_neg c]
   refine ai (I.del k y hy) (fun e=>c ?_) _
   subst e
   obtain⟨a1,a2⟩:=List.getElem?_eq_some_iff.mp hx
   obtain⟨b1,b2⟩:=List.getElem?_eq_some_iff.mp hy
   exact(List.getElem_inj nd1).mp (b2.trans a2.symm)
 ·refine ai (I.add k y hy) (fun e=> ?_) _
  subst e
  exact nd3 _ (List.mem_of_getElem? hx) _ (List.mem_of_getElem? hy) rfl
theorem gG.setA {H:Hp} {m b c:Nat} {da aa:List Nat} {de ae:Nat→List (Int×SV)} (I:gG H m b c da aa de ae) {j x:Nat} (hx:aa[j]? =some x) (es:List (Int×SV)):gG (H.set x (.dict es)) m b c da aa de (fun k=>if k=j then es else ae k):=by
 have hmem:x∈da++aa:=List.mem_append_right _ (List.mem_of_getElem? hx)
 obtain⟨md,ma,h1,h2,h3⟩:=I.mkr
 have ne:∀{i:Nat} {o:SO},H[i]? =some o→(∀es,o≠.dict es)→x≠i:=fun h ho e=>I.off h ho (e▸hmem)
 obtain⟨nd1,nd2,nd3⟩:=List.nodup_append.mp I.nd
 refine⟨⟨md,ma,ai h1 (ne h1 (fun _ h=>by cases h)) _,ai h2 (ne h2 (fun _ h=>by cases h)) _,ai h3 (ne h3 (fun _ h=>by cases h)) _⟩,I.ld,I.la,I.nd,fun k y hy=> ?_,fun k y hy=> ?_⟩
 ·refine ai (I.del k y hy) (fun e=> ?_) _
  subst e
  exact nd3 _ (List.mem_of_getElem? hy) _ (List.mem_of_getElem? hx) rfl
 ·by_cases c:k=j
  ·subst c
   rw[hx] at hy;cases hy
   rw[if_pos rfl];exact a5 _ (I.add k x hx)
  ·rw[if_neg c]
   refine ai (I.add k y hy) (fun e=>c ?_) _
   subst e
   obtain⟨a1,a2⟩:=List.getElem?_eq_some_iff.mp hx
   obtain⟨b1,b2⟩:=List.getElem?_eq_some_iff.mp hy
   exact(List.getElem_inj nd2).mp (b2.trans a2.symm)
def mZ (Γ:FT):Prop:=∀(m b c o fl e:Nat) (sc sl:SV) (da aa:List Nat) (D:List Del) (A:List Add) (H:Hp),gG H m b c da aa (fun _=>[]) (fun _=>[])→H[b]? =some (b9 c o fl sc sl)→c≤8→iI H e D A→
 (∀x∈D,x.1<c)→(∀x∈A,x.1<c)→D.Nodup→(A.map fun x=>(x.1,x.2.2.num)).Nodup→(∀x∈A,(x.1,x.2.2.num)∉D)→D.length≤100→A.length≤100→
 ∃H',aw (Γ 526) [.ref m,.ref e] H= .ok .none H'∧Pr (fun i=>i∈da++aa) H H'∧gG H' m b c da aa (iL D) (fy A)
theorem sw {D:List Del} {i:Nat} {x:Del} (h:D[i]? =some x) (hn:D.Nodup):iL (D.take (i+1))=(fun k=>if k=x.1 then hW (x.2:Int) (.bool true) (iL (D.take i) x.1) else iL (D.take i) k):=by
 funext k
 have ht:D.take (i+1)=D.take i++[x]:=by rw[List.take_succ,h];rfl
 have hx:∀y∈D.take i,y≠x:=fun y hy e=>by
  subst e
  have:(D.take (i+1)).Nodup:=hn.sublist (List.take_sublist _ _)
  rw[ht,List.nodup_append] at this
  exact this.2.2 _ hy _ (List.mem_singleton.mpr rfl) rfl
 unfold iL
 rw[ht,List.filter_append,List.map_append]
 by_cases c:k=x.1
 ·subst c
  rw[if_pos rfl,hY]
  ·simp
  ·intro e he e2
   obtain⟨y,hy,rfl⟩:=List.mem_map.mp he
   obtain⟨h1,h2⟩:=List.mem_filter.mp hy
   have e3:y.2=x.2:=Int.ofNat.inj e2
   exact hx y h1 (Prod.ext (by simpa using h2) e3)
 ·rw[if_neg c,List.filter_cons,List.filter_nil]
  have:(x.1 == k)=false:=by simpa using fun e=>c e.symm
  simp[this]
theorem sa {A:List Add} {i:Nat} {x:Add} (h:A[i]? =some x) (hn:(A.map fun x=>(x.1,x.2.2.num)).Nodup):fy (A.take (i+1))=(fun k=>if k=x.1 then hW (x.2.2.num:Int) (.ref x.2.1) (fy (A.take i) x.1) else fy (A.take i) k):=by
 funext k
 have ht:A.take (i+1)=A.take i++[x]:=by rw[List.take_succ,h];rfl
 have hx:∀y∈A.take i,(y.1,y.2.2.num)≠(x.1,x.2.2.num):=fun y hy e=>by
  have:((A.take (i+1)).map fun x=>(x.1,x.2.2.num)).Nodup:=hn.sublist ((List.take_sublist _ _).map _)
  rw[ht,List.map_append,List.nodup_append] at this
  exact this.2.2 _ (List.mem_map.mpr ⟨y,hy,rfl⟩) _ (List.mem_map.mpr ⟨x,List.mem_singleton.mpr rfl,rfl⟩) e
 unfold fy
 rw[ht,List.filter_append,List.map_append]
 by_cases c:k=x.1
 ·subst c
  rw[if_pos rfl,hY]
  ·simp
  ·intro e he e2
   obtain⟨y,hy,rfl⟩:=List.mem_map.mp he
   obtain⟨h1,h2⟩:=List.mem_filter.mp hy
   have e3:y.2.2.num=x.2.2.num:=Int.ofNat.inj e2
   exact hx y h1 (Prod.ext (by simpa using h2) e3)
 ·rw[if_neg c,List.filter_cons,List.filter_nil]
  have:(x.1 == k)=false:=by simpa using fun e=>c e.symm
  simp[this]
theorem wF (D:List Del) (j:Nat):(iL D j).length≤D.length:=by
 unfold iL;rw[List.length_map];exact List.length_filter_le _ _
theorem nB (A:List Add) (j:Nat):(fy A j).length≤A.length:=by
 unfold fy;rw[List.length_map];exact List.length_filter_le _ _
theorem W_exi {r:R SV} {P:Hp→Prop} (h:W r fun b H'=>b= .none∧P H'):∃H',r= .ok .none H'∧P H':=by
 cases r with
 |ok b H'=>obtain⟨rfl,h⟩:=h;exact⟨H',rfl,h⟩
 |exc H=>exact h.elim
 |fail=>exact h.elim
theorem wI (n:Nat) (hw:iZ (Gam n)):mZ (Gam (n+1)):=by
 intro m b c o fl e sc sl da aa D A H I hb hc hE hD hA hDn hAn hDA hDl hAl
 obtain⟨cp,dl,ad,g1,g2,g3,g4⟩:=hE
 refine W_exi ?_
 show W (aj TT (Gam n) aD aU _ _) _
 wrow_hasAny aU aD
 obtain⟨md,ma,k1,k2,k3⟩:=I.mkr
 have g1':=g1
 simp only[aY] at g1'
 have k1':=k1
 simp only[er] at k1'
 walk_at "e"
 refine aE ?_
 wide_line with[g1']
 refine⟨dl,_,rfl,g2,cw (fun i l H'=>H'=H∧l 29=some (.ref m)∧l 113=some (.ref e)) (fun i l H' h=>h.1▸g2) ?_ ?_ ⟨rfl,rfl,rfl⟩⟩
 ·rintro i x l H' ⟨rfl,l29,l113⟩ hx
  rw[List.getElem?_map] at hx
  cases hi:D[i]? with
  |none=>rw[hi] at hx;cases hx
  |some d=>
   rw[hi] at hx;cases hx
   have:=hD d (List.mem_of_getElem? hi)
   rw[cX,jq]
   wide_line with[l29,k1',(hw m b md ma c o fl false sc sl d.1 H' k1 hb hc).1 (by omega) (by omega)]
   exact⟨by walk_at "z",by walk_at "z",by walk_at "z",by walk_at "z"⟩
 rintro l H' ⟨rfl,l29,l113⟩
 walk_at "e"
 refine aE ?_
 wide_line with[l113,g1']
 refine⟨ad,_,rfl,g3,cw (fun i l H=>H=H'∧l 29=some (.ref m)∧l 113=some (.ref e)) (fun i l H' h=>h.1▸g3) ?_ ?_ ⟨rfl,l29,l113⟩⟩
 ·rintro i x l H ⟨rfl,l29,l113⟩ hx
  rw[List.getElem?_map] at hx
  cases hi:A[i]? with
  |none=>rw[hi] at hx;cases hx
  |some d=>
   rw[hi] at hx;cases hx
   have:=hA d (List.mem_of_getElem? hi)
   rw[fG,jq]
   wide_line with[l29,k1',(hw m b md ma c o fl false sc sl d.1 H k1 hb hc).1 (by omega) (by omega)]
   exact⟨by walk_at "z",by walk_at "z",by walk_at "z",by walk_at "z"⟩
 rintro l H'' ⟨rfl,l29,l113⟩
 wide_line with[l113,g1',Bool.false_eq_true]
 refine aE ?_
 wide_line with[l113,g1']
 have lmd:da.length≤ag:=by rw[I.ld];unfold ag;omega
 have lma:aa.length≤ag:=by rw[I.la];unfold ag;omega
 refine⟨dl,_,rfl,g2,cw (fun i l H=>Pr (fun i=>i∈da++aa) H'' H∧gG H m b c da aa (iL (D.take i)) (fun _=>[])∧l 29=some (.ref m)∧l 113=some (.ref e)) (fun i l H h=>h.1.get g2 (I.off g2 fun _ h=>by cases h)) ?_ ?_ ⟨Pr.refl _ _,I,l29,l113⟩⟩
 ·rintro i x l H ⟨P,J,l29,l113⟩ hx
  rw[List.getElem?_map] at hx
  cases hi:D[i]? with
  |none=>rw[hi] at hx;cases hx
  |some d=>
   rw[hi] at hx;cases hx
   have hdc:=hD d (List.mem_of_getElem? hi)
   rw[cX,jq]
   obtain⟨md,ma,k1,k2,k3⟩:=J.mkr
   simp only[er] at k1
   have lx:d.1<da.length:=by rw[J.ld];exact hdc
   have ly:d.1<aa.length:=by rw[J.la];exact hdc
   have hx:=List.getElem?_eq_getElem lx
   have hy:=List.getElem?_eq_getElem ly
   generalize da[d.1]=x at hx
   generalize aa[d.1]=y at hy
   have hdx:=J.del _ _ hx
   have J':=J.setD hx (hW (d.2:Int) (.bool true) (iL (D.take i) d.1))
   have hdy:=J'.add _ _ hy
   obtain⟨md2,ma2,q1,q2,q3⟩:=J'.mkr
   simp only[er] at q1
   have hlen:(iL (D.take i) d.1).length≤ag:=by have:=wF (D.take i) d.1;rw[List.length_take] at this;unfold ag;omega
   wide_line with[l29,k1,k2,aH hx lmd,hdx,eU hlen,q1,q3,aH hy lma,hdy,qt,lm,getD]
   refine⟨P.trans (Pr.set _ _ (List.mem_append_left _ (List.mem_of_getElem? hx))),?_,by walk_at "z",by walk_at "z"⟩
   rw[sw hi hDn];exact J'
 rintro l H ⟨P,J,l29,l113⟩
 rw[List.length_map,List.take_length] at J
 have gE:=P.get g1 (I.off g1 fun _ h=>by cases h)
 have gE':=gE
 simp only[aY] at gE'
 have g3':=P.get g3 (I.off g3 fun _ h=>by cases h)
 walk_at "e"
 refine aE ?_
 wide_line with[l113,gE']
 refine⟨ad,_,rfl,g3',cw (fun i l K=>Pr (fun i=>i∈da++aa) H'' K∧gG K m b c da aa (iL D) (fy (A.take i))∧l 29=some (.ref m)) (fun i l K h=>h.1.get g3 (I.off g3 fun _ h=>by cases h)) ?_ ?_ ⟨P,J,l29⟩⟩
 ·rintro i x l K ⟨P,J,l29⟩ hx
  rw[List.getElem?_map] at hx
  cases hi:A[i]? with
  |none=>rw[hi] at hx;cases hx
  |some d=>
   rw[hi] at hx;cases hx
   have hmem:=List.mem_of_getElem? hi
   have hdc:=hA d hmem
   rw[fG,jq]
   obtain⟨md,ma,k1,k2,k3⟩:=J.mkr
   simp only[er] at k1
   have lx:d.1<da.length:=by rw[J.ld];exact hdc
   have ly:d.1<aa.length:=by rw[J.la];exact hdc
   have hx:=List.getElem?_eq_getElem lx
   have hy:=List.getElem?_eq_getElem ly
   generalize da[d.1]=x at hx
   generalize aa[d.1]=y at hy
   have hdy:=J.add _ _ hy
   have J':=J.setA hy (hW (d.2.2.num:Int) (.ref d.2.1) (fy (A.take i) d.1))
   have hdx:=J'.del _ _ hx
   obtain⟨md2,ma2,q1,q2,q3⟩:=J'.mkr
   simp only[er] at q1
   have hlen:(fy (A.take i) d.1).length≤ag:=by have:=nB (A.take i) d.1;rw[List.length_take] at this;unfold ag;omega
   have hoff:∀{a:Nat} {f:Fi},H''[a]? =some (aT f)→a∉da++aa:=fun h=>I.off h fun _ h=>by cases h
   have hF:K[d.2.1]? =some (aT d.2.2):=P.get (g4 d hmem) (hoff (g4 d hmem))
   have hF':(K.set y (.dict (hW (d.2.2.num:Int) (.ref d.2.1) (fy (A.take i) d.1))))[d.2.1]? =some (aT d.2.2):=ai hF (fun e=>hoff (g4 d hmem) (e▸List.mem_append_right _ (List.mem_of_getElem? hy))) _
   have hno:getD (d.2.2.num:Int) (iL D d.1)=none:=by
    refine kD fun z hz e=> ?_
    obtain⟨w,hw,rfl⟩:=List.mem_map.mp hz
    obtain⟨w1,w2⟩:=List.mem_filter.mp hw
    refine hDA d hmem ?_
    have e2:w.2=d.2.2.num:=Int.ofNat.inj e
    have e1:w.1=d.1:=by simpa using w2
    rw[←e1,←e2];exact w1
   wide_line with[l29,k1,k3,aH hy lma,hdy,hF,eU hlen,q1,q2,aH hx lmd,hdx,hF',qt,lm,hno]
   refine⟨P.trans (Pr.set _ _ (List.mem_append_right _ (List.mem_of_getElem? hy))),?_,by walk_at "z"⟩
   rw[sa hi hAn];exact J'
 rintro l K ⟨P,J,l29⟩
 rw[List.length_map,List.take_length] at J
 wide_line with[]
 exact⟨trivial,P,J⟩
theorem tC {lev:Nat} {f g h:Fi} (a:bef lev f g=true) (b:bef lev g h=true):bef lev f h=true:=by
 unfold bef at*
 by_cases c:lev=0
 ·simp only[c,if_true,decide_eq_true_eq] at*;omega
 ·simp only[c,if_false,Bool.or_eq_true,Bool.and_eq_true,decide_eq_true_eq] at*;omega
theorem wu {lev:Nat} {f g:Fi} (h:f.num≠g.num):bef lev f g=true∨bef lev g f=true:=by
 unfold bef
 by_cases c:lev=0
 ·simp only[c,if_true,decide_eq_true_eq];omega
 ·simp only[c,if_false,Bool.or_eq_true,Bool.and_eq_true,decide_eq_true_eq];omega
theorem nD {lev:Nat} {f:Fi}:bef lev f f=false:=by
 unfold bef
 by_cases c:lev=0
 ·simp[c]
 ·simp[c]
theorem xw {lev:Nat} {fs:List Fi} {g f:Fi}:f∈plc lev fs g↔f∈fs∨f=g:=by
 unfold plc
 rw[List.mem_append,List.mem_cons]
 have:f∈fs↔f∈fs.takeWhile (fun f=>bef lev f g)∨f∈fs.dropWhile (fun f=>bef lev f g):=by
  rw[←List.mem_append,List.takeWhile_append_dropWhile]
 rw[this]
 constructor
 ·rintro(h|h|h)
  ·exact .inl (.inl h)
  ·exact .inr h
  ·exact .inl (.inr h)
 ·rintro((h|h)|h)
  ·exact .inl h
  ·exact .inr (.inr h)
  ·exact .inr (.inl h)
theorem wd {α:Type} {p:α→Bool}:∀{l:List α} {a:α},a∈l.takeWhile p→p a=true
 |x::l,a,h=>by
  rw[List.takeWhile_cons] at h
  split at h
  ·rename_i hp
   rcases List.mem_cons.mp h with rfl|h
   ·exact hp
   ·exact wd h
  ·cases h
theorem tN {lev:Nat} {g:Fi}:∀{fs:List Fi},fs.Pairwise (fun a b=>bef lev a b=true)→(∀f∈fs,f.num≠g.num)→∀f∈fs.dropWhile (fun f=>bef lev f g),bef lev g f=true
 |x::l,hp,hn,f,h=>by
  rw[List.pairwise_cons] at hp
  rw[List.dropWhile_cons] at h
  split at h
  ·exact tN hp.2 (fun f hf=>hn f (List.mem_cons_of_mem _ hf)) f h
  ·rename_i hx
   have hgx:bef lev g x=true:=(wu (hn x (List.mem_cons_self ..))).resolve_left hx
   rcases List.mem_cons.mp h with rfl|h
   ·exact hgx
   ·exact tC hgx (hp.1 f h)
theorem qC {lev:Nat} {fs:List Fi} {g:Fi} (h:fs.Pairwise (fun a b=>bef lev a b=true)) (hn:∀f∈fs,f.num≠g.num):(plc lev fs g).Pairwise (fun a b=>bef lev a b=true):=by
 unfold plc
 have h':=h
 rw[←List.takeWhile_append_dropWhile (p:=fun f=>bef lev f g) (l:=fs),List.pairwise_append] at h'
 rw[List.pairwise_append]
 refine⟨h'.1,?_,fun a ha b hb=> ?_⟩
 ·rw[List.pairwise_cons]
  exact⟨tN h hn,h'.2.1⟩
 ·rcases List.mem_cons.mp hb with rfl|hb
  ·exact wd (p:=fun f=>bef lev f b) ha
  ·exact h'.2.2 a ha b hb
theorem xq {lev:Nat} {fs:List Fi} (h:fs.Pairwise (fun a b=>bef lev a b=true)) (g:Fi):pX (fun f=>bef lev f g) fs:=by
 intro j k x y hjk hx hy hyg
 obtain⟨a1,a2⟩:=List.getElem?_eq_some_iff.mp hx
 obtain⟨b1,b2⟩:=List.getElem?_eq_some_iff.mp hy
 have:=List.pairwise_iff_getElem.mp h j k a1 b1 hjk
 rw[a2,b2] at this
 exact tC this hyg
theorem xu (lev:Nat) (fs:List Fi) (g:Fi):(plc lev fs g).length=fs.length+1:=by
 have:=congrArg List.length (List.takeWhile_append_dropWhile (p:=fun f=>bef lev f g) (l:=fs))
 unfold plc
 simp only[List.length_append,List.length_cons] at this⊢
 omega
def ek (D:List Del) (A:List Add) (j:Nat) (f:Fi):Bool:= !(decide ((j,f.num)∈D)) && !(decide ((j,f.num)∈A.map fun x=>(x.1,x.2.2.num)))
structure fE (V:List (List Fi)) (D:List Del) (A:List Add) (V':List (List Fi)):Prop where
 len:V'.length=V.length
 mem:∀(j:Nat) (fs fs':List Fi),V[j]? =some fs→V'[j]? =some fs'→∀f,f∈fs'↔(f∈fs∧ek D A j f=true)∨∃x∈A,x.1=j∧x.2.2=f
 srt:∀(j:Nat) (fs':List Fi),V'[j]? =some fs'→fs'.Pairwise (fun a b=>bef j a b=true)
structure td (V:List (List Fi)):Prop where
 few:V.flatten.length<64
 nod:(aL V).Nodup
 ok:∀(j:Nat) (fs:List Fi),V[j]? =some fs→OkL j fs
def gT (Γ:FT):Prop:=∀(m b c:Nat) (sc sl:SV) (da aa:List Nat) (V:List (List Fi)) (D:List Del) (A:List Add) (H:Hp),gG H m b c da aa (iL D) (fy A)→aI H b V sc sl→V.length=c→c=3∨c=4→(∀x∈A,IsF H x.2.1 x.2.2)→
 (A.map fun x=>(x.1,x.2.2.num)).Nodup→A.length≤30→(∀fs∈V,fs.length≤30)→(∀(j:Nat) (fs:List Fi),V[j]? =some fs→fs.Pairwise (fun a b=>bef j a b=true))→(∀V',fE V D A V'→td V')→
 ∃L v' V',aw (Γ 547) [.ref m] H= .ok (.ref v') (H++L)∧aI (H++L) v' V' (.tup [.int 0,.int 1]) (.int (-1))∧fE V D A V'∧H.length≤v'
theorem uw {D:List Del} {j k:Nat}:(getD (k:Int) (iL D j)).isSome=decide ((j,k)∈D):=by
 by_cases h:(j,k)∈D
 ·have:∃e∈iL D j,e.1=(k:Int):=⟨_,List.mem_map.mpr ⟨(j,k),List.mem_filter.mpr ⟨h,by simp⟩,rfl⟩,rfl⟩
  have gs:∀{es:List (Int×SV)},(∃e∈es,e.1=(k:Int))→(getD (k:Int) es).isSome=true:=fun {es}=>by
   induction es with
   |nil=>rintro⟨e,he,_⟩;cases he
   |cons x r ih=>
    obtain⟨g,w⟩:=x
    rintro⟨e,he,e2⟩
    rw[getD]
    by_cases c:g=k
    ·rw[if_pos c];rfl
    ·rw[if_neg c]
     rcases List.mem_cons.mp he with rfl|he
     ·exact absurd e2 c
     ·exact ih ⟨e,he,e2⟩
  rw[gs this];simp[h]
 ·rw[kD (fun e he e2=> ?_)]
  ·simp[h]
  ·obtain⟨w,hw,rfl⟩:=List.mem_map.mp he
   obtain⟨w1,w2⟩:=List.mem_filter.mp hw
   have e3:w.2=k:=Int.ofNat.inj e2
   have e4:w.1=j:=by simpa using w2
   exact h (by rw[←e3,←e4];exact w1)
theorem fz {A:List Add} {j:Nat} {x:Add} (hn:(A.map fun x=>(x.1,x.2.2.num)).Nodup) (hx:x∈A) (hj:x.1=j):getD (x.2.2.num:Int) (fy A j)=some (.ref x.2.1):=by
 have hm:x∈A.filter fun x=>x.1 == j:=List.mem_filter.mpr ⟨hx,by simpa using hj⟩
 obtain⟨i,hi⟩:=List.getElem?_of_mem hm
 refine kC (i:=i) ?_ (by unfold fy;rw[List.getElem?_map,hi];rfl)
 have h1:((A.filter fun x=>x.1 == j).map fun x=>(x.1,x.2.2.num)).Nodup:=hn.sublist (List.filter_sublist.map _)
 unfold fy
 rw[List.map_map]
 have:∀{B:List Add},(∀x∈B,x.1=j)→(B.map fun x=>(x.1,x.2.2.num)).Nodup→(B.map ((fun x=>x.1)∘fun x:Add=>(((x.2.2.num:Int),SV.ref x.2.1)))).Nodup:=fun {B}=>by
  induction B with
  |nil=>intro _ _;exact List.nodup_nil
  |cons y B ih=>
   intro hj h
   rw[List.map_cons,List.nodup_cons] at h⊢
   refine⟨fun hm=>h.1 ?_,ih (fun x hx=>hj x (List.mem_cons_of_mem _ hx)) h.2⟩
   obtain⟨z,hz,e⟩:=List.mem_map.mp hm
   have e2:z.2.2.num=y.2.2.num:=Int.ofNat.inj e
   exact List.mem_map.mpr ⟨z,hz,by rw[hj z (List.mem_cons_of_mem _ hz),hj y (List.mem_cons_self ..),e2]⟩
 exact this (fun x hx=>by simpa using(List.mem_filter.mp hx).2) h1
theorem uv {A:List Add} {j k:Nat} (hn:(A.map fun x=>(x.1,x.2.2.num)).Nodup):(getD (k:Int) (fy A j)).isSome=decide ((j,k)∈A.map fun x=>(x.1,x.2.2.num)):=by
 by_cases h:(j,k)∈A.map fun x=>(x.1,x.2.2.num)
 ·obtain⟨x,hx,e⟩:=List.mem_map.mp h
  cases e
  rw[fz hn hx rfl];simp[h]
 ·rw[kD (fun e he e2=> ?_)]
  ·simp[h]
  ·obtain⟨w,hw,rfl⟩:=List.mem_map.mp he
   obtain⟨w1,w2⟩:=List.mem_filter.mp hw
   have e3:w.2.2.num=k:=Int.ofNat.inj e2
   have e4:w.1=j:=by simpa using w2
   exact h (List.mem_map.mpr ⟨w,w1,by rw[e3,e4]⟩)
theorem jY {H:Hp} {r:Nat} {es:List (Int×SV)} (h:H[r]? =some (.dict es)) (hl:es.length<64) (Q):W (gI TT 1 [.ref r] H) Q=(((aW (es.map (·.1))).map SV.int).length≤ag∧Q (.ref H.length) (H++[.list ((aW (es.map (·.1))).map SV.int)])):=by
 have:gI TT 1 [.ref r] H=bp ((aW (es.map (·.1))).map SV.int) H:=by
  show(match H[r]? with|some (.list its)=>_|some (.dict es)=>_|_=>_)=_
  rw[h]
  simp only[hl,if_true]
  rfl
 rw[this,dL]
theorem mz (es:List (Int×SV)) (k:Int):ck (some (.dict es)) k=getD k es:=nr rfl
structure FnI (H L:Hp) (c ord:Nat) (cur:Nat→List (Nat×Fi)):Prop where
 v:(H++L)[H.length]? =some (b9 c ord (H.length+1) (.tup [.int 0,.int 1]) (.int (-1)))
 f:(H++L)[H.length+1]? =some (.list (iG (H.length+2) c))
 l:∀j,j<c→(H++L)[H.length+2+j]? =some (.list ((cur j).map fun x=> .ref x.1))
 m:∀j,j<c→∀x∈cur j,IsF H x.1 x.2
theorem FnI.app {H L:Hp} {c ord:Nat} {cur:Nat→List (Nat×Fi)} (I:FnI H L c ord cur) (M:Hp):FnI H (L++M) c ord cur:=by
 refine⟨?_,?_,fun j hj=> ?_,I.m⟩
 ·rw[←List.append_assoc];exact ab I.v M
 ·rw[←List.append_assoc];exact ab I.f M
 ·rw[←List.append_assoc];exact ab (I.l j hj) M
theorem FnI.set {H L:Hp} {c ord:Nat} {cur:Nat→List (Nat×Fi)} (I:FnI H L c ord cur) {k:Nat} (hk:k<c) (bs:List (Nat×Fi)) (hb:∀x∈bs,IsF H x.1 x.2):
 (H++L).set (H.length+2+k) (.list (bs.map fun x=> .ref x.1))=H++L.set (2+k) (.list (bs.map fun x=> .ref x.1))∧FnI H (L.set (2+k) (.list (bs.map fun x=> .ref x.1))) c ord (fun j=>if j=k then bs else cur j):=by
 have e:(H++L).set (H.length+2+k) (.list (bs.map fun x=> .ref x.1))=H++L.set (2+k) (.list (bs.map fun x=> .ref x.1)):=by
  rw[dw (by omega)];congr 2;omega
 refine⟨e,?_,?_,fun j hj=> ?_,fun j hj x hx=> ?_⟩
 ·rw[←e];exact ai I.v (by omega) _
 ·rw[←e];exact ai I.f (by omega) _
 ·rw[←e]
  by_cases q:j=k
  ·subst q;rw[if_pos rfl];exact a5 _ (I.l j hj)
  ·rw[if_neg q];exact ai (I.l j hj) (by omega) _
 ·by_cases q:j=k
  ·subst q;rw[if_pos rfl] at hx;exact hb x hx
  ·rw[if_neg q] at hx;exact I.m j hj x hx
theorem uX {a c j:Nat} (h:j<c):(iG a c)[j]? =some (.ref (a+j)):=by
 unfold iG;rw[List.getElem?_map,List.getElem?_range h];rfl
theorem sQ (a c:Nat):(iG a c).length=c:=by simp[iG]
theorem W_fin {r:R SV} {H:Hp} {P:Hp→Nat→List (List Fi)→Prop} (h:W r fun x H'=>∃L v' V',x= .ref v'∧H'=H++L∧P L v' V'):∃L v' V',r= .ok (.ref v') (H++L)∧P L v' V':=by
 cases r with
 |ok b H'=>obtain⟨L,v',V',rfl,rfl,h⟩:=h;exact⟨L,v',V',rfl,h⟩
 |exc H=>exact h.elim
 |fail=>exact h.elim
theorem tU (n:Nat) (hnv:kR (Gam n)) (hpl:nq (Gam n)) (hck:na (Gam n)):gT (Gam (n+1)):=by
 intro m b c sc sl da aa V D A H I hV hVc hc hAF hAn hAl hVl hVs hgood
 obtain⟨ord,fl,ls,h1,hO,h3,h4⟩:=hV
 rw[hVc] at h1
 refine W_fin (P:=fun L v' V'=>aI (H++L) v' V' (.tup [.int 0,.int 1]) (.int (-1))∧fE V D A V'∧H.length≤v') ?_
 show W (aj TT (Gam n) bM bQ _ _) _
 wrow_hasAny bQ bM
 obtain⟨md,ma,k1,k2,k3⟩:=I.mkr
 have k1':=k1
 simp only[er] at k1'
 have hc100:c≤100:=by omega
 have lmd:da.length≤ag:=by rw[I.ld];unfold ag;omega
 have lma:aa.length≤ag:=by rw[I.la];unfold ag;omega
 have lls:ls.length≤ag:=by rw[h4.len,hVc];unfold ag;omega
 have hcv:bH [.int (c:Int)]=some (dy ((0:Nat):Int) 1 (c - 0)):=ir (by omega)
 have FI0:FnI H (bF H.length c ord) c ord (fun _=>[]):=by
  refine⟨by rw[gt0];rfl,by rw[gtk];rfl,fun j hj=> ?_,fun j hj x hx=>by cases hx⟩
  rw[Nat.add_assoc,gtk,bF]
  have:2+j=j+2:=by omega
  rw[this,List.getElem?_cons_succ,List.getElem?_cons_succ,List.getElem?_replicate,if_pos hj];rfl
 wide_line with[k1',h1,hnv c ord H hc,ab k1' _,ab h1 _,hcv]
 refine c8 0 c (fun k l H'=>∃L cur,H'=H++L∧FnI H L c ord cur∧l 29=some (.ref m)∧l 115=some (.ref H.length)∧(∀j,k≤j→cur j=[])∧(∀j fs,j<k→V[j]? =some fs→(∀f,f∈(cur j).map (·.2)↔(f∈fs∧ek D A j f=true)∨∃x∈A,x.1=j∧x.2.2=f)∧((cur j).map (·.2)).Pairwise (fun a b=>bef j a b=true)))
  ?_ ?_ (Nat.zero_le _) ?_
 rotate_left 2
 ·exact⟨_,_,rfl,FI0,rfl,rfl,fun _ _=>rfl,fun j fs hj=>absurd hj (Nat.not_lt_zero _)⟩
 ·rintro k l H' _ hk ⟨L,cur,rfl,FI,l29,l115,hcur,hdone⟩
  have hkV:k<V.length:=by omega
  have hVk:=List.getElem?_eq_getElem hkV
  generalize V[k]=fs at hVk
  obtain⟨r,hr,hfs⟩:=A2.get' h4 hVk
  obtain⟨afs,g6,g6',g7⟩:=hfs.pairs
  have hfl:fs.length≤30:=hVl fs (List.mem_of_getElem? hVk)
  have hal:afs.length=fs.length:=by rw[←g6',List.length_map]
  have lx:k<da.length:=by rw[I.ld];exact hk
  have ly:k<aa.length:=by rw[I.la];exact hk
  have hdx:=List.getElem?_eq_getElem lx
  have hay:=List.getElem?_eq_getElem ly
  generalize da[k]=dx at hdx
  generalize aa[k]=ay at hay
  have hD:=I.del _ _ hdx
  have hA:=I.add _ _ hay
  have hve:=FI.v
  simp only[b9] at hve
  have hfr:ck (some (.list (iG (H.length+2) c))) (k:Int)=some (.ref (H.length+2+k)):=aG (uX hk) (by rw[sQ];unfold ag;omega)
  wide_line with[l29,l115,hve,FI.f,hfr,ab k1' L,Bool.not_false,if_true]
  refine aE ?_
  wide_line with[l29,ab k1' L,ab h1 L,ab h3 L,aH hr lls]
  refine⟨r,_,rfl,ab g6 L,?_⟩
  have hmapr:(afs.map fun x=>SV.ref x.1)=(afs.map (·.1)).map SV.ref:=by simp[List.map_map]
  have hA2:A2 (IsF H) (afs.map (·.1)) (afs.map (·.2)):=by
   have:∀{l:List (Nat×Fi)},(∀x∈l,IsF H x.1 x.2)→A2 (IsF H) (l.map (·.1)) (l.map (·.2)):=fun {l}=>by
    induction l with
    |nil=>intro _;exact trivial
    |cons a l ih=>intro h;exact⟨h a (List.mem_cons_self ..),ih fun y hy=>h y (List.mem_cons_of_mem _ hy)⟩
   exact this g7
  rw[hmapr]
  refine cP (H₀:=H) hA2 (fun i l H'=>∃L cur',H'=H++L∧FnI H L c ord cur'∧l 29=some (.ref m)∧l 115=some (.ref H.length)∧l 92=some (.int k)∧l 84=some (.ref (H.length+2+k))∧(∀j,j≠k→cur' j=cur j)∧(cur' k).length≤i∧(cur' k).map (·.2)=((afs.map (·.2)).take i).filter (ek D A k))
   (fun i l H' ⟨L,_,e,_⟩=>by rw[e,←hmapr];exact ab g6 L) ?_ ?_ ⟨L,cur,rfl,FI,l29,l115,rfl,rfl,fun _ _=>rfl,by rw[hcur k (Nat.le_refl _)];exact Nat.le_refl _,by rw[hcur k (Nat.le_refl _)];rfl⟩
  ·rintro i a f l H' ⟨L,cur',rfl,FI,l29,l115,l92,l84,hoth,hlen,hcf⟩ hai hfi ha
   have hF:(H++L)[a]? =some (aT f):=ab ha L
   have hil:i<afs.length:=by have:=(List.getElem?_eq_some_iff.mp hfi).1;rwa [List.length_map] at this
   have htk:((afs.map (·.2)).take (i+1)).filter (ek D A k)=((afs.map (·.2)).take i).filter (ek D A k)++(if ek D A k f then[f] else[]):=fU hfi
   wide_line with[l29,l115,l92,l84,ab k1' L,ab k2 L,ab k3 L,aH hdx lmd,aH hay lma,hF,ab hD L,ab hA L,qt,lm,uw,uv hAn]
   by_cases c1:(k,f.num)∈D
   ·rw[if_pos c1]
    have hkp:ek D A k f=false:=by simp[ek,c1]
    rw[hkp,if_neg (by simp),List.append_nil] at htk
    exact⟨L,cur',rfl,FI,by walk_at "z",by walk_at "z",by walk_at "z",by walk_at "z",hoth,by omega,by rw[htk];exact hcf⟩
   ·rw[if_neg c1]
    by_cases c2:(k,f.num)∈A.map fun x=>(x.1,x.2.2.num)
    ·rw[if_pos c2]
     have hkp:ek D A k f=false:=by unfold ek;rw[decide_eq_true c2];simp
     rw[hkp,if_neg (by simp),List.append_nil] at htk
     exact⟨L,cur',rfl,FI,by walk_at "z",by walk_at "z",by walk_at "z",by walk_at "z",hoth,by omega,by rw[htk];exact hcf⟩
    ·rw[if_neg c2]
     have hkp:ek D A k f=true:=by unfold ek;rw[decide_eq_false c1,decide_eq_false c2];rfl
     rw[hkp,if_pos rfl] at htk
     have hsl:=FI.l k hk
     have hst:=FI.set hk (cur' k++[(a,f)]) (fun x hx=>by
      rcases List.mem_append.mp hx with hx|hx
      ·exact FI.m k hk x hx
      ·have:x=(a,f):=by simpa using hx
       subst this;exact ha)
     have hap:iK (some (.list ((cur' k).map fun x=>SV.ref x.1))) (.ref a)=some (.list ((cur' k++[(a,f)]).map fun x=>SV.ref x.1)):=by
      rw[cJ (by rw[List.length_map];unfold ag;omega),List.map_append];rfl
     wide_line with[hsl,hap,hst.1]
     refine⟨trivial,_,_,rfl,hst.2,by walk_at "z",by walk_at "z",by walk_at "z",by walk_at "z",fun j hj=>by rw[if_neg hj];exact hoth j hj,?_,?_⟩
     ·rw[if_pos rfl,List.length_append,List.length_singleton];omega
     ·rw[if_pos rfl,List.map_append,hcf,htk];rfl
  ·rintro l H' ⟨L,cur',rfl,FI,l29,l115,l92,l84,hoth,hlen,hcf⟩
   rw[List.length_map] at hlen
   rw[List.length_map,←List.length_map (f:=fun x:Nat×Fi=>x.2),List.take_length,g6'] at hcf
   walk_at "e"
   refine aE ?_
   have hAe:(fy A k).length<64:=by have:=nB A k;omega
   have hle2:((aW ((fy A k).map (·.1))).map SV.int).length≤ag:=by rw[List.length_map,aW,dS,List.length_map];unfold ag;omega
   wide_line with[l29,l92,ab k1' L,ab k3 L,aH hay lma,jY (ab hA L) hAe]
   refine⟨hle2,_,_,rfl,aC _ _,?_⟩
   obtain⟨is,his⟩:∃is,aW ((fy A k).map (·.1))=is:=⟨_,rfl⟩
   have hism:∀i,i∈is↔∃x∈A,x.1=k∧(x.2.2.num:Int)=i:=fun i=>by
    rw[←his,aW,(cy _).mem_iff,fy,List.map_map,List.mem_map]
    constructor
    ·rintro⟨x,hx,rfl⟩
     obtain⟨a1,a2⟩:=List.mem_filter.mp hx
     exact⟨x,a1,by simpa using a2,rfl⟩
    ·rintro⟨x,hx,e1,rfl⟩
     exact⟨x,List.mem_filter.mpr ⟨hx,by simpa using e1⟩,rfl⟩
   have hisl:is.length≤30:=by rw[←his,aW,dS,List.length_map];have:=nB A k;omega
   have hisn:is.Nodup:=by
    rw[←his]
    refine(cy _).nodup_iff.mpr ?_
    rw[fy,List.map_map]
    have h1:((A.filter fun x=>x.1 == k).map fun x=>(x.1,x.2.2.num)).Nodup:=hAn.sublist (List.filter_sublist.map _)
    have hk1:∀x∈A.filter (fun x=>x.1 == k),x.1=k:=fun x hx=>by simpa using(List.mem_filter.mp hx).2
    revert h1 hk1
    generalize A.filter (fun x=>x.1 == k)=B
    induction B with
    |nil=>intro _ _;exact List.nodup_nil
    |cons y B ih=>
     intro h hj
     rw[List.map_cons,List.nodup_cons] at h⊢
     refine⟨fun hm=>h.1 ?_,ih h.2 (fun x hx=>hj x (List.mem_cons_of_mem _ hx))⟩
     obtain⟨z,hz,e⟩:=List.mem_map.mp hm
     have e2:z.2.2.num=y.2.2.num:=Int.ofNat.inj e
     exact List.mem_map.mpr ⟨z,hz,by rw[hj z (List.mem_cons_of_mem _ hz),hj y (List.mem_cons_self ..),e2]⟩
   rw[his]
   have hpl0:H.length+2+k<(H++L).length:=ch (FI.l k hk)
   have hcl:(cur' k).length≤30:=by have:=congrArg List.length hcf;rw[List.length_map] at this;have h2:=List.length_filter_le (ek D A k) fs;omega
   refine cw (fun i l H'=>∃M cur2,H'=H++M∧FnI H M c ord cur2∧(H++M)[(H++L).length]? =some (.list (is.map SV.int))∧l 29=some (.ref m)∧l 115=some (.ref H.length)∧l 92=some (.int k)∧l 84=some (.ref (H.length+2+k))∧(∀j,j≠k→cur2 j=cur j)∧(cur2 k).length≤30+i∧
    (∀f,f∈(cur2 k).map (·.2)↔(f∈fs∧ek D A k f=true)∨∃x∈A,x.1=k∧x.2.2=f∧(x.2.2.num:Int)∈is.take i)∧((cur2 k).map (·.2)).Pairwise (fun a b=>bef k a b=true))
    (fun i l H' ⟨M,_,e,_,h,_⟩=>e▸h) ?_ ?_ ?_
   rotate_left 2
   ·refine⟨L++[.list (is.map SV.int)],cur',by rw[List.append_assoc],FI.app _,by rw[←List.append_assoc];exact aC _ _,l29,l115,l92,l84,hoth,by omega,fun f=> ?_,?_⟩
    ·rw[hcf,List.mem_filter];simp
    ·rw[hcf];exact(hVs k fs hVk).filter _
   ·rintro i v l H' ⟨M,cur2,rfl,FI,hp,l29,l115,l92,l84,hoth,hlen,hmem,hsrt⟩ hv
    rw[List.getElem?_map] at hv
    cases hi:is[i]? with
    |none=>rw[hi] at hv;cases hv
    |some num=>
     rw[hi] at hv;cases hv
     obtain⟨x,hxA,hxk,rfl⟩:=(hism num).mp (List.mem_of_getElem? hi)
     have hil:=(List.getElem?_eq_some_iff.mp hi).1
     have htk:is.take (i+1)=is.take i++[(x.2.2.num:Int)]:=by rw[List.take_succ,hi];rfl
     have hnot:(x.2.2.num:Int)∉is.take i:=fun h=>by
      have:(is.take (i+1)).Nodup:=hisn.sublist (List.take_sublist _ _)
      rw[htk,List.nodup_append] at this
      exact this.2.2 _ h _ (List.mem_singleton.mpr rfl) rfl
     have hdis:∀f∈(cur2 k).map (·.2),f.num≠x.2.2.num:=fun f hf e=>by
      rcases(hmem f).mp hf with⟨_,hkp⟩|⟨y,hy,hyk,rfl,hyi⟩
      ·have:(k,f.num)∈A.map fun x=>(x.1,x.2.2.num):=List.mem_map.mpr ⟨x,hxA,by rw[hxk,e]⟩
       unfold ek at hkp
       rw[decide_eq_true this] at hkp;simp at hkp
      ·rw[e] at hyi;exact hnot hyi
     have hgx:=fz hAn hxA hxk
     have hxF:=(hAF x hxA).app M
     obtain⟨bfs,e1,e2,e3⟩:=hpl m b md ma c ord fl (H.length+2+k) x.2.1 k false sc sl (cur2 k) x.2.2 (H++M) (ab k1 M) (ab h1 M) (hO.app M) (FI.l k hk) (fun z hz=>(FI.m k hk z hz).app M) hxF (by omega) (xq hsrt x.2.2)
     have hst:=FI.set hk bfs (fun z hz=>by
      rcases e3 z hz with h|rfl
      ·exact FI.m k hk z h
      ·exact hAF x hxA)
     rw[gm]
     wide_line with[l29,l115,l92,l84,ab k1' M,ab k3 M,aH hay lma,ab hA M,mz,hgx,e1,hst.1]
     refine⟨trivial,_,_,rfl,hst.2,?_,by walk_at "z",by walk_at "z",by walk_at "z",by walk_at "z",fun j hj=>by rw[if_neg hj];exact hoth j hj,?_,fun f=> ?_,?_⟩
     ·rw[←hst.1]
      exact ai hp (by omega) _
     ·rw[if_pos rfl]
      have:=congrArg List.length e2
      rw[List.length_map,xu,List.length_map] at this
      omega
     ·rw[if_pos rfl,e2,xw,hmem f,htk]
      constructor
      ·rintro((h|⟨y,hy,hyk,rfl,hyi⟩)|rfl)
       ·exact .inl h
       ·exact .inr ⟨y,hy,hyk,rfl,List.mem_append_left _ hyi⟩
       ·exact .inr ⟨x,hxA,hxk,rfl,List.mem_append_right _ (List.mem_singleton.mpr rfl)⟩
      ·rintro(h|⟨y,hy,hyk,rfl,hyi⟩)
       ·exact .inl (.inl h)
       ·rcases List.mem_append.mp hyi with hyi|hyi
        ·exact .inl (.inr ⟨y,hy,hyk,rfl,hyi⟩)
        ·right
         have e5:y.2.2.num=x.2.2.num:=Int.ofNat.inj (List.mem_singleton.mp hyi)
         have h5:=fz hAn hy hyk
         obtain⟨p,hp1⟩:=List.getElem?_of_mem hy
         obtain⟨q,hq1⟩:=List.getElem?_of_mem hxA
         have h6:(A.map fun x=>(x.1,x.2.2.num))[p]? =(A.map fun x=>(x.1,x.2.2.num))[q]? :=by
          rw[List.getElem?_map,List.getElem?_map,hp1,hq1];simp[hyk,hxk,e5]
         have hpl:=(List.getElem?_eq_some_iff.mp hp1).1
         have:p=q:=(List.getElem?_inj (by rw[List.length_map];exact hpl) hAn).mp h6
         subst this
         rw[hp1] at hq1;cases hq1;rfl
     ·rw[if_pos rfl,e2]
      exact qC hsrt hdis
   ·rintro l H' ⟨M,cur2,rfl,FI,hp,l29,l115,l92,l84,hoth,hlen,hmem,hsrt⟩
    rw[List.length_map,List.take_length] at hmem
    walk_at "e"
    refine⟨M,cur2,rfl,FI,l29,l115,fun j hj=>by rw[hoth j (by omega)];exact hcur j (by omega),fun j gs hj hg=> ?_⟩
    by_cases q:j=k
    ·subst q
     rw[hVk] at hg;cases hg
     refine⟨fun f=>(hmem f).trans ⟨?_,?_⟩,hsrt⟩
     ·rintro(h|⟨x,hx,e1,e2,_⟩)
      ·exact .inl h
      ·exact .inr ⟨x,hx,e1,e2⟩
     ·rintro(h|⟨x,hx,e1,e2⟩)
      ·exact .inl h
      ·exact .inr ⟨x,hx,e1,e2,(hism _).mpr ⟨x,hx,e1,rfl⟩⟩
    ·rw[hoth j q]
     exact hdone j gs (by omega) hg
 ·rintro l H' ⟨L,cur,rfl,FI,l29,l115,hcur,hdone⟩
  obtain⟨V',hV'⟩:∃V',(List.range c).map (fun j=>(cur j).map (·.2))=V':=⟨_,rfl⟩
  have hVl':V'.length=c:=by rw[←hV'];simp
  have hVj:∀(j:Nat) (fs':List Fi),V'[j]? =some fs'→j<c∧fs'=(cur j).map (·.2):=fun j fs' h=>by
   have hj:=(List.getElem?_eq_some_iff.mp h).1
   rw[hVl'] at hj
   rw[←hV',List.getElem?_map,List.getElem?_range hj] at h
   exact⟨hj,(Option.some.inj h).symm⟩
  have hVA:∀M,aI (H++L++M) H.length V' (.tup [.int 0,.int 1]) (.int (-1)):=fun M=>by
   refine aI.app ?_ M
   refine⟨ord,H.length+1,(List.range c).map fun j=>H.length+2+j,by rw[hVl'];exact FI.v,hO.app L,by rw[FI.f,iG,List.map_map];rfl,?_⟩
   rw[←hV']
   have:∀(js:List Nat),(∀j∈js,j<c)→A2 (be (H++L)) (js.map fun j=>H.length+2+j) (js.map fun j=>(cur j).map (·.2)):=fun js=>by
    induction js with
    |nil=>intro _;exact trivial
    |cons j js ih=>intro h;exact⟨be.of (FI.l j (h j (List.mem_cons_self ..))) (fun x hx=>(FI.m j (h j (List.mem_cons_self ..)) x hx).app L),ih fun i hi=>h i (List.mem_cons_of_mem _ hi)⟩
   exact this _ fun j hj=>List.mem_range.mp hj
  have hFO:fE V D A V':=by
   refine⟨by rw[hVl',hVc],fun j fs fs' hj hj'=> ?_,fun j fs' hj'=> ?_⟩
   ·obtain⟨h1,rfl⟩:=hVj j fs' hj'
    exact(hdone j fs h1 hj).1
   ·obtain⟨h1,rfl⟩:=hVj j fs' hj'
    have h2:j<V.length:=by omega
    exact(hdone j _ h1 (List.getElem?_eq_getElem h2)).2
  have hG:=hgood V' hFO
  have hVA0:=hVA []
  rw[List.append_nil] at hVA0
  obtain⟨L2,e⟩:=hck H.length V' _ _ (H++L) hVA0 (by omega) hG.few hG.nod hG.ok
  have hve:=FI.v
  simp only[b9] at hve
  wide_line with[l29,l115,hve,e]
  exact⟨trivial,L++L2,_,V',rfl,by rw[List.append_assoc],by rw[←List.append_assoc];exact hVA L2,hFO,Nat.le_refl _⟩
theorem jR (t:Loc→Hp→R Bool) (b:fv) (l:Loc) (H:Hp) (Q:Fl×Loc→Hp→Prop):W (cx t b l H) Q=W (t l H) fun c H₁=>if c then W (b l H₁) (dN (fun l' H'=>W (cx t b l' H') Q) Q) else Q (.next,l) H₁:=by
 rw[ib,aq]
 congr 1;funext c H₁
 cases c
 ·rfl
 ·simp only[if_true,aq]
  congr 1;funext q H₂
  obtain⟨f,l'⟩:=q
  cases f<;>rfl
structure Opt where
 cnt:Nat
 l0:Nat
 bb:Nat
 lf:Nat
 mf:Nat
 ef:Nat
structure Opt.Ok (o:Opt):Prop where
 cnt:o.cnt=3∨o.cnt=4
 l0:1≤o.l0∧o.l0≤2
 bb:1≤o.bb∧o.bb≤6
 lf:1≤o.lf∧o.lf≤2
 mf:1≤o.mf∧o.mf≤3
 ef:1≤o.ef∧o.ef≤9
def cY (H:Hp) (op:Nat) (o:Opt):Prop:=H[op]? =some (aK o.cnt o.l0 o.bb o.lf o.mf o.ef 1)
def cW (o:Opt) (j:Nat):Nat:=if j=0 then o.l0 else o.bb*o.lf ^ (j - 1)
def dU (V:List (List Fi)) (j:Nat):Nat:=if j=0 then(V.getD 0 []).length else szs (V.getD j [])
def qd (Γ:FT):Prop:=∀(op lev:Nat) (o:Opt) (H:Hp),cY H op o→o.Ok→lev=1∨lev=2→aw (Γ 631) [.ref op,.int lev] H= .ok (.int (cW o lev)) H
theorem zD (n:Nat):qd (Gam (n+1)):=by
 intro op lev o H ho hk hl
 refine cr ?_
 show W (aj TT (Gam n) df dj _ _) _
 wrow_hasAny dj df
 have h1:H[op]? =some _:=ho
 simp only[aK] at h1
 have hb:=hk.bb
 have hf:=hk.lf
 rcases hl with rfl|rfl
 ·wide_line with[h1]
  rw[jR]
  wide_line with[h1]
  rw[if_neg (by decide)]
  refine⟨?_,trivial⟩
  simp[cW]
 ·wide_line with[h1]
  rw[jR]
  wide_line with[h1]
  rw[if_pos (by decide)]
  refine⟨dt (by omega) (by omega),?_⟩
  rw[jR]
  wide_line with[h1]
  rw[if_neg (by decide)]
  refine⟨?_,trivial⟩
  simp[cW]
structure jZ (V:List (List Fi)) (o:Opt) (k bt bo bl:Nat):Prop where
 lt:bl<k
 top:bt=dU V bl
 bot:bo=cW o bl
 max:∀j,j<k→dU V j*bo≤bt*cW o j
theorem nF {o:Opt} (h:o.Ok) (j:Nat):1≤cW o j:=by
 unfold cW
 split
 ·exact h.l0.1
 ·exact Nat.mul_pos h.bb.1 (Nat.pow_pos h.lf.1)
theorem jZ.step {V:List (List Fi)} {o:Opt} {k bt bo bl:Nat} (hk:o.Ok) (b:jZ V o k bt bo bl) (h:bt*cW o k<dU V k*bo):jZ V o (k+1) (dU V k) (cW o k) k:=by
 refine⟨Nat.lt_succ_self k,rfl,rfl,fun j hj=> ?_⟩
 by_cases c:j=k
 ·subst c;exact Nat.le_refl _
 ·have hjk:j<k:=by omega
  have h1:=b.max j hjk
  have hbo:0<bo:=by rw[b.bot];exact nF hk _
  refine Nat.le_of_mul_le_mul_right ?_ hbo
  calc dU V j*cW o k*bo=dU V j*bo*cW o k:=by rw[Nat.mul_right_comm]
   _≤bt*cW o j*cW o k:=Nat.mul_le_mul_right _ h1
   _=bt*cW o k*cW o j:=by rw[Nat.mul_right_comm]
   _≤dU V k*bo*cW o j:=Nat.mul_le_mul_right _ (Nat.le_of_lt h)
   _=dU V k*cW o j*bo:=by rw[Nat.mul_right_comm]
theorem jZ.stay {V:List (List Fi)} {o:Opt} {k bt bo bl:Nat} (b:jZ V o k bt bo bl) (h:dU V k*bo≤bt*cW o k):jZ V o (k+1) bt bo bl:=by
 refine⟨Nat.lt_succ_of_lt b.lt,b.top,b.bot,fun j hj=> ?_⟩
 by_cases c:j=k
 ·subst c;exact h
 ·exact b.max j (by omega)
def nv (Γ:FT):Prop:=∀(v op:Nat) (V:List (List Fi)) (sc sl:SV) (o:Opt) (H:Hp),aI H v V sc sl→cY H op o→o.Ok→V.length=o.cnt→(∀fs∈V,fs.length≤100∧szs fs≤1000)→
 ∃bt bo bl ord fl,jZ V o (o.cnt - 1) bt bo bl∧H[v]? =some (b9 V.length ord fl sc sl)∧aw (Γ 638) [.ref v,.ref op] H= .ok (.tup [.int bt,.int bo]) (H.set v (b9 V.length ord fl (.tup [.int bt,.int bo]) (.int bl)))
theorem wV (n:Nat) (hoc:kS (Gam n)) (hmx:qd (Gam n)):nv (Gam (n+1)):=by
 intro v op V sc sl o H hv hop hk hVl hfs
 have hvH:=hv
 obtain⟨ord,fl,ls,h1,hO,h3,h4⟩:=hv
 have hc:=hk.cnt
 have hl0:=hk.l0
 have h0V:0<V.length:=by omega
 have hV0:=List.getElem?_eq_getElem h0V
 generalize V[0]=fs0 at hV0
 obtain⟨r0,hr0,hfs0⟩:=A2.get' h4 hV0
 obtain⟨afs,g1,g2,_⟩:=hfs0.pairs
 have hf0:=(hfs fs0 (List.mem_of_getElem? hV0)).1
 have hal:afs.length=fs0.length:=by rw[←g2,List.length_map]
 have ham:afs.length≤ag:=by unfold ag;omega
 have lls:ls.length≤ag:=by rw[h4.len];unfold ag;omega
 have ho1:H[op]? =some _:=hop
 simp only[aK] at ho1
 have i0:ck (some (.list (ls.map SV.ref))) 0=some (.ref r0):=aH (j:=0) hr0 lls
 have hcm:((o.cnt:Int) - 1)=((o.cnt - 1:Nat):Int):=by omega
 suffices h:W (aw (Gam (n+1) 638) [.ref v,.ref op] H) fun x H'=>∃bt bo bl:Nat,jZ V o (o.cnt - 1) bt bo bl∧x= .tup [.int bt,.int bo]∧H'=H.set v (b9 V.length ord fl (.tup [.int bt,.int bo]) (.int bl)) by
  revert h
  cases aw (Gam (n+1) 638) [.ref v,.ref op] H with
  |ok x H'=>
   rintro⟨bt,bo,bl,hb,rfl,rfl⟩
   exact⟨bt,bo,bl,ord,fl,hb,h1,rfl⟩
  |exc H'=>exact fun h=>h.elim
  |fail=>exact fun h=>h.elim
 show W (aj TT (Gam n) gj gB [.ref v,.ref op] H) _
 wrow_hasAny gB gj
 wide_line with[h1,h3,bh (f:=SV.ref) lls]
 rw[if_neg (by rw[h4.len];omega)]
 wide_line with[h1,h3,i0,g1,bh ham,ho1,hcm,nZ (show o.cnt - 1≤1000 by omega)]
 have ht0:dU V 0=fs0.length:=by simp[dU,List.getD,hV0]
 refine c8 1 (o.cnt - 1) (fun k l H'=>H'=H∧l 119=some (.ref v)∧l 70=some (.ref op)∧∃bt bo bl:Nat,l 136=some (.int bt)∧l 135=some (.int bo)∧l 134=some (.int bl)∧bt≤1000∧bo≤12∧jZ V o k bt bo bl) ?_ ?_ (by omega) ?_
 rotate_left 2
 ·refine⟨rfl,rfl,rfl,afs.length,o.l0,0,rfl,rfl,rfl,by omega,by omega,Nat.lt_succ_self 0,by rw[ht0,hal],rfl,fun j hj=> ?_⟩
  have:j=0:=by omega
  subst this
  rw[ht0,hal];exact Nat.le_refl _
 ·rintro k l H' hk1 hk2 ⟨rfl,l119,l70,bt,bo,bl,l136,l135,l134,hbt,hbo,hB⟩
  have hkV:k<V.length:=by omega
  have hVk:=List.getElem?_eq_getElem hkV
  generalize V[k]=fs at hVk
  have htk:dU V k=szs fs:=by simp[dU,List.getD,hVk,show k≠0 by omega]
  have hsz:=(hfs fs (List.mem_of_getElem? hVk)).2
  have hbk:cW o k≤12:=by
   have hb:=hk.bb
   have hf:=hk.lf
   have:k=1∨k=2:=by omega
   rcases this with rfl|rfl
   ·simp[cW];omega
   ·simp only[cW]
    rw[if_neg (by decide)]
    have h2:o.bb*o.lf ^ (2 - 1)≤6*2:=by
     rw[Nat.pow_one];exact Nat.mul_le_mul hb.2 hf.2
    omega
  wide_line with[l119,l70,l136,l135,l134,h1,hoc v V sc sl k fs H' hvH (show V.length≤ag by unfold ag;omega) hVk,hmx op k o H' hop hk (by omega)]
  refine⟨dt (by omega) (by omega),dt (by omega) (by omega),?_⟩
  by_cases c:(bt:Int)*(cW o k:Int)<(szs fs:Int)*(bo:Int)
  ·rw[if_pos c]
   have c':bt*cW o k<dU V k*bo:=by rw[htk];exact_mod_cast c
   exact⟨by walk_at "z",by walk_at "z",by walk_at "z",szs fs,cW o k,k,rfl,rfl,rfl,hsz,hbk,by rw[←htk];exact hB.step hk c'⟩
  ·rw[if_neg c]
   have c':¬bt*cW o k<dU V k*bo:=by rw[htk];exact_mod_cast c
   exact⟨by walk_at "z",by walk_at "z",by walk_at "z",bt,bo,bl,by walk_at "z",by walk_at "z",by walk_at "z",hbt,hbo,hB.stay (by omega)⟩
 ·rintro l H' ⟨rfl,l119,l70,bt,bo,bl,l136,l135,l134,hbt,hbo,hB⟩
  have e1:∀o2:SO,(H'.set v o2)[v]? =some o2:=fun o2=>a5 o2 h1
  simp only[b9] at h1
  wide_line with[l119,l70,l136,l135,l134,h1,gk,e1,List.length_cons,List.length_nil,Nat.reduceAdd,Nat.reduceLeDiff,List.set_set]
  exact⟨⟨by rfl,show 2≤ag by decide⟩,bt,bo,bl,hB,by walk_at "z",by walk_at "z"⟩
theorem aI.score {H:Hp} {v:Nat} {V:List (List Fi)} {sc sl:SV} (h:aI H v V sc sl) {ord fl:Nat} {sc0 sl0:SV} (h1:H[v]? =some (b9 V.length ord fl sc0 sl0)) (sc' sl':SV):aI (H.set v (b9 V.length ord fl sc' sl')) v V sc' sl':=by
 obtain⟨ord',fl',ls,g1,hO,h3,h4⟩:=h
 rw[h1] at g1
 have e1:ord=ord'∧fl=fl':=by
  simp only[b9] at g1
  injection g1 with g1
  injection g1 with _ g1
  simp at g1
  exact⟨g1.1,g1.2.1⟩
 obtain⟨rfl,rfl⟩:=e1
 have P:Pr (fun i=>i=v) H (H.set v (b9 V.length ord fl sc' sl')):=Pr.set _ _ rfl
 have ne:∀{i:Nat} {o:SO},H[i]? =some o→(∀f,o≠.inst 494 f)→i≠v:=fun h ho e=>by
  rw[e,h1] at h
  cases h
  exact ho _ rfl
 refine⟨ord,fl,ls,a5 _ h1,hO.keep P (fun i C fs hi hC=>ne hi (fun f e=> ?_)),P.get h3 (ne h3 fun f e=>by cases e),h4.imp fun n fs ⟨as,a1,a2⟩=>⟨as,P.get a1 (ne a1 fun f e=>by cases e),a2.imp fun a f hf=>P.get hf (ne hf fun f e=>by cases e)⟩⟩
 rcases hC with rfl|rfl<;>(injection e with e1 _;exact absurd e1 (by decide))
theorem aI.order {H:Hp} {v:Nat} {V:List (List Fi)} {sc sl:SV} (h:aI H v V sc sl):∃ord fl,H[v]? =some (b9 V.length ord fl sc sl):=by
 obtain⟨ord,fl,_,h1,_⟩:=h
 exact⟨ord,fl,h1⟩
def jy (Γ:FT):Prop:=∀(b e op:Nat) (sc sl:SV) (V:List (List Fi)) (D:List Del) (A:List Add) (o:Opt) (H:Hp),aI H b V sc sl→V.length=o.cnt→o.Ok→cY H op o→iI H e D A→
 (∀x∈D,x.1<o.cnt)→(∀x∈A,x.1<o.cnt)→D.Nodup→(A.map fun x=>(x.1,x.2.2.num)).Nodup→(∀x∈A,(x.1,x.2.2.num)∉D)→D.length≤30→A.length≤30→(∀fs∈V,fs.length≤30)→
 (∀(j:Nat) (fs:List Fi),V[j]? =some fs→fs.Pairwise (fun a b=>bef j a b=true))→(∀V',fE V D A V'→td V'∧∀fs∈V',fs.length≤100∧szs fs≤1000)→
 ∃L v' V' bt bo bl,aw (Γ 722) [.ref b,.ref e,.ref op] H= .ok (.ref v') (H++L)∧aI (H++L) v' V' (.tup [.int (bt:Nat),.int (bo:Nat)]) (.int (bl:Nat))∧fE V D A V'∧jZ V' o (o.cnt - 1) bt bo bl∧H.length≤v'
theorem iI.app {H:Hp} {e:Nat} {D:List Del} {A:List Add} (h:iI H e D A) (L:Hp):iI (H++L) e D A:=by
 obtain⟨cp,dl,ad,h1,h2,h3,h4⟩:=h
 exact⟨cp,dl,ad,ab h1 L,ab h2 L,ab h3 L,fun x hx=>(h4 x hx).app L⟩
theorem zB (n:Nat) (hmk:jz (Gam n)) (hap:mZ (Gam n)) (hfi:gT (Gam n)) (hsc:nv (Gam n)):jy (Gam (n+1)):=by
 intro b e op sc sl V D A o H hV hVl hk hop hE hD hA hDn hAn hDA hDl hAl hVf hVs hgood
 obtain⟨ord,fl,ls,h1,hO,h3,h4⟩:=hV
 have hVH:aI H b V sc sl:=⟨ord,fl,ls,h1,hO,h3,h4⟩
 rw[hVl] at h1
 obtain⟨da,aa,L0,e0,hL0,hL0d,hda,haa,hnd,hrg⟩:=hmk o.cnt b ord fl sc sl H hk.cnt h1
 obtain⟨L1,hL1⟩:∃L1,er b (H.length+1) (H.length+2) false:: .list (da.map SV.ref):: .list (aa.map SV.ref)::L0=L1:=⟨_,rfl⟩
 rw[hL1] at e0
 have g0:(H++L1)[H.length]? =some (er b (H.length+1) (H.length+2) false):=by rw[gt0,←hL1];rfl
 have g1:(H++L1)[H.length+1]? =some (.list (da.map SV.ref)):=by rw[gtk,←hL1];rfl
 have g2:(H++L1)[H.length+2]? =some (.list (aa.map SV.ref)):=by rw[gtk,←hL1];rfl
 have gd:∀x∈da++aa,(H++L1)[x]? =some (.dict []):=fun x hx=>by
  obtain⟨r1,r2⟩:=hrg x hx
  obtain⟨k,rfl⟩:∃k,x=H.length+(3+k):=⟨x - H.length - 3,by omega⟩
  have hkl:k<L0.length:=by omega
  have he:=List.getElem?_eq_getElem hkl
  have hd:=hL0d _ (List.getElem_mem hkl)
  rw[gtk,←hL1]
  have:3+k=k+1+1+1:=by omega
  rw[this,List.getElem?_cons_succ,List.getElem?_cons_succ,List.getElem?_cons_succ,he,hd]
 have I:gG (H++L1) H.length b o.cnt da aa (fun _=>[]) (fun _=>[]):=
  ⟨⟨_,_,g0,g1,g2⟩,hda,haa,hnd,fun j x hx=>gd x (List.mem_append_left _ (List.mem_of_getElem? hx)),fun j x hx=>gd x (List.mem_append_right _ (List.mem_of_getElem? hx))⟩
 have hc8:o.cnt≤8:=by have:=hk.cnt;omega
 obtain⟨H2,e2,P2,I2⟩:=hap H.length b o.cnt ord fl e sc sl da aa D A (H++L1) I (ab h1 L1) hc8 (hE.app L1) hD hA hDn hAn hDA (by omega) (by omega)
 have hoffH:∀i,i<H.length→i∉da++aa:=fun i hi hm=>by have:=(hrg i hm).1;omega
 obtain⟨L2,rfl⟩:∃L2,H2=H++L2:=by
  have P:Pr (fun i=>i∈da++aa) H H2:=(Pr.app _ H L1).trans P2
  exact P.pre hoffH
 have hAF:∀x∈A,IsF (H++L2) x.2.1 x.2.2:=fun x hx=>by
  obtain⟨_,_,_,_,_,_,h⟩:=hE
  exact(h x hx).app L2
 obtain⟨L3,v',V',e3,hV',hF,hvl⟩:=hfi H.length b o.cnt sc sl da aa V D A (H++L2) I2 (hVH.app L2) hVl hk.cnt hAF hAn hAl hVf hVs (fun V' h=>(hgood V' h).1)
 have hop3:cY (H++L2++L3) op o:=ab (ab hop L2) L3
 obtain⟨bt,bo,bl,ord',fl',hB,gv,e4⟩:=hsc v' op V' _ _ o (H++L2++L3) hV' hop3 hk (by rw[hF.len,hVl]) (hgood V' hF).2
 have hset:(H++L2++L3).set v' (b9 V'.length ord' fl' (.tup [.int bt,.int bo]) (.int bl))=H++(L2++L3).set (v' - H.length) (b9 V'.length ord' fl' (.tup [.int bt,.int bo]) (.int bl)):=by
  rw[List.append_assoc,dw]
  rw[List.length_append] at hvl;omega
 have hfin:=hV'.score gv (.tup [.int bt,.int bo]) (.int bl)
 rw[hset] at hfin e4
 refine⟨_,v',V',bt,bo,bl,cr ?_,hfin,hF,hB,by rw[List.length_append] at hvl;omega⟩
 show W (aj TT (Gam n) ge gy _ _) _
 wrow_hasAny gy ge
 have I0:=I.mkr
 simp only[er] at g0
 have gm2:∃md ma,(H++L2)[H.length]? =some (er b md ma false):=by
  obtain⟨md,ma,h,_⟩:=I2.mkr;exact⟨md,ma,h⟩
 obtain⟨md,ma,gm2⟩:=gm2
 simp only[er] at gm2
 wide_line with[e0,g0,e2,gm2,e3,e4]
 walk_at "q"
structure CA where
 ord:Nat
 us:Nat
 inp:Nat
 gr:Nat
 pl:Nat
 i0:Nat
 i1:Nat
def bT (ps:List Nat):List SV:=ps.map fun p:Nat=> .int (p:Int)
structure aB (H:Hp) (c lev v op ed:Nat) (a:CA) (in0 in1 G:List Fi) (ga:Nat) (go:Int) (sk:Bool) (ps:List Nat):Prop where
 c:H[c]? =some (aA lev v op a.ord a.us a.inp a.gr ed ga go sk a.pl)
 ord:cU H a.ord
 us:H[a.us]? =some (.inst 218 [])
 inp:H[a.inp]? =some (.list [.ref a.i0,.ref a.i1])
 f0:be H a.i0 in0
 f1:be H a.i1 in1
 g:be H a.gr G
 p:H[a.pl]? =some (.list (bT ps))
theorem aB.app {H:Hp} {c lev v op ed:Nat} {a:CA} {in0 in1 G:List Fi} {ga:Nat} {go:Int} {sk:Bool} {ps:List Nat} (x:aB H c lev v op ed a in0 in1 G ga go sk ps) (L:Hp):aB (H++L) c lev v op ed a in0 in1 G ga go sk ps:=
 ⟨ab x.c L,x.ord.app L,ab x.us L,ab x.inp L,x.f0.app L,x.f1.app L,x.g.app L,ab x.p L⟩
def nb (Γ:FT):Prop:=∀(c lev v op ed:Nat) (a:CA) (in0 in1 G:List Fi) (ga:Nat) (go:Int) (sk:Bool) (ps:List Nat) (o:Opt) (H:Hp),H[c]? =some (aA lev v op a.ord a.us a.inp a.gr ed ga go sk a.pl)→cY H op o→aw (Γ 589) [.ref c] H= .ok (.int (o.mf:Int)) H
theorem zz (n:Nat):nb (Gam (n+1)):=by
 intro c lev v op ed a in0 in1 G ga go sk ps o H hc ho
 refine cr ?_
 show W (aj TT (Gam n) bv bz _ _) _
 wrow_hasAny bz bv
 have h1:H[op]? =some _:=ho
 simp only[aK] at h1
 simp only[aA] at hc
 wide_line with[hc,h1]
 refine⟨by decide,?_,trivial⟩
 simp
def qg (Γ:FT):Prop:=∀(c lev v op ed:Nat) (a:CA) (in0 in1 G:List Fi) (ga:Nat) (go:Int) (sk:Bool) (ps:List Nat) (o:Opt) (H:Hp),aB H c lev v op ed a in0 in1 G ga go sk ps→cY H op o→in0.length≤100→in1.length≤100→
 ∃b,aw (Γ 596) [.ref c] H= .ok (.bool b) H∧(b=true→in0.length=1∧in1.length=0)
theorem be.lenO {H:Hp} {n:Nat} {fs:List Fi} (h:be H n fs) (hl:fs.length≤100):Mine.lenO H[n]? =some (fs.length:Int):=by
 obtain⟨as,h1,h2⟩:=h
 rw[h1,bh (by rw[h2.len];unfold ag;omega),h2.len]
theorem W_exb {r:R SV} {H:Hp} {P:Bool→Prop} (h:W r fun x H'=>∃b,x= .bool b∧H'=H∧P b):∃b,r= .ok (.bool b) H∧P b:=by
 cases r with
 |ok x H'=>obtain⟨b,rfl,rfl,h⟩:=h;exact⟨b,rfl,h⟩
 |exc H=>exact h.elim
 |fail=>exact h.elim
theorem zN (n:Nat) (ht:ky (Gam n)) (hg:nb (Gam n)):qg (Gam (n+1)):=by
 intro c lev v op ed a in0 in1 G ga go sk ps o H hc ho h0 h1
 have hg1:=hg c lev v op ed a in0 in1 G ga go sk ps o H hc.c ho
 have hcc:=hc.c
 simp only[aA] at hcc
 refine W_exb ?_
 show W (aj TT (Gam n) bU bY _ _) _
 wrow_hasAny bY bU
 have i0:ck (some (.list [.ref a.i0,.ref a.i1])) 0=some (.ref a.i0):=aG (j:=0) rfl (show 2≤ag by decide)
 have i1:ck (some (.list [.ref a.i0,.ref a.i1])) 1=some (.ref a.i1):=aG (j:=1) rfl (show 2≤ag by decide)
 wide_line with[hcc,hc.inp,i0,i1,hc.f0.lenO h0,hc.f1.lenO h1]
 by_cases c0:(in0.length:Int)=1
 ·rw[if_neg (by simpa using c0)]
  by_cases c1:(in1.length:Int)=0
  ·rw[if_neg (by simpa using c1)]
   wide_line with[hcc,ht a.gr G H hc.g,hg1]
   exact⟨_,rfl,trivial,fun _=>⟨by omega,by omega⟩⟩
  ·rw[if_pos c1]
   exact⟨false,rfl,trivial,fun h=>by cases h⟩
 ·rw[if_pos c0]
  exact⟨false,rfl,trivial,fun h=>by cases h⟩
theorem aB.turn {H:Hp} {c lev v op ed:Nat} {a:CA} {in0 in1 G:List Fi} {ga:Nat} {go:Int} {sk:Bool} {ps:List Nat} (x:aB H c lev v op ed a in0 in1 G ga go sk ps) (ga':Nat) (go':Int) (sk':Bool):
 aB (H.set c (aA lev v op a.ord a.us a.inp a.gr ed ga' go' sk' a.pl)) c lev v op ed a in0 in1 G ga' go' sk' ps:=by
 have P:Pr (fun i=>i=c) H (H.set c (aA lev v op a.ord a.us a.inp a.gr ed ga' go' sk' a.pl)):=Pr.set _ _ rfl
 have ne:∀{i:Nat} {o:SO},H[i]? =some o→(∀f,o≠.inst 620 f)→i≠c:=fun h ho e=>by
  rw[e,x.c] at h
  cases h
  exact ho _ rfl
 have om:r7 H (fun i=>i=c):=fun i f h=>ne h fun f e=>by injection e with e1 _;exact absurd e1 (by decide)
 exact⟨a5 _ x.c,x.ord.keep P (fun i C fs hi hC=>ne hi (fun f e=>by rcases hC with rfl|rfl<;>(injection e with e1 _;exact absurd e1 (by decide)))),P.get x.us (ne x.us fun f e=>by injection e with e1 _;exact absurd e1 (by decide)),P.get x.inp (ne x.inp fun f e=>by cases e),
  x.f0.keep P om (by obtain⟨as,h,_⟩:=x.f0;exact ne h fun f e=>by cases e),x.f1.keep P om (by obtain⟨as,h,_⟩:=x.f1;exact ne h fun f e=>by cases e),x.g.keep P om (by obtain⟨as,h,_⟩:=x.g;exact ne h fun f e=>by cases e),P.get x.p (ne x.p fun f e=>by cases e)⟩
theorem cY.setc {H:Hp} {c op:Nat} {o:Opt} {f f':List (Nat×SV)} (h:cY H op o) (hc:H[c]? =some (.inst 620 f)):cY (H.set c (.inst 620 f')) op o:=by
 have h1:H[op]? =some _:=h
 refine ai h1 (fun e=> ?_) _
 subst e
 rw[hc] at h1
 simp only[aK] at h1
 injection h1 with h1
 injection h1 with h1 _
 exact absurd h1 (by decide)
def qf (Γ:FT):Prop:=∀(c lev v op ed:Nat) (a:CA) (in0 in1 G:List Fi) (ga:Nat) (go:Int) (sk:Bool) (ps:List Nat) (e:En) (o:Opt) (H:Hp),aB H c lev v op ed a in0 in1 G ga go sk ps→cY H op o→G.length≤100→ga≤G.length→
 ∃(b:Bool) (ga':Nat) (go':Int),aw (Γ 603) [.ref c,.bytes (ik e)] H= .ok (.bool b) (H.set c (aA lev v op a.ord a.us a.inp a.gr ed ga' go' true a.pl))∧ga'≤G.length
theorem zL (n:Nat) (hc:jS (Gam n)) (hg:nb (Gam n)):qf (Gam (n+1)):=by
 intro c lev v op ed a in0 in1 G ga go sk ps e o H hC ho hGl hga
 suffices h:W (aw (Gam (n+1) 603) [.ref c,.bytes (ik e)] H) fun x H'=>∃(b:Bool) (ga':Nat) (go':Int),x= .bool b∧H'=H.set c (aA lev v op a.ord a.us a.inp a.gr ed ga' go' true a.pl)∧ga'≤G.length by
  revert h
  cases aw (Gam (n+1) 603) [.ref c,.bytes (ik e)] H with
  |ok x H'=>
   rintro⟨b,ga',go',rfl,rfl,h⟩
   exact⟨b,ga',go',rfl,h⟩
  |exc H'=>exact fun h=>h.elim
  |fail=>exact fun h=>h.elim
 show W (aj TT (Gam n) bw bA _ _) _
 wrow_hasAny bA bw
 have hHc:∀o',(H.set c o')[c]? =some o':=fun o'=>a5 o' hC.c
 walk_at "e"
 refine W.mono (Q:=fun q H'=>∃(l:Loc) (ga:Nat) (go:Int),q=(.next,l)∧H'=H.set c (aA lev v op a.ord a.us a.inp a.gr ed ga go sk a.pl)∧l 29=some (.ref c)∧ga≤G.length) (iz (fun k l H'=>∃(ga:Nat) (go:Int),H'=H.set c (aA lev v op a.ord a.us a.inp a.gr ed ga go sk a.pl)∧l 29=some (.ref c)∧l 65=some (.bytes (ik e))∧ga≤G.length∧k=G.length - ga) ?_ (G.length - ga) _ _ ?_) ?_
 rotate_left 1
 ·refine⟨ga,go,?_,rfl,rfl,hga,rfl⟩
  obtain⟨hl,he⟩:=List.getElem?_eq_some_iff.mp hC.c
  rw[←he];exact(List.set_getElem_self hl).symm
 ·rintro q H' ⟨l,ga,go,rfl,rfl,l29,hga⟩
  have hg1:∀(ga':Nat) (go':Int) (sk':Bool),aw (Gam n 589) [.ref c] (H.set c (aA lev v op a.ord a.us a.inp a.gr ed ga' go' sk' a.pl))= .ok (.int (o.mf:Int)) (H.set c (aA lev v op a.ord a.us a.inp a.gr ed ga' go' sk' a.pl)):=fun ga' go' sk'=>
   hg c lev v op ed a in0 in1 G ga' go' sk' ps o _ (hC.turn ga' go' sk').c (ho.setc hC.c)
  simp only[aA] at hg1
  wide_line with[aA,l29,hHc,gk,List.length_cons,List.length_nil,Nat.reduceAdd,Nat.reduceLeDiff,List.set_set,hg1]
  by_cases cg:(o.mf:Int)<go
  ·rw[if_pos cg]
   exact⟨true,ga,0,rfl,rfl,hga⟩
  ·rw[if_neg cg]
   exact⟨false,ga,go,rfl,rfl,hga⟩
 rintro k l H' ⟨ga,go,rfl,l29,l65,hga,rfl⟩
 have C1:=hC.turn ga go sk
 obtain⟨K,hK⟩:∃K,H.set c (aA lev v op a.ord a.us a.inp a.gr ed ga go sk a.pl)=K:=⟨_,rfl⟩
 have hset:∀o',K.set c o'=H.set c o':=fun o'=>by rw[←hK,List.set_set]
 rw[hK] at C1⊢
 have hc1:=C1.c
 simp only[aA] at hc1
 obtain⟨u,ho1,ho2⟩:=C1.ord
 wide_line with[l29,l65,hc1,C1.g.lenO hGl]
 refine⟨fun hlt=> ?_,fun hlt=>⟨l,ga,go,rfl,hK.symm,l29,hga⟩⟩
 have hgl:ga<G.length:=by omega
 obtain⟨as,q1,q2⟩:=C1.g
 have hx:=List.getElem?_eq_getElem hgl
 generalize G[ga]=f at hx
 obtain⟨af,haf,hF⟩:=A2.get' q2 hx
 have hF':K[af]? =some (aT f):=hF
 wide_line with[l29,l65,hc1,q1,aH haf (by rw[q2.len];unfold ag;omega),hF',ho1,hc _ _ _ _ C1.ord]
 by_cases cc:iA e f.hi≤0
 ·rw[if_pos cc]
  exact⟨_,ga,go,rfl,hK.symm,l29,hga⟩
 ·rw[if_neg cc]
  have hg':(ga:Int)+1=((ga+1:Nat):Int):=by omega
  cases sk with
  |false=>
   wide_line with[l29,l65,hc1,hF',gk,hset,hHc,List.length_cons,List.length_nil,Nat.reduceAdd,Nat.reduceLeDiff,List.set_set,Bool.false_eq_true,if_false]
   exact⟨G.length - (ga+1),by omega,ga+1,go,by rw[hg'];rfl,by walk_at "z",by walk_at "z",by omega,rfl⟩
  |true=>
   wide_line with[l29,l65,hc1,hF',gk,hset,hHc,List.length_cons,List.length_nil,Nat.reduceAdd,Nat.reduceLeDiff,List.set_set,if_true]
   exact⟨G.length - (ga+1),by omega,ga+1,go+f.sz,by rw[hg'];rfl,by walk_at "z",by walk_at "z",by omega,rfl⟩
theorem ah {T:Tb} {Γ:FT} {s:MS} {r:MSs} {l:Loc} {H:Hp} {Q:Fl×Loc→Hp→Prop} (P:Loc→Hp→Prop) (h:W (exS T Γ s l H) fun q H'=>∃l',q=(.next,l')∧P l' H') (k:∀l' H',P l' H'→W (aM T Γ r l' H') Q):W (aM T Γ (.cons s r) l H) Q:=by
 rw[eT]
 refine h.mono fun q H' hq=> ?_
 obtain⟨l',rfl,hp⟩:=hq
 exact k l' H' hp
structure ew (V:List (List Fi)) (u:Fin 4) (ps:List Nat):Prop where
 len:ps.length=V.length
 low:∀(j:Nat) (fs:List Fi) (p:Nat),V[j]? =some fs→ps[j]? =some p→p≤fs.length∧∀(i:Nat) (f:Fi),i<p→fs[i]? =some f→f.hi.u<u
theorem ew.up {V:List (List Fi)} {u u':Fin 4} {ps:List Nat} (b:ew V u ps) (h:u≤u'):ew V u' ps:=⟨b.len,fun j fs p h1 h2=>⟨(b.low j fs p h1 h2).1,fun i f h3 h4=>Fin.lt_of_lt_of_le ((b.low j fs p h1 h2).2 i f h3 h4) h⟩⟩
theorem rQ {H:Hp} {x y:Nat} {ps ls:List Nat} (h1:H[x]? =some (.list (bT ps))) (h2:H[y]? =some (.list (ls.map SV.ref))) (hp:ps≠[]):x≠y:=fun e=>by
 subst e
 rw[h1] at h2
 cases ps with
 |nil=>exact hp rfl
 |cons p ps=>
  cases ls with
  |nil=>cases h2
  |cons q ls=>simp[bT] at h2
def on (fs:List Fi):Prop:=(∀f∈fs,f.lo.u≤f.hi.u)∧∀(i j:Nat) (f g:Fi),i<j→fs[i]? =some f→fs[j]? =some g→f.hi.u<g.lo.u
def sN (u:Fin 4) (fs:List Fi):Prop:=∀f∈fs,¬(f.lo.u≤u∧u≤f.hi.u)
def pZ (Γ:FT):Prop:=∀(c lev v op ed:Nat) (a:CA) (in0 in1 G:List Fi) (ga:Nat) (go:Int) (sk:Bool) (ps:List Nat) (V:List (List Fi)) (sc sl:SV) (u:Fin 4) (o:Opt) (H:Hp),aB H c lev v op ed a in0 in1 G ga go sk ps→aI H v V sc sl→cY H op o→V.length=o.cnt→o.Ok→ew V u ps→
 (∀fs∈V,fs.length≤100)→(∀(j:Nat) (fs:List Fi),1≤j→V[j]? =some fs→on fs)→lev+2≤o.cnt→
 ∃(b:Bool) (ps':List Nat),aw (Γ 610) [.ref c,.bytes (usr u)] H= .ok (.bool b) (H.set a.pl (.list (bT ps')))∧ew V u ps'∧(b=true→∀(j:Nat) (fs:List Fi),lev+2≤j→V[j]? =some fs→sN u fs)
theorem nL {ps:List Nat} {j p:Nat} (h:ps[j]? =some p) (hl:ps.length≤100):ck (some (.list (bT ps))) (j:Int)=some (.int p):=aG (by unfold bT;rw[List.getElem?_map,h];rfl) (by unfold bT;rw[List.length_map];unfold ag;omega)
theorem vj {ps:List Nat} {j p:Nat} (h:j<ps.length) (hl:ps.length≤100):fT (some (.list (bT ps))) (j:Int) (.int (p:Int))=some (.list (bT (ps.set j p))):=by
 simp only[fT,bT,List.length_map]
 rw[if_pos ⟨by omega,by omega,by omega⟩,Int.toNat_natCast,List.map_set]
theorem ew.step {V:List (List Fi)} {u:Fin 4} {ps:List Nat} (b:ew V u ps) {k p:Nat} {fs:List Fi} {f:Fi} (hV:V[k]? =some fs) (hp:ps[k]? =some p) (hf:fs[p]? =some f) (h:f.hi.u<u):ew V u (ps.set k (p+1)):=by
 refine⟨by rw[List.length_set,b.len],fun j gs q h1 h2=> ?_⟩
 by_cases c:k=j
 ·subst c
  rw[hV] at h1;cases h1
  rw[List.getElem?_set_self (List.getElem?_eq_some_iff.mp hp).1] at h2
  cases h2
  obtain⟨b1,b2⟩:=b.low k fs p hV hp
  refine⟨(List.getElem?_eq_some_iff.mp hf).1,fun i g hi hg=> ?_⟩
  by_cases c2:i=p
  ·subst c2;rw[hf] at hg;cases hg;exact h
  ·exact b2 i g (by omega) hg
 ·rw[List.getElem?_set_ne c] at h2
  exact b.low j gs q h1 h2
theorem zu (n:Nat) (hu:cR (Gam n)) (hoc:np (Gam n)):pZ (Gam (n+1)):=by
 intro c lev v op ed a in0 in1 G ga go sk ps V sc sl u o H hC hV ho hVl hk hB hfl hap hlev
 suffices h:W (aw (Gam (n+1) 610) [.ref c,.bytes (usr u)] H) fun x H'=>∃(b:Bool) (ps':List Nat),x= .bool b∧H'=H.set a.pl (.list (bT ps'))∧ew V u ps'∧(b=true→∀(j:Nat) (fs:List Fi),lev+2≤j→V[j]? =some fs→sN u fs) by
  revert h
  cases aw (Gam (n+1) 610) [.ref c,.bytes (usr u)] H with
  |ok x H'=>
   rintro⟨b,ps',rfl,rfl,h⟩
   exact⟨b,ps',rfl,h⟩
  |exc H'=>exact fun h=>h.elim
  |fail=>exact fun h=>h.elim
 show W (aj TT (Gam n) ba bc _ _) _
 wrow_hasAny bc ba
 obtain⟨ord,fl,ls,v1,vO,v3,v4⟩:=hV
 have hcnt:=hk.cnt
 have hps:ps≠[]:=fun e=>by have:=hB.len;rw[e] at this;simp at this;omega
 have nel:∀{i:Nat} {o:SO},H[i]? =some o→(∀vs,o≠.list vs)→a.pl≠i:=fun h ho e=>by
  rw[←e,hC.p] at h;cases h;exact ho _ rfl
 have kc:∀o',(H.set a.pl o')[c]? =some (aA lev v op a.ord a.us a.inp a.gr ed ga go sk a.pl):=fun o'=>ai hC.c (nel hC.c fun _ e=>by cases e) _
 have kv:∀o',(H.set a.pl o')[v]? =some (b9 V.length ord fl sc sl):=fun o'=>ai v1 (nel v1 fun _ e=>by cases e) _
 have ho1:H[op]? =some _:=ho
 have ko:∀o',(H.set a.pl o')[op]? =some (aK o.cnt o.l0 o.bb o.lf o.mf o.ef 1):=fun o'=>ai ho1 (nel ho1 fun _ e=>by cases e) _
 have ku:∀o',(H.set a.pl o')[a.us]? =some (.inst 218 []):=fun o'=>ai hC.us (nel hC.us fun _ e=>by cases e) _
 have kf:∀o',(H.set a.pl o')[fl]? =some (.list (ls.map SV.ref)):=fun o'=>ai v3 (rQ hC.p v3 hps) _
 have kp:∀o',(H.set a.pl o')[a.pl]? =some o':=fun o'=>a5 o' hC.p
 have lls:ls.length≤ag:=by rw[v4.len];unfold ag;omega
 simp only[aA] at kc
 simp only[aK] at ko
 have hcc:=hC.c
 simp only[aA] at hcc
 simp only[aK] at ho1
 have hself:H.set a.pl (.list (bT ps))=H:=by
  obtain⟨hl,he⟩:=List.getElem?_eq_some_iff.mp hC.p
  rw[←he];exact List.set_getElem_self hl
 have hl2:((lev:Int)+2)=((lev+2:Nat):Int):=by omega
 wide_line with[hcc,ho1,hl2,lX (show lev+2≤1000 by omega) (show o.cnt≤1000 by omega)]
 refine c8 (lev+2) o.cnt (fun k l H'=>∃ps':List Nat,H'=H.set a.pl (.list (bT ps'))∧l 29=some (.ref c)∧l 20=some (.bytes (usr u))∧ew V u ps'∧∀(j:Nat) (fs:List Fi),lev+2≤j→j<k→V[j]? =some fs→sN u fs) ?_ ?_ hlev ?_
 rotate_left 2
 ·exact⟨ps,hself.symm,rfl,rfl,hB,fun j fs h1 h2=>by omega⟩
 ·rintro k l H' hk1 hk2 ⟨ps1,rfl,l29,l20,hB1,hno⟩
  have hkV:k<V.length:=by omega
  have hVk:=List.getElem?_eq_getElem hkV
  generalize V[k]=fs at hVk
  obtain⟨r,hr,hfs⟩:=A2.get' v4 hVk
  obtain⟨afs,g1,g2,g3⟩:=hfs.pairs
  have hfsl:=hfl fs (List.mem_of_getElem? hVk)
  have hal:afs.length=fs.length:=by rw[←g2,List.length_map]
  have ham:afs.length≤ag:=by unfold ag;omega
  have hap1:=hap k fs (by omega) hVk
  have g1':H[r]? =some (.list ((afs.map (·.1)).map SV.ref)):=by rw[g1,List.map_map];rfl
  have kr:∀o',(H.set a.pl o')[r]? =some (.list (afs.map fun x=>SV.ref x.1)):=fun o'=>ai g1 (rQ hC.p g1' hps) _
  refine ah (fun l' H'=>l' 84=some (.ref r)∧l' 92=some (.int k)∧H'=H.set a.pl (.list (bT ps1))∧l' 29=some (.ref c)∧l' 20=some (.bytes (usr u))) ?_ ?_
  ·wide_line with[l29,l20,kc,kv,kf,aH hr lls]
   exact⟨_,rfl,by walk_at "z",by walk_at "z",by walk_at "z",l29,l20⟩
  rintro l H' ⟨l84,l92,rfl,l29,l20⟩
  rw[eT,vh]
  have hpk:k<ps1.length:=by rw[hB1.len];exact hkV
  have hps1:=List.getElem?_eq_getElem hpk
  generalize ps1[k]=p0 at hps1
  refine iz (fun m l H'=>∃(ps2:List Nat) (p:Nat),H'=H.set a.pl (.list (bT ps2))∧l 29=some (.ref c)∧l 20=some (.bytes (usr u))∧l 84=some (.ref r)∧l 92=some (.int k)∧ew V u ps2∧ps2[k]? =some p∧m=fs.length - p) ?_ (fs.length - p0) _ _ ⟨ps1,p0,rfl,l29,l20,l84,l92,hB1,hps1,rfl⟩
  rintro m l H' ⟨ps2,p,rfl,l29,l20,l84,l92,hB2,hp,rfl⟩
  have hp2l:ps2.length≤100:=by rw[hB2.len];omega
  obtain⟨hple,hplow⟩:=hB2.low k fs p hVk hp
  wide_line with[l29,l20,l84,l92,kc,kp,kr,nL hp hp2l,bh ham]
  refine⟨fun hlt=> ?_,fun hlt=> ?_⟩
  ·have hpl:p<afs.length:=by omega
   have hx:=List.getElem?_eq_getElem hpl
   generalize afs[p]=x at hx
   have hF:=g3 x (List.mem_of_getElem? hx)
   have hF1:H[x.1]? =some (aT x.2):=hF
   have kx:∀o',(H.set a.pl o')[x.1]? =some (aT x.2):=fun o'=>ai hF1 (nel hF1 fun _ e=>by cases e) _
   have hfx:fs[p]? =some x.2:=by rw[←g2,List.getElem?_map,hx];rfl
   have hid:ck (some (.list (afs.map fun x=>SV.ref x.1))) (p:Int)=some (.ref x.1):=aG (by rw[List.getElem?_map,hx];rfl) (by rw[List.length_map];exact ham)
   wide_line with[l29,l20,l84,l92,kc,kp,kr,nL hp hp2l,hid,kx,ku,hu _ _,hoc _ _ _ _]
   have hkl:k<ps2.length:=(List.getElem?_eq_some_iff.mp hp).1
   have hle0:=hap1.1 x.2 (List.mem_of_getElem? hfx)
   by_cases c1:x.2.hi.u<u
   ·have n1:¬u<x.2.hi.u:=fun h=>absurd (Fin.lt_trans c1 h) (Fin.lt_irrefl _)
    have v1:¬((if u<x.2.hi.u then(-1:Int) else if x.2.hi.u<u then 1 else 0)≤0):=by rw[if_neg n1,if_pos c1];decide
    rw[if_neg v1]
    have hpp:(p:Int)+1=((p+1:Nat):Int):=by omega
    wide_line with[l29,l20,l84,l92,kc,kp,kr,nL hp hp2l,hpp,vj hkl hp2l,List.set_set]
    exact⟨fs.length - (p+1),by omega,ps2.set k (p+1),p+1,by walk_at "z",by walk_at "z",by walk_at "z",by walk_at "z",by walk_at "z",hB2.step hVk hp hfx c1,by rw[List.getElem?_set_self hkl],rfl⟩
   ·have v1:(if u<x.2.hi.u then(-1:Int) else if x.2.hi.u<u then 1 else 0)≤0:=by split<;>first|decide|(rw[if_neg c1];decide)
    rw[if_pos v1]
    by_cases c2:u<x.2.lo.u
    ·have v2:¬(0≤(if u<x.2.lo.u then(-1:Int) else if x.2.lo.u<u then 1 else 0)):=by rw[if_pos c2];decide
     rw[if_neg v2]
     refine⟨ps2,by walk_at "z",by walk_at "z",by walk_at "z",hB2,fun j gs h1 h2 hg=> ?_⟩
     by_cases cj:j=k
     ·subst cj
      rw[hVk] at hg;cases hg
      intro f hf hfu
      obtain⟨i,hi⟩:=List.getElem?_of_mem hf
      by_cases ci:i<p
      ·exact absurd (Fin.lt_of_le_of_lt hfu.2 (hplow i f ci hi)) (Fin.lt_irrefl _)
      ·by_cases ce:i=p
       ·subst ce;rw[hfx] at hi;cases hi
        exact absurd (Fin.lt_of_lt_of_le c2 hfu.1) (Fin.lt_irrefl _)
       ·have h5:=hap1.2 p i _ _ (by omega) hfx hi
        exact absurd (Fin.lt_of_lt_of_le (Fin.lt_trans c2 (Fin.lt_of_le_of_lt hle0 h5)) hfu.1) (Fin.lt_irrefl _)
     ·exact hno j gs h1 (by omega) hg
    ·have v2:(0≤(if u<x.2.lo.u then(-1:Int) else if x.2.lo.u<u then 1 else 0)):=by rw[if_neg c2];split<;>decide
     rw[if_pos v2]
     exact⟨false,ps2,rfl,by walk_at "z",hB2,fun h=>by cases h⟩
  ·refine⟨ps2,by walk_at "z",by walk_at "z",by walk_at "z",hB2,fun j gs h1 h2 hg=> ?_⟩
   by_cases cj:j=k
   ·subst cj
    rw[hVk] at hg;cases hg
    intro f hf hfu
    obtain⟨i,hi⟩:=List.getElem?_of_mem hf
    have hil:=(List.getElem?_eq_some_iff.mp hi).1
    exact absurd (Fin.lt_of_le_of_lt hfu.2 (hplow i f (by omega) hi)) (Fin.lt_irrefl _)
   ·exact hno j gs h1 (by omega) hg
 ·rintro l H' ⟨ps1,rfl,l29,l20,hB1,hno⟩
  wide_line with[]
  exact⟨true,ps1,by walk_at "z",by walk_at "z",hB1,fun _ j fs h1 h2=>hno j fs h1 (by have:=(List.getElem?_eq_some_iff.mp h2).1;omega) h2⟩
def cV (lev:Nat) (fs:List Fi):List Del:=fs.map fun f=>(lev,f.num)
def pY (Γ:FT):Prop:=∀(c lev v op ed cp dl ad:Nat) (a:CA) (in0 in1 G:List Fi) (ga:Nat) (go:Int) (sk:Bool) (ps:List Nat) (D:List Del) (H:Hp),aB H c lev v op ed a in0 in1 G ga go sk ps→H[ed]? =some (aY cp dl ad)→H[dl]? =some (.list (D.map cX))→
 dl≠a.inp→dl≠a.i0→dl≠a.i1→D.length≤100→in0.length≤30→in1.length≤30→
 aw (Γ 617) [.ref c] H= .ok .none (H.set dl (.list ((D++cV lev in0++cV (lev+1) in1).map cX)))
theorem zt (n:Nat):pY (Gam (n+1)):=by
 intro c lev v op ed cp dl ad a in0 in1 G ga go sk ps D H hC hed hdl n1 n2 n3 hD h0 h1
 refine cr ?_
 show W (aj TT (Gam n) bf bg _ _) _
 wrow_hasAny bg bf
 have nel:∀{i:Nat} {o:SO},H[i]? =some o→(∀vs,o≠.list vs)→dl≠i:=fun h ho e=>by
  rw[←e,hdl] at h;cases h;exact ho _ rfl
 have kc:∀o',(H.set dl o')[c]? =some (aA lev v op a.ord a.us a.inp a.gr ed ga go sk a.pl):=fun o'=>ai hC.c (nel hC.c fun _ e=>by cases e) _
 have ke:∀o',(H.set dl o')[ed]? =some (aY cp dl ad):=fun o'=>ai hed (nel hed fun _ e=>by cases e) _
 have ki:∀o',(H.set dl o')[a.inp]? =some (.list [.ref a.i0,.ref a.i1]):=fun o'=>ai hC.inp n1 _
 have kd:∀o',(H.set dl o')[dl]? =some o':=fun o'=>a5 o' hdl
 simp only[aA] at kc
 simp only[aY] at ke
 have key:∀(k r:Nat) (fs:List Fi) (D1:List Del) (l:Loc) (K:Loc→Hp→Prop),l 29=some (.ref c)→l 132=some (.int k)→ck (some (.list [.ref a.i0,.ref a.i1])) (k:Int)=some (.ref r)→be H r fs→dl≠r→D1.length≤200→fs.length≤30→
  (∀l',l' 29=some (.ref c)→K l' (H.set dl (.list ((D1++cV (lev+k) fs).map cX))))→
  ∀Q,W (exS TT (Gam n) (.forE (.one 99) (.idx (.attr (.loc 29) 127) (.loc 132)) (.cons (.ex (.meth (.attr (.attr (.loc 29) 113) 78) 5 (.cons (.tup (.cons (.bin .Add (.attr (.loc 29) 92) (.loc 132)) (.cons (.attr (.loc 99) 73) .nil))) .nil))) .nil)) l (H.set dl (.list (D1.map cX)))) (qH TT (Gam n) .nil (dN K Q)):=by
  intro k r fs D1 l K l29 l132 hix hf hne hD1 hfl hK Q
  obtain⟨as,f1,f2⟩:=hf
  have kr:∀o',(H.set dl o')[r]? =some (.list (as.map SV.ref)):=fun o'=>ai f1 hne _
  refine aE ?_
  wide_line with[l29,l132,kc,ki,hix]
  refine⟨r,_,rfl,kr _,cP f2 (fun i l H'=>H'=H.set dl (.list ((D1++cV (lev+k) (fs.take i)).map cX))∧l 29=some (.ref c)∧l 132=some (.int k)) (fun i l H' h=>h.1▸kr _) ?_ ?_ ⟨by simp[cV],l29,l132⟩⟩
  ·rintro i x f l H' ⟨rfl,l29,l132⟩ _ hfi hx
   have hfm:(H.set dl (.list ((D1++cV (lev+k) (fs.take i)).map cX)))[x]? =some (aT f):=ai (show H[x]? =some (aT f) from hx) (nel (show H[x]? =some (aT f) from hx) fun _ e=>by cases e) _
   have hlen:((D1++cV (lev+k) (fs.take i)).map cX).length<ag:=by
    simp only[List.length_map,List.length_append,cV,List.length_take]
    unfold ag;omega
   wide_line with[l29,l132,kc,ke,hfm,kd,cJ hlen,List.set_set,List.length_cons,List.length_nil,e6]
   refine⟨⟨by decide,by decide⟩,trivial,?_,by walk_at "z",by walk_at "z"⟩
   refine congrArg (fun d=>H.set dl (.list d)) ?_
   rw[List.take_add_one,hfi]
   simp[cV,cX]
  ·rintro l H' ⟨rfl,l29,l132⟩
   rw[List.take_length]
   wide_line with[]
   exact hK l l29
 have hself:H.set dl (.list (D.map cX))=H:=by
  obtain⟨hl,he⟩:=List.getElem?_eq_some_iff.mp hdl
  rw[←he];exact List.set_getElem_self hl
 wide_line with[show bH [.int 2]=some [0,1] by decide,ig]
 have i0:ck (some (.list [.ref a.i0,.ref a.i1])) ((0:Nat):Int)=some (.ref a.i0):=aG (j:=0) rfl (show 2≤ag by decide)
 have i1:ck (some (.list [.ref a.i0,.ref a.i1])) ((1:Nat):Int)=some (.ref a.i1):=aG (j:=1) rfl (show 2≤ag by decide)
 have k0:=fun K h Q=>key 0 a.i0 in0 D (upd (fun y=>if y=29 then some (SV.ref c) else none) 132 (SV.int 0)) K rfl rfl i0 hC.f0 n2 (by omega) h0 h Q
 rw[hself] at k0
 refine k0 _ (fun l' l29=> ?_) _
 refine key 1 a.i1 in1 _ _ _ (by wide_line with[l29]) (by wide_line with[];rfl) i1 hC.f1 n3 (by simp[cV];omega) h1 (fun l' l29=> ?_) _
 rw[jd]
 wide_line with[]
 exact⟨trivial,rfl⟩
def jA:Option (Fin 4)→SV
 |none=> .none
 |some u=> .bytes (usr u)
def jI:Int:=72057594037927936
def e8 (cur:Option (Fin 4)) (newer:Int) (u:Fin 4):Int:=if cur=some u then newer else jI
structure wm (lev sm:Nat) (V:List (List Fi)) (e:En) (cur:Option (Fin 4)) (newer oct:Int) (cut drop:Bool):Prop where
 cut:cut=true→0≤oct∧cur≠some e.u
 must:e8 cur newer e.u≤sm→drop=true
 may:drop=true→e8 cur newer e.u≤sm∨(e.k=0∧e.s.val≤sm∧∀(j:Nat) (fs:List Fi),lev+2≤j→V[j]? =some fs→sN e.u fs)
def ny (Γ:FT):Prop:=∀(sv c lev v op ed:Nat) (a:CA) (in0 in1 G:List Fi) (ga:Nat) (go:Int) (sk:Bool) (ps:List Nat) (V:List (List Fi)) (sc sl:SV) (e:En) (o:Opt) (sm:Nat) (cur:Option (Fin 4)) (newer oct:Int) (st:Bool) (H:Hp),
 aB H c lev v op ed a in0 in1 G ga go sk ps→aI H v V sc sl→cY H op o→V.length=o.cnt→o.Ok→ew V e.u ps→G.length≤100→ga≤G.length→(∀fs∈V,fs.length≤100)→(∀(j:Nat) (fs:List Fi),1≤j→V[j]? =some fs→on fs)→lev+2≤o.cnt→
 H[sv]? =some (cF c sm (jA cur) newer st)→
 ∃(cut drop:Bool) (ga':Nat) (go':Int) (ps':List Nat) (st':Bool) (H':Hp),aw (Γ 337) [.ref sv,.bytes (ik e),.int oct] H= .ok (.tup [.bool cut,.bool drop]) H'∧Pr (fun i=>i=c∨i=a.pl∨i=sv) H H'∧
  aB H' c lev v op ed a in0 in1 G ga' go' true ps'∧H'[sv]? =some (cF c sm (.bytes (usr e.u)) e.s.val st')∧ew V e.u ps'∧ga'≤G.length∧wm lev sm V e cur newer oct cut drop
theorem aB.setp {H:Hp} {c lev v op ed:Nat} {a:CA} {in0 in1 G:List Fi} {ga:Nat} {go:Int} {sk:Bool} {ps:List Nat} (x:aB H c lev v op ed a in0 in1 G ga go sk ps) (hps:ps≠[]) (ps':List Nat):
 aB (H.set a.pl (.list (bT ps'))) c lev v op ed a in0 in1 G ga go sk ps':=by
 have P:Pr (fun i=>i=a.pl) H (H.set a.pl (.list (bT ps'))):=Pr.set _ _ rfl
 have ne:∀{i:Nat} {o:SO},H[i]? =some o→(∀vs,o≠.list vs)→i≠a.pl:=fun h ho e=>by
  rw[e,x.p] at h;cases h;exact ho _ rfl
 have om:r7 H (fun i=>i=a.pl):=fun i f h=>ne h fun f e=>by cases e
 have nl:∀{i:Nat} {fs:List Fi},be H i fs→i≠a.pl:=fun⟨as,h,_⟩ e=>rQ x.p h hps e.symm
 exact⟨P.get x.c (ne x.c fun f e=>by cases e),x.ord.keep P (fun i C fs hi hC=>ne hi (fun f e=>by cases e)),P.get x.us (ne x.us fun f e=>by cases e),P.get x.inp (fun e=>rQ (ls:=[a.i0,a.i1]) x.p x.inp hps e.symm),
  x.f0.keep P om (nl x.f0),x.f1.keep P om (nl x.f1),x.g.keep P om (nl x.g),a5 _ x.p⟩
theorem aB.sets {H:Hp} {c lev v op ed:Nat} {a:CA} {in0 in1 G:List Fi} {ga:Nat} {go:Int} {sk:Bool} {ps:List Nat} (x:aB H c lev v op ed a in0 in1 G ga go sk ps) {sv:Nat} {f f':List (Nat×SV)} (hs:H[sv]? =some (.inst 340 f)):
 aB (H.set sv (.inst 340 f')) c lev v op ed a in0 in1 G ga go sk ps:=by
 have P:Pr (fun i=>i=sv) H (H.set sv (.inst 340 f')):=Pr.set _ _ rfl
 have ne:∀{i:Nat} {o:SO},H[i]? =some o→(∀f,o≠.inst 340 f)→i≠sv:=fun h ho e=>by
  rw[e,hs] at h;cases h;exact ho _ rfl
 have om:r7 H (fun i=>i=sv):=fun i f h=>ne h fun f e=>by injection e with e1 _;exact absurd e1 (by decide)
 have nl:∀{i:Nat} {fs:List Fi},be H i fs→i≠sv:=fun⟨as,h,_⟩=>ne h fun f e=>by cases e
 exact⟨P.get x.c (ne x.c fun f e=>by injection e with e1 _;exact absurd e1 (by decide)),x.ord.keep P (fun i C fs hi hC=>ne hi (fun f e=>by rcases hC with rfl|rfl<;>(injection e with e1 _;exact absurd e1 (by decide)))),P.get x.us (ne x.us fun f e=>by injection e with e1 _;exact absurd e1 (by decide)),P.get x.inp (ne x.inp fun f e=>by cases e),
  x.f0.keep P om (nl x.f0),x.f1.keep P om (nl x.f1),x.g.keep P om (nl x.g),P.get x.p (ne x.p fun f e=>by cases e)⟩
theorem aI.keep {S:Nat→Prop} {H H':Hp} {v:Nat} {V:List (List Fi)} {sc sl:SV} (p:Pr S H H') (hm:∀i C f,H[i]? =some (.inst C f)→C=494∨C=272∨C=218∨C=368→¬S i) (hl:∀i (ls:List Nat),H[i]? =some (.list (ls.map SV.ref))→¬S i) (h:aI H v V sc sl):aI H' v V sc sl:=by
 obtain⟨ord,fl,ls,h1,h2,h3,h4⟩:=h
 refine⟨ord,fl,ls,p.get h1 (hm _ _ _ h1 (.inl rfl)),h2.keep p (fun i C fs hi hC=>hm i C fs hi (by rcases hC with rfl|rfl;exact .inr (.inl rfl);exact .inr (.inr (.inl rfl)))),p.get h3 (hl _ _ h3),h4.imp fun x fs hx=> ?_⟩
 obtain⟨as,g1,g2⟩:=hx
 exact⟨as,p.get g1 (hl _ _ g1),g2.imp fun y f hf=>IsF.keep p (fun i f hi=>hm i 368 _ hi (.inr (.inr (.inr rfl)))) hf⟩
theorem kY {H:Hp} {c lev v op ed:Nat} {a:CA} {in0 in1 G:List Fi} {ga:Nat} {go:Int} {sk:Bool} {ps:List Nat} (x:aB H c lev v op ed a in0 in1 G ga go sk ps) (hps:ps≠[]) {sv:Nat} {f:List (Nat×SV)} (hs:H[sv]? =some (.inst 340 f)) {i:Nat} {o:SO} (hi:H[i]? =some o)
 (h1:∀f,o≠.inst 620 f) (h2:∀f,o≠.inst 340 f) (h3:o≠.list (bT ps)):¬(i=c∨i=a.pl∨i=sv):=by
 rintro(rfl|rfl|rfl)
 ·rw[x.c] at hi;cases hi;exact h1 _ rfl
 ·rw[x.p] at hi;cases hi;exact h3 rfl
 ·rw[hs] at hi;cases hi;exact h2 _ rfl
theorem aI.turn {H H':Hp} {c lev v op ed:Nat} {a:CA} {in0 in1 G:List Fi} {ga:Nat} {go:Int} {sk:Bool} {ps:List Nat} (x:aB H c lev v op ed a in0 in1 G ga go sk ps) (hps:ps≠[]) {sv:Nat} {f:List (Nat×SV)} (hs:H[sv]? =some (.inst 340 f)) (p:Pr (fun i=>i=c∨i=a.pl∨i=sv) H H') {V:List (List Fi)} {sc sl:SV} {w:Nat} (h:aI H w V sc sl):aI H' w V sc sl:=by
 refine h.keep p (fun i C f' hi hC=>kY x hps hs hi ?_ ?_ ?_) (fun i ls hi=>kY x hps hs hi ?_ ?_ ?_)
 ·intro g e;injection e with e1 _;rcases hC with rfl|rfl|rfl|rfl<;>exact absurd e1 (by decide)
 ·intro g e;injection e with e1 _;rcases hC with rfl|rfl|rfl|rfl<;>exact absurd e1 (by decide)
 ·intro e;cases e
 ·intro g e;cases e
 ·intro g e;cases e
 ·intro e
  injection e with e
  cases ps with
  |nil=>exact hps rfl
  |cons p ps=>
   cases ls with
   |nil=>cases e
   |cons q ls=>simp[bT] at e
structure TI (sv c lev v op ed:Nat) (a:CA) (in0 in1 G:List Fi) (V:List (List Fi)) (e:En) (sm:Nat) (oct:Int) (H:Hp) (cv:SV) (nw:Int) (l:Loc) (H':Hp):Prop where
 l29:l 29=some (.ref sv)
 l65:l 65=some (.bytes (ik e))
 l66:l 66=some (.int oct)
 l20:l 20=some (.bytes (usr e.u))
 l15:l 15=some (.int e.s.val)
 l16:l 16=some (.int e.k.val)
 P:Pr (fun i=>i=c∨i=a.pl∨i=sv) H H'
 x:∃(ga:Nat) (go:Int) (ps:List Nat) (st:Bool),aB H' c lev v op ed a in0 in1 G ga go true ps∧ew V e.u ps∧ga≤G.length∧H'[sv]? =some (cF c sm cv nw st)
theorem TI.loc {sv c lev v op ed:Nat} {a:CA} {in0 in1 G:List Fi} {V:List (List Fi)} {e:En} {sm:Nat} {oct:Int} {H:Hp} {cv:SV} {nw:Int} {l:Loc} {H':Hp} (t:TI sv c lev v op ed a in0 in1 G V e sm oct H cv nw l H') (k:Nat) (w:SV) (hk:k=67∨k=68):TI sv c lev v op ed a in0 in1 G V e sm oct H cv nw (upd l k w) H':=by
 have h:∀j,j≠67→j≠68→upd l k w j=l j:=fun j h1 h2=>by
  unfold upd;rw[if_neg (by omega)]
 exact⟨(h 29 (by decide) (by decide)).trans t.l29,(h 65 (by decide) (by decide)).trans t.l65,(h 66 (by decide) (by decide)).trans t.l66,(h 20 (by decide) (by decide)).trans t.l20,(h 15 (by decide) (by decide)).trans t.l15,(h 16 (by decide) (by decide)).trans t.l16,t.P,t.x⟩
theorem TI.sieve {sv c lev v op ed:Nat} {a:CA} {in0 in1 G:List Fi} {V:List (List Fi)} {e:En} {sm:Nat} {oct:Int} {H:Hp} {cv:SV} {nw:Int} {l:Loc} {H':Hp} (t:TI sv c lev v op ed a in0 in1 G V e sm oct H cv nw l H') (cv':SV) (nw':Int) (st':Bool):TI sv c lev v op ed a in0 in1 G V e sm oct H cv' nw' l (H'.set sv (cF c sm cv' nw' st')):=by
 obtain⟨ga,go,ps,st,h1,h2,h3,h4⟩:=t.x
 exact⟨t.l29,t.l65,t.l66,t.l20,t.l15,t.l16,t.P.trans (Pr.set _ _ (.inr (.inr rfl))),ga,go,ps,st',h1.sets h4,h2,h3,a5 _ h4⟩
theorem zO (n:Nat) (hsp:kw (Gam n)) (hst:qf (Gam n)) (hba:pZ (Gam n)):ny (Gam (n+1)):=by
 intro sv c lev v op ed a in0 in1 G ga go sk ps V sc sl e o sm cur newer oct st H hC hV hO hVl hk hB hGl hga hfl hap hlev hs
 have hps:ps≠[]:=fun e=>by have:=hB.len;rw[e] at this;have:=hk.cnt;simp at*;omega
 have hfr:∀{H'},Pr (fun i=>i=c∨i=a.pl∨i=sv) H H'→aI H' v V sc sl∧cY H' op o:=fun p=>
  ⟨hV.turn hC hps hs p,p.get (show H[op]? =some (aK o.cnt o.l0 o.bb o.lf o.mf o.ef 1) from hO) (kY hC hps hs (show H[op]? =some (aK o.cnt o.l0 o.bb o.lf o.mf o.ef 1) from hO) (fun f e=>by injection e with e1 _;exact absurd e1 (by decide)) (fun f e=>by injection e with e1 _;exact absurd e1 (by decide)) (fun e=>by cases e))⟩
 suffices h:W (aw (Gam (n+1) 337) [.ref sv,.bytes (ik e),.int oct] H) fun x H'=>∃(cut drop:Bool),x= .tup [.bool cut,.bool drop]∧wm lev sm V e cur newer oct cut drop∧Pr (fun i=>i=c∨i=a.pl∨i=sv) H H'∧
  ∃(ga':Nat) (go':Int) (ps':List Nat) (st':Bool),aB H' c lev v op ed a in0 in1 G ga' go' true ps'∧H'[sv]? =some (cF c sm (.bytes (usr e.u)) e.s.val st')∧ew V e.u ps'∧ga'≤G.length by
  revert h
  cases aw (Gam (n+1) 337) [.ref sv,.bytes (ik e),.int oct] H with
  |ok x H'=>
   rintro⟨cut,drop,rfl,hT,p,ga',go',ps',st',h1,h2,h3,h4⟩
   exact⟨cut,drop,ga',go',ps',st',H',rfl,p,h1,h2,h3,h4,hT⟩
  |exc H'=>exact fun h=>h.elim
  |fail=>exact fun h=>h.elim
 show W (aj TT (Gam n) eC eI _ _) _
 wrow_hasAny eI eC
 have hcc:=hC.c
 simp only[aA] at hcc
 have hss:=hs
 simp only[cF] at hss
 refine ah (fun l' H'=>l' 29=some (.ref sv)∧l' 65=some (.bytes (ik e))∧l' 66=some (.int oct)∧l' 20=some (.bytes (usr e.u))∧l' 15=some (.int e.s.val)∧l' 16=some (.int e.k.val)∧H=H') ?_ ?_
 ·wide_line with[hsp _ _]
  exact⟨_,rfl,by walk_at "z",by walk_at "z",by walk_at "z",by walk_at "z",by walk_at "z",by walk_at "z",by walk_at "z"⟩
 rintro l H' ⟨l29,l65,l66,l20,l15,l16,rfl⟩
 refine ah (TI sv c lev v op ed a in0 in1 G V e sm oct H (jA cur) newer) ?_ ?_
 ·obtain⟨b,ga1,go1,e1,hg1⟩:=hst c lev v op ed a in0 in1 G ga go sk ps e o H hC hO hGl hga
  have hC1:=hC.turn ga1 go1 true
  have hs1:(H.set c (aA lev v op a.ord a.us a.inp a.gr ed ga1 go1 true a.pl))[sv]? =some (cF c sm (jA cur) newer st):=ai hs (fun e=>by rw[←e,hC.c] at hs;simp only[aA,cF] at hs;injection hs with hs;injection hs with hs _;exact absurd hs (by decide)) _
  have t1:TI sv c lev v op ed a in0 in1 G V e sm oct H (jA cur) newer l (H.set c (aA lev v op a.ord a.us a.inp a.gr ed ga1 go1 true a.pl)):=⟨l29,l65,l66,l20,l15,l16,Pr.set _ _ (.inl rfl),ga1,go1,ps,st,hC1,hB,hg1,hs1⟩
  have t2:=t1.sieve (jA cur) newer true
  have hs1':=hs1
  simp only[cF] at hs1' t2
  wide_line with[l29,l65,hss,hcc,e1]
  cases b
  ·rw[if_neg (by decide)]
   exact⟨l,rfl,t1⟩
  ·rw[if_pos rfl]
   wide_line with[l29,hs1',gk,List.length_cons,List.length_nil,Nat.reduceAdd,Nat.reduceLeDiff]
   exact⟨l,rfl,t2⟩
 intro l1 H1 t1
 refine ah (fun l' H'=>TI sv c lev v op ed a in0 in1 G V e sm oct H (jA cur) newer l' H'∧l' 68=some (.bool false)) ?_ ?_
 ·wide_line with[]
  exact⟨_,rfl,t1.loc 68 _ (.inr rfl),rfl⟩
 clear t1
 rintro l1 H1 ⟨t1,l68⟩
 have new:∀(l:Loc) (H':Hp),TI sv c lev v op ed a in0 in1 G V e sm oct H (jA cur) newer l H'→l 68=some (.bool false)→
  W (aM TT (Gam n) (.cons (.ite (.cmp .GtE (.loc 66) (.con (.int 0))) (.cons (.asg 68 (.boo .Or (.cons (.attr (.loc 29) 61) (.cons (.cmp .GtE (.loc 66) (.attr (.attr (.attr (.loc 29) 36) 70) 46)) .nil)))) .nil) (.nil)) (.cons (.asgA (.loc 29) 63 (.loc 20)) (.cons (.asgA (.loc 29) 62 (.bin .Add (.glo 19 (.int 72057594037927935)) (.con (.int 1)))) .nil))) l H') fun q H'=>∃l',q=(.next,l')∧TI sv c lev v op ed a in0 in1 G V e sm oct H (.bytes (usr e.u)) jI l' H'∧∃cut:Bool,l' 68=some (.bool cut)∧(cut=true→0≤oct):=by
  intro l H' t l68
  refine ah (fun l' H'=>TI sv c lev v op ed a in0 in1 G V e sm oct H (jA cur) newer l' H'∧∃cut:Bool,l' 68=some (.bool cut)∧(cut=true→0≤oct)) ?_ ?_
  ·obtain⟨ga,go,ps,st,h1,h2,h3,h4⟩:=t.x
   have ho:cY H' op o:=(hfr t.P).2
   have ho1:H'[op]? =some _:=ho
   simp only[aK] at ho1
   have hc1:=h1.c
   simp only[aA] at hc1
   have h4':=h4
   simp only[cF] at h4'
   wide_line with[t.l66]
   by_cases c0:0≤oct
   ·rw[if_pos c0]
    wide_line with[t.l29,t.l66,h4',hc1,ho1]
    refine⟨fun hb=>⟨_,rfl,t.loc 68 _ (.inr rfl),st,rfl,fun _=>c0⟩,fun hb=>⟨_,rfl,t.loc 68 _ (.inr rfl),_,rfl,fun _=>c0⟩⟩
   ·rw[if_neg c0]
    exact⟨_,rfl,t,false,l68,fun h=>by cases h⟩
  clear t l68 l H'
  rintro l H' ⟨t,cut,l68,hcut⟩
  obtain⟨ga,go,ps,st,h1,h2,h3,h4⟩:=t.x
  have t2:=t.sieve (.bytes (usr e.u)) jI st
  have h4':=h4
  simp only[cF] at h4' t2
  have k4:∀o',(H'.set sv o')[sv]? =some o':=fun o'=>a5 o' h4
  wide_line with[t.l29,t.l20,h4',k4,gk,List.length_cons,List.length_nil,Nat.reduceAdd,Nat.reduceLeDiff,List.set_set]
  exact⟨_,rfl,t2,cut,l68,hcut⟩
 refine ah (fun l' H'=>TI sv c lev v op ed a in0 in1 G V e sm oct H (.bytes (usr e.u)) (e8 cur newer e.u) l' H'∧∃cut:Bool,l' 68=some (.bool cut)∧(cut=true→0≤oct∧cur≠some e.u)) ?_ ?_
 ·obtain⟨ga,go,ps,st,h1,h2,h3,h4⟩:=t1.x
  have h4':=h4
  simp only[cF] at h4'
  have new1:=new l1 H1 t1 l68
  rw[dG]
  refine W.mono (Q:=fun b H'=>H1=H'∧b=decide (cur≠some e.u)) ?_ ?_
  ·cases cur with
   |none=>
    wide_line with[t1.l29,h4',jA]
    exact⟨trivial,rfl⟩
   |some u=>
    wide_line with[t1.l29,t1.l20,h4',jA,wg]
    by_cases cu:e.u=u
    ·subst cu
     rw[if_neg (by simp)]
     exact⟨trivial,by simp⟩
    ·rw[if_pos (by simp[cu])]
     exact⟨trivial,by simp[Ne.symm cu]⟩
  ·rintro b H' ⟨rfl,rfl⟩
   by_cases cu:cur=some e.u
   ·rw[if_neg (by simp[cu]),fR]
    refine⟨l1,rfl,?_,false,l68,fun h=>by cases h⟩
    have e1:SV.bytes (usr e.u)=jA cur:=by rw[cu];rfl
    rw[e1,e8,if_pos cu]
    exact t1
   ·rw[if_pos (by simp[cu])]
    refine new1.mono ?_
    rintro q H' ⟨l',rfl,t,cut,hc,hcut⟩
    rw[e8,if_neg cu]
    exact⟨l',rfl,t,cut,hc,fun h=>⟨hcut h,cu⟩⟩
 clear t1 l68
 rintro l2 H2 ⟨t2,cut,l68,hcut⟩
 refine ah (fun l' H'=>TI sv c lev v op ed a in0 in1 G V e sm oct H (.bytes (usr e.u)) (e8 cur newer e.u) l' H'∧l' 68=some (.bool cut)) ?_ ?_
 ·obtain⟨ga,go,ps,st,h1,h2,h3,h4⟩:=t2.x
  have h4':=h4
  simp only[cF] at h4'
  have t3:=t2.sieve (.bytes (usr e.u)) (e8 cur newer e.u) false
  simp only[cF] at t3
  rw[dG]
  refine W.mono (Q:=fun b H'=>H2=H') ?_ ?_
  ·wide_line with[t2.l66,l68]
   split
   ·trivial
   ·split<;>trivial
  ·rintro b H' rfl
   cases b
   ·rw[if_neg (by decide),fR]
    exact⟨l2,rfl,t2,l68⟩
   ·rw[if_pos rfl]
    wide_line with[t2.l29,h4',gk,List.length_cons,List.length_nil,Nat.reduceAdd,Nat.reduceLeDiff]
    exact⟨l2,rfl,t3,l68⟩
 clear t2 l68
 rintro l3 H3 ⟨t3,l68⟩
 refine ah (fun l' H'=>TI sv c lev v op ed a in0 in1 G V e sm oct H (.bytes (usr e.u)) (e8 cur newer e.u) l' H'∧l' 68=some (.bool cut)∧l' 67=some (.bool false)) ?_ ?_
 ·wide_line with[]
  exact⟨_,rfl,t3.loc 67 _ (.inl rfl),l68,rfl⟩
 clear t3 l68
 rintro l4 H4 ⟨t4,l68,l67⟩
 refine ah (fun l' H'=>TI sv c lev v op ed a in0 in1 G V e sm oct H (.bytes (usr e.u)) (e8 cur newer e.u) l' H'∧l' 68=some (.bool cut)∧∃drop,l' 67=some (.bool drop)∧wm lev sm V e cur newer oct cut drop) ?_ ?_
 ·obtain⟨ga,go,ps,st,h1,h2,h3,h4⟩:=t4.x
  have h4':=h4
  simp only[cF] at h4'
  obtain⟨hV4,hO4⟩:=hfr t4.P
  obtain⟨b,ps',e1,hB1,hno⟩:=hba c lev v op ed a in0 in1 G ga go true ps V sc sl e.u o H4 h1 hV4 hO4 hVl hk h2 hfl hap hlev
  have hps4:ps≠[]:=fun e=>by have:=h2.len;rw[e] at this;have:=hk.cnt;simp at*;omega
  have hc1:=h1.c
  simp only[aA] at hc1
  wide_line with[t4.l29,h4']
  by_cases c1:e8 cur newer e.u≤sm
  ·rw[if_pos c1]
   exact⟨_,rfl,t4.loc 67 _ (.inl rfl),l68,true,rfl,⟨hcut,fun _=>rfl,fun _=> .inl c1⟩⟩
  ·rw[if_neg c1]
   wide_line with[t4.l29,t4.l16,t4.l15,t4.l20,h4',hc1,e1]
   by_cases c2:(e.k.val:Int)=0
   ·rw[if_pos c2]
    by_cases c3:(e.s.val:Int)≤sm
    ·rw[if_pos c3]
     refine⟨_,rfl,?_,l68,b,rfl,⟨hcut,fun h=>absurd h c1,fun h=> .inr ⟨Fin.ext (by simpa using c2),by omega,hno h⟩⟩⟩
     refine(TI.loc ?_ 67 _ (.inl rfl))
     exact⟨t4.l29,t4.l65,t4.l66,t4.l20,t4.l15,t4.l16,t4.P.trans (Pr.set _ _ (.inr (.inl rfl))),ga,go,ps',st,h1.setp hps4 ps',hB1,h3,ai h4 (fun e=>by rw[←e,h1.p] at h4;cases h4) _⟩
    ·rw[if_neg c3]
     exact⟨_,rfl,t4,l68,false,l67,⟨hcut,fun h=>absurd h c1,fun h=>by cases h⟩⟩
   ·rw[if_neg c2]
    exact⟨_,rfl,t4,l68,false,l67,⟨hcut,fun h=>absurd h c1,fun h=>by cases h⟩⟩
 clear t4 l68 l67
 rintro l5 H5 ⟨t5,l68,drop,l67,hT⟩
 obtain⟨ga,go,ps,st,h1,h2,h3,h4⟩:=t5.x
 have t6:=t5.sieve (.bytes (usr e.u)) e.s.val st
 have h4':=h4
 simp only[cF] at h4' t6
 wide_line with[t5.l29,t5.l15,l68,l67,h4',gk,List.length_cons,List.length_nil,Nat.reduceAdd,Nat.reduceLeDiff]
 refine⟨?_,cut,drop,rfl,hT,t6.P,?_⟩
 ·exact⟨rfl,by decide⟩
 ·obtain⟨ga',go',ps',st',g1,g2,g3,g4⟩:=t6.x
  exact⟨ga',go',ps',st',g1,g4,g2,g3⟩
def enI (e:En):List Int:=[e.u.val,-(e.s.val:Int),e.k.val]
def leE (a b:En):Bool:=fM (enI a) (enI b)
def aJ (rows:List En):List En:=cd leE rows
theorem mC {α β:Type} {f:α→β} {le:β→β→Bool} (x:α):∀l:List α,fK le (f x) (l.map f)=(fK (fun a b=>le (f a) (f b)) x l).map f
 |[]=>rfl
 |y::r=>by
  rw[List.map_cons,fK,fK]
  split
  ·rw[List.map_cons,List.map_cons]
  ·rw[List.map_cons,mC x r]
theorem l8 {α β:Type} {f:α→β} {le:β→β→Bool}:∀l:List α,cd le (l.map f)=(cd (fun a b=>le (f a) (f b)) l).map f
 |[]=>rfl
 |x::r=>by rw[List.map_cons,cd,cd,l8 r,mC]
theorem wG {a b:En} (h:enI a=enI b):a=b:=by
 obtain⟨u,s,k⟩:=a
 obtain⟨u',s',k'⟩:=b
 simp only[enI,List.cons.injEq,and_true] at h
 obtain⟨h1,h2,h3⟩:=h
 have e1:u=u':=Fin.ext (by omega)
 have e2:s=s':=Fin.ext (by omega)
 have e3:k=k':=Fin.ext (by omega)
 rw[e1,e2,e3]
theorem me:∀rows:List En,iy (rows.map enV)=some (rows.map enI)
 |[]=>rfl
 |e::r=>by rw[List.map_cons,enV,iy,me r];rfl
theorem vU {rows:List En} (hl:rows.length<7) (hn:rows.Nodup):mX (rows.map enV)=some ((aJ rows).map enV):=by
 cases hr:rows with
 |nil=>rfl
 |cons e r=>
  rw[←hr]
  have h1:bE (rows.map enV)=none:=by rw[hr];rfl
  have h2:(rows.map enI).Nodup:=by
   rw[List.Nodup,List.pairwise_map]
   exact hn.imp fun h e=>h (wG e)
  have h3:(rows.map enI).length<7∧(rows.map enI).Nodup∧(rows.map enI).all (fun l=> !l.isEmpty)=true:=by
   refine⟨by rw[List.length_map];exact hl,h2,?_⟩
   rw[List.all_eq_true]
   intro x hx
   obtain⟨e,_,rfl⟩:=List.mem_map.mp hx
   rfl
  unfold mX
  rw[h1]
  simp only[me]
  rw[if_pos h3,l8,List.map_map]
  rfl
theorem l9 {H:Hp} {r:Nat} {rows:List En} (h:H[r]? =some (.list (rows.map enV))) (hl:rows.length<7) (hn:rows.Nodup) (Q):W (gI TT 1 [.ref r] H) Q=Q (.ref H.length) (H++[.list ((aJ rows).map enV)]):=by
 have hle:((aJ rows).map enV).length≤ag:=by rw[List.length_map,aJ,dS];unfold ag;omega
 have:gI TT 1 [.ref r] H=bp ((aJ rows).map enV) H:=by
  show(match H[r]? with
   |some (.list its)=>if its.length<64 then(match mX its with|some x=>bp x H|none=> .fail) else .fail
   |some (.dict (es:List (Int×SV)))=>if es.length<64 then bp ((cd (fun a b:Int=>decide (a≤b)) (es.map fun e:Int×SV=>e.1)).map SV.int) H else .fail
   |_=> .fail)=_
  rw[h]
  simp only[List.length_map,vU hl hn]
  rw[if_pos (by omega)]
 rw[this,dL]
 exact propext ⟨fun h=>h.2,fun h=>⟨hle,h⟩⟩
theorem kG (a b:En):leE a b=true↔(a.u<b.u∨(a.u=b.u∧(b.s<a.s∨(a.s=b.s∧a.k≤b.k)))):=by
 unfold leE enI fM fM fM fM
 simp only[Fin.lt_def,Fin.le_def,Fin.ext_iff]
 split
 ·split
  ·split
   ·simp;omega
   ·simp;omega
  ·simp;omega
 ·simp;omega
theorem xl (a b:En):leE a b=true∨leE b a=true:=by
 simp only[kG,Fin.lt_def,Fin.le_def,Fin.ext_iff];omega
theorem Am (a b c:En) (h1:leE a b=true) (h2:leE b c=true):leE a c=true:=by
 simp only[kG,Fin.lt_def,Fin.le_def,Fin.ext_iff] at*;omega
theorem cf (rows:List En):(aJ rows).Perm rows:=cy rows
theorem jv (rows:List En):(aJ rows).Pairwise (fun a b=>leE a b=true):=d9 xl Am rows
theorem cO.keep {S:Nat→Prop} {H H':Hp} {tb:Nat} {T:aO} (p:Pr S H H') (hl:∀i (rows:List En),rows≠[]→H[i]? =some (.list (rows.map enV))→¬S i) (ht:¬S tb) (hne:∀t∈T,t.2≠[]) (h:cO H tb T):cO H' tb T:=by
 obtain⟨es,h1,h2⟩:=h
 refine⟨es,p.get h1 ht,h2.impM fun e _ t ht h=> ?_⟩
 obtain⟨g1,x,g2,g3,g4⟩:=h
 exact⟨g1,x,g2,p.get g3 (hl _ _ (hne t ht) g3),g4⟩
theorem A2.snoc {α β:Type} {p:α→β→Prop}:∀{l:List α} {r:List β} {a:α} {b:β},A2 p l r→p a b→A2 p (l++[a]) (r++[b])
 |[],[],_,_,_,h=>⟨h,trivial⟩
 |x::l,y::r,_,_,h,k=>⟨h.1,h.2.snoc k⟩
theorem A2.mono' {α β:Type} {p q:α→β→Prop} {l:List α} {r:List β} (h:∀a b,p a b→q a b) (x:A2 p l r):A2 q l r:=x.imp fun a b=>h a b
def iV (Γ:FT):Prop:=∀(lev r tb ed cp dl ad fresh:Nat) (rows:List En) (lo hi:En) (T:aO) (A:List Add) (H:Hp),H[r]? =some (.list (rows.map enV))→rows.head? =some lo→rows.getLast? =some hi→rows.length≤100→14<r→
 cO H tb T→(∀t∈T,t.1≠fresh∧t.2≠[])→T.length≤100→H[ed]? =some (aY cp dl ad)→H[ad]? =some (.list (A.map fG))→A.length≤100→
 ∃(x:Nat) (H':Hp),aw (Γ 729) [.int lev,.ref r,.ref tb,.ref ed,.int fresh] H= .ok (.int ((fresh+1:Nat):Int)) H'∧Pr (fun i=>i=tb∨i=ad) H H'∧cO H' tb (T++[(fresh,rows)])∧
  H'[ad]? =some (.list ((A++[(lev,x,(⟨fresh,rows.length,lo,hi⟩:Fi))]).map fG))∧IsF H' x (⟨fresh,rows.length,lo,hi⟩:Fi)∧H.length≤x
theorem f_put (n:Nat) (hik:gU (Gam n)) (hnm:iU (Gam n)):iV (Gam (n+1)):=by
 intro lev r tb ed cp dl ad fresh rows lo hi T A H hr hlo hhi hrl h14 hT hTf hTl hed had hAl
 obtain⟨es,t1,t2⟩:=hT
 have hesl:es.length=T.length:=t2.len
 have hfr:∀e∈es,e.1≠(fresh:Int):=fun e he q=>by
  obtain⟨t,ht,h⟩:=t2.mem he
  have:=(hTf t ht).1
  have:=h.1
  omega
 have hput:fT (some (.dict es)) (fresh:Int) (.ref r)=some (.dict (es++[((fresh:Int),.ref r)])):=by
  rw[eU (by unfold ag;omega),hY hfr]
 have n1:tb≠r:=fun e=>by rw[←e,t1] at hr;cases hr
 have n2:tb≠ed:=fun e=>by rw[←e,t1] at hed;cases hed
 have n3:tb≠ad:=fun e=>by rw[←e,t1] at had;cases had
 have kr:(H.set tb (.dict (es++[((fresh:Int),.ref r)])))[r]? =some (.list (rows.map enV)):=ai hr n1 _
 have ke:(H.set tb (.dict (es++[((fresh:Int),.ref r)])))[ed]? =some (aY cp dl ad):=ai hed n2 _
 have ka:(H.set tb (.dict (es++[((fresh:Int),.ref r)])))[ad]? =some (.list (A.map fG)):=ai had n3 _
 have kt:(H.set tb (.dict (es++[((fresh:Int),.ref r)])))[tb]? =some (.dict (es++[((fresh:Int),.ref r)])):=a5 _ t1
 have pr0:Pr (fun i=>i=tb∨i=ad) H (H.set tb (.dict (es++[((fresh:Int),.ref r)]))):=Pr.set _ _ (.inl rfl)
 have hrn:rows≠[]:=fun e=>by rw[e] at hlo;cases hlo
 generalize hH1:H.set tb (.dict (es++[((fresh:Int),.ref r)]))=H1 at kr ke ka kt pr0
 obtain⟨L1,e1⟩:=hik lo H1
 obtain⟨L2,e2⟩:=hik hi (H1++L1)
 have e3:=hnm (⟨fresh,rows.length,lo,hi⟩:Fi) (H1++L1++L2)
 have hm:=aC (H1++L1++L2) (aT (⟨fresh,rows.length,lo,hi⟩:Fi))
 have pr1:Pr (fun i=>i=tb∨i=ad) H1 (H1++L1++L2++[aT (⟨fresh,rows.length,lo,hi⟩:Fi)]):=by
  rw[List.append_assoc,List.append_assoc];exact Pr.app _ _ _
 have hxl:H.length≤(H1++L1++L2).length:=by
  have:=pr0.1;simp only[List.length_append];omega
 have ka2:(H1++L1++L2++[aT (⟨fresh,rows.length,lo,hi⟩:Fi)])[ad]? =some (.list (A.map fG)):=ab (ab (ab ka _) _) _
 have kr1:(H1++L1)[r]? =some (.list (rows.map enV)):=ab kr _
 have kt2:(H1++L1++L2++[aT (⟨fresh,rows.length,lo,hi⟩:Fi)])[tb]? =some (.dict (es++[((fresh:Int),.ref r)])):=ab (ab (ab kt _) _) _
 generalize hX:(H1++L1++L2).length=X at e3 hm hxl
 generalize hH2:H1++L1++L2++[aT (⟨fresh,rows.length,lo,hi⟩:Fi)]=H2 at e3 hm pr1 ka2 kt2
 have P:Pr (fun i=>i=tb∨i=ad) H (H2.set ad (.list ((A++[(lev,X,(⟨fresh,rows.length,lo,hi⟩:Fi))]).map fG))):=(pr0.trans pr1).trans (Pr.set _ _ (.inr rfl))
 have nad:∀i (rows':List En),rows'≠[]→H[i]? =some (.list (rows'.map enV))→i≠ad:=fun i rows' hn hi e=>by
  rw[e,had] at hi
  cases rows' with
  |nil=>exact hn rfl
  |cons y r'=>
   cases A with
   |nil=>cases hi
   |cons z A'=>simp[enV,fG] at hi
 have ntb:∀i (vs:List SV),H[i]? =some (.list vs)→i≠tb:=fun i vs hi e=>by rw[e,t1] at hi;cases hi
 have hTE:cO (H2.set ad (.list ((A++[(lev,X,(⟨fresh,rows.length,lo,hi⟩:Fi))]).map fG))) tb (T++[(fresh,rows)]):=by
  refine⟨es++[((fresh:Int),.ref r)],ai kt2 n3.symm _,A2.snoc (t2.impM fun e _ t ht h=> ?_) ⟨rfl,r,rfl,P.get hr fun h=>h.elim (ntb _ _ hr) (nad r rows hrn hr),h14⟩⟩
  obtain⟨g1,x,g2,g3,g4⟩:=h
  exact⟨g1,x,g2,P.get g3 fun h=>h.elim (ntb _ _ g3) (nad _ _ (hTf t ht).2 g3),g4⟩
 have hmF:IsF (H2.set ad (.list ((A++[(lev,X,(⟨fresh,rows.length,lo,hi⟩:Fi))]).map fG))) X (⟨fresh,rows.length,lo,hi⟩:Fi):=ai hm (fun e=>by rw[←e,ka2] at hm;cases hm) _
 refine⟨X,H2.set ad (.list ((A++[(lev,X,(⟨fresh,rows.length,lo,hi⟩:Fi))]).map fG)),cr ?_,P,hTE,a5 _ ka2,hmF,hxl⟩
 show W (aj TT (Gam n) im iw _ _) _
 wrow_hasAny iw im
 have g0:ck (some (.list (rows.map enV))) 0=some (enV lo):=aG (j:=0) (by rw[List.getElem?_map,←List.head?_eq_getElem?,hlo];rfl) (by rw[List.length_map];unfold ag;omega)
 have hpos:0<rows.length:=List.length_pos_iff.mpr hrn
 have gl:ck (some (.list (rows.map enV))) ((rows.length:Int) - 1)=some (enV hi):=by
  have:(rows.length:Int) - 1=((rows.length - 1:Nat):Int):=by omega
  rw[this]
  exact aG (by rw[List.getElem?_map,←List.getLast?_eq_getElem?,hhi];rfl) (by rw[List.length_map];unfold ag;omega)
 have ll:lenO (some (.list (rows.map enV)))=some (rows.length:Int):=bh (by unfold ag;omega)
 simp only[aY] at ke
 have hal:(A.map fG).length<ag:=by rw[List.length_map];unfold ag;omega
 wide_line with[t1,hput,hH1,kr,ke,ka,g0,gl,ll,e1,e2,e3,kr1,ka2,cJ hal,List.length_cons,List.length_nil,e6]
 refine⟨⟨trivial,by decide⟩,trivial,by simp,?_⟩
 rw[List.map_append]
 rfl
def tM (is:List Int) (i:Nat):Int:=is.getD (i % is.length) 0+31*((i / is.length:Nat):Int)
def gS (Γ:FT):Prop:=∀(r i:Nat) (is:List Int) (H:Hp),H[r]? =some (.list (is.map SV.int))→is≠[]→is.length≤8→i≤8→aw (Γ 708) [.ref r,.int i] H= .ok (.int (tM is i)) H
theorem zx (n:Nat):gS (Gam (n+1)):=by
 intro r i is H hr hn hl hi
 refine cr ?_
 show W (aj TT (Gam n) gb gq _ _) _
 wrow_hasAny gq gb
 have hpos:0<is.length:=List.length_pos_iff.mpr hn
 have ll:lenO (some (.list (is.map SV.int)))=some (is.length:Int):=bh (by unfold ag;omega)
 have e1:(i:Int).fmod (is.length:Int)=((i % is.length:Nat):Int):=by rw[Int.fmod_eq_emod_of_nonneg _ (by omega)];rfl
 have e2:(i:Int).fdiv (is.length:Int)=((i / is.length:Nat):Int):=by rw[Int.fdiv_eq_ediv_of_nonneg _ (by omega)];rfl
 have hlt:i % is.length<is.length:=Nat.mod_lt _ hpos
 have gx:ck (some (.list (is.map SV.int))) ((i % is.length:Nat):Int)=some (.int (is.getD (i % is.length) 0)):=aG (by rw[List.getElem?_map,List.getD_eq_getElem?_getD,List.getElem?_eq_getElem hlt];rfl) (by rw[List.length_map];unfold ag;omega)
 wide_line with[hr,ll,e1,e2,gx]
 exact⟨by omega,⟨dt (by omega) (by omega),dt (by omega) (by omega),by omega⟩,by decide,rfl,trivial⟩
def nj (Γ:FT):Prop:=∀(p v:Nat) (V:List (List Fi)) (bt bo:Nat) (sl:SV) (H:Hp),aI H v V (.tup [.int bt,.int bo]) sl→aw (Γ 659) [.ref p,.ref v] H= .ok (.bool (decide (bo≤bt))) H
theorem wP (n:Nat):nj (Gam (n+1)):=by
 intro p v V bt bo sl H ⟨ord,fl,ls,h1,_⟩
 refine cr ?_
 show W (aj TT (Gam n) bq br _ _) _
 wrow_hasAny br bq
 simp only[b9] at h1
 wide_line with[h1]
 refine⟨by decide,by decide,?_,trivial⟩
 simp[Int.ofNat_le]
theorem aB.keep {S:Nat→Prop} {H H':Hp} {c lev v op ed:Nat} {a:CA} {in0 in1 G:List Fi} {ga:Nat} {go:Int} {sk:Bool} {ps:List Nat} (x:aB H c lev v op ed a in0 in1 G ga go sk ps) (P:Pr S H H')
 (hk:∀i C f,H[i]? =some (.inst C f)→¬S i) (n1:¬S a.inp) (n2:¬S a.i0) (n3:¬S a.i1) (n4:¬S a.gr) (n5:¬S a.pl):aB H' c lev v op ed a in0 in1 G ga go sk ps:=
 ⟨P.get x.c (hk _ _ _ x.c),x.ord.keep P (fun i C f h _=>hk i C f h),P.get x.us (hk _ _ _ x.us),P.get x.inp n1,x.f0.keep P (fun i f h=>hk _ _ _ h) n2,x.f1.keep P (fun i f h=>hk _ _ _ h) n3,x.g.keep P (fun i f h=>hk _ _ _ h) n4,P.get x.p n5⟩
theorem aB.sins {H:Hp} {c lev v op ed:Nat} {a:CA} {in0 in1 G:List Fi} {ga:Nat} {go:Int} {sk:Bool} {ps:List Nat} (x:aB H c lev v op ed a in0 in1 G ga go sk ps) {i0 i1:Nat} {fs0 fs1:List Fi} (h0:be H i0 fs0) (h1:be H i1 fs1) (n0:i0≠a.inp) (n1:i1≠a.inp) (n2:a.gr≠a.inp) (n3:a.pl≠a.inp):
 aB (H.set a.inp (.list [.ref i0,.ref i1])) c lev v op ed {a with i0:=i0,i1:=i1} fs0 fs1 G ga go sk ps:=by
 have P:Pr (fun i=>i=a.inp) H (H.set a.inp (.list [.ref i0,.ref i1])):=Pr.set _ _ rfl
 have hk:∀i C f,H[i]? =some (.inst C f)→¬i=a.inp:=fun i C f h e=>by rw[e,x.inp] at h;cases h
 exact⟨P.get x.c (hk _ _ _ x.c),x.ord.keep P (fun i C f h _=>hk i C f h),P.get x.us (hk _ _ _ x.us),a5 _ x.inp,h0.keep P (fun i f h=>hk _ _ _ h) n0,h1.keep P (fun i f h=>hk _ _ _ h) n1,x.g.keep P (fun i f h=>hk _ _ _ h) n2,P.get x.p n3⟩
theorem aB.sgr {H:Hp} {c lev v op ed:Nat} {a:CA} {in0 in1 G:List Fi} {ga:Nat} {go:Int} {sk:Bool} {ps:List Nat} (x:aB H c lev v op ed a in0 in1 G ga go sk ps) {g:Nat} {G':List Fi} (h:be H g G'):
 aB (H.set c (aA lev v op a.ord a.us a.inp g ed ga go sk a.pl)) c lev v op ed {a with gr:=g} in0 in1 G' ga go sk ps:=by
 have P:Pr (fun i=>i=c) H (H.set c (aA lev v op a.ord a.us a.inp g ed ga go sk a.pl)):=Pr.set _ _ rfl
 have ne:∀{i:Nat} {o:SO},H[i]? =some o→(∀f,o≠.inst 620 f)→i≠c:=fun h ho e=>by
  rw[e,x.c] at h;cases h;exact ho _ rfl
 have om:r7 H (fun i=>i=c):=fun i f h=>ne h fun f e=>by injection e with e1 _;exact absurd e1 (by decide)
 have nl:∀{i:Nat} {fs:List Fi},be H i fs→i≠c:=fun⟨as,h,_⟩=>ne h fun f e=>by cases e
 exact⟨a5 _ x.c,x.ord.keep P (fun i C fs hi hC=>ne hi (fun f e=>by rcases hC with rfl|rfl<;>(injection e with e1 _;exact absurd e1 (by decide)))),P.get x.us (ne x.us fun f e=>by injection e with e1 _;exact absurd e1 (by decide)),P.get x.inp (ne x.inp fun f e=>by cases e),
  x.f0.keep P om (nl x.f0),x.f1.keep P om (nl x.f1),h.keep P om (nl h),P.get x.p (ne x.p fun f e=>by cases e)⟩
def ptV:Option En→SV
 |none=> .bytes []
 |some e=> .bytes (ik e)
def Sx (a:CA) (c pt cp:Nat) (i:Nat):Prop:=i=a.inp∨i=c∨i=pt∨i=cp
structure Lay (H:Hp) (a:CA) (c pt cp:Nat):Prop where
 finp:a.i0≠a.inp∧a.i1≠a.inp∧a.gr≠a.inp∧a.pl≠a.inp
 fpt:a.i0≠pt∧a.i1≠pt∧a.gr≠pt∧a.pl≠pt∧a.inp≠pt
 fcp:a.i0≠cp∧a.i1≠cp∧a.gr≠cp∧a.pl≠cp∧a.inp≠cp∧pt≠cp
 lt:a.inp<H.length∧pt<H.length∧cp<H.length∧c<H.length
structure SU (p c pt cp dl ad v lev op o ed:Nat) (H0:Hp) (a:CA) (ga:Nat) (go:Int) (sk:Bool) (ps:List Nat) (Pt:List (Option En)) (CP:List SV) (i0 i1 gr:Nat) (in0 in1 G:List Fi) (l:Loc) (H':Hp):Prop where
 l29:l 29=some (.ref p)
 l36:l 36=some (.ref c)
 l143:l 143=some (.ref pt)
 l92:l 92=some (.int lev)
 l119:l 119=some (.ref v)
 P:Pr (Sx a c pt cp) H0 H'
 C:aB H' c lev v op ed {a with i0:=i0,i1:=i1,gr:=gr} in0 in1 G ga go sk ps
 q:H'[pt]? =some (.list (Pt.map ptV))
 cpl:H'[cp]? =some (.list CP)
 e:H'[ed]? =some (aY cp dl ad)
 k:kO H' p op o
 od:cU H' o
 n0:i0=a.i0∨H0.length≤i0
 n1:i1=a.i1∨H0.length≤i1
 n2:gr=a.gr∨H0.length≤gr
section
variable {p c pt cp dl ad v lev op o ed:Nat} {H0:Hp} {a:CA} {ga:Nat} {go:Int} {sk:Bool} {ps:List Nat} {Pt:List (Option En)} {CP:List SV} {i0 i1 gr:Nat} {in0 in1 G:List Fi} {l:Loc} {H':Hp}
theorem SU.app (t:SU p c pt cp dl ad v lev op o ed H0 a ga go sk ps Pt CP i0 i1 gr in0 in1 G l H') (L:Hp):SU p c pt cp dl ad v lev op o ed H0 a ga go sk ps Pt CP i0 i1 gr in0 in1 G l (H'++L):=
 ⟨t.l29,t.l36,t.l143,t.l92,t.l119,t.P.trans (Pr.app _ _ _),t.C.app L,ab t.q L,ab t.cpl L,ab t.e L,ab (show H'[p]? =some (.inst 690 [(70,.ref op),(85,.ref o)]) from t.k) L,t.od.app L,t.n0,t.n1,t.n2⟩
theorem SU.loc (t:SU p c pt cp dl ad v lev op o ed H0 a ga go sk ps Pt CP i0 i1 gr in0 in1 G l H') {l':Loc} (h:∀j,j=29∨j=36∨j=143∨j=92∨j=119→l' j=l j):SU p c pt cp dl ad v lev op o ed H0 a ga go sk ps Pt CP i0 i1 gr in0 in1 G l' H':=
 ⟨(h 29 (by decide)).trans t.l29,(h 36 (by decide)).trans t.l36,(h 143 (by decide)).trans t.l143,(h 92 (by decide)).trans t.l92,(h 119 (by decide)).trans t.l119,t.P,t.C,t.q,t.cpl,t.e,t.k,t.od,t.n0,t.n1,t.n2⟩
theorem SU.ins (t:SU p c pt cp dl ad v lev op o ed H0 a ga go sk ps Pt CP i0 i1 gr in0 in1 G l H') (D:Lay H0 a c pt cp) {j0 j1:Nat} {fs0 fs1:List Fi} (h0:be H' j0 fs0) (h1:be H' j1 fs1) (m0:j0=a.i0∨H0.length≤j0) (m1:j1=a.i1∨H0.length≤j1):
 SU p c pt cp dl ad v lev op o ed H0 a ga go sk ps Pt CP j0 j1 gr fs0 fs1 G l (H'.set a.inp (.list [.ref j0,.ref j1])):=by
 have hi:H'[a.inp]? =some (.list [.ref i0,.ref i1]):=t.C.inp
 have hk:∀i C f,H'[i]? =some (.inst C f)→a.inp≠i:=fun i C f h e=>by rw[←e,hi] at h;cases h
 have hlt:=D.lt.1
 refine⟨t.l29,t.l36,t.l143,t.l92,t.l119,t.P.trans (Pr.set _ _ (.inl rfl)),t.C.sins h0 h1 ?_ ?_ ?_ D.finp.2.2.2,ai t.q D.fpt.2.2.2.2 _,ai t.cpl D.fcp.2.2.2.2.1 _,ai t.e (hk _ _ _ t.e) _,ai (show H'[p]? =some (.inst 690 [(70,.ref op),(85,.ref o)]) from t.k) (hk _ _ _ t.k) _,t.od.keep (S:=fun i=>i=a.inp) (Pr.set _ _ rfl) (fun i C f h _ e=>hk i C f h e.symm),m0,m1,t.n2⟩
 ·rcases m0 with h|h
  ·rw[h];exact D.finp.1
  ·show j0≠a.inp;omega
 ·rcases m1 with h|h
  ·rw[h];exact D.finp.2.1
  ·show j1≠a.inp;omega
 ·rcases t.n2 with h|h
  ·show gr≠a.inp;rw[h];exact D.finp.2.2.1
  ·show gr≠a.inp;omega
theorem SU.grn (t:SU p c pt cp dl ad v lev op o ed H0 a ga go sk ps Pt CP i0 i1 gr in0 in1 G l H') {g:Nat} {G':List Fi} (h:be H' g G') (m:g=a.gr∨H0.length≤g):
 SU p c pt cp dl ad v lev op o ed H0 a ga go sk ps Pt CP i0 i1 g in0 in1 G' l (H'.set c (aA lev v op a.ord a.us a.inp g ed ga go sk a.pl)):=by
 have hc:H'[c]? =some (aA lev v op a.ord a.us a.inp gr ed ga go sk a.pl):=t.C.c
 have ne:∀{i:Nat} {x:SO},H'[i]? =some x→(∀f,x≠.inst 620 f)→c≠i:=fun h hx e=>by
  rw[←e,hc] at h;cases h;exact hx _ rfl
 exact⟨t.l29,t.l36,t.l143,t.l92,t.l119,t.P.trans (Pr.set _ _ (.inr (.inl rfl))),t.C.sgr h,ai t.q (ne t.q fun f e=>by cases e) _,ai t.cpl (ne t.cpl fun f e=>by cases e) _,ai t.e (ne t.e fun f e=>by injection e with e1 _;exact absurd e1 (by decide)) _,
  ai (show H'[p]? =some (.inst 690 [(70,.ref op),(85,.ref o)]) from t.k) (ne t.k fun f e=>by injection e with e1 _;exact absurd e1 (by decide)) _,t.od.keep (S:=fun i=>i=c) (Pr.set _ _ rfl) (fun i C f h hC e=>ne h (fun f e=>by rcases hC with rfl|rfl<;>(injection e with e1 _;exact absurd e1 (by decide))) e.symm),t.n0,t.n1,m⟩
theorem SU.last (t:SU p c pt cp dl ad v lev op o ed H0 a ga go sk ps Pt CP i0 i1 gr in0 in1 G l H') (D:Lay H0 a c pt cp) (vs ws:List SV):aB ((H'.set pt (.list vs)).set cp (.list ws)) c lev v op ed {a with i0:=i0,i1:=i1,gr:=gr} in0 in1 G ga go sk ps:=by
 have P:Pr (fun i=>i=pt∨i=cp) H' ((H'.set pt (.list vs)).set cp (.list ws)):=(Pr.set (S:=fun i=>i=pt∨i=cp) _ _ (.inl rfl)).trans (Pr.set _ _ (.inr rfl))
 have off:∀i b,i=b∨H0.length≤i→b≠pt→b≠cp→¬(i=pt∨i=cp):=fun i b h h1 h2=>by
  have:=D.lt
  rcases h with rfl|h
  ·rintro(e|e)<;>contradiction
  ·rintro(e|e)<;>omega
 refine t.C.keep P (fun i C f h=> ?_) ?_ (off _ _ t.n0 D.fpt.1 D.fcp.1) (off _ _ t.n1 D.fpt.2.1 D.fcp.2.1) (off _ _ t.n2 D.fpt.2.2.1 D.fcp.2.2.1) ?_
 ·rintro(e|e)
  ·rw[e,t.q] at h;cases h
  ·rw[e,t.cpl] at h;cases h
 ·rintro(e|e)
  ·exact D.fpt.2.2.2.2 e
  ·exact D.fcp.2.2.2.2.1 e
 ·rintro(e|e)
  ·exact D.fpt.2.2.2.1 e
  ·exact D.fcp.2.2.2.1 e
end
theorem be.cat {H:Hp} {x y:Nat} {fs gs:List Fi} (h1:be H x fs) (h2:be H y gs):∃vs,tv H[x]? H[y]? =some vs∧vs.length=fs.length+gs.length∧be (H++[.list vs]) H.length (fs++gs):=by
 obtain⟨as,a1,a2⟩:=h1
 obtain⟨bs,b1,b2⟩:=h2
 refine⟨as.map SV.ref++bs.map SV.ref,by rw[a1,b1,iJ],by simp[a2.len,b2.len],as++bs,by rw[aC,List.map_append],?_⟩
 have:∀{as bs:List Nat} {fs gs:List Fi},A2 (IsF H) as fs→A2 (IsF H) bs gs→A2 (IsF H) (as++bs) (fs++gs):=by
  intro as
  induction as with
  |nil=>intro bs fs gs h k;cases fs with
   |nil=>exact k
   |cons _ _=>exact h.elim
  |cons x as ih=>intro bs fs gs h k;cases fs with
   |nil=>exact h.elim
   |cons f fs=>exact⟨h.1,ih h.2 k⟩
 exact(this a2 b2).imp fun x f h=>h.app _
structure r8 (lev:Nat) (fl fl1 in0 in0' in1':List Fi):Prop where
 zero:in0'=in0∨∃a b,in0'=fl.filter (ov a b)∧(lev=0→∀f∈in0',a≤f.lo.u∧f.hi.u≤b)
 ne:in0'≠[]
 one:∃a b,iE in0' a b∧in1'=fl1.filter (ov a b)
def nx (Γ:FT):Prop:=∀(p c pt cp dl ad v lev op o ed:Nat) (a:CA) (ga:Nat) (go:Int) (sk:Bool) (ps:List Nat) (Pt:List (Option En)) (in0 in1 G:List Fi) (V:List (List Fi)) (sc sl:SV) (fl fl1:List Fi) (ot:Opt) (H:Hp),
 kO H p op o→cU H o→cY H op ot→ot.Ok→V.length=ot.cnt→aB H c lev v op ed a in0 in1 G ga go sk ps→H[ed]? =some (aY cp dl ad)→H[pt]? =some (.list (Pt.map ptV))→Pt.length=V.length→H[cp]? =some (.list [])→Lay H a c pt cp→
 (∀H',Pr (Sx a c pt cp) H H'→aI H' v V sc sl)→(∀fs∈V,fs.length≤30)→in0≠[]→in0.length≤30→V[lev]? =some fl→V[lev+1]? =some fl1→G.length≤100→(∀f∈fl,f.sz≤30)→(∀f∈fl1,f.sz≤30)→
 ∃(i0 i1 gr:Nat) (in0' in1' G':List Fi) (Pt':List (Option En)) (H':Hp),aw (Γ 687) [.ref p,.ref c,.ref pt] H= .ok .none H'∧Pr (Sx a c pt cp) H H'∧aB H' c lev v op ed {a with i0:=i0,i1:=i1,gr:=gr} in0' in1' G' ga go sk ps∧
  (i0=a.i0∨H.length≤i0)∧(i1=a.i1∨H.length≤i1)∧(gr=a.gr∨H.length≤gr)∧H'[pt]? =some (.list (Pt'.map ptV))∧Pt'.length=Pt.length∧r8 lev fl fl1 in0 in0' in1'∧G'.length≤100
theorem ix0 (x y:Nat):ck (some (.list [.ref x,.ref y])) 0=some (.ref x):=aG (j:=0) rfl (show 2≤ag by decide)
theorem ix1 (x y:Nat):ck (some (.list [.ref x,.ref y])) 1=some (.ref y):=aG (j:=1) rfl (show 2≤ag by decide)
theorem sx0 (x y z:Nat):fT (some (.list [.ref x,.ref y])) 0 (.ref z)=some (.list [.ref z,.ref y]):=by
 simp[fT,ag]
theorem sx1 (x y z:Nat):fT (some (.list [.ref x,.ref y])) 1 (.ref z)=some (.list [.ref x,.ref z]):=by
 simp[fT,ag]
section
variable {p c pt cp dl ad v lev op o ed:Nat} {H0:Hp} {a:CA} {ga:Nat} {go:Int} {sk:Bool} {ps:List Nat} {Pt:List (Option En)} {CP:List SV} {i0 i1 gr:Nat} {in0 in1 G:List Fi} {l:Loc} {H':Hp}
theorem SU.fc (t:SU p c pt cp dl ad v lev op o ed H0 a ga go sk ps Pt CP i0 i1 gr in0 in1 G l H'):H'[c]? =some (aA lev v op a.ord a.us a.inp gr ed ga go sk a.pl):=t.C.c
theorem SU.fi (t:SU p c pt cp dl ad v lev op o ed H0 a ga go sk ps Pt CP i0 i1 gr in0 in1 G l H'):H'[a.inp]? =some (.list [.ref i0,.ref i1]):=t.C.inp
theorem SU.h0 (t:SU p c pt cp dl ad v lev op o ed H0 a ga go sk ps Pt CP i0 i1 gr in0 in1 G l H'):be H' i0 in0:=t.C.f0
theorem SU.h1 (t:SU p c pt cp dl ad v lev op o ed H0 a ga go sk ps Pt CP i0 i1 gr in0 in1 G l H'):be H' i1 in1:=t.C.f1
end
theorem tupU (x y:Fin 4):dv [SV.bytes (usr x),SV.bytes (usr y)] 0=some (.bytes (usr x))∧dv [SV.bytes (usr x),SV.bytes (usr y)] 1=some (.bytes (usr y)):=⟨rfl,rfl⟩
theorem AA {fs:List Fi} (h:∀f∈fs,f.sz≤30):szs fs≤30*fs.length:=by
 induction fs with
 |nil=>simp[szs]
 |cons f r ih=>
  have:=ih fun g hg=>h g (List.mem_cons_of_mem _ hg)
  have:=h f (List.mem_cons_self)
  simp only[szs,List.map_cons,List.sum_cons,List.length_cons] at*
  omega
theorem wW (n:Nat) (hur:iY (Gam n)) (hov:kj (Gam n)) (hto:ky (Gam n)) (hra:kn (Gam n)):nx (Gam (n+1)):=by
 intro p c pt cp dl ad v lev op o ed a ga go sk ps Pt in0 in1 G V sc sl fl fl1 ot H hp hod hO hk hVl hC hed hpt hPl hcp D hV hfl hne h30 hVlev hVlev1 hGl hz0 hz1
 have hcnt:=hk.cnt
 have hlevl:lev+1<V.length:=(List.getElem?_eq_some_iff.mp hVlev1).1
 have hfl0:=hfl fl (List.mem_of_getElem? hVlev)
 have hfl1:=hfl fl1 (List.mem_of_getElem? hVlev1)
 have hO':∀{H'},Pr (Sx a c pt cp) H H'→cY H' op ot:=fun P=>by
  have h:H[op]? =some (aK ot.cnt ot.l0 ot.bb ot.lf ot.mf ot.ef 1):=hO
  refine P.get h ?_
  rintro(e|e|e|e)
  ·rw[e,hC.inp] at h;cases h
  ·rw[e,hC.c] at h;simp only[aA,aK] at h;injection h with h;injection h with h _;exact absurd h (by decide)
  ·rw[e,hpt] at h;cases h
  ·rw[e,hcp] at h;cases h
 suffices h:W (aw (Gam (n+1) 687) [.ref p,.ref c,.ref pt] H) fun x H'=>x= .none∧Pr (Sx a c pt cp) H H'∧∃(i0 i1 gr:Nat) (in0' in1' G':List Fi) (Pt':List (Option En)),aB H' c lev v op ed {a with i0:=i0,i1:=i1,gr:=gr} in0' in1' G' ga go sk ps∧
  (i0=a.i0∨H.length≤i0)∧(i1=a.i1∨H.length≤i1)∧(gr=a.gr∨H.length≤gr)∧H'[pt]? =some (.list (Pt'.map ptV))∧Pt'.length=Pt.length∧r8 lev fl fl1 in0 in0' in1'∧G'.length≤100 by
  revert h
  cases aw (Gam (n+1) 687) [.ref p,.ref c,.ref pt] H with
  |ok x H'=>
   rintro⟨rfl,P,i0,i1,gr,in0',in1',G',Pt',h⟩
   exact⟨i0,i1,gr,in0',in1',G',Pt',H',rfl,P,h⟩
  |exc H'=>exact fun h=>h.elim
  |fail=>exact fun h=>h.elim
 show W (aj TT (Gam n) bK bO _ _) _
 wrow_hasAny bO bK
 have hcc:=hC.c
 simp only[aA] at hcc
 refine ah (fun l H'=>l 29=some (.ref p)∧l 36=some (.ref c)∧l 143=some (.ref pt)∧l 92=some (.int lev)∧H=H') ?_ ?_
 ·wide_line with[hcc]
  exact⟨_,rfl,rfl,rfl,rfl,rfl,trivial⟩
 rintro l H' ⟨l29,l36,l143,l92,rfl⟩
 refine ah (SU p c pt cp dl ad v lev op o ed H a ga go sk ps Pt [] a.i0 a.i1 a.gr in0 in1 G) ?_ ?_
 ·wide_line with[l36,hcc]
  exact⟨_,rfl,l29,l36,l143,l92,rfl,Pr.refl _ _,hC,hpt,hcp,hed,hp,hod,.inl rfl,.inl rfl,.inl rfl⟩
 clear l29 l36 l143 l92 l
 rintro l H' t
 refine ah (fun l H'=>SU p c pt cp dl ad v lev op o ed H a ga go sk ps Pt [] a.i0 a.i1 a.gr in0 in1 G l H'∧∃x y,iE in0 x y∧l 141=some (.tup [.bytes (usr x),.bytes (usr y)])) ?_ ?_
 ·obtain⟨L,x,y,e1,hE⟩:=hur p op o a.i0 in0 H' t.k t.h0 (by omega) hne t.od
  have hc1:=t.fc
  have hp1:H'[p]? =some _:=t.k
  simp only[aA] at hc1
  wide_line with[t.l29,t.l36,hc1,t.fi,ix0,hp1,e1]
  exact⟨_,rfl,(t.app L).loc (fun j hj=>by rcases hj with rfl|rfl|rfl|rfl|rfl<;>rfl),x,y,hE,rfl⟩
 clear t l H'
 rintro l H' ⟨t,x,y,hE,l141⟩
 refine ah (fun l H'=>∃j1,SU p c pt cp dl ad v lev op o ed H a ga go sk ps Pt [] a.i0 j1 a.gr in0 (fl1.filter (ov x y)) G l H') ?_ ?_
 ·obtain⟨L,r,x',y',e1,hr,hrl,_,_,hxy,_⟩:=hov v V sc sl (lev+1) x y fl1 H' (hV _ t.P) (by omega) hVlev1 (by omega)
  obtain⟨rfl,rfl⟩:=hxy (by omega)
  have t1:=t.app L
  have t2:=t1.ins D t1.h0 hr (.inl rfl) (.inr (by have:=t.P.1;omega))
  have hc1:=t1.fc
  obtain⟨w1,w2,hv⟩:=(hV _ t.P).order
  simp only[b9] at hv
  simp only[aA] at hc1
  have hl1:((lev:Int)+1)=((lev+1:Nat):Int):=by omega
  wide_line with[t.l119,t.l92,l141,t.l36,hl1,hv,e1,hc1,t1.fi,sx1]
  exact⟨by decide,by decide,l,rfl,r,t2⟩
 clear t l H' l141
 rintro l H' ⟨j1,t⟩
 have span:∀(i0 i1 gr:Nat) (in0 in1 G:List Fi) (l:Loc) (H':Hp),SU p c pt cp dl ad v lev op o ed H a ga go sk ps Pt [] i0 i1 gr in0 in1 G l H'→in0≠[]→in0.length≤30→in1.length≤30→
  W (exS TT (Gam n) (.asg 150 (.meth (.loc 29) 146 (.cons (.bin .Add (.idx (.attr (.loc 36) 127) (.con (.int 0))) (.idx (.attr (.loc 36) 127) (.con (.int 1)))) .nil))) l H') fun q H'=>∃l',q=(.next,l')∧SU p c pt cp dl ad v lev op o ed H a ga go sk ps Pt [] i0 i1 gr in0 in1 G l' H'∧∃x y,iE (in0++in1) x y∧l' 150=some (.tup [.bytes (usr x),.bytes (usr y)]):=by
  intro i0 i1 gr in0 in1 G l H' t hne h0 h1
  obtain⟨vs,e1,e2,e3⟩:=t.h0.cat t.h1
  have t1:=t.app [.list vs]
  obtain⟨L,x,y,e4,hE⟩:=hur p op o H'.length (in0++in1) _ t1.k e3 (by rw[List.length_append];omega) (by simp[hne]) t1.od
  have hc1:=t.fc
  simp only[aA] at hc1
  have hp1:H'[p]? =some _:=t.k
  have hvl:vs.length≤ag:=by rw[e2];unfold ag;omega
  wide_line with[t.l29,t.l36,hc1,t.fi,ix0,ix1,hp1,nC,e1,e4]
  exact⟨hvl,_,rfl,(t1.app L).loc (fun j hj=>by rcases hj with rfl|rfl|rfl|rfl|rfl<;>rfl),x,y,hE,rfl⟩
 have hfil:∀(x y:Fin 4),(fl1.filter (ov x y)).length≤30:=fun x y=>Nat.le_trans (List.length_filter_le _ _) hfl1
 have hfil0:∀(x y:Fin 4),(fl.filter (ov x y)).length≤30:=fun x y=>Nat.le_trans (List.length_filter_le _ _) hfl0
 refine ah (fun l H'=>SU p c pt cp dl ad v lev op o ed H a ga go sk ps Pt [] a.i0 j1 a.gr in0 (fl1.filter (ov x y)) G l H'∧∃x' y',iE (in0++fl1.filter (ov x y)) x' y'∧l 150=some (.tup [.bytes (usr x'),.bytes (usr y')])) (span _ _ _ _ _ _ _ _ t hne h30 (hfil x y)) ?_
 clear t l H'
 rintro l H' ⟨t,x',y',hE',l150⟩
 refine ah (fun l H'=>∃i0 j1 in0' in1',SU p c pt cp dl ad v lev op o ed H a ga go sk ps Pt [] i0 j1 a.gr in0' in1' G l H'∧r8 lev fl fl1 in0 in0' in1'∧in0'.length≤30∧in1'.length≤30∧∃x y:Fin 4,l 150=some (.tup [.bytes (usr x),.bytes (usr y)])) ?_ ?_
 ·have stay:∀l H',SU p c pt cp dl ad v lev op o ed H a ga go sk ps Pt [] a.i0 j1 a.gr in0 (fl1.filter (ov x y)) G l H'→(∃x y:Fin 4,l 150=some (.tup [.bytes (usr x),.bytes (usr y)]))→∃i0 j1 in0' in1',SU p c pt cp dl ad v lev op o ed H a ga go sk ps Pt [] i0 j1 a.gr in0' in1' G l H'∧r8 lev fl fl1 in0 in0' in1'∧in0'.length≤30∧in1'.length≤30∧∃x y:Fin 4,l 150=some (.tup [.bytes (usr x),.bytes (usr y)]):=
   fun l H' t h=>⟨a.i0,j1,in0,_,t,⟨.inl rfl,hne,x,y,hE,rfl⟩,h30,hfil x y,h⟩
  rw[dG]
  refine W.mono (Q:=fun b H1=>H'=H1) ?_ ?_
  ·have hc1:=t.fc
   simp only[aA] at hc1
   wide_line with[t.l36,hc1,t.fi,ix1,t.h1.lenO (by have:=hfil x y;omega)]
  ·rintro b H1 rfl
   cases b
   ·rw[if_neg (by decide),fR]
    exact⟨l,rfl,stay _ _ t ⟨x',y',l150⟩⟩
   ·rw[if_pos rfl]
    refine ah (fun l H'=>SU p c pt cp dl ad v lev op o ed H a ga go sk ps Pt [] a.i0 j1 a.gr in0 (fl1.filter (ov x y)) G l H'∧l 150=some (.tup [.bytes (usr x'),.bytes (usr y')])∧∃g x3 y3,l 153=some (.ref g)∧be H' g (fl.filter (ov x3 y3))∧H.length≤g∧(lev=0→∀f∈fl.filter (ov x3 y3),x3≤f.lo.u∧f.hi.u≤y3)) ?_ ?_
    ·obtain⟨L,g,x3,y3,e1,hr,hrl,_,_,_,h0⟩:=hov v V sc sl lev x' y' fl H' (hV _ t.P) (by omega) hVlev (by omega)
     obtain⟨w1,w2,hv⟩:=(hV _ t.P).order
     simp only[b9] at hv
     have hgl:=t.P.1
     wide_line with[t.l119,t.l92,l150,hv,e1]
     exact⟨by decide,by decide,_,rfl,(t.app L).loc (fun j hj=>by rcases hj with rfl|rfl|rfl|rfl|rfl<;>rfl),l150,g,x3,y3,rfl,hr,by omega,h0⟩
    clear t l H' l150
    rintro l H' ⟨t,l150,g,x3,y3,l153,hg,hgl,hg0⟩
    refine ah (fun l H'=>SU p c pt cp dl ad v lev op o ed H a ga go sk ps Pt [] a.i0 j1 a.gr in0 (fl1.filter (ov x y)) G l H'∧l 150=some (.tup [.bytes (usr x'),.bytes (usr y')])∧l 153=some (.ref g)∧be H' g (fl.filter (ov x3 y3))∧∃room:Int,l 152=some (.int room)) ?_ ?_
    ·have ho1:H'[op]? =some _:=hO' t.P
     simp only[aK] at ho1
     have hp1:H'[p]? =some _:=t.k
     have hef:=hk.ef
     wide_line with[t.l29,hp1,ho1]
     exact⟨dt (by omega) (by omega),_,rfl,t.loc (fun j hj=>by rcases hj with rfl|rfl|rfl|rfl|rfl<;>rfl),l150,l153,hg,_,rfl⟩
    clear t l H' l150 l153 hg
    rintro l H' ⟨t,l150,l153,hg,room,l152⟩
    refine ah (fun l H'=>SU p c pt cp dl ad v lev op o ed H a ga go sk ps Pt [] a.i0 j1 a.gr in0 (fl1.filter (ov x y)) G l H'∧l 150=some (.tup [.bytes (usr x'),.bytes (usr y')])∧l 153=some (.ref g)∧be H' g (fl.filter (ov x3 y3))∧l 152=some (.int room)∧∃cost:Int,l 151=some (.int cost)) ?_ ?_
    ·have hc1:=t.fc
     simp only[aA] at hc1
     wide_line with[t.l36,l153,hc1,t.fi,ix1,hto j1 _ H' t.h1,hto g _ H' hg]
     exact⟨_,rfl,t.loc (fun j hj=>by rcases hj with rfl|rfl|rfl|rfl|rfl<;>rfl),l150,l153,hg,l152,_,rfl⟩
    clear t l H' l150 l153 hg l152
    rintro l H' ⟨t,l150,l153,hg,l152,cost,l151⟩
    rw[eT,dG]
    refine W.mono (Q:=fun b H1=>H'=H1∧(b=true→in0.length<(fl.filter (ov x3 y3)).length)) ?_ ?_
    ·have hc1:=t.fc
     simp only[aA] at hc1
     wide_line with[t.l36,l153,l152,l151,hc1,t.fi,ix0,t.h0.lenO (by omega),hg.lenO (by have:=hfil0 x3 y3;omega)]
     by_cases c1:(in0.length:Int)<(fl.filter (ov x3 y3)).length
     ·rw[if_pos c1]
      split<;>exact⟨trivial,fun _=>by omega⟩
     ·rw[if_neg c1]
      exact⟨trivial,fun h=>by cases h⟩
    rintro b H1 ⟨rfl,hb⟩
    cases b
    ·rw[if_neg (by decide)]
     wide_line with[]
     exact⟨l,rfl,stay _ _ t ⟨x',y',l150⟩⟩
    rw[if_pos rfl]
    have hgn:fl.filter (ov x3 y3)≠[]:=fun e=>by have:=hb rfl;rw[e] at this;simp at this
    suffices hs:W (aM TT (Gam n) _ l H') fun q H'=>∃l',q=(.next,l')∧(∃i0 j1 in0' in1',SU p c pt cp dl ad v lev op o ed H a ga go sk ps Pt [] i0 j1 a.gr in0' in1' G l' H'∧r8 lev fl fl1 in0 in0' in1'∧in0'.length≤30∧in1'.length≤30∧∃x y:Fin 4,l' 150=some (.tup [.bytes (usr x),.bytes (usr y)])) by
     refine hs.mono ?_
     rintro q H' ⟨l',rfl,h⟩
     wide_line with[]
     exact⟨l',rfl,h⟩
    refine ah (fun l H'=>SU p c pt cp dl ad v lev op o ed H a ga go sk ps Pt [] a.i0 j1 a.gr in0 (fl1.filter (ov x y)) G l H'∧l 150=some (.tup [.bytes (usr x'),.bytes (usr y')])∧l 153=some (.ref g)∧be H' g (fl.filter (ov x3 y3))∧∃x4 y4,iE (fl.filter (ov x3 y3)) x4 y4∧l 141=some (.tup [.bytes (usr x4),.bytes (usr y4)])) ?_ ?_
    ·obtain⟨L,x4,y4,e1,hE4⟩:=hur p op o g _ H' t.k hg (by have:=hfil0 x3 y3;omega) hgn t.od
     have hp1:H'[p]? =some _:=t.k
     wide_line with[t.l29,l153,hp1,e1]
     exact⟨_,rfl,(t.app L).loc (fun j hj=>by rcases hj with rfl|rfl|rfl|rfl|rfl<;>rfl),l150,l153,hg.app L,x4,y4,hE4,rfl⟩
    clear t l H' l150 l153 hg l152 l151
    rintro l H' ⟨t,l150,l153,hg,x4,y4,hE4,l141⟩
    refine ah (fun l H'=>SU p c pt cp dl ad v lev op o ed H a ga go sk ps Pt [] a.i0 j1 a.gr in0 (fl1.filter (ov x y)) G l H'∧l 150=some (.tup [.bytes (usr x'),.bytes (usr y')])∧l 153=some (.ref g)∧be H' g (fl.filter (ov x3 y3))∧∃r,l 154=some (.ref r)∧be H' r (fl1.filter (ov x4 y4))∧H.length≤r) ?_ ?_
    ·obtain⟨L,r,x5,y5,e1,hr,hrl,_,_,hxy,_⟩:=hov v V sc sl (lev+1) x4 y4 fl1 H' (hV _ t.P) (by omega) hVlev1 (by omega)
     obtain⟨rfl,rfl⟩:=hxy (by omega)
     obtain⟨w1,w2,hv⟩:=(hV _ t.P).order
     simp only[b9] at hv
     have hgl:=t.P.1
     have hl1:((lev:Int)+1)=((lev+1:Nat):Int):=by omega
     wide_line with[t.l119,t.l92,l141,hl1,hv,e1]
     exact⟨by decide,by decide,_,rfl,(t.app L).loc (fun j hj=>by rcases hj with rfl|rfl|rfl|rfl|rfl<;>rfl),l150,l153,hg.app L,r,rfl,hr,by omega⟩
    clear t l H' l150 l153 hg l141
    rintro l H' ⟨t,l150,l153,hg,r,l154,hr,hrl⟩
    rw[eT,dG]
    refine W.mono (Q:=fun b H1=>H'=H1) ?_ ?_
    ·have hc1:=t.fc
     simp only[aA] at hc1
     wide_line with[t.l36,l154,hc1,t.fi,ix1,t.h1.lenO (by have:=hfil x y;omega),hr.lenO (by have:=hfil x4 y4;omega)]
    rintro b H1 rfl
    cases b
    ·rw[if_neg (by decide)]
     wide_line with[]
     exact⟨l,rfl,stay _ _ t ⟨x',y',l150⟩⟩
    rw[if_pos rfl]
    suffices hs:W (aM TT (Gam n) _ l H') fun q H'=>∃l',q=(.next,l')∧(∃i0 j1 in0' in1',SU p c pt cp dl ad v lev op o ed H a ga go sk ps Pt [] i0 j1 a.gr in0' in1' G l' H'∧r8 lev fl fl1 in0 in0' in1'∧in0'.length≤30∧in1'.length≤30∧∃x y:Fin 4,l' 150=some (.tup [.bytes (usr x),.bytes (usr y)])) by
     refine hs.mono ?_
     rintro q H' ⟨l',rfl,h⟩
     wide_line with[]
     exact⟨l',rfl,h⟩
    refine ah (fun l H'=>SU p c pt cp dl ad v lev op o ed H a ga go sk ps Pt [] g j1 a.gr (fl.filter (ov x3 y3)) (fl1.filter (ov x y)) G l H'∧l 154=some (.ref r)∧be H' r (fl1.filter (ov x4 y4))) ?_ ?_
    ·have hc1:=t.fc
     simp only[aA] at hc1
     have t2:=t.ins D hg t.h1 (.inr hgl) t.n1
     have hi:=t.fi
     have hr2:be (H'.set a.inp (.list [.ref g,.ref j1])) r (fl1.filter (ov x4 y4)):=hr.keep (S:=fun i=>i=a.inp) (Pr.set _ _ rfl) (fun i f h e=>by rw[e,hi] at h;cases h) (by have:=D.lt.1;show r≠a.inp;omega)
     wide_line with[t.l36,l153,hc1,hi,sx0]
     exact⟨l,rfl,t2,l154,hr2⟩
    clear t l H' l150 l153 hg l154 hr
    rintro l H' ⟨t,l154,hr⟩
    refine ah (SU p c pt cp dl ad v lev op o ed H a ga go sk ps Pt [] g r a.gr (fl.filter (ov x3 y3)) (fl1.filter (ov x4 y4)) G) ?_ ?_
    ·have hc1:=t.fc
     simp only[aA] at hc1
     have t2:=t.ins D t.h0 hr t.n0 (.inr hrl)
     wide_line with[t.l36,l154,hc1,t.fi,sx1]
     exact⟨l,rfl,t2⟩
    clear t l H' l154 hr
    intro l H' t
    refine ah _ (span _ _ _ _ _ _ _ _ t hgn (hfil0 x3 y3) (hfil x4 y4)) ?_
    rintro l H' ⟨t,x6,y6,_,l150⟩
    wide_line with[]
    exact⟨l,rfl,g,r,_,_,t,⟨.inr ⟨x3,y3,rfl,hg0⟩,hgn,x4,y4,hE4,rfl⟩,hfil0 x3 y3,hfil x4 y4,x6,y6,l150⟩
 clear t l H' l150
 rintro l H' ⟨i0,j1,in0',in1',t,hS,hb0,hb1,x2,y2,l150⟩
 refine ah (fun l H'=>∃gr G',SU p c pt cp dl ad v lev op o ed H a ga go sk ps Pt [] i0 j1 gr in0' in1' G' l H'∧G'.length≤100) ?_ ?_
 ·have ho1:H'[op]? =some _:=hO' t.P
  simp only[aK] at ho1
  have hp1:H'[p]? =some _:=t.k
  rw[dG]
  refine W.mono (Q:=fun b H1=>H'=H1∧(b=true→lev+2<V.length)) ?_ ?_
  ·wide_line with[t.l92,t.l29,hp1,ho1]
   exact⟨trivial,fun h=>by omega⟩
  rintro b H1 ⟨rfl,hb⟩
  cases b
  ·rw[if_neg (by decide),fR]
   exact⟨l,rfl,a.gr,G,t,hGl⟩
  rw[if_pos rfl]
  have hb2:=hb rfl
  have h2:=List.getElem?_eq_getElem hb2
  have h2m:=hfl _ (List.getElem_mem hb2)
  generalize V[lev+2]=fl2 at h2 h2m
  obtain⟨L,r,x5,y5,e1,hr,hrl,_,_,hxy,_⟩:=hov v V sc sl (lev+2) x2 y2 fl2 H' (hV _ t.P) (by omega) h2 (by omega)
  obtain⟨w1,w2,hv⟩:=(hV _ t.P).order
  simp only[b9] at hv
  have hgl:=t.P.1
  have hl1:((lev:Int)+2)=((lev+2:Nat):Int):=by omega
  have t1:=t.app L
  have t2:=t1.grn hr (.inr (by omega))
  have hc1:=t1.fc
  simp only[aA] at hc1 t2
  wide_line with[t.l119,t.l92,t.l36,l150,hl1,hv,e1,hc1,gk,List.length_cons,List.length_nil,Nat.reduceAdd,Nat.reduceLeDiff]
  exact⟨by decide,by decide,l,rfl,r,_,t2,Nat.le_trans (List.length_filter_le _ _) (by omega)⟩
 clear t l H' l150
 rintro l H' ⟨gr,G',t,hG'⟩
 refine ah (fun l H'=>SU p c pt cp dl ad v lev op o ed H a ga go sk ps Pt [] i0 j1 gr in0' in1' G' l H'∧∃e,l 75=some (.bytes (ik e))) ?_ ?_
 ·obtain⟨L,lo,hi,e1,_⟩:=hra i0 o in0' H' t.h0 (by omega) hS.ne t.od
  have hc1:=t.fc
  have hp1:H'[p]? =some _:=t.k
  simp only[aA] at hc1
  wide_line with[t.l29,t.l36,hc1,t.fi,ix0,hp1,e1]
  exact⟨by decide,_,rfl,(t.app L).loc (fun j hj=>by rcases hj with rfl|rfl|rfl|rfl|rfl<;>rfl),hi,rfl⟩
 clear t l H'
 rintro l H' ⟨t,e,l75⟩
 have hPl':lev<Pt.length:=by omega
 have hset:fT (some (.list (Pt.map ptV))) (lev:Int) (.bytes (ik e))=some (.list ((Pt.set lev (some e)).map ptV)):=by
  simp only[fT,List.length_map]
  rw[if_pos ⟨by omega,by omega,by omega⟩,Int.toNat_natCast,List.map_set]
  rfl
 have hc1:=t.fc
 simp only[aA] at hc1
 have he1:=t.e
 simp only[aY] at he1
 have hed2:(H'.set pt (.list ((Pt.set lev (some e)).map ptV)))[ed]? =some (aY cp dl ad):=ai t.e (fun e=>by have:=t.e;rw[←e,t.q] at this;cases this) _
 have hc2:(H'.set pt (.list ((Pt.set lev (some e)).map ptV)))[c]? =some (aA lev v op a.ord a.us a.inp gr ed ga go sk a.pl):=ai t.fc (fun e=>by have:=t.fc;rw[←e,t.q] at this;cases this) _
 have hcp2:(H'.set pt (.list ((Pt.set lev (some e)).map ptV)))[cp]? =some (.list []):=ai t.cpl D.fcp.2.2.2.2.2 _
 simp only[aY] at hed2
 simp only[aA] at hc2
 wide_line with[t.l143,t.l92,l75,t.l36,t.q,hset,hc2,hed2,hcp2,fH,List.length_cons,List.length_nil,e6]
 refine⟨⟨trivial,by decide⟩,?_⟩
 rw[if_pos (by decide),eO]
 exact⟨trivial,trivial,(t.P.trans (Pr.set _ _ (.inr (.inr (.inl rfl))))).trans (Pr.set _ _ (.inr (.inr (.inr rfl)))),i0,j1,gr,in0',in1',G',Pt.set lev (some e),t.last D _ _,t.n0,t.n1,t.n2,ai (a5 _ t.q) D.fcp.2.2.2.2.2.symm _,List.length_set,hS,hG'⟩
theorem aI.old {H H':Hp} {pt v:Nat} {Pt:List (Option En)} {V:List (List Fi)} {sc sl:SV} (P:Pr (fun i=>i=pt∨H.length≤i) H H') (hp:H[pt]? =some (.list (Pt.map ptV))) (hn:Pt≠[]) (h:aI H v V sc sl):aI H' v V sc sl:=by
 refine h.keep P (fun i C f hi _=> ?_) (fun i ls hi=> ?_)
 ·rintro(e|e)
  ·rw[e,hp] at hi;cases hi
  ·have:=ch hi;omega
 ·rintro(e|e)
  ·rw[e,hp] at hi
   cases Pt with
   |nil=>exact hn rfl
   |cons x r=>
    cases ls with
    |nil=>cases hi
    |cons y s=>cases x<;>simp[ptV] at hi
  ·have:=ch hi;omega
structure qR (lev:Nat) (fl fl1 in0 in1:List Fi):Prop where
 zero:(lev≠0∧∃f∈fl,in0=[f])∨∃a b,in0=fl.filter (ov a b)∧(lev=0→∀f∈in0,a≤f.lo.u∧f.hi.u≤b)
 ne:in0≠[]
 one:∃a b,iE in0 a b∧in1=fl1.filter (ov a b)
def kT (Γ:FT):Prop:=∀(p pt v op o:Nat) (Pt:List (Option En)) (V:List (List Fi)) (bt bo bl:Nat) (fl fl1:List Fi) (ot:Opt) (H:Hp),
 kO H p op o→cU H o→cY H op ot→ot.Ok→V.length=ot.cnt→aI H v V (.tup [.int bt,.int bo]) (.int bl)→H[pt]? =some (.list (Pt.map ptV))→Pt.length=V.length→
 (∀fs∈V,fs.length≤30)→V[bl]? =some fl→V[bl+1]? =some fl1→(bo≤bt→fl≠[])→(∀f∈fl,f.lo.u≤f.hi.u)→(∀f∈fl,f.sz≤30)→(∀f∈fl1,f.sz≤30)→
 (bt<bo→aw (Γ 673) [.ref p,.ref v,.ref pt] H= .ok .none H)∧
 (bo≤bt→∃(c ed cp dl ad:Nat) (a:CA) (in0 in1 G:List Fi) (Pt':List (Option En)) (H':Hp),aw (Γ 673) [.ref p,.ref v,.ref pt] H= .ok (.ref c) H'∧Pr (fun i=>i=pt) H H'∧aB H' c bl v op ed a in0 in1 G 0 0 false (List.replicate V.length 0)∧
   H'[ed]? =some (aY cp dl ad)∧H'[dl]? =some (.list [])∧H'[ad]? =some (.list [])∧H'[pt]? =some (.list (Pt'.map ptV))∧Pt'.length=Pt.length∧
   (H.length≤c∧H.length≤a.pl∧H.length≤dl∧H.length≤ad∧H.length≤ed)∧dl≠ad∧(∀x∈[a.inp,a.i0,a.i1,a.gr,a.pl],x≠dl∧x≠ad)∧qR bl fl fl1 in0 in1∧G.length≤100)
def cmA (b:Nat):CA:=⟨b+1,b+3,b+6,b+7,b+13,b+4,b+5⟩
structure PK (p pt v op o lev cnt:Nat) (H:Hp) (i0:Nat) (in0:List Fi) (l:Loc) (H':Hp):Prop where
 l29:l 29=some (.ref p)
 l36:l 36=some (.ref H.length)
 l119:l 119=some (.ref v)
 l143:l 143=some (.ref pt)
 l92:l 92=some (.int lev)
 P:Pr (fun i=>H.length≤i) H H'
 C:aB H' H.length lev v op (H.length+8) {cmA H.length with i0:=i0} in0 [] [] 0 0 false (List.replicate cnt 0)
 e:H'[H.length+8]? =some (aY (H.length+9) (H.length+10) (H.length+11))
 cp:H'[H.length+9]? =some (.list [])
 dl:H'[H.length+10]? =some (.list [])
 ad:H'[H.length+11]? =some (.list [])
 n0:i0=H.length+4∨H.length+14≤i0
 lt:H.length+14≤H'.length
theorem PK.app {p pt v op o lev cnt:Nat} {H:Hp} {i0:Nat} {in0:List Fi} {l:Loc} {H':Hp} (t:PK p pt v op o lev cnt H i0 in0 l H') (L:Hp):PK p pt v op o lev cnt H i0 in0 l (H'++L):=
 ⟨t.l29,t.l36,t.l119,t.l143,t.l92,t.P.trans (Pr.app _ _ _),t.C.app L,ab t.e L,ab t.cp L,ab t.dl L,ab t.ad L,t.n0,by rw[List.length_append];have:=t.lt;omega⟩
theorem PK.ins {p pt v op o lev cnt:Nat} {H:Hp} {i0:Nat} {in0:List Fi} {l:Loc} {H':Hp} (t:PK p pt v op o lev cnt H i0 in0 l H') {j0:Nat} {fs:List Fi} (h:be H' j0 fs) (hj:H.length+14≤j0):PK p pt v op o lev cnt H j0 fs l (H'.set (H.length+6) (.list [.ref j0,.ref (H.length+5)])):=by
 have hi:H'[H.length+6]? =some (.list [.ref i0,.ref (H.length+5)]):=t.C.inp
 have hs:∀{k:Nat} {x:SO},H'[H.length+k]? =some x→k≠6→(H'.set (H.length+6) (.list [.ref j0,.ref (H.length+5)]))[H.length+k]? =some x:=fun h hk=>ai h (by omega) _
 refine⟨t.l29,t.l36,t.l119,t.l143,t.l92,t.P.trans (Pr.set _ _ (Nat.le_add_right _ _)),t.C.sins h t.C.f1 (by show j0≠H.length+6;omega) (by show H.length+5≠H.length+6;omega) (by show H.length+7≠H.length+6;omega) (by show H.length+13≠H.length+6;omega),hs t.e (by decide),hs t.cp (by decide),hs t.dl (by decide),hs t.ad (by decide),.inr hj,by rw[List.length_set];exact t.lt⟩
theorem PK.loc {p pt v op o lev cnt:Nat} {H:Hp} {i0:Nat} {in0:List Fi} {l l':Loc} {H':Hp} (t:PK p pt v op o lev cnt H i0 in0 l H') (h:∀j,j=29∨j=36∨j=119∨j=143∨j=92→l' j=l j):PK p pt v op o lev cnt H i0 in0 l' H':=
 ⟨(h 29 (by decide)).trans t.l29,(h 36 (by decide)).trans t.l36,(h 119 (by decide)).trans t.l119,(h 143 (by decide)).trans t.l143,(h 92 (by decide)).trans t.l92,t.P,t.C,t.e,t.cp,t.dl,t.ad,t.n0,t.lt⟩
theorem PK.new {p pt v op o lev cnt:Nat} {H:Hp} {l:Loc} (l29:l 29=some (.ref p)) (l36:l 36=some (.ref H.length)) (l119:l 119=some (.ref v)) (l143:l 143=some (.ref pt)) (l92:l 92=some (.int lev)):
 PK p pt v op o lev cnt H (H.length+4) [] l (H++fX H.length lev v op cnt):=by
 have g:∀k,(H++fX H.length lev v op cnt)[H.length+k]? =(fX H.length lev v op cnt)[k]? :=fun k=>gtk H _ k
 have nil:∀k,(fX H.length lev v op cnt)[k]? =some (.list [])→be (H++fX H.length lev v op cnt) (H.length+k) []:=fun k h=>⟨[],(g k).trans h,trivial⟩
 refine⟨l29,l36,l119,l143,l92,Pr.app _ _ _,⟨(g 0).trans rfl,⟨H.length+2,(g 1).trans rfl,(g 2).trans rfl⟩,(g 3).trans rfl,(g 6).trans rfl,nil 4 rfl,nil 5 rfl,nil 7 rfl,(g 13).trans ?_⟩,(g 8).trans rfl,(g 9).trans rfl,(g 10).trans rfl,(g 11).trans rfl,.inl rfl,?_⟩
 ·rw[bT,List.map_replicate];rfl
 ·rw[List.length_append];exact Nat.le_refl _
theorem zK (n:Nat) (hnd:nj (Gam n)) (hnc:nc (Gam n)) (hcm:jS (Gam n)) (hur:iY (Gam n)) (hov:kj (Gam n)) (hsu:nx (Gam n)):kT (Gam (n+1)):=by
 intro p pt v op o Pt V bt bo bl fl fl1 ot H hp hod hO hk hVl hV hpt hPl hfl hVlev hVlev1 hfn hends hz0 hz1
 have hcnt:=hk.cnt
 have hneed:=hnd p v V bt bo (.int bl) H hV
 have hp1:H[p]? =some _:=hp
 have hfl0:=hfl fl (List.mem_of_getElem? hVlev)
 have hbl:bl+1<V.length:=(List.getElem?_eq_some_iff.mp hVlev1).1
 refine⟨fun hlt=>cr ?_,fun hge=> ?_⟩
 ·show W (aj TT (Gam n) cH cI _ _) _
  wrow_hasAny cI cH
  wide_line with[hp1,hneed]
  rw[if_pos (by simp;omega)]
  exact⟨trivial,trivial⟩
 have hPn:Pt≠[]:=fun e=>by rw[e] at hPl;simp at hPl;omega
 have hold:∀{H'},Pr (fun i=>i=pt∨H.length≤i) H H'→aI H' v V (.tup [.int bt,.int bo]) (.int bl):=fun P=>hV.old P hpt hPn
 suffices h:W (aw (Gam (n+1) 673) [.ref p,.ref v,.ref pt] H) fun x H'=>∃(c ed cp dl ad:Nat) (a:CA) (in0 in1 G:List Fi) (Pt':List (Option En)),x= .ref c∧Pr (fun i=>i=pt) H H'∧aB H' c bl v op ed a in0 in1 G 0 0 false (List.replicate V.length 0)∧
  H'[ed]? =some (aY cp dl ad)∧H'[dl]? =some (.list [])∧H'[ad]? =some (.list [])∧H'[pt]? =some (.list (Pt'.map ptV))∧Pt'.length=Pt.length∧
  (H.length≤c∧H.length≤a.pl∧H.length≤dl∧H.length≤ad∧H.length≤ed)∧dl≠ad∧(∀x∈[a.inp,a.i0,a.i1,a.gr,a.pl],x≠dl∧x≠ad)∧qR bl fl fl1 in0 in1∧G.length≤100 by
  revert h
  cases aw (Gam (n+1) 673) [.ref p,.ref v,.ref pt] H with
  |ok x H'=>
   rintro⟨c,ed,cp,dl,ad,a,in0,in1,G,Pt',rfl,h⟩
   exact⟨c,ed,cp,dl,ad,a,in0,in1,G,Pt',H',rfl,h⟩
  |exc H'=>exact fun h=>h.elim
  |fail=>exact fun h=>h.elim
 show W (aj TT (Gam n) cH cI _ _) _
 wrow_hasAny cI cH
 refine ah (fun l H'=>l 29=some (.ref p)∧l 119=some (.ref v)∧l 143=some (.ref pt)∧H=H') ?_ ?_
 ·wide_line with[hp1,hneed]
  rw[if_neg (by simp;omega)]
  exact⟨_,rfl,rfl,rfl,rfl,trivial⟩
 rintro l H' ⟨l29,l119,l143,rfl⟩
 obtain⟨r,w1,w2,ls,hls⟩:∃r w1 w2,∃ls:List Nat,H[v]? =some (b9 V.length w1 w2 (.tup [.int bt,.int bo]) (.int bl))∧H[w2]? =some (.list (ls.map SV.ref))∧A2 (be H) ls V∧ls[bl]? =some r∧be H r fl:=by
  obtain⟨ord,fl',ls,r,h1,_,h3,h4,h5,h6⟩:=hV.level hVlev
  exact⟨r,ord,fl',ls,h1,h3,h4,h5,h6⟩
 obtain⟨g1,g2,g3,g4,as,g5,g6⟩:=hls
 have hv1:=g1
 simp only[b9] at hv1
 refine ah (fun l H'=>l 29=some (.ref p)∧l 119=some (.ref v)∧l 143=some (.ref pt)∧l 92=some (.int bl)∧H=H') ?_ ?_
 ·wide_line with[l119,hv1]
  exact⟨_,rfl,l29,l119,l143,rfl,trivial⟩
 clear l29 l119 l143 l
 rintro l H' ⟨l29,l119,l143,l92,rfl⟩
 refine ah (PK p pt v op o bl V.length H (H.length+4) []) ?_ ?_
 ·have e1:=hnc bl v op ot.cnt ot.l0 ot.bb ot.lf ot.mf ot.ef 1 H hO (by omega)
  rw[←hVl] at e1
  wide_line with[l29,l119,l92,hp1,e1]
  exact⟨_,rfl,PK.new l29 rfl l119 l143 l92⟩
 clear l29 l119 l143 l92 l
 intro l H' t
 have pk:∀{i0 in0 l H'},PK p pt v op o bl V.length H i0 in0 l H'→Pr (fun i=>i=pt∨H.length≤i) H H':=fun t=>t.P.weak fun i _ h=> .inr h
 have hl0:∀{i x},H[i]? =some x→¬H.length≤i:=fun h=>by have:=ch h;omega
 have lls:ls.length≤ag:=by rw[g3.len];unfold ag;omega
 have las:as.length≤ag:=by rw[g6.len];unfold ag;omega
 refine ah (fun l H'=>PK p pt v op o bl V.length H (H.length+4) [] l H'∧l 84=some (.ref r)) ?_ ?_
 ·have k1:=t.P.get g1 (hl0 g1)
  have k2:=t.P.get g2 (hl0 g2)
  simp only[b9] at k1
  wide_line with[t.l119,t.l92,k1,k2,aH g4 lls]
  exact⟨_,rfl,t.loc (fun j hj=>by rcases hj with rfl|rfl|rfl|rfl|rfl<;>rfl),rfl⟩
 clear t l H'
 rintro l H' ⟨t,l84⟩
 have hptx:∃q,Pt[bl]? =some q:=⟨_,List.getElem?_eq_getElem (show bl<Pt.length by omega)⟩
 obtain⟨q,hq⟩:=hptx
 refine ah (fun l H'=>PK p pt v op o bl V.length H (H.length+4) [] l H'∧l 84=some (.ref r)∧l 147=some (ptV q)) ?_ ?_
 ·have k1:=t.P.get hpt (hl0 hpt)
  have hix:ck (some (.list (Pt.map ptV))) (bl:Int)=some (ptV q):=aG (by rw[List.getElem?_map,hq];rfl) (by rw[List.length_map];unfold ag;omega)
  wide_line with[t.l143,t.l92,k1,hix]
  exact⟨_,rfl,t.loc (fun j hj=>by rcases hj with rfl|rfl|rfl|rfl|rfl<;>rfl),l84,rfl⟩
 clear t l H' l84
 rintro l H' ⟨t,l84,l147⟩
 have hfn1:=hfn hge
 refine ah (fun l H'=>PK p pt v op o bl V.length H (H.length+4) [] l H'∧l 84=some (.ref r)∧l 147=some (ptV q)∧∃x f,l 97=some (.ref x)∧IsF H x f∧f∈fl) ?_ ?_
 ·have k1:=t.P.get g5 (hl0 g5)
  have hlt:0<fl.length:=List.length_pos_iff.mpr hfn1
  have hx:=List.getElem?_eq_getElem hlt
  have hmem:=List.getElem_mem hlt
  generalize fl[0]=f at hx hmem
  obtain⟨x,hx1,hx2⟩:=g6.get' hx
  have hix:ck (some (.list (as.map SV.ref))) 0=some (.ref x):=aH (j:=0) hx1 las
  wide_line with[l84,k1,hix]
  exact⟨_,rfl,t.loc (fun j hj=>by rcases hj with rfl|rfl|rfl|rfl|rfl<;>rfl),l84,l147,x,f,rfl,hx2,hmem⟩
 clear t l H' l84 l147
 rintro l H' ⟨t,l84,l147,hx⟩
 refine ah (fun l H'=>PK p pt v op o bl V.length H (H.length+4) [] l H'∧∃x f,l 97=some (.ref x)∧IsF H x f∧f∈fl) ?_ ?_
 ·refine aE ?_
  have k1:=t.P.get g5 (hl0 g5)
  have kp:=t.P.get hp1 (hl0 hp1)
  have ko:cU H' o:=hod.keep t.P fun i C fs hi _=>hl0 hi
  wide_line with[l84]
  refine⟨r,_,rfl,k1,cP g6 (fun i l H1=>H'=H1∧PK p pt v op o bl V.length H (H.length+4) [] l H1∧l 147=some (ptV q)∧∃x f,l 97=some (.ref x)∧IsF H x f∧f∈fl) (fun i l H1 h=>h.1▸k1) ?_ ?_ ⟨rfl,t,l147,hx⟩⟩
  ·rintro i x f l H1 ⟨rfl,t,l147,hx⟩ _ hfi hxf
   have t':∀k w,k=99∨k=97→PK p pt v op o bl V.length H (H.length+4) [] (upd l k w) H':=fun k w hk=>t.loc (fun j hj=>by unfold upd;rw[if_neg];omega)
   have kf:=t.P.get (show H[x]? =some (aT f) from hxf) (hl0 hxf)
   have hmem:=List.mem_of_getElem? hfi
   rw[eT,dG]
   refine W.mono (Q:=fun b H1=>H'=H1) ?_ ?_
   ·cases q with
    |none=>
     wide_line with[l147,ptV]
    |some e=>
     obtain⟨u,ko1,_⟩:=id ko
     have hik:¬ik e=[]:=by simp[ik]
     wide_line with[l147,ptV,t.l29,kp,kf,ko1,hcm _ _ _ _ ko]
     rw[if_neg hik]
     split<;>trivial
   ·rintro b H1 rfl
    cases b
    ·rw[if_neg (by decide)]
     wide_line with[]
     exact⟨trivial,t' 99 _ (.inl rfl),l147,hx⟩
    ·rw[if_pos rfl]
     wide_line with[]
     exact⟨_,rfl,(t' 99 _ (.inl rfl)).loc (fun j hj=>by unfold upd;rw[if_neg];omega),x,f,rfl,hxf,hmem⟩
  ·rintro l H1 ⟨rfl,t,l147,hx⟩
   exact⟨l,rfl,t,hx⟩
 clear t l H' l84 l147 hx
 rintro l H' ⟨t,x,f,l97,hxf,hfm⟩
 have hxf0:H[x]? =some (aT f):=hxf
 refine ah (fun l H'=>∃j0,PK p pt v op o bl V.length H j0 [f] l H') ?_ ?_
 ·have t1:=t.app [.list [.ref x]]
  have hf1:be (H'++[.list [.ref x]]) H'.length [f]:=⟨[x],aC _ _,⟨ab (t.P.get hxf0 (hl0 hxf0)) _,trivial⟩⟩
  have t2:=t1.ins hf1 t.lt
  have hc1:(H'++[.list [.ref x]])[H.length]? =some (aA bl v op (H.length+1) (H.length+3) (H.length+6) (H.length+7) (H.length+8) 0 0 false (H.length+13)):=t1.C.c
  have hi1:(H'++[.list [.ref x]])[H.length+6]? =some (.list [.ref (H.length+4),.ref (H.length+5)]):=t1.C.inp
  simp only[aA] at hc1
  wide_line with[l97,t.l36,hc1,hi1,sx0,List.length_cons,List.length_nil]
  exact⟨by decide,l,rfl,_,t2⟩
 clear t l H' l97
 rintro l H' ⟨j0,t⟩
 refine ah (fun l H'=>∃j0 in0,PK p pt v op o bl V.length H j0 in0 l H'∧in0≠[]∧in0.length≤30∧((bl≠0∧∃f∈fl,in0=[f])∨∃a b,in0=fl.filter (ov a b)∧(bl=0→∀f∈in0,a≤f.lo.u∧f.hi.u≤b))) ?_ ?_
 ·rw[dG]
  refine W.mono (Q:=fun b H1=>H'=H1∧b=decide (bl=0)) ?_ ?_
  ·wide_line with[t.l92]
   refine⟨trivial,?_⟩
   simp
  rintro b H1 ⟨rfl,rfl⟩
  by_cases c0:bl=0
  ·rw[if_pos (by simp[c0])]
   refine ah (fun l H'=>∃j0,PK p pt v op o bl V.length H j0 [f] l H'∧∃x y,iE [f] x y∧l 141=some (.tup [.bytes (usr x),.bytes (usr y)])) ?_ ?_
   ·have hc1:H'[H.length]? =some (aA bl v op (H.length+1) (H.length+3) (H.length+6) (H.length+7) (H.length+8) 0 0 false (H.length+13)):=t.C.c
    have hi1:H'[H.length+6]? =some (.list [.ref j0,.ref (H.length+5)]):=t.C.inp
    have kp:=t.P.get hp1 (hl0 hp1)
    have ko:cU H' o:=hod.keep t.P fun i C fs hi _=>hl0 hi
    obtain⟨L,x,y,e1,hE⟩:=hur p op o j0 [f] H' kp t.C.f0 (by simp) (by simp) ko
    simp only[aA] at hc1
    wide_line with[t.l29,t.l36,hc1,hi1,ix0,kp,e1]
    exact⟨_,rfl,j0,(t.app L).loc (fun j hj=>by rcases hj with rfl|rfl|rfl|rfl|rfl<;>rfl),x,y,hE,rfl⟩
   clear t l H'
   rintro l H' ⟨j0,t,x,y,hE,l141⟩
   obtain⟨L,r2,x',y',e1,hr,hrl,hx',hy',_,h0⟩:=hov v V _ _ bl x y fl H' (hold (pk t)) (by omega) hVlev (by omega)
   have k1:=t.P.get g1 (hl0 g1)
   simp only[b9] at k1
   have t1:=t.app L
   have t2:=t1.ins hr (by have:=t.lt;omega)
   have hc1:(H'++L)[H.length]? =some (aA bl v op (H.length+1) (H.length+3) (H.length+6) (H.length+7) (H.length+8) 0 0 false (H.length+13)):=t1.C.c
   have hi1:(H'++L)[H.length+6]? =some (.list [.ref j0,.ref (H.length+5)]):=t1.C.inp
   simp only[aA] at hc1
   have e1':aw (Gam n 435) [.ref v,.int 0,.bytes (usr x),.bytes (usr y)] H'= .ok (.ref r2) (H'++L):=by rw[c0] at e1;exact e1
   have hfin:f∈fl.filter (ov x' y'):=by
    rw[List.mem_filter]
    refine⟨hfm,?_⟩
    obtain⟨⟨f1,m1,q1⟩,⟨f2,m2,q2⟩,_⟩:=hE
    rw[List.mem_singleton] at m1 m2
    rw[m1] at q1
    rw[m2] at q2
    unfold ov
    have a0:=hends f hfm
    have a1:¬f.hi.u<x':=fun h=>by rw[Fin.lt_def] at h;rw[Fin.le_def] at a0 hx';rw[←q1] at hx';omega
    have a2:¬y'<f.lo.u:=fun h=>by rw[Fin.lt_def] at h;rw[Fin.le_def] at a0 hy';rw[←q2] at hy';omega
    rw[decide_eq_false a1,decide_eq_false a2];rfl
   wide_line with[t.l119,t.l36,l141,k1,e1',hc1,hi1,sx0]
   refine⟨by decide,by decide,l,rfl,r2,_,t2,fun e=>by rw[e] at hfin;simp at hfin,Nat.le_trans (List.length_filter_le _ _) hfl0,.inr ⟨x',y',rfl,h0⟩⟩
  ·rw[if_neg (by simp[c0]),fR]
   exact⟨l,rfl,j0,[f],t,by simp,by simp,.inl ⟨c0,f,hfm,rfl⟩⟩
 clear t l H'
 rintro l H' ⟨j0,in0,t,hne,hl30,hz⟩
 have hlay:Lay H' {cmA H.length with i0:=j0} H.length pt (H.length+9):=by
  have h1:=t.n0
  have h2:=t.lt
  have h3:=ch hpt
  have f1:j0≠H.length+6:=by omega
  have f2:j0≠pt:=by omega
  have f3:j0≠H.length+9:=by omega
  refine⟨⟨f1,?_,?_,?_⟩,⟨f2,?_,?_,?_,?_⟩,⟨f3,?_,?_,?_,?_,?_⟩,⟨?_,?_,?_,?_⟩⟩<;>first|omega|(simp only[cmA];omega)
 have k2:∀H2,Pr (Sx {cmA H.length with i0:=j0} H.length pt (H.length+9)) H' H2→Pr (fun i=>i=pt∨H.length≤i) H H2:=fun H2 P=>(pk t).trans (P.weak fun i _ h=>by
  rcases h with h|h|h|h
  ·right;rw[h];simp only[cmA];omega
  ·right;omega
  ·exact .inl h
  ·right;omega)
 obtain⟨i0,i1,gr,in0',in1',G',Pt',H2,e1,P2,C2,n0,n1,n2,q2,hPl2,hS,hG⟩:=hsu p H.length pt (H.length+9) (H.length+10) (H.length+11) v bl op o (H.length+8) {cmA H.length with i0:=j0} 0 0 false (List.replicate V.length 0) Pt in0 [] [] V _ _ fl fl1 ot H'
  (t.P.get hp1 (hl0 hp1)) (hod.keep t.P fun i C fs hi _=>hl0 hi) (t.P.get (show H[op]? =some (aK ot.cnt ot.l0 ot.bb ot.lf ot.mf ot.ef 1) from hO) (hl0 (show H[op]? =some (aK ot.cnt ot.l0 ot.bb ot.lf ot.mf ot.ef 1) from hO))) hk hVl t.C t.e (t.P.get hpt (hl0 hpt)) hPl t.cp hlay (fun H2 P=>hold (k2 H2 P)) hfl hne hl30 hVlev hVlev1 (by simp) hz0 hz1
 have kp:=t.P.get hp1 (hl0 hp1)
 wide_line with[t.l29,t.l36,t.l143,kp,e1]
 have hltp:=ch hpt
 have keep:∀(k:Nat) (x:SO),H'[H.length+k]? =some x→k=8∨k=10∨k=11→H2[H.length+k]? =some x:=fun k x h hk=>P2.get h (by
  rintro(h|h|h|h)
  ·simp only[cmA] at h;omega
  ·omega
  ·omega
  ·omega)
 refine⟨trivial,H.length,H.length+8,H.length+9,H.length+10,H.length+11,_,in0',in1',G',Pt',rfl,?_,C2,keep 8 _ t.e (by omega),keep 10 _ t.dl (by omega),keep 11 _ t.ad (by omega),q2,hPl2,?_,by omega,?_,?_,hG⟩
 ·exact(k2 H2 P2).weak fun i hi h=>by rcases h with h|h;exact h;omega
 ·simp only[cmA];omega
 ·intro y hy
  have h1:=t.n0
  have h2:=t.lt
  simp only[cmA] at hy n0 n1 n2
  simp only[List.mem_cons,List.not_mem_nil,or_false] at hy
  omega
 ·refine⟨?_,hS.ne,hS.one⟩
  rcases hS.zero with h|h
  ·rw[h];exact hz
  ·exact .inr h
def aF (T:aO) (fs:List Fi):List En:=fs.flatMap fun f=>(T.lookup f.num).getD []
def bS (T:aO) (fs:List Fi):aO:=T.filter fun t=> !decide (t.1∈fs.map (·.num))
theorem fB (p:Nat→Bool) (k:Nat) (h:p k=true):∀T:aO,(T.filter fun t=>p t.1).lookup k=T.lookup k
 |[]=>rfl
 |t::r=>by
  rw[List.filter_cons]
  by_cases c:p t.1=true
  ·rw[if_pos c,List.lookup_cons,List.lookup_cons,fB p k h r]
  ·rw[if_neg c,List.lookup_cons,fB p k h r]
   have:(k == t.1)=false:=by
    rw[beq_eq_false_iff_ne];rintro rfl;exact c h
   rw[this]
theorem mI {H:Hp} {k:Nat} {rows:List En}:∀{es:List (Int×SV)} {T:aO},A2 (TE H) es T→T.lookup k=some rows→∃x,getD (k:Int) es=some (.ref x)∧H[x]? =some (.list (rows.map enV))
 |[],[],_,h=>by simp at h
 |(g,w)::es,t::T,⟨⟨h1,x,h2,h3,_⟩,h4⟩,h=>by
  rw[List.lookup_cons] at h
  simp only at h1 h2
  by_cases c:k=t.1
  ·subst c
   rw[beq_self_eq_true] at h
   cases h
   exact⟨x,by rw[getD,if_pos h1,h2],h3⟩
  ·have:(k == t.1)=false:=by rw[beq_eq_false_iff_ne];exact c
   rw[this] at h
   obtain⟨y,g1,g2⟩:=mI h4 h
   exact⟨y,by rw[getD,if_neg (by omega)];exact g1,g2⟩
theorem tL {H:Hp} {k:Nat}:∀{es:List (Int×SV)} {T:aO},A2 (TE H) es T→(T.map (·.1)).Nodup→A2 (TE H) (ml (k:Int) es) (T.filter fun t=> !decide (t.1=k))
 |[],[],_,_=>trivial
 |(g,w)::es,t::T,⟨h1,h4⟩,hn=>by
  rw[List.map_cons,List.nodup_cons] at hn
  have h1':g=(t.1:Int):=h1.1
  rw[ml,List.filter_cons]
  by_cases c:t.1=k
  ·rw[if_pos (by omega),if_neg (by simp[c])]
   have:T.filter (fun t=> !decide (t.1=k))=T:=List.filter_eq_self.mpr fun x hx=>by
    have:x.1≠k:=fun e=>hn.1 (c▸e▸List.mem_map.mpr ⟨x,hx,rfl⟩)
    simp[this]
   rw[this];exact h4
  ·rw[if_neg (by omega),if_pos (by simp[c])]
   exact⟨h1,tL h4 hn.2⟩
theorem sH {T:aO} {fs:List Fi} {i:Nat} {f:Fi} (h:fs[i]? =some f):(bS T (fs.take i)).filter (fun t=> !decide (t.1=f.num))=bS T (fs.take (i+1)):=by
 unfold bS
 rw[List.filter_filter,List.take_add_one,h]
 congr 1;funext t
 simp only[Option.toList,List.map_append,List.map_cons,List.map_nil,List.mem_append,List.mem_singleton]
 by_cases c:t.1=f.num<;>simp[c]
theorem jW {T:aO} {fs:List Fi} {i:Nat} {f:Fi} {rows:List En} (h:fs[i]? =some f) (hr:T.lookup f.num=some rows):aF T (fs.take (i+1))=aF T (fs.take i)++rows:=by
 unfold aF
 rw[List.take_add_one,h,List.flatMap_append]
 simp[hr]
theorem sS {T:aO} {fs:List Fi} (i:Nat):(aF T (fs.take i)).length≤(aF T fs).length:=by
 conv=>rhs;rw[←List.take_append_drop i fs]
 unfold aF
 rw[List.flatMap_append,List.length_append];omega
theorem fY {T:aO} {fs:List Fi} (h:(T.map (·.1)).Nodup):((bS T fs).map (·.1)).Nodup:=h.sublist (List.filter_sublist.map _)
theorem g9 {T:aO} {fs:List Fi} {f:Fi} (h:∀g∈fs,g.num≠f.num):(bS T fs).lookup f.num=T.lookup f.num:=by
 refine fB (fun n=> !decide (n∈fs.map (·.num))) f.num ?_ T
 have:f.num∉fs.map (·.num):=fun hm=>by
  obtain⟨g,hg,e⟩:=List.mem_map.mp hm
  exact h g hg e
 simp[this]
theorem uM {α:Type} {l:List α} {i j:Nat} {x:α} (hn:l.Nodup) (h1:l[i]? =some x) (h2:l[j]? =some x):i=j:=by
 obtain⟨a1,b1⟩:=List.getElem?_eq_some_iff.mp h1
 obtain⟨a2,b2⟩:=List.getElem?_eq_some_iff.mp h2
 by_cases c:i<j
 ·exact absurd (b1.trans b2.symm) (List.pairwise_iff_getElem.mp hn i j a1 a2 c)
 ·by_cases d:j<i
  ·exact absurd (b2.trans b1.symm) (List.pairwise_iff_getElem.mp hn j i a2 a1 d)
  ·omega
structure RS (c tb fr:Nat) (sm:Nat) (H0:Hp) (T:aO) (rows:List En) (l:Loc) (H':Hp):Prop where
 l36:l 36=some (.ref c)
 l165:l 165=some (.ref tb)
 l166:l 166=some (.int fr)
 l64:l 64=some (.int sm)
 P:Pr (fun i=>i=tb) H0 H'
 tab:cO H' tb T
 r:∃x,l 164=some (.ref x)∧H'[x]? =some (.list (rows.map enV))∧H0.length≤x
theorem RS.loc {c tb fr sm:Nat} {H0:Hp} {T:aO} {rows:List En} {l l':Loc} {H':Hp} (t:RS c tb fr sm H0 T rows l H') (h:∀j,j=36∨j=165∨j=166∨j=64∨j=164→l' j=l j):RS c tb fr sm H0 T rows l' H':=by
 obtain⟨x,h1,h2,h3⟩:=t.r
 exact⟨(h 36 (by decide)).trans t.l36,(h 165 (by decide)).trans t.l165,(h 166 (by decide)).trans t.l166,(h 64 (by decide)).trans t.l64,t.P,t.tab,x,(h 164 (by decide)).trans h1,h2,h3⟩
theorem sX (n c tb fr sm lev v op ed:Nat) (a:CA) (in0 in1 G:List Fi) (ga:Nat) (go:Int) (sk:Bool) (ps:List Nat) (T:aO) (H0:Hp) (hC:aB H0 c lev v op ed a in0 in1 G ga go sk ps) (hT:cO H0 tb T) (hTl:T.length≤100)
 (hTn:(T.map (·.1)).Nodup) (hne:∀t∈T,t.2≠[]) (hn:((in0++in1).map (·.num)).Nodup) (hin:∀f∈in0++in1,∃rows,T.lookup f.num=some rows) (hrl:(aF T (in0++in1)).length≤100) (l:Loc) (H:Hp) (t:RS c tb fr sm H0 T [] l H):
 W (exS TT (Gam n) (.forR 132 (.cons (.con (.int 2)) .nil) (.cons (.forE (.one 99) (.idx (.attr (.loc 36) 127) (.loc 132)) (.cons (.asg 164 (.bin .Add (.loc 164) (.idx (.loc 165) (.attr (.loc 99) 73)))) (.cons (.del (.loc 165) (.attr (.loc 99) 73)) .nil))) .nil)) l H) fun q H'=>∃l',q=(.next,l')∧RS c tb fr sm H0 (bS (bS T in0) in1) (aF T (in0++in1)) l' H':=by
 have off:∀{i:Nat} {o:SO},H0[i]? =some o→(∀es,o≠.dict es)→¬i=tb:=fun h ho e=>by
  obtain⟨es,h1,_⟩:=hT
  rw[e,h1] at h;cases h;exact ho _ rfl
 have key:∀(k r:Nat) (fs:List Fi) (T1:aO) (rows1:List En) (l:Loc) (H:Hp) (K:Loc→Hp→Prop),RS c tb fr sm H0 T1 rows1 l H→l 132=some (.int k)→ck (some (.list [.ref a.i0,.ref a.i1])) (k:Int)=some (.ref r)→be H0 r fs→T1.length≤100→(T1.map (·.1)).Nodup→(∀t∈T1,t.2≠[])→
  (fs.map (·.num)).Nodup→(∀f∈fs,∃rows,T1.lookup f.num=some rows)→rows1.length+(aF T1 fs).length≤100→(∀l' H',RS c tb fr sm H0 (bS T1 fs) (rows1++aF T1 fs) l' H'→K l' H')→
  ∀Q,W (exS TT (Gam n) (.forE (.one 99) (.idx (.attr (.loc 36) 127) (.loc 132)) (.cons (.asg 164 (.bin .Add (.loc 164) (.idx (.loc 165) (.attr (.loc 99) 73)))) (.cons (.del (.loc 165) (.attr (.loc 99) 73)) .nil))) l H) (qH TT (Gam n) .nil (dN K Q)):=by
  intro k r fs T1 rows1 l H K t l132 hix hf hT1l hT1n hT1e hfn hfi hrl hK Q
  obtain⟨as,f1,f2⟩:=hf
  have kr:∀{H},Pr (fun i=>i=tb) H0 H→H[r]? =some (.list (as.map SV.ref)):=fun P=>P.get f1 (off f1 fun _ e=>by cases e)
  have kc:=t.P.get hC.c (off hC.c fun _ e=>by cases e)
  have ki:=t.P.get hC.inp (off hC.inp fun _ e=>by cases e)
  simp only[aA] at kc
  refine aE ?_
  wide_line with[t.l36,l132,kc,ki,hix]
  refine⟨r,_,rfl,kr t.P,cP f2 (fun i l H'=>RS c tb fr sm H0 (bS T1 (fs.take i)) (rows1++aF T1 (fs.take i)) l H') (fun i l H' h=>kr h.P) ?_ ?_ ?_⟩
  ·rintro i x f l H' t _ hfi' hx
   obtain⟨rows,hrows⟩:=hfi f (List.mem_of_getElem? hfi')
   have hlk:(bS T1 (fs.take i)).lookup f.num=some rows:=by
    rw[g9];exact hrows
    intro g hg e
    obtain⟨j,hj⟩:=List.getElem?_of_mem hg
    have hji:j<i:=by
     have:=(List.getElem?_eq_some_iff.mp hj).1
     rw[List.length_take] at this;omega
    rw[List.getElem?_take,if_pos hji] at hj
    have h1:(fs.map (·.num))[j]? =some f.num:=by rw[List.getElem?_map,hj,Option.map_some,e]
    have h2:(fs.map (·.num))[i]? =some f.num:=by rw[List.getElem?_map,hfi'];rfl
    have:=uM hfn h1 h2
    omega
   obtain⟨es,e1,e2⟩:=t.tab
   obtain⟨y,g1,g2⟩:=mI e2 hlk
   obtain⟨z,z1,z2,z3⟩:=t.r
   have kf:=t.P.get (show H0[x]? =some (aT f) from hx) (off (show H0[x]? =some (aT f) from hx) fun _ e=>by cases e)
   have hidx:ck (some (.dict es)) (f.num:Int)=some (.ref y):=by rw[mz];exact g1
   have hesl:es.length≤100:=by rw[e2.len];exact Nat.le_trans (List.length_filter_le _ _) hT1l
   have hdel:zq (some (.dict es)) (f.num:Int)=some (.dict (ml (f.num:Int) es)):=by
    show(if((getD (f.num:Int) es).isSome && decide (es.length≤ag))=true then some (SO.dict (ml (f.num:Int) es)) else none)=_
    rw[g1,if_pos]
    simp only[Option.isSome_some,Bool.true_and,decide_eq_true_eq]
    unfold ag;omega
   have hlen:((rows1++aF T1 (fs.take i)).map enV++rows.map enV).length≤ag:=by
    have:=sS (T:=T1) (fs:=fs) (i+1)
    rw[jW hfi' hrows,List.length_append] at this
    simp only[List.length_append,List.length_map]
    unfold ag;omega
   have hlen2:=hlen
   have e1':(H'++[.list ((rows1++aF T1 (fs.take i)).map enV++rows.map enV)])[tb]? =some (.dict es):=ab e1 _
   have kf':(H'++[.list ((rows1++aF T1 (fs.take i)).map enV++rows.map enV)])[x]? =some (aT f):=ab kf _
   have htl:=ch e1
   wide_line with[t.l165,z1,e1,kf,hidx,nC,z2,g2,iJ,e1',kf',hdel]
   refine⟨hlen,t.l36,t.l165,t.l166,t.l64,(t.P.trans (Pr.app _ _ _)).trans (Pr.set _ _ rfl),?_,H'.length,rfl,?_,t.P.1⟩
   ·rw[←sH hfi']
    refine⟨_,a5 _ e1',?_⟩
    refine tL (e2.impM fun e _ u hu h=> ?_) (fY hT1n)
    obtain⟨q1,w,q2,q3,q4⟩:=h
    refine⟨q1,w,q2,ai (ab q3 _) (fun e=> ?_) _,q4⟩
    rw[←e,e1] at q3;cases q3
   ·rw[jW hfi' hrows,←List.append_assoc];simp only[List.map_append]
    exact ai (aC _ _) (Nat.ne_of_lt htl) _
  ·rintro l H' t
   rw[List.take_length] at t
   wide_line with[]
   exact hK l H' t
  ·have:bS T1 (fs.take 0)=T1:=by unfold bS;simp
   rw[this,List.take_zero]
   show RS c tb fr sm H0 T1 (rows1++[]) l H
   rw[List.append_nil];exact t
 have hn0:(in0.map (·.num)).Nodup:=by rw[List.map_append] at hn;exact(List.nodup_append.mp hn).1
 have hn1:(in1.map (·.num)).Nodup:=by rw[List.map_append] at hn;exact(List.nodup_append.mp hn).2.1
 have hdis:∀f∈in1,∀g∈in0,g.num≠f.num:=fun f hf g hg=>by
  rw[List.map_append] at hn
  exact(List.nodup_append.mp hn).2.2 _ (List.mem_map.mpr ⟨g,hg,rfl⟩) _ (List.mem_map.mpr ⟨f,hf,rfl⟩)
 have hr1:aF (bS T in0) in1=aF T in1:=by
  unfold aF
  have:∀gs:List Fi,(∀f∈gs,f∈in1)→gs.flatMap (fun f=>((bS T in0).lookup f.num).getD [])=gs.flatMap (fun f=>(T.lookup f.num).getD []):=by
   intro gs
   induction gs with
   |nil=>intro _;rfl
   |cons f r ih=>
    intro h
    rw[List.flatMap_cons,List.flatMap_cons,ih fun g hg=>h g (List.mem_cons_of_mem _ hg),g9 (hdis f (h f List.mem_cons_self))]
  exact this in1 fun _ h=>h
 have hsplit:aF T (in0++in1)=aF T in0++aF T in1:=by unfold aF;rw[List.flatMap_append]
 rw[hsplit,List.length_append] at hrl
 wide_line with[show bH [.int 2]=some [0,1] by decide,ig]
 refine key 0 a.i0 in0 T [] _ H _ (t.loc fun j hj=>by unfold upd;rw[if_neg];omega) (by unfold upd;rw[if_pos rfl];rfl) (ix0 _ _) hC.f0 hTl hTn hne hn0 (fun f hf=>hin f (List.mem_append_left _ hf)) (by simp;omega) (fun l1 H1 t1=> ?_) _
 refine key 1 a.i1 in1 (bS T in0) _ _ H1 _ (t1.loc fun j hj=>by unfold upd;rw[if_neg];omega) (by unfold upd;rw[if_pos rfl];rfl) (ix1 _ _) hC.f1 (Nat.le_trans (List.length_filter_le _ _) hTl) (fY hTn) (fun t ht=>hne t (List.mem_filter.mp ht).1) hn1
  (fun f hf=>by rw[g9 (hdis f hf)];exact hin f (List.mem_append_right _ hf)) (by rw[hr1];simp;omega) (fun l2 H2 t2=> ?_) _
 rw[jd]
 rw[hr1] at t2
 exact⟨l2,rfl,by rw[hsplit];exact t2⟩
def qQ (lev sm:Nat) (V:List (List Fi)) (R:List En) (j:Nat) (e:En):Prop:=
 (∃p,1≤j∧R[j - 1]? =some p∧p.u=e.u∧p.s.val≤sm)∨(e.k=0∧e.s.val≤sm∧∀(j':Nat) (fs:List Fi),lev+2≤j'→V[j']? =some fs→sN e.u fs)
def tl (sm:Nat) (R:List En) (j:Nat) (e:En):Prop:=∃p,1≤j∧R[j - 1]? =some p∧p.u=e.u∧p.s.val≤sm
structure Kp (lev sm:Nat) (V:List (List Fi)) (R:List En) (i:Nat) (outs:List (List En)) (held:List En):Prop where
 ne:∀o∈outs,o≠[]
 sub:(outs.flatten++held).Sublist (R.take i)
 brk:(outs++[held]).Pairwise (fun o p=>∀e∈o,∀e'∈p,e.u<e'.u)
 fwd:∀o∈outs,∀x∈o,∀(j:Nat) (e:En),i≤j→R[j]? =some e→x.u<e.u
 drop:∀(j:Nat) (e:En),j<i→R[j]? =some e→e∉outs.flatten++held→qQ lev sm V R j e
 must:∀x∈outs.flatten++held,∃j,j<i∧R[j]? =some x∧¬tl sm R j x
def UpU (R:List En):Prop:=∀(i j:Nat) (x y:En),i≤j→R[i]? =some x→R[j]? =some y→x.u≤y.u
theorem Kp.start (lev sm:Nat) (V:List (List Fi)) (R:List En):Kp lev sm V R 0 [] []:=
 ⟨by simp,by simp,by simp,by simp,fun j e h=>by omega,by simp⟩
theorem Kp.keep {lev sm:Nat} {V:List (List Fi)} {R:List En} {i:Nat} {outs:List (List En)} {held:List En} (k:Kp lev sm V R i outs held) {e:En} (he:R[i]? =some e) (hs:¬tl sm R i e):Kp lev sm V R (i+1) outs (held++[e]):=by
 refine⟨k.ne,?_,?_,fun o ho x hx j y hj hy=>k.fwd o ho x hx j y (by omega) hy,fun j y hj hy hn=> ?_,fun x hx=> ?_⟩
 ·rw[←List.append_assoc,List.take_add_one,he]
  exact k.sub.append (List.Sublist.refl _)
 ·have:=k.brk
  rw[List.pairwise_append] at this⊢
  refine⟨this.1,List.pairwise_singleton ..,fun o ho p hp x hx y hy=> ?_⟩
  rw[List.mem_singleton] at hp
  subst hp
  rcases List.mem_append.mp hy with h|h
  ·exact this.2.2 o ho held (List.mem_singleton.mpr rfl) x hx y h
  ·rw[List.mem_singleton] at h;subst h
   exact k.fwd o ho x hx i _ (Nat.le_refl _) he
 ·by_cases c:j=i
  ·subst c
   rw[he] at hy;cases hy
   exact absurd (by simp) hn
  ·exact k.drop j y (by omega) hy fun h=>hn (by rw[←List.append_assoc];exact List.mem_append_left _ h)
 ·rw[←List.append_assoc] at hx
  rcases List.mem_append.mp hx with h|h
  ·obtain⟨j,h1,h2⟩:=k.must x h
   exact⟨j,by omega,h2⟩
  ·rw[List.mem_singleton] at h;subst h
   exact⟨i,by omega,he,hs⟩
theorem Kp.lose {lev sm:Nat} {V:List (List Fi)} {R:List En} {i:Nat} {outs:List (List En)} {held:List En} (k:Kp lev sm V R i outs held) {e:En} (he:R[i]? =some e) (hd:qQ lev sm V R i e):Kp lev sm V R (i+1) outs held:=by
 refine⟨k.ne,k.sub.trans (by rw[List.take_add_one];exact List.sublist_append_left _ _),k.brk,fun o ho x hx j y hj hy=>k.fwd o ho x hx j y (by omega) hy,fun j y hj hy hn=> ?_,fun x hx=>by obtain⟨j,h1,h2⟩:=k.must x hx;exact⟨j,by omega,h2⟩⟩
 by_cases c:j=i
 ·subst c
  rw[he] at hy;cases hy
  exact hd
 ·exact k.drop j y (by omega) hy hn
theorem Kp.cut {lev sm:Nat} {V:List (List Fi)} {R:List En} {i:Nat} {outs:List (List En)} {held:List En} (hR:UpU R) (k:Kp lev sm V R i outs held) (hh:held≠[]) {e:En} (he:R[i]? =some e) (hc:∀p,1≤i→R[i - 1]? =some p→p.u≠e.u):Kp lev sm V R i (outs++[held]) []:=by
 refine⟨fun o ho=> ?_,?_,?_,fun o ho x hx j y hj hy=> ?_,fun j y hj hy hn=>k.drop j y hj hy fun h=>hn (by simpa using h),fun x hx=>k.must x (by simpa using hx)⟩
 ·rcases List.mem_append.mp ho with h|h
  ·exact k.ne o h
  ·rw[List.mem_singleton] at h;subst h;exact hh
 ·have:=k.sub
  simpa using this
 ·rw[List.pairwise_append]
  refine⟨k.brk,List.pairwise_singleton ..,fun o _ p hp x _ y hy=> ?_⟩
  rw[List.mem_singleton] at hp;subst hp;simp at hy
 ·rcases List.mem_append.mp ho with h|h
  ·exact k.fwd o h x hx j y hj hy
  ·rw[List.mem_singleton] at h;subst h
   have hm:x∈R.take i:=k.sub.subset (List.mem_append_right _ hx)
   obtain⟨m,hm⟩:=List.getElem?_of_mem hm
   have hmi:m<i:=by
    have:=(List.getElem?_eq_some_iff.mp hm).1
    rw[List.length_take] at this;omega
   rw[List.getElem?_take,if_pos hmi] at hm
   have hil:=(List.getElem?_eq_some_iff.mp he).1
   have hp:=List.getElem?_eq_getElem (show i - 1<R.length by omega)
   generalize R[i - 1]=p at hp
   have h1:=hR m (i - 1) x p (by omega) hm hp
   have h2:=hR (i - 1) i p e (by omega) hp he
   have h3:=hR i j e y hj he hy
   have h4:=hc p (by omega) hp
   rw[Fin.le_def] at h1 h2 h3
   have h5:p.u.val≠e.u.val:=fun q=>h4 (Fin.ext q)
   rw[Fin.lt_def];omega
def fJ (R:List En) (i:Nat):Option (Fin 4):=if i=0 then none else R[i - 1]?.map (·.u)
def nwR (R:List En) (i:Nat):Int:=if i=0 then jI else match R[i - 1]? with
 |some p=>p.s.val
 |none=>jI
theorem Ar {R:List En} {i sm:Nat} {e:En} (hsm:sm≤100) (h:e8 (fJ R i) (nwR R i) e.u≤sm):∃p,1≤i∧R[i - 1]? =some p∧p.u=e.u∧p.s.val≤sm:=by
 unfold e8 at h
 by_cases c:fJ R i=some e.u
 ·rw[if_pos c] at h
  unfold fJ at c
  unfold nwR at h
  by_cases c0:i=0
  ·rw[if_pos c0] at c;cases c
  ·rw[if_neg c0] at c h
   cases hp:R[i - 1]? with
   |none=>rw[hp] at c;cases c
   |some p=>
    rw[hp] at c h
    simp only[Option.map_some,Option.some.injEq] at c
    simp only at h
    exact⟨p,by omega,rfl,c,by omega⟩
 ·rw[if_neg c] at h;unfold jI at h;omega
theorem Aq {R:List En} {i sm:Nat} {e:En} (h:tl sm R i e):e8 (fJ R i) (nwR R i) e.u≤sm:=by
 obtain⟨p,h1,h2,h3,h4⟩:=h
 have c0:i≠0:=by omega
 simp only[e8,fJ,nwR,if_neg c0,h2,Option.map_some,h3,if_true]
 omega
theorem wD {R:List En} {i:Nat} {e:En} (h:fJ R i≠some e.u):∀p,1≤i→R[i - 1]? =some p→p.u≠e.u:=fun p hi hp q=>h (by
 unfold fJ
 rw[if_neg (by omega),hp,Option.map_some,q])
theorem sr {R:List En} {i:Nat} {e:En} (h:R[i]? =some e):fJ R (i+1)=some e.u∧nwR R (i+1)=e.s.val:=by
 unfold fJ nwR
 rw[if_neg (by omega),if_neg (by omega),show i+1 - 1=i by omega,h]
 exact⟨rfl,rfl⟩
def mkT:Nat→List (List En)→aO
 |_,[]=>[]
 |n,r::rs=>(n,r)::mkT (n+1) rs
def e0:En:=⟨0,0,0⟩
def fiR (n:Nat) (rows:List En):Fi:=⟨n,rows.length,rows.headD e0,rows.getLastD e0⟩
def mkF:Nat→List (List En)→List Fi
 |_,[]=>[]
 |n,r::rs=>fiR n r::mkF (n+1) rs
theorem lI (r:List En):∀(n:Nat) (outs:List (List En)),mkT n (outs++[r])=mkT n outs++[(n+outs.length,r)]
 |n,[]=>rfl
 |n,o::outs=>by
  rw[List.cons_append,mkT,lI r (n+1) outs,mkT,List.length_cons,List.cons_append]
  rw[show n+1+outs.length=n+(outs.length+1) by omega]
theorem lG (r:List En):∀(n:Nat) (outs:List (List En)),mkF n (outs++[r])=mkF n outs++[fiR (n+outs.length) r]
 |n,[]=>rfl
 |n,o::outs=>by
  rw[List.cons_append,mkF,lG r (n+1) outs,mkF,List.length_cons,List.cons_append]
  rw[show n+1+outs.length=n+(outs.length+1) by omega]
theorem cS {t:Nat×List En}:∀{n:Nat} {outs:List (List En)},t∈mkT n outs→t.2∈outs∧n≤t.1∧t.1<n+outs.length
 |n,[],h=>by simp[mkT] at h
 |n,o::outs,h=>by
  rw[mkT,List.mem_cons] at h
  rcases h with rfl|h
  ·simp
  ·have:=cS h
   simp only[List.mem_cons,List.length_cons]
   exact⟨.inr this.1,by omega,by omega⟩
theorem kJ:∀(n:Nat) (outs:List (List En)),(mkT n outs).length=outs.length
 |_,[]=>rfl
 |n,o::outs=>by rw[mkT,List.length_cons,kJ (n+1) outs,List.length_cons]
theorem jo:∀(n:Nat) (outs:List (List En)),(mkF n outs).length=outs.length
 |_,[]=>rfl
 |n,o::outs=>by rw[mkF,List.length_cons,jo (n+1) outs,List.length_cons]
theorem jH:∀{outs:List (List En)},(∀o∈outs,o≠[])→outs.length≤outs.flatten.length
 |[],_=>Nat.le_refl _
 |o::outs,h=>by
  have:=jH fun x hx=>h x (List.mem_cons_of_mem _ hx)
  have:0<o.length:=List.length_pos_iff.mpr (h o List.mem_cons_self)
  rw[List.flatten_cons,List.length_append,List.length_cons];omega
def Mz (c:Nat) (a:CA) (dl ad tb:Nat) (i:Nat):Prop:=i=c∨i=a.pl∨i=dl∨i=ad∨i=tb
structure tc (H0:Hp) (c:Nat) (a:CA) (dl ad tb:Nat):Prop where
 dlad:dl≠ad
 inp:a.inp≠dl∧a.inp≠ad
 f0:a.i0≠dl∧a.i0≠ad
 f1:a.i1≠dl∧a.i1≠ad
 gr:a.gr≠dl∧a.gr≠ad
 pl:a.pl≠dl∧a.pl≠ad
 lt:c<H0.length∧a.pl<H0.length∧dl<H0.length∧ad<H0.length∧tb<H0.length
structure CL (c tb sv sm lev v op ed dl ad:Nat) (a:CA) (in0 in1 G:List Fi) (V:List (List Fi)) (D:List Del) (T1:aO) (f0:Nat) (H0:Hp) (cur:Option (Fin 4)) (nw:Int) (B:List Nat→Prop) (outs:List (List En)) (held:List En) (l:Loc) (H':Hp):Prop where
 l36:l 36=some (.ref c)
 l165:l 165=some (.ref tb)
 l171:l 171=some (.ref sv)
 l166:l 166=some (.int ((f0+outs.length:Nat):Int))
 P:Pr (Mz c a dl ad tb) H0 H'
 C:∃(ga:Nat) (go:Int) (sk:Bool) (ps:List Nat) (st:Bool),aB H' c lev v op ed a in0 in1 G ga go sk ps∧ga≤G.length∧ps≠[]∧B ps∧H'[sv]? =some (cF c sm (jA cur) nw st)
 tab:cO H' tb (T1++mkT f0 outs)
 add:∃A:List Add,H'[ad]? =some (.list (A.map fG))∧(∀x∈A,IsF H' x.2.1 x.2.2)∧A.map (fun x=>(x.1,x.2.2))=(mkF f0 outs).map (fun f=>(lev+1,f))
 dl:H'[dl]? =some (.list (D.map cX))
 h:∃h,l 169=some (.ref h)∧H'[h]? =some (.list (held.map enV))∧H0.length≤h
 svn:H0.length≤sv
section
variable {c tb sv sm lev v op ed dl ad:Nat} {a:CA} {in0 in1 G:List Fi} {V:List (List Fi)} {D:List Del} {T1:aO} {f0:Nat} {H0:Hp} {cur:Option (Fin 4)} {nw:Int} {B:List Nat→Prop} {outs:List (List En)} {held:List En} {l:Loc} {H':Hp}
theorem CL.loc (t:CL c tb sv sm lev v op ed dl ad a in0 in1 G V D T1 f0 H0 cur nw B outs held l H') {l':Loc} (h:∀j,j=36∨j=165∨j=171∨j=166∨j=169→l' j=l j):CL c tb sv sm lev v op ed dl ad a in0 in1 G V D T1 f0 H0 cur nw B outs held l' H':=by
 obtain⟨x,h1,h2,h3⟩:=t.h
 exact⟨(h 36 (by decide)).trans t.l36,(h 165 (by decide)).trans t.l165,(h 171 (by decide)).trans t.l171,(h 166 (by decide)).trans t.l166,t.P,t.C,t.tab,t.add,t.dl,⟨x,(h 169 (by decide)).trans h1,h2,h3⟩,t.svn⟩
theorem CL.app (t:CL c tb sv sm lev v op ed dl ad a in0 in1 G V D T1 f0 H0 cur nw B outs held l H') (L:Hp):CL c tb sv sm lev v op ed dl ad a in0 in1 G V D T1 f0 H0 cur nw B outs held l (H'++L):=by
 obtain⟨x,h1,h2,h3⟩:=t.h
 obtain⟨A,a1,a2,a3⟩:=t.add
 obtain⟨ga,go,sk,ps,st,c1,c2,c3,c4,c5⟩:=t.C
 obtain⟨es,e1,e2⟩:=t.tab
 exact⟨t.l36,t.l165,t.l171,t.l166,t.P.trans (Pr.app _ _ _),⟨ga,go,sk,ps,st,c1.app L,c2,c3,c4,ab c5 L⟩,⟨es,ab e1 L,e2.imp fun _ _ ⟨q1,w,q2,q3,q4⟩=>⟨q1,w,q2,ab q3 L,q4⟩⟩,⟨A,ab a1 L,fun x hx=>(a2 x hx).app L,a3⟩,ab t.dl L,⟨x,h1,ab h2 L,h3⟩,t.svn⟩
theorem CL.hold (t:CL c tb sv sm lev v op ed dl ad a in0 in1 G V D T1 f0 H0 cur nw B outs held l H') {held':List En} {h':Nat} (g:H'[h']? =some (.list (held'.map enV))) (hl:H0.length≤h'):CL c tb sv sm lev v op ed dl ad a in0 in1 G V D T1 f0 H0 cur nw B outs held' (upd l 169 (.ref h')) H':=by
 have u:∀j,j≠169→upd l 169 (.ref h') j=l j:=fun j hj=>by unfold upd;rw[if_neg hj]
 exact⟨(u 36 (by decide)).trans t.l36,(u 165 (by decide)).trans t.l165,(u 171 (by decide)).trans t.l171,(u 166 (by decide)).trans t.l166,t.P,t.C,t.tab,t.add,t.dl,⟨h',by unfold upd;rw[if_pos rfl],g,hl⟩,t.svn⟩
theorem xD {rows:List En} {ps:List Nat} (hr:rows≠[]) (h:(SO.list (rows.map enV))= .list (bT ps)):False:=by
 injection h with h
 cases rows with
 |nil=>exact hr rfl
 |cons y r=>
  cases ps with
  |nil=>cases h
  |cons z A'=>simp[enV,bT] at h
theorem CL.turned (t:CL c tb sv sm lev v op ed dl ad a in0 in1 G V D T1 f0 H0 cur nw B outs held l H') (Y:tc H0 c a dl ad tb) (hT:∀t∈T1++mkT f0 outs,t.2≠[]) {H2:Hp} (P:Pr (fun i=>i=c∨i=a.pl∨i=sv) H' H2) {ga:Nat} {go:Int} {sk st:Bool} {ps:List Nat} {cur':Option (Fin 4)} {nw':Int} {B':List Nat→Prop}
 (h1:aB H2 c lev v op ed a in0 in1 G ga go sk ps) (h2:ga≤G.length) (h3:ps≠[]) (h4:B' ps) (h5:H2[sv]? =some (cF c sm (jA cur') nw' st)):CL c tb sv sm lev v op ed dl ad a in0 in1 G V D T1 f0 H0 cur' nw' B' outs held l H2:=by
 obtain⟨x,g1,g2,g3⟩:=t.h
 obtain⟨A,a1,a2,a3⟩:=t.add
 obtain⟨ga0,go0,sk0,ps0,st0,c1,c2,c3,c4,c5⟩:=t.C
 have hsv:=t.svn
 have off:∀{i:Nat} {o:SO},H'[i]? =some o→(∀f,o≠.inst 620 f)→(∀f,o≠.inst 340 f)→i≠a.pl→¬(i=c∨i=a.pl∨i=sv):=fun h q1 q2 q3=>by
  rintro(rfl|rfl|rfl)
  ·rw[c1.c] at h;cases h;exact q1 _ rfl
  ·exact q3 rfl
  ·rw[c5] at h;cases h;exact q2 _ rfl
 have hpl:=c1.p
 have Q:Pr (Mz c a dl ad tb) H0 H2:=by
  have:=(t.P.weak (S':=fun i=>Mz c a dl ad tb i∨i=sv) fun i _ h=> .inl h).trans (P.weak (S':=fun i=>Mz c a dl ad tb i∨i=sv) fun i _ h=>by
   rcases h with h|h|h
   ·exact .inl (.inl h)
   ·exact .inl (.inr (.inl h))
   ·exact .inr h)
  exact this.weak fun i hi h=>by
   rcases h with h|h
   ·exact h
   ·omega
 refine⟨t.l36,t.l165,t.l171,t.l166,Q,⟨ga,go,sk,ps,st,h1,h2,h3,h4,h5⟩,?_,⟨A,P.get a1 (off a1 (fun f e=>by cases e) (fun f e=>by cases e) (Y.pl.2).symm),fun y hy=> ?_,a3⟩,P.get t.dl (off t.dl (fun f e=>by cases e) (fun f e=>by cases e) (Y.pl.1).symm),⟨x,g1,P.get g2 (off g2 (fun f e=>by cases e) (fun f e=>by cases e) (by have:=Y.lt.2.1;omega)),g3⟩,t.svn⟩
 ·obtain⟨es,e1,e2⟩:=t.tab
  refine cO.keep P (fun i rows hr hi=>off hi (fun f e=>by cases e) (fun f e=>by cases e) (fun e=> ?_)) (off e1 (fun f e=>by cases e) (fun f e=>by cases e) (fun e=>by rw[e,hpl] at e1;cases e1)) hT ⟨es,e1,e2⟩
  rw[e,hpl] at hi
  injection hi with hi
  exact xD hr hi.symm
 ·have:=a2 y hy
  have hm:H'[y.2.1]? =some (aT y.2.2):=this
  exact P.get hm (off hm (fun f e=>by injection e with e _;exact absurd e (by decide)) (fun f e=>by injection e with e _;exact absurd e (by decide)) (fun e=>by rw[e,hpl] at hm;cases hm))
theorem CL.putted (t:CL c tb sv sm lev v op ed dl ad a in0 in1 G V D T1 f0 H0 cur nw B outs held l H') (Y:tc H0 c a dl ad tb) {H2:Hp} (P:Pr (fun i=>i=tb∨i=ad) H' H2) {A:List Add} (a1:H'[ad]? =some (.list (A.map fG))) (a2:∀x∈A,IsF H' x.2.1 x.2.2) (a3:A.map (fun x=>(x.1,x.2.2))=(mkF f0 outs).map (fun f=>(lev+1,f))) {x:Nat}
 (h1:cO H2 tb (T1++mkT f0 outs++[(f0+outs.length,held)])) (h2:H2[ad]? =some (.list ((A++[(lev+1,x,fiR (f0+outs.length) held)]).map fG))) (h3:IsF H2 x (fiR (f0+outs.length) held)):
 CL c tb sv sm lev v op ed dl ad a in0 in1 G V D T1 f0 H0 cur nw B (outs++[held]) held (upd l 166 (.int ((f0+outs.length+1:Nat):Int))) H2:=by
 obtain⟨h,g1,g2,g3⟩:=t.h
 obtain⟨ga0,go0,sk0,ps0,st0,c1,c2,c3,c4,c5⟩:=t.C
 obtain⟨es,e1,e2⟩:=t.tab
 have u:∀j,j≠166→upd l 166 (.int ((f0+outs.length+1:Nat):Int)) j=l j:=fun j hj=>by unfold upd;rw[if_neg hj]
 have off:∀{i:Nat} {o:SO},H'[i]? =some o→(∀es,o≠.dict es)→i≠ad→¬(i=tb∨i=ad):=fun hi q1 q2=>by
  rintro(rfl|rfl)
  ·rw[e1] at hi;cases hi;exact q1 _ rfl
  ·exact q2 rfl
 have offi:∀{i:Nat} {C:Addr} {f:List (Nat×SV)},H'[i]? =some (.inst C f)→¬(i=tb∨i=ad):=fun hi=>off hi (fun _ e=>by cases e) (fun e=>by rw[e,a1] at hi;cases hi)
 have offl:∀{i:Nat} {fs:List Fi},be H' i fs→i≠ad→¬(i=tb∨i=ad):=fun⟨as,hi,_⟩ q=>off hi (fun _ e=>by cases e) q
 have hlt:=Y.lt
 refine⟨(u 36 (by decide)).trans t.l36,(u 165 (by decide)).trans t.l165,(u 171 (by decide)).trans t.l171,?_,t.P.trans (P.weak fun i _ h=> ?_),⟨ga0,go0,sk0,ps0,st0,c1.keep P (fun i C f hi=>offi hi) (off c1.inp (fun _ e=>by cases e) Y.inp.2) (offl c1.f0 Y.f0.2) (offl c1.f1 Y.f1.2) (offl c1.g Y.gr.2) (off c1.p (fun _ e=>by cases e) Y.pl.2),c2,c3,c4,P.get c5 (offi c5)⟩,?_,
  ⟨A++[(lev+1,x,fiR (f0+outs.length) held)],h2,fun y hy=> ?_,?_⟩,P.get t.dl (off t.dl (fun _ e=>by cases e) Y.dlad),⟨h,(u 169 (by decide)).trans g1,P.get g2 (off g2 (fun _ e=>by cases e) (by omega)),g3⟩,t.svn⟩
 ·unfold upd;rw[if_pos rfl,List.length_append];rfl
 ·rcases h with h|h
  ·exact .inr (.inr (.inr (.inr h)))
  ·exact .inr (.inr (.inr (.inl h)))
 ·rw[lI,←List.append_assoc];exact h1
 ·rcases List.mem_append.mp hy with hy|hy
  ·have hm:H'[y.2.1]? =some (aT y.2.2):=a2 y hy
   exact P.get hm (offi hm)
  ·rw[List.mem_singleton] at hy;subst hy;exact h3
 ·rw[List.map_append,a3,lG,List.map_append];rfl
end
theorem jh {rows:List En} {lo:En} (h:rows.head? =some lo):rows.headD e0=lo:=by
 cases rows with
 |nil=>cases h
 |cons x r=>cases h;rfl
theorem e7 {rows:List En} {hi:En} (h:rows.getLast? =some hi):rows.getLastD e0=hi:=by
 rw[List.getLastD_eq_getLast?,h];rfl
theorem ij {rows:List En} (h:rows≠[]):∃lo hi,rows.head? =some lo∧rows.getLast? =some hi:=by
 refine⟨rows.head h,rows.getLast h,List.head?_eq_some_head h,List.getLast?_eq_some_getLast h⟩
structure LI (c tb sv sm lev v op ed dl ad:Nat) (a:CA) (in0 in1 G:List Fi) (V:List (List Fi)) (D:List Del) (T1:aO) (f0:Nat) (H0:Hp) (R:List En) (rs:Nat) (i:Nat) (l:Loc) (H':Hp):Prop where
 x:∃outs held,Kp lev sm V R i outs held∧CL c tb sv sm lev v op ed dl ad a in0 in1 G V D T1 f0 H0 (fJ R i) (nwR R i) (fun ps=>∀e,R[i]? =some e→ew V e.u ps) outs held l H'
 r:H'[rs]? =some (.list (R.map enV))
theorem so (n:Nat) (hik:gU (Gam n)) (htu:ny (Gam n)) (hpu:iV (Gam n)) {c tb sv sm lev v op ed cp dl ad:Nat} {a:CA} {in0 in1 G:List Fi} {V:List (List Fi)} {sc sl:SV} {ot:Opt} {D:List Del} {T1:aO} {f0:Nat} {H0:Hp} {R:List En} {rs:Nat}
 (Y:tc H0 c a dl ad tb) (hV:∀H',Pr (Mz c a dl ad tb) H0 H'→aI H' v V sc sl) (hO:∀H',Pr (Mz c a dl ad tb) H0 H'→cY H' op ot) (hE:∀H',Pr (Mz c a dl ad tb) H0 H'→H'[ed]? =some (aY cp dl ad)) (hk:ot.Ok) (hVl:V.length=ot.cnt) (hGl:G.length≤100) (hfl:∀fs∈V,fs.length≤100)
 (hap:∀(j:Nat) (fs:List Fi),1≤j→V[j]? =some fs→on fs) (hlev:lev+2≤ot.cnt) (hsm:sm≤100) (hRl:R.length<7) (hR:UpU R) (hT1:∀t∈T1,t.2≠[]∧t.1<f0) (hT1l:T1.length≤50) (hrs:H0.length≤rs) (h14:14<H0.length) {i:Nat} {e:En} {l:Loc} {H:Hp} (he:R[i]? =some e)
 (I:LI c tb sv sm lev v op ed dl ad a in0 in1 G V D T1 f0 H0 R rs i l H) (Q:Fl×Loc→Hp→Prop):
 W (aM TT (Gam n) (.cons (.asg 66 (.neg (.con (.int 1)))) (.cons (.ite (.cmp .Gt (.bui 0 (.cons (.loc 169) .nil)) (.con (.int 0))) (.cons (.asg 66 (.bui 0 (.cons (.loc 169) .nil))) .nil) (.nil)) (.cons (.asgT [68,67] (.meth (.loc 171) 172 (.cons (.call 167 715 (.cons (.loc 156) .nil)) (.cons (.loc 66) .nil)))) (.cons (.ite (.loc 68) (.cons (.asg 166 (.call 170 729 (.cons (.bin .Add (.attr (.loc 36) 92) (.con (.int 1))) (.cons (.loc 169) (.cons (.loc 165) (.cons (.attr (.loc 36) 113) (.cons (.loc 166) .nil))))))) (.cons (.asg 169 (.lst (.nil))) .nil)) (.nil)) (.cons (.ite (.not (.loc 67)) (.cons (.asg 169 (.bin .Add (.loc 169) (.lst (.cons (.loc 156) .nil)))) .nil) (.nil)) .nil))))) (upd l 156 (enV e)) H)
   (dN (LI c tb sv sm lev v op ed dl ad a in0 in1 G V D T1 f0 H0 R rs (i+1)) Q):=by
 obtain⟨⟨outs,held,kp,t0⟩,hr⟩:=I
 have hlen:(outs.flatten++held).length≤6:=by have:=kp.sub.length_le;rw[List.length_take] at this;omega
 rw[List.length_append] at hlen
 have hol:=jH kp.ne
 have t1:CL c tb sv sm lev v op ed dl ad a in0 in1 G V D T1 f0 H0 (fJ R i) (nwR R i) (fun ps=>∀e,R[i]? =some e→ew V e.u ps) outs held (upd l 156 (enV e)) H:=t0.loc fun j hj=>by unfold upd;rw[if_neg];omega
 have l156:upd l 156 (enV e) 156=some (enV e):=by unfold upd;rw[if_pos rfl]
 generalize upd l 156 (enV e)=l at t1 l156
 clear t0
 have hTn:∀t∈T1++mkT f0 outs,t.2≠[]:=fun t ht=>by
  rcases List.mem_append.mp ht with h|h
  ·exact(hT1 t h).1
  ·exact kp.ne _ (cS h).1
 refine ah (fun l H'=>CL c tb sv sm lev v op ed dl ad a in0 in1 G V D T1 f0 H0 (fJ R i) (nwR R i) (fun ps=>∀e,R[i]? =some e→ew V e.u ps) outs held l H'∧l 156=some (enV e)∧l 66=some (.int (-1))∧H=H') ?_ ?_
 ·wide_line with[]
  exact⟨_,rfl,t1.loc fun j hj=>by rcases hj with rfl|rfl|rfl|rfl|rfl<;>rfl,l156,rfl,trivial⟩
 clear t1 l156
 rintro l H' ⟨t,l156,l66,rfl⟩
 refine ah (fun l H'=>CL c tb sv sm lev v op ed dl ad a in0 in1 G V D T1 f0 H0 (fJ R i) (nwR R i) (fun ps=>∀e,R[i]? =some e→ew V e.u ps) outs held l H'∧l 156=some (enV e)∧(∃oct:Int,l 66=some (.int oct)∧(0≤oct→held≠[]))∧H=H') ?_ ?_
 ·obtain⟨h,h1,h2,h3⟩:=t.h
  have hl:Mine.lenO (some (.list (held.map enV)))=some (held.length:Int):=bh (by unfold ag;omega)
  wide_line with[h1,h2,hl]
  by_cases c0:0<(held.length:Int)
  ·rw[if_pos c0]
   exact⟨_,rfl,t.loc fun j hj=>by rcases hj with rfl|rfl|rfl|rfl|rfl<;>rfl,l156,⟨_,rfl,fun _ q=>by rw[q] at c0;simp at c0⟩,trivial⟩
  ·rw[if_neg c0]
   exact⟨_,rfl,t,l156,⟨_,l66,fun q=>by omega⟩,trivial⟩
 clear t l156 l66 l
 rintro l H' ⟨t,l156,⟨oct,l66,hoct⟩,rfl⟩
 refine ah (fun l H'=>CL c tb sv sm lev v op ed dl ad a in0 in1 G V D T1 f0 H0 (fJ R (i+1)) (nwR R (i+1)) (fun ps=>∀e,R[i+1]? =some e→ew V e.u ps) outs held l H'∧l 156=some (enV e)∧H'[rs]? =some (.list (R.map enV))∧∃cut drop,l 68=some (.bool cut)∧l 67=some (.bool drop)∧wm lev sm V e (fJ R i) (nwR R i) oct cut drop) ?_ ?_
 ·obtain⟨L,e1⟩:=hik e H
  have t1:=t.app L
  obtain⟨ga,go,sk,ps,st,c1,c2,c3,c4,c5⟩:=t1.C
  obtain⟨cut,drop,ga',go',ps',st',H2,e2,P2,C2,S2,B2,G2,hTu⟩:=htu sv c lev v op ed a in0 in1 G ga go sk ps V sc sl e ot sm (fJ R i) (nwR R i) oct st (H++L) c1 (hV _ t1.P) (hO _ t1.P) hVl hk (c4 e he) hGl c2 hfl hap hlev c5
  have hps':ps'≠[]:=fun q=>by have:=B2.len;rw[q] at this;have:=hk.cnt;simp at*;omega
  obtain⟨q1,q2⟩:=sr he
  have t2:=t1.turned Y hTn P2 (cur':=fJ R (i+1)) (nw':=nwR R (i+1)) (B':=fun ps=>∀e,R[i+1]? =some e→ew V e.u ps) C2 G2 hps' (fun e' he'=>B2.up (hR i (i+1) e e' (by omega) he he')) (by rw[q1,q2];exact S2)
  have hrs2:H2[rs]? =some (.list (R.map enV)):=P2.get (ab hr L) (by
   have:=Y.lt
   rintro(h|h|h)
   ·omega
   ·omega
   ·have:=ab hr L
    rw[h,c5] at this;cases this)
  obtain⟨ga0,go0,sk0,ps0,st0,d1,d2,d3,d4,d5⟩:=t.C
  simp only[cF] at d5
  wide_line with[t.l171,l156,l66,d5,e1,e2]
  exact⟨_,rfl,t2.loc fun j hj=>by rcases hj with rfl|rfl|rfl|rfl|rfl<;>rfl,l156,hrs2,cut,drop,rfl,rfl,hTu⟩
 clear t l156 l66 l hr
 rintro l H' ⟨t,l156,hr,cut,drop,l68,l67,hTu⟩
 refine ah (fun l H'=>∃outs held,Kp lev sm V R i outs held∧CL c tb sv sm lev v op ed dl ad a in0 in1 G V D T1 f0 H0 (fJ R (i+1)) (nwR R (i+1)) (fun ps=>∀e,R[i+1]? =some e→ew V e.u ps) outs held l H'∧l 156=some (enV e)∧H'[rs]? =some (.list (R.map enV))∧l 67=some (.bool drop)) ?_ ?_
 ·rw[dG]
  refine W.mono (Q:=fun b H1=>H'=H1∧b=cut) ?_ ?_
  ·wide_line with[l68]
   exact⟨trivial,trivial⟩
  rintro b H1 ⟨rfl,rfl⟩
  cases b
  ·rw[if_neg (by decide),fR]
   exact⟨l,rfl,outs,held,kp,t,l156,hr,l67⟩
  rw[if_pos rfl]
  obtain⟨hc1,hc2⟩:=hTu.cut rfl
  have hh:=hoct hc1
  obtain⟨lo,hi,hlo,hhi⟩:=ij hh
  obtain⟨h,h1,h2,h3⟩:=t.h
  obtain⟨A,a1,a2,a3⟩:=t.add
  have hAl:A.length=outs.length:=by
   have:=congrArg List.length a3
   rw[List.length_map,List.length_map,jo] at this;exact this
  have hfr:∀x∈T1++mkT f0 outs,x.1≠f0+outs.length∧x.2≠[]:=fun x hx=>by
   refine⟨?_,hTn x hx⟩
   rcases List.mem_append.mp hx with h|h
   ·have:=(hT1 x h).2;omega
   ·have:=(cS h).2.2;omega
  obtain⟨x,H2,e1,P2,T2,A2',F2,_⟩:=hpu (lev+1) h tb ed cp dl ad (f0+outs.length) held lo hi (T1++mkT f0 outs) A H' h2 hlo hhi (by omega) (by omega) t.tab hfr (by rw[List.length_append,kJ];omega) (hE _ t.P) a1 (by omega)
  have hfi:(⟨f0+outs.length,held.length,lo,hi⟩:Fi)=fiR (f0+outs.length) held:=by
   unfold fiR;rw[jh hlo,e7 hhi]
  rw[hfi] at A2' F2
  have t2:=t.putted Y P2 a1 a2 a3 T2 A2' F2
  have hr2:H2[rs]? =some (.list (R.map enV)):=P2.get hr (by
   have:=Y.lt
   rintro(h|h)
   ·obtain⟨es,e1,_⟩:=t.tab
    rw[h,e1] at hr;cases hr
   ·omega)
  have t3:=(t2.app [.list []]).hold (held':=[]) (h':=H2.length) (aC _ _) t2.P.1
  obtain⟨ga0,go0,sk0,ps0,st0,d1,d2,d3,d4,d5⟩:=t.C
  have hc:=d1.c
  simp only[aA] at hc
  have hl1:((lev:Int)+1)=((lev+1:Nat):Int):=by omega
  have hl166:=t.l166
  wide_line with[t.l36,t.l165,h1,hl166,hc,hl1,e1,List.length_nil]
  refine⟨by decide,_,rfl,outs++[held],[],kp.cut hR hh he (wD hc2),t3,l156,ab hr2 _,l67⟩
 clear t l156 l68 l67 hr l kp hol hlen hTn hoct
 rintro l H' ⟨outs,held,kp,t,l156,hr,l67⟩
 rw[eT,dG]
 refine W.mono (Q:=fun b H1=>H'=H1∧b= !drop) ?_ ?_
 ·wide_line with[l67]
  exact⟨trivial,trivial⟩
 rintro b H1 ⟨rfl,rfl⟩
 cases drop
 ·rw[if_pos (by decide)]
  obtain⟨h,h1,h2,h3⟩:=t.h
  have hlen:(outs.flatten++held).length≤6:=by have:=kp.sub.length_le;rw[List.length_take] at this;omega
  rw[List.length_append] at hlen
  have hadd:tv (some (.list (held.map enV))) (some (.list [enV e]))=some ((held++[e]).map enV):=by rw[iJ,List.map_append];rfl
  have t2:=((t.app [.list [enV e]]).app [.list ((held++[e]).map enV)]).hold (aC _ _) (by have:=t.P.1;rw[List.length_append];omega)
  have h2':=ab h2 [.list [enV e]]
  have hlm:((held++[e]).map enV).length≤ag:=by rw[List.length_map,List.length_append,List.length_singleton];unfold ag;omega
  wide_line with[h1,l156,nC,h2',aC,hadd,List.length_cons,List.length_nil]
  exact⟨by decide,hlm,⟨⟨outs,held++[e],kp.keep he (fun h=>by have:=hTu.must (Aq h);cases this),t2⟩,ab (ab hr _) _⟩⟩
 ·rw[if_neg (by decide)]
  wide_line with[]
  refine⟨⟨outs,held,kp.lose he ?_,t⟩,hr⟩
  rcases hTu.may rfl with h|h
  ·exact .inl (Ar hsm h)
  ·exact .inr h
def zj (lev sm:Nat) (V:List (List Fi)) (R:List En) (outs:List (List En)):Prop:=Kp lev sm V R R.length outs []
theorem Kp.fin {lev sm:Nat} {V:List (List Fi)} {R:List En} {outs:List (List En)} {held:List En} (k:Kp lev sm V R R.length outs held) (hh:held≠[]):zj lev sm V R (outs++[held]):=by
 refine⟨fun o ho=> ?_,by simpa using k.sub,?_,fun o _ x _ j y hj hy=> ?_,fun j y hj hy hn=>k.drop j y hj hy fun h=>hn (by simpa using h),fun x hx=>k.must x (by simpa using hx)⟩
 ·rcases List.mem_append.mp ho with h|h
  ·exact k.ne o h
  ·rw[List.mem_singleton] at h;subst h;exact hh
 ·rw[List.pairwise_append]
  refine⟨k.brk,List.pairwise_singleton ..,fun o _ p hp x _ y hy=> ?_⟩
  rw[List.mem_singleton] at hp;subst hp;simp at hy
 ·have:=(List.getElem?_eq_some_iff.mp hy).1;omega
structure kg (lev sm:Nat) (V:List (List Fi)) (T:aO) (in0 in1:List Fi) (fr:Nat) (D:List Del) (A:List (Nat×Fi)) (T':aO) (fr':Nat):Prop where
 x:(∃f,in0=[f]∧in1=[]∧D=[(lev,f.num)]∧A=[(lev+1,f)]∧T'=T∧fr'=fr)∨
  ∃outs,zj lev sm V (aJ (aF T (in0++in1))) outs∧D=cV lev in0++cV (lev+1) in1∧A=(mkF fr outs).map (fun f=>(lev+1,f))∧T'=bS (bS T in0) in1++mkT fr outs∧fr'=fr+outs.length
def kP (Γ:FT):Prop:=∀(c tb lev v op ed cp dl ad fr sm:Nat) (a:CA) (in0 in1 G:List Fi) (V:List (List Fi)) (sc sl:SV) (ot:Opt) (T:aO) (H:Hp),
 aB H c lev v op ed a in0 in1 G 0 0 false (List.replicate V.length 0)→H[ed]? =some (aY cp dl ad)→H[dl]? =some (.list [])→H[ad]? =some (.list [])→tc H c a dl ad tb→cO H tb T→(T.map (·.1)).Nodup→(∀t∈T,t.2≠[]∧t.1<fr)→T.length≤50→
 cY H op ot→ot.Ok→V.length=ot.cnt→(∀H',Pr (Mz c a dl ad tb) H H'→aI H' v V sc sl)→in0.length≤30→in1.length≤30→((in0++in1).map (·.num)).Nodup→(∀f∈in0++in1,∃rows,T.lookup f.num=some rows)→(aF T (in0++in1)).length<7→(aF T (in0++in1)).Nodup→
 G.length≤100→(∀fs∈V,fs.length≤100)→(∀(j:Nat) (fs:List Fi),1≤j→V[j]? =some fs→on fs)→lev+2≤ot.cnt→sm≤100→14<H.length→
 ∃(D:List Del) (A:List Add) (T':aO) (fr':Nat) (H':Hp),aw (Γ 736) [.ref c,.ref tb,.int fr,.int sm] H= .ok (.int fr') H'∧Pr (Mz c a dl ad tb) H H'∧cO H' tb T'∧iI H' ed D A∧kg lev sm V T in0 in1 fr D (A.map fun x=>(x.1,x.2.2)) T' fr'∧∃ga go sk,H'[c]? =some (aA lev v op a.ord a.us a.inp a.gr ed ga go sk a.pl)
theorem zk {r:R SV} {P:Nat→Hp→Prop} (h:W r fun x H'=>∃fr',x= .int ((fr':Nat):Int)∧P fr' H'):∃fr' H',r= .ok (.int ((fr':Nat):Int)) H'∧P fr' H':=by
 cases r with
 |ok x H'=>obtain⟨b,rfl,h⟩:=h;exact⟨b,H',rfl,h⟩
 |exc H=>exact h.elim
 |fail=>exact h.elim
theorem zw (n:Nat) (htr:qg (Gam n)) (had':pY (Gam n)) (hns:ni (Gam n)) (hik:gU (Gam n)) (htu:ny (Gam n)) (hpu:iV (Gam n)):kP (Gam (n+1)):=by
 intro c tb lev v op ed cp dl ad fr sm a in0 in1 G V sc sl ot T H hC hed hdl had Y hT hTn hTe hTl hO hk hVl hV h0 h1 hnn hin hrl hrn hGl hfl hap hlev hsm h14
 suffices h:W (aw (Gam (n+1) 736) [.ref c,.ref tb,.int fr,.int sm] H) fun x H'=>∃fr':Nat,x= .int (fr':Int)∧∃(D:List Del) (A:List Add) (T':aO),Pr (Mz c a dl ad tb) H H'∧cO H' tb T'∧iI H' ed D A∧kg lev sm V T in0 in1 fr D (A.map fun x=>(x.1,x.2.2)) T' fr'∧∃ga go sk,H'[c]? =some (aA lev v op a.ord a.us a.inp a.gr ed ga go sk a.pl) by
  obtain⟨fr',H',e,D,A,T',h⟩:=zk h
  exact⟨D,A,T',fr',H',e,h⟩
 show W (aj TT (Gam n) d6 eg _ _) _
 wrow_hasAny eg d6
 have hcc:=hC.c
 simp only[aA] at hcc
 obtain⟨b,e1,hb⟩:=htr c lev v op ed a in0 in1 G 0 0 false (List.replicate V.length 0) ot H hC hO (by omega) (by omega)
 rw[eT,dG]
 refine W.mono (Q:=fun b' H1=>H=H1∧b'=b) ?_ ?_
 ·wide_line with[hcc,e1]
  exact⟨trivial,trivial⟩
 rintro b' H1 ⟨rfl,rfl⟩
 have offk:∀{i:Nat} {C:Addr} {f:List (Nat×SV)},H[i]? =some (.inst C f)→C≠620→¬Mz c a dl ad tb i:=fun h hne=>by
  obtain⟨es,e1,_⟩:=hT
  rintro(e|e|e|e|e)
  ·rw[e,hC.c] at h;injection h with h;injection h with h _;exact hne h.symm
  ·rw[e,hC.p] at h;cases h
  ·rw[e,hdl] at h;cases h
  ·rw[e,had] at h;cases h
  ·rw[e,e1] at h;cases h
 have hE:∀{H'},Pr (Mz c a dl ad tb) H H'→H'[ed]? =some (aY cp dl ad):=fun P=>P.get hed (offk hed (by decide))
 have hO':∀{H'},Pr (Mz c a dl ad tb) H H'→cY H' op ot:=fun P=>P.get (show H[op]? =some (aK ot.cnt ot.l0 ot.bb ot.lf ot.mf ot.ef 1) from hO) (offk (show H[op]? =some (aK ot.cnt ot.l0 ot.bb ot.lf ot.mf ot.ef 1) from hO) (by decide))
 cases b'
 ·rw[if_neg (by decide)]
  refine ah (RS c tb fr sm H T []) ?_ ?_
  ·wide_line with[]
   exact⟨by decide,_,rfl,rfl,rfl,rfl,rfl,Pr.app _ _ _,by obtain⟨es,t1,t2⟩:=hT;exact⟨es,ab t1 _,t2.imp fun _ _ ⟨q1,w,q2,q3,q4⟩=>⟨q1,w,q2,ab q3 _,q4⟩⟩,H.length,rfl,aC _ _,Nat.le_refl _⟩
  intro l H1 t
  refine ah (RS c tb fr sm H (bS (bS T in0) in1) (aF T (in0++in1))) (sX n c tb fr sm lev v op ed a in0 in1 G 0 0 false (List.replicate V.length 0) T H hC hT (by omega) hTn (fun t ht=>(hTe t ht).1) hnn hin (by omega) l H1 t) ?_
  clear t l H1
  intro l H1 t
  have hT1:∀t∈bS (bS T in0) in1,t.2≠[]∧t.1<fr:=fun t ht=>hTe t (List.mem_filter.mp (List.mem_filter.mp ht).1).1
  have hT1l:(bS (bS T in0) in1).length≤50:=Nat.le_trans (List.length_filter_le _ _) (Nat.le_trans (List.length_filter_le _ _) hTl)
  have offt:∀{i:Nat} {o:SO},H[i]? =some o→(∀es,o≠.dict es)→¬i=tb:=fun h ho e=>by
   obtain⟨es,h1,_⟩:=hT
   rw[e,h1] at h;cases h;exact ho _ rfl
  have offf:∀{i:Nat} {fs:List Fi},be H i fs→¬i=tb:=fun⟨as,h,_⟩=>offt h fun _ e=>by cases e
  have C1:aB H1 c lev v op ed a in0 in1 G 0 0 false (List.replicate V.length 0):=hC.keep t.P (fun i C f h=>offt h fun _ e=>by cases e) (offt hC.inp fun _ e=>by cases e) (offf hC.f0) (offf hC.f1) (offf hC.g) (offt hC.p fun _ e=>by cases e)
  have d1:=t.P.get hdl (offt hdl fun _ e=>by cases e)
  have a1:=t.P.get had (offt had fun _ e=>by cases e)
  have e1:=t.P.get hed (offt hed fun _ e=>by cases e)
  have eD:=had' c lev v op ed cp dl ad a in0 in1 G 0 0 false (List.replicate V.length 0) [] H1 C1 e1 d1 Y.inp.1.symm Y.f0.1.symm Y.f1.1.symm (by simp) h0 h1
  obtain⟨D,hD⟩:∃D,[]++cV lev in0++cV (lev+1) in1=D:=⟨_,rfl⟩
  rw[hD] at eD
  obtain⟨x,x1,x2,x3⟩:=t.r
  have hpsn:List.replicate V.length (0:Nat)≠[]:=fun q=>by have h:=congrArg List.length q;rw[List.length_replicate] at h;have:=hk.cnt;have h':V.length=0:=h;omega
  have hlt:=Y.lt
  have hcc1:=C1.c
  simp only[aA] at hcc1
  have P1:Pr (Mz c a dl ad tb) H (H1.set dl (.list (D.map cX))):=(t.P.weak fun i _ h=> .inr (.inr (.inr (.inr h)))).trans (Pr.set _ _ (.inr (.inr (.inl rfl))))
  have x4:(H1.set dl (.list (D.map cX)))[x]? =some (.list ((aF T (in0++in1)).map enV)):=ai x2 (fun e:dl=x=>absurd x3 (by have:=hlt.2.2.1;omega)) _
  have C2:aB (H1.set dl (.list (D.map cX))) c lev v op ed a in0 in1 G 0 0 false (List.replicate V.length 0):=C1.keep (S:=fun i=>i=dl) (Pr.set _ _ rfl) (fun i C f h e=>by rw[e,d1] at h;cases h) Y.inp.1 Y.f0.1 Y.f1.1 Y.gr.1 Y.pl.1
  have T2:cO (H1.set dl (.list (D.map cX))) tb (bS (bS T in0) in1):=by
   obtain⟨es,t1,t2⟩:=t.tab
   refine cO.keep (S:=fun i=>i=dl) (Pr.set _ _ rfl) (fun i rows hr hi e=> ?_) (fun e=>by rw[e,d1] at t1;cases t1) (fun t ht=>(hT1 t ht).1) ⟨es,t1,t2⟩
   rw[e,d1] at hi;cases rows with
   |nil=>exact hr rfl
   |cons _ _=>cases hi
  have a2:(H1.set dl (.list (D.map cX)))[ad]? =some (.list []):=ai a1 Y.dlad _
  have d2:(H1.set dl (.list (D.map cX)))[dl]? =some (.list (D.map cX)):=a5 _ d1
  refine ah (fun l H'=>RS c tb fr sm H (bS (bS T in0) in1) (aF T (in0++in1)) l H1∧l 164=some (.ref x)∧H1.set dl (.list (D.map cX))=H') ?_ ?_
  ·wide_line with[t.l36,hcc1,eD]
   exact⟨trivial,l,rfl,t,x1,trivial⟩
  clear t x1 l
  rintro l H' ⟨t,x1,rfl⟩
  have hsl:=P1.1
  have eS:=hns c sm (H1.set dl (.list (D.map cX)))
  generalize hsv:(H1.set dl (.list (D.map cX))).length=sv at eS hsl
  have t3:∀l':Loc,(∀j,j=36∨j=165∨j=166→l' j=l j)→l' 171=some (.ref sv)→l' 169=some (.ref (sv+1))→
   CL c tb sv sm lev v op ed dl ad a in0 in1 G V D (bS (bS T in0) in1) fr H (fJ (aJ (aF T (in0++in1))) 0) (nwR (aJ (aF T (in0++in1))) 0) (fun ps=>∀e,(aJ (aF T (in0++in1)))[0]? =some e→ew V e.u ps) [] [] l' (H1.set dl (.list (D.map cX))++[cF c sm .none 72057594037927936 false]++[.list []]):=by
   intro l' hl h171 h169
   obtain⟨es,t1,t2⟩:=T2
   refine⟨(hl 36 (by decide)).trans t.l36,(hl 165 (by decide)).trans t.l165,h171,(hl 166 (by decide)).trans t.l166,(P1.trans (Pr.app _ _ _)).trans (Pr.app _ _ _),⟨0,0,false,_,false,(C2.app _).app _,Nat.zero_le _,hpsn,fun e _=>⟨by rw[List.length_replicate],fun j fs p hj hp=> ?_⟩,?_⟩,⟨es,ab (ab t1 _) _,?_⟩,⟨[],ab (ab a2 _) _,by simp,rfl⟩,ab (ab d2 _) _,⟨sv+1,h169,?_,by omega⟩,hsl⟩
   ·have hp0:p=0:=by
     have:=List.mem_of_getElem? hp
     exact(List.mem_replicate.mp this).2
    subst hp0
    exact⟨Nat.zero_le _,fun i f hi=>absurd hi (Nat.not_lt_zero _)⟩
   ·refine ab ?_ _
    rw[←hsv,aC];rfl
   ·rw[show mkT fr []=[] from rfl,List.append_nil]
    exact t2.imp fun _ _ ⟨q1,w,q2,q3,q4⟩=>⟨q1,w,q2,ab (ab q3 _) _,q4⟩
   ·have:sv+1=(H1.set dl (.list (D.map cX))++[cF c sm .none 72057594037927936 false]).length:=by rw[List.length_append,hsv];rfl
    rw[this,aC];rfl
  refine ah (fun l H'=>l 36=some (.ref c)∧l 165=some (.ref tb)∧l 166=some (.int fr)∧l 171=some (.ref sv)∧l 164=some (.ref x)∧H1.set dl (.list (D.map cX))++[cF c sm .none 72057594037927936 false]=H') ?_ ?_
  ·wide_line with[t.l36,t.l64,eS]
   exact⟨_,rfl,t.l36,t.l165,t.l166,rfl,x1,trivial⟩
  rintro l2 H' ⟨m36,m165,m166,m171,m164,rfl⟩
  have hsv1:(H1.set dl (.list (D.map cX))++[cF c sm .none 72057594037927936 false]).length=sv+1:=by rw[List.length_append,hsv];rfl
  refine ah (fun l H'=>CL c tb sv sm lev v op ed dl ad a in0 in1 G V D (bS (bS T in0) in1) fr H (fJ (aJ (aF T (in0++in1))) 0) (nwR (aJ (aF T (in0++in1))) 0) (fun ps=>∀e,(aJ (aF T (in0++in1)))[0]? =some e→ew V e.u ps) [] [] l H'∧l 164=some (.ref x)∧H'[x]? =some (.list ((aF T (in0++in1)).map enV))) ?_ ?_
  ·wide_line with[hsv1,List.length_nil]
   refine⟨by decide,_,rfl,t3 _ (fun j hj=> ?_) m171 rfl,m164,ab (ab x4 _) _⟩
   rcases hj with rfl|rfl|rfl
   ·exact m36.trans t.l36.symm
   ·exact m165.trans t.l165.symm
   ·exact m166.trans t.l166.symm
  clear t t3 m36 m165 m166 m171 m164 hsv1 l2 x1 l
  rintro l H2 ⟨t,l164,hx⟩
  generalize hR:aJ (aF T (in0++in1))=R at t
  have hRl:R.length<7:=by rw[←hR,(cf _).length_eq];exact hrl
  have hRu:UpU R:=by
   intro i j y z hij hy hz
   by_cases c:i=j
   ·subst c;rw[hy] at hz;cases hz;exact Nat.le_refl _
   ·obtain⟨b1,c1⟩:=List.getElem?_eq_some_iff.mp hy
    obtain⟨b2,c2⟩:=List.getElem?_eq_some_iff.mp hz
    have:=List.pairwise_iff_getElem.mp (hR▸jv (aF T (in0++in1))) i j b1 b2 (by omega)
    rw[c1,c2,kG] at this
    rcases this with h|h
    ·exact Nat.le_of_lt h
    ·exact Nat.le_of_eq (congrArg Fin.val h.1)
  refine ah (fun l H'=>∃outs held,Kp lev sm V R R.length outs held∧∃cur nw B,CL c tb sv sm lev v op ed dl ad a in0 in1 G V D (bS (bS T in0) in1) fr H cur nw B outs held l H') ?_ ?_
  ·refine aE ?_
   wide_line with[l164,l9 hx hrl hrn]
   rw[hR]
   have t1:=t.app [.list (R.map enV)]
   refine⟨H2.length,R.map enV,rfl,aC _ _,?_⟩
   refine cw (LI c tb sv sm lev v op ed dl ad a in0 in1 G V D (bS (bS T in0) in1) fr H R H2.length) (fun i l H' I=>I.r) (fun i w l H' I hw=> ?_) (fun l H' I=> ?_) ⟨⟨[],[],Kp.start _ _ _ _,t1⟩,aC _ _⟩
   ·rw[List.getElem?_map] at hw
    cases he:R[i]? with
    |none=>rw[he] at hw;cases hw
    |some e=>
     rw[he] at hw;cases hw
     rw[gm]
     exact so n hik htu hpu Y hV (fun H' P=>hO' P) (fun H' P=>hE P) hk hVl hGl hfl hap hlev hsm hRl hRu hT1 hT1l t.P.1 h14 he I _
   ·rw[List.length_map] at I
    obtain⟨outs,held,kp,t⟩:=I.x
    exact⟨l,rfl,outs,held,kp,_,_,_,t⟩
  clear t hx l164 l H2
  rintro l H' ⟨outs,held,kp,cur,nw,B,t⟩
  refine ah (fun l H'=>∃outs held,zj lev sm V R outs∧∃cur nw B,CL c tb sv sm lev v op ed dl ad a in0 in1 G V D (bS (bS T in0) in1) fr H cur nw B outs held l H') ?_ ?_
  ·have hlen:(outs.flatten++held).length≤6:=by have:=kp.sub.length_le;rw[List.length_take] at this;omega
   rw[List.length_append] at hlen
   have hol:=jH kp.ne
   obtain⟨h,h1,h2,h3⟩:=t.h
   have hl:Mine.lenO (some (.list (held.map enV)))=some (held.length:Int):=bh (by unfold ag;omega)
   rw[dG]
   refine W.mono (Q:=fun b H1=>H'=H1∧b=decide (0<(held.length:Int))) ?_ ?_
   ·wide_line with[h1,h2,hl]
    exact⟨trivial,trivial⟩
   rintro b H1 ⟨rfl,rfl⟩
   by_cases hh:held=[]
   ·rw[if_neg (by rw[hh];decide),fR]
    subst hh
    exact⟨l,rfl,outs,[],kp,cur,nw,B,t⟩
   have hpos:0<held.length:=List.length_pos_iff.mpr hh
   rw[if_pos (by simp;omega)]
   obtain⟨lo,hi,hlo,hhi⟩:=ij hh
   obtain⟨A,a1,a2,a3⟩:=t.add
   have hAl:A.length=outs.length:=by
    have:=congrArg List.length a3
    rw[List.length_map,List.length_map,jo] at this;exact this
   have hfr:∀x∈bS (bS T in0) in1++mkT fr outs,x.1≠fr+outs.length∧x.2≠[]:=fun x hx=>by
    rcases List.mem_append.mp hx with h|h
    ·exact⟨by have:=(hT1 x h).2;omega,(hT1 x h).1⟩
    ·exact⟨by have:=(cS h).2.2;omega,kp.ne _ (cS h).1⟩
   obtain⟨y,H2,e1,P2,T2,A2',F2,_⟩:=hpu (lev+1) h tb ed cp dl ad (fr+outs.length) held lo hi (bS (bS T in0) in1++mkT fr outs) A H' h2 hlo hhi (by omega) (by omega) t.tab hfr (by rw[List.length_append,kJ];omega) (hE t.P) a1 (by omega)
   have hfi:(⟨fr+outs.length,held.length,lo,hi⟩:Fi)=fiR (fr+outs.length) held:=by
    unfold fiR;rw[jh hlo,e7 hhi]
   rw[hfi] at A2' F2
   have t2:=t.putted Y P2 a1 a2 a3 T2 A2' F2
   obtain⟨ga0,go0,sk0,ps0,st0,d1,d2,d3,d4,d5⟩:=t.C
   have hc:=d1.c
   simp only[aA] at hc
   have hl1:((lev:Int)+1)=((lev+1:Nat):Int):=by omega
   have hl166:=t.l166
   wide_line with[t.l36,t.l165,h1,hl166,hc,hl1,e1,List.length_nil]
   exact⟨_,rfl,outs++[held],held,kp.fin hh,_,_,_,t2⟩
  clear t l H' kp outs held
  rintro l H' ⟨outs,held,kp,cur,nw,B,t⟩
  wide_line with[t.l166]
  obtain⟨A,a1,a2,a3⟩:=t.add
  obtain⟨ga,go,sk,_,_,q,_⟩:=t.C
  refine⟨_,rfl,D,A,_,t.P,t.tab,⟨cp,dl,ad,hE t.P,t.dl,a1,a2⟩,⟨.inr ⟨outs,by rw[hR];exact kp,by rw[←hD,List.nil_append],a3,rfl,rfl⟩⟩,ga,go,sk,q.c⟩
 ·rw[if_pos rfl]
  obtain⟨q0,q1⟩:=hb rfl
  obtain⟨f,rfl⟩:∃f,in0=[f]:=by
   cases in0 with
   |nil=>simp at q0
   |cons f r=>cases r with
    |nil=>exact⟨f,rfl⟩
    |cons g s=>simp at q0
  obtain rfl:in1=[]:=List.length_eq_zero_iff.mp q1
  obtain⟨as,g1,g2⟩:=hC.f0
  obtain⟨x,rfl⟩:∃x,as=[x]:=by
   have:=g2.len
   cases as with
   |nil=>simp at this
   |cons f r=>cases r with
    |nil=>exact⟨f,rfl⟩
    |cons g s=>simp at this
  have hx:H[x]? =some (aT f):=g2.1
  have g1':H[a.i0]? =some (.list [.ref x]):=g1
  have i1:ck (some (.list [.ref x])) 0=some (.ref x):=aG (j:=0) rfl (show 1≤ag by decide)
  have P1:Pr (Mz c a dl ad tb) H (H.set dl (.list ([(lev,f.num)].map cX))):=Pr.set _ _ (.inr (.inr (.inl rfl)))
  have P2:Pr (Mz c a dl ad tb) H ((H.set dl (.list ([(lev,f.num)].map cX))).set ad (.list ([(lev+1,x,f)].map fG))):=P1.trans (Pr.set _ _ (.inr (.inr (.inr (.inl rfl)))))
  have k1:(H.set dl (.list ([(lev,f.num)].map cX)))[c]? =some (aA lev v op a.ord a.us a.inp a.gr ed 0 0 false a.pl):=ai hC.c (fun e=>by rw[e,hC.c] at hdl;cases hdl) _
  have k2:(H.set dl (.list ([(lev,f.num)].map cX)))[ad]? =some (.list []):=ai had Y.dlad _
  have k3:=hE P1
  have k4:=hE P2
  simp only[aA] at k1
  simp only[aY] at k3
  have hed':=hed
  simp only[aY] at hed'
  have hl1:((lev:Int)+1)=((lev+1:Nat):Int):=by omega
  have hap1:iK (some (.list [])) (.tup [.int lev,.int f.num])=some (.list ([(lev,f.num)].map cX)):=cJ (vs:=[]) (by decide)
  have hap2:iK (some (.list [])) (.tup [.int ((lev+1:Nat):Int),.ref x])=some (.list ([(lev+1,x,f)].map fG)):=cJ (vs:=[]) (by decide)
  wide_line with[hcc,hC.inp,ix0,g1',i1,hx,hed',hdl,hap1,k1,k2,k3,hl1,hap2,List.length_nil,List.length_cons,e6]
  refine⟨⟨trivial,by decide⟩,trivial,⟨trivial,by decide⟩,trivial,fr,rfl,[(lev,f.num)],[(lev+1,x,f)],T,P2,?_,?_,⟨.inl ⟨f,rfl,rfl,rfl,rfl,rfl,rfl⟩⟩,0,0,false,ai (ai hC.c (fun e=>by rw[e,hC.c] at hdl;cases hdl) _) (fun e=>by rw[e,hC.c] at had;cases had) _⟩
  ·have P3:Pr (fun i=>i=dl∨i=ad) H ((H.set dl (.list ([(lev,f.num)].map cX))).set ad (.list ([(lev+1,x,f)].map fG))):=(Pr.set (S:=fun i=>i=dl∨i=ad) _ _ (.inl rfl)).trans (Pr.set _ _ (.inr rfl))
   obtain⟨es,t1,t2⟩:=hT
   refine cO.keep P3 (fun i rows hr hi=> ?_) ?_ (fun t ht=>(hTe t ht).1) ⟨es,t1,t2⟩
   ·rintro(e|e)
    ·rw[e,hdl] at hi;cases rows with
     |nil=>exact hr rfl
     |cons _ _=>cases hi
    ·rw[e,had] at hi;cases rows with
     |nil=>exact hr rfl
     |cons _ _=>cases hi
   ·rintro(e|e)
    ·rw[e,hdl] at t1;cases t1
    ·rw[e,had] at t1;cases t1
  ·refine⟨cp,dl,ad,k4,ai (a5 _ hdl) Y.dlad.symm _,a5 _ k2,fun y hy=> ?_⟩
   rw[List.mem_singleton] at hy;subst hy
   exact P2.get hx (offk hx (by decide))
def ltP (a b:En):Prop:=a.u<b.u∨(a.u=b.u∧b.s<a.s)
def At (V:List (List Fi)) (j:Nat) (f:Fi):Prop:=∃fs,V[j]? =some fs∧f∈fs
def ey (T:aO):List En:=T.flatMap (·.2)
def dk (L:List En) (u:Fin 4) (s:Fin 16):Option En→Prop
 |none=>∀e∈L,e.u=u→¬e.s≤s
 |some e=>e∈L∧e.u=u∧e.s≤s∧∀e'∈L,e'.u=u→e'.s≤s→e'.s≤e.s
def s7:Option En→Option (Fin 16)
 |none=>none
 |some e=>if e.k=1 then some e.s else none
structure Inv (sm cnt:Nat) (hist:List En) (V:List (List Fi)) (T:aO) (fr:Nat):Prop where
 len:V.length=cnt
 c34:cnt=3∨cnt=4
 keyN:(T.map (·.1)).Nodup
 keyF:∀t∈T,t.1<fr
 tab:∀t∈T,∃j f,At V j f∧f.num=t.1
 file:∀j f,At V j f→∃rows,T.lookup f.num=some rows∧f=fiR f.num rows
 rows:∀t∈T,t.2≠[]∧t.2.Pairwise ltP
 inj:∀i j f g,At V i f→At V j g→f.num=g.num→i=j∧f=g
 srt:∀(j:Nat) (fs:List Fi),V[j]? =some fs→fs.Pairwise (fun a b=>bef j a b=true)
 apart:∀j f g,1≤j→At V j f→At V j g→f≠g→f.hi.u<g.lo.u∨g.hi.u<f.lo.u
 ord:∀i j f g rf rg,i<j→At V i f→At V j g→T.lookup f.num=some rf→T.lookup g.num=some rg→∀e∈rf,∀e'∈rg,e.u=e'.u→e'.s<e.s
 ord0:∀f g rf rg,At V 0 f→At V 0 g→f.num<g.num→T.lookup f.num=some rf→T.lookup g.num=some rg→∀e∈rf,∀e'∈rg,e.u=e'.u→e.s<e'.s
 uniq:∀t∈T,∀t'∈T,∀e,e∈t.2→e∈t'.2→t=t'
 ent:∀t∈T,∀e∈t.2,e∈hist
 hS:hist.Pairwise (fun a b=>a.s<b.s)
 hL:hist.length≤6
 read:∀(u:Fin 4) (s:Fin 16) (o o':Option En),sm≤s.val→dk (ey T) u s o→dk hist u s o'→s7 o=s7 o'
theorem az {T:aO} {k:Nat} {rows:List En} (h:T.lookup k=some rows):(k,rows)∈T:=by
 induction T with
 |nil=>simp at h
 |cons t r ih=>
  rw[List.lookup_cons] at h
  by_cases c:k=t.1
  ·subst c
   rw[beq_self_eq_true] at h
   cases h
   exact List.mem_cons_self
  ·have:(k == t.1)=false:=by rw[beq_eq_false_iff_ne];exact c
   rw[this] at h
   exact List.mem_cons_of_mem _ (ih h)
theorem a8 {T:aO} (hn:(T.map (·.1)).Nodup) {t:Nat×List En} (h:t∈T):T.lookup t.1=some t.2:=by
 obtain⟨i,hi⟩:=List.getElem?_of_mem h
 exact mH hn hi
theorem qx {a b:En} (h:ltP a b):rk a<rk b:=by
 unfold ltP at h
 rw[Fin.lt_def,Fin.lt_def,Fin.ext_iff] at h
 unfold rk
 have:=a.s.2;have:=b.s.2;have:=a.k.2;have:=b.k.2
 omega
theorem rK {a b:En} (h:ltP a b):a.u≤b.u:=by
 unfold ltP at h
 rw[Fin.lt_def,Fin.ext_iff] at h
 rw[Fin.le_def];omega
theorem ends {rows:List En} (hn:rows≠[]) (hs:rows.Pairwise ltP) (n:Nat):(fiR n rows).lo∈rows∧(fiR n rows).hi∈rows∧∀e∈rows,(e=(fiR n rows).lo∨ltP (fiR n rows).lo e)∧(e=(fiR n rows).hi∨ltP e (fiR n rows).hi):=by
 obtain⟨lo,hi,h1,h2⟩:=ij hn
 unfold fiR
 simp only[jh h1,e7 h2]
 refine⟨List.mem_of_head? h1,List.mem_of_getLast? h2,fun e he=>⟨?_,?_⟩⟩
 ·cases rows with
  |nil=>cases h1
  |cons x r=>
   cases h1
   rcases List.mem_cons.mp he with h|h
   ·exact .inl h
   ·exact .inr ((List.pairwise_cons.mp hs).1 e h)
 ·obtain⟨ys,rfl⟩:=List.getLast?_eq_some_iff.mp h2
  rcases List.mem_append.mp he with h|h
  ·exact .inr ((List.pairwise_append.mp hs).2.2 e h hi (List.mem_singleton.mpr rfl))
  ·rw[List.mem_singleton] at h;exact .inl h
theorem zr {rows:List En} (hn:rows≠[]) (hs:rows.Pairwise ltP) (n:Nat):∀e∈rows,(fiR n rows).lo.u≤e.u∧e.u≤(fiR n rows).hi.u:=fun e he=>by
 obtain⟨_,_,h⟩:=ends hn hs n
 obtain⟨h1,h2⟩:=h e he
 refine⟨?_,?_⟩
 ·rcases h1 with h|h
  ·rw[←h];exact Nat.le_refl _
  ·exact rK h
 ·rcases h2 with h|h
  ·rw[←h];exact Nat.le_refl _
  ·exact rK h
section
variable {sm cnt:Nat} {hist:List En} {V:List (List Fi)} {T:aO} {fr:Nat}
theorem Inv.frow (I:Inv sm cnt hist V T fr) {j:Nat} {f:Fi} (h:At V j f):∃rows,T.lookup f.num=some rows∧f=fiR f.num rows∧rows≠[]∧rows.Pairwise ltP:=by
 obtain⟨rows,h1,h2⟩:=I.file j f h
 have:=I.rows _ (az h1)
 exact⟨rows,h1,h2,this.1,this.2⟩
theorem Inv.fu (I:Inv sm cnt hist V T fr) {j:Nat} {f:Fi} (h:At V j f) {rows:List En} (hr:T.lookup f.num=some rows):∀e∈rows,f.lo.u≤e.u∧e.u≤f.hi.u:=by
 obtain⟨rows',h1,h2,h3,h4⟩:=I.frow h
 rw[hr] at h1;cases h1
 intro e he
 have:=zr h3 h4 f.num e he
 rw[←h2] at this;exact this
theorem Inv.fends (I:Inv sm cnt hist V T fr) {j:Nat} {f:Fi} (h:At V j f):f.lo.u≤f.hi.u∧rk f.lo≤rk f.hi:=by
 obtain⟨rows,h1,h2,h3,h4⟩:=I.frow h
 obtain⟨m1,m2,h5⟩:=ends h3 h4 f.num
 rw[←h2] at m1 m2 h5
 refine⟨(I.fu h h1 _ m2).1,?_⟩
 rcases(h5 _ m2).1 with q|q
 ·rw[q];exact Nat.le_refl _
 ·exact Nat.le_of_lt (qx q)
end
theorem kE {u:Fin 4} {s:Fin 16}:∀{rows:List En},rows.Pairwise ltP→(∀e,hdE u s rows=some e→e∈rows∧(e.u=u→e.s≤s))∧∀e'∈rows,e'.u=u→e'.s≤s→∃e,hdE u s rows=some e∧e.u=u∧e'.s≤e.s:=by
 intro rows hs
 refine⟨fun e h=> ?_,fun e' he' hu hss=> ?_⟩
 ·have:=List.mem_of_head? h
  rw[List.mem_filter] at this
  refine⟨this.1,fun hu=> ?_⟩
  have h2:=this.2
  unfold geE at h2
  rw[Bool.or_eq_true,Bool.and_eq_true,decide_eq_true_eq,decide_eq_true_eq,decide_eq_true_eq] at h2
  rcases h2 with h2|h2
  ·rw[hu] at h2;exact absurd h2 (Fin.lt_irrefl _)
  ·exact h2.2
 ·have hg:geE u s e'=true:=by unfold geE;simp[hu,hss]
  have hm:e'∈rows.filter (geE u s):=List.mem_filter.mpr ⟨he',hg⟩
  have hp:(rows.filter (geE u s)).Pairwise ltP:=hs.filter _
  unfold hdE
  generalize hl:rows.filter (geE u s)=l at hm hp
  cases l with
  |nil=>simp at hm
  |cons x r=>
   have hx:geE u s x=true:=(List.mem_filter.mp (hl▸List.mem_cons_self)).2
   unfold geE at hx
   rw[Bool.or_eq_true,Bool.and_eq_true,decide_eq_true_eq,decide_eq_true_eq,decide_eq_true_eq] at hx
   refine⟨x,rfl,?_⟩
   rcases List.mem_cons.mp hm with h|h
   ·rw[←h];exact⟨hu,Nat.le_refl _⟩
   ·have h3:=(List.pairwise_cons.mp hp).1 e' h
    unfold ltP at h3
    rw[hu] at h3
    rcases hx with hx|hx
    ·rcases h3 with h3|h3
     ·exact absurd (Fin.lt_trans hx h3) (Fin.lt_irrefl _)
     ·rw[h3.1] at hx;exact absurd hx (Fin.lt_irrefl _)
    ·rcases h3 with h3|h3
     ·rw[hx.1] at h3;exact absurd h3 (Fin.lt_irrefl _)
     ·exact⟨hx.1,Nat.le_of_lt h3.2⟩
theorem jE {u:Fin 4} {cm:Nat→Option En} {e:En}:∀{C:List Fi},fA u cm C=some e→∃f∈C,cm f.num=some e∧e.u=u
 |[],h=>by cases h
 |f::r,h=>by
  cases hc:cm f.num with
  |none=>rw[jD hc] at h;obtain⟨g,hg,h2⟩:=jE h;exact⟨g,List.mem_cons_of_mem _ hg,h2⟩
  |some x=>
   by_cases hu:x.u=u
   ·rw[jF hc hu] at h;cases h;exact⟨f,List.mem_cons_self,hc,hu⟩
   ·rw[iM hc hu] at h;obtain⟨g,hg,h2⟩:=jE h;exact⟨g,List.mem_cons_of_mem _ hg,h2⟩
theorem lj {u:Fin 4} {cm:Nat→Option En} {nw:Fi→Fi→Prop} (hnw:∀f g e e',nw f g→cm f.num=some e→cm g.num=some e'→e.u=u→e'.u=u→e'.s<e.s):∀{C:List Fi},C.Pairwise nw→∀f∈C,∀e',cm f.num=some e'→e'.u=u→∃e,fA u cm C=some e∧e'.s≤e.s
 |[],_,f,hf,_,_,_=>by simp at hf
 |g::r,hp,f,hf,e',he',hu=>by
  rw[List.pairwise_cons] at hp
  cases hc:cm g.num with
  |none=>
   rw[jD hc]
   rcases List.mem_cons.mp hf with h|h
   ·rw[h,hc] at he';cases he'
   ·exact lj hnw hp.2 f h e' he' hu
  |some x=>
   by_cases hx:x.u=u
   ·rw[jF hc hx]
    refine⟨x,rfl,?_⟩
    rcases List.mem_cons.mp hf with h|h
    ·rw[h,hc] at he';cases he';exact Nat.le_refl _
    ·exact Nat.le_of_lt (hnw g f x e' (hp.1 f h) hc he' hx hu)
   ·rw[iM hc hx]
    rcases List.mem_cons.mp hf with h|h
    ·rw[h,hc] at he';cases he';exact absurd hu hx
    ·exact lj hnw hp.2 f h e' he' hu
theorem zn {j:Nat} (hj:j≠0) {f g:Fi} (h:bef j f g=true):rk f.lo≤rk g.lo:=by
 unfold bef at h
 rw[if_neg hj,Bool.or_eq_true,Bool.and_eq_true,decide_eq_true_eq,decide_eq_true_eq] at h
 omega
theorem qZ {f g:Fi} (h:bef 0 f g=true):f.num<g.num:=by
 unfold bef at h
 rw[if_pos rfl,decide_eq_true_eq] at h
 exact h
theorem n6 {a b:En} (h:a.u<b.u):rk a<rk b:=qx (.inl h)
theorem oG {u:Fin 4} {s:Fin 16} {f:Fi}:∀{fs:List Fi},fs.Pairwise (fun f g=>f.hi.u<g.lo.u)→f∈fs→f.lo.u≤u→rk ⟨u,s,1⟩≤rk f.hi→cZ fs ⟨u,s,1⟩=[f]
 |[],_,h,_,_=>by simp at h
 |g::r,hp,hf,h1,h2=>by
  rw[List.pairwise_cons] at hp
  by_cases c:g=f
  ·subst c
   have hlt:ltE g.hi ⟨u,s,1⟩=false:=by
    rw[Bool.eq_false_iff,ne_eq,iO];omega
   have hi:iC (g::r) ⟨u,s,1⟩=0:=by unfold iC;rw[List.takeWhile_cons,hlt];rfl
   unfold cZ
   rw[hi]
   show(if g.lo.u≤u then[g] else[])=[g]
   rw[if_pos h1]
  ·have hfr:f∈r:=(List.mem_cons.mp hf).resolve_left fun e=>c e.symm
   have hlt:ltE g.hi ⟨u,s,1⟩=true:=by
    rw[iO]
    exact n6 (Fin.lt_of_lt_of_le (hp.1 f hfr) h1)
   have hi:iC (g::r) ⟨u,s,1⟩=iC r ⟨u,s,1⟩+1:=by unfold iC;rw[List.takeWhile_cons,hlt];rfl
   have:=oG hp.2 hfr h1 h2
   unfold cZ at this⊢
   rw[hi]
   exact this
theorem ic {fs:List Fi} {e:En} {f:Fi} (h:f∈cZ fs e):f∈fs:=by
 unfold cZ at h
 split at h
 ·rename_i g hg
  split at h
  ·rw[List.mem_singleton] at h;subst h;exact List.mem_of_getElem? hg
  ·simp at h
 ·simp at h
theorem qn {fs:List Fi} {e:En} {R:Fi→Fi→Prop}:(cZ fs e).Pairwise R:=by
 unfold cZ
 split
 ·split
  ·exact List.pairwise_singleton ..
  ·exact .nil
 ·exact .nil
section
variable {sm cnt:Nat} {hist:List En} {V:List (List Fi)} {T:aO} {fr:Nat}
theorem Inv.lvl (I:Inv sm cnt hist V T fr) {j:Nat} {fs:List Fi} (hj:1≤j) (h:V[j]? =some fs):fs.Pairwise (fun f g=>f.hi.u<g.lo.u):=by
 refine(I.srt j fs h).imp_of_mem fun {f g} hf hg hb=> ?_
 have hfg:f≠g:=fun e=>by rw[e,nD] at hb;cases hb
 rcases I.apart j f g hj ⟨fs,h,hf⟩ ⟨fs,h,hg⟩ hfg with q|q
 ·exact q
 ·have h1:=zn (by omega) hb
  have h2:=(I.fends ⟨fs,h,hg⟩).1
  have h3:=n6 (Fin.lt_of_le_of_lt h2 q)
  omega
theorem Inv.mono (I:Inv sm cnt hist V T fr) (e:En):∀fs∈V.drop 1,pX (fun f=>ltE f.hi e) fs:=by
 intro fs hfs j k x y hjk hx hy hp
 obtain⟨i,hi⟩:=List.getElem?_of_mem hfs
 rw[List.getElem?_drop] at hi
 have hpw:=I.lvl (by omega) hi
 obtain⟨a1,b1⟩:=List.getElem?_eq_some_iff.mp hx
 obtain⟨a2,b2⟩:=List.getElem?_eq_some_iff.mp hy
 have h1:=List.pairwise_iff_getElem.mp hpw j k a1 a2 hjk
 rw[b1,b2] at h1
 have h2:=(I.fends ⟨fs,hi,List.mem_of_getElem? hy⟩).1
 have h3:=n6 (Fin.lt_of_lt_of_le h1 h2)
 rw[iO] at hp⊢
 omega
theorem Inv.apartL (I:Inv sm cnt hist V T fr):∀(j:Nat) (fs:List Fi),1≤j→V[j]? =some fs→on fs:=by
 intro j fs hj h
 refine⟨fun f hf=>(I.fends ⟨fs,h,hf⟩).1,fun i k f g hik hf hg=> ?_⟩
 obtain⟨a1,b1⟩:=List.getElem?_eq_some_iff.mp hf
 obtain⟨a2,b2⟩:=List.getElem?_eq_some_iff.mp hg
 have h1:=List.pairwise_iff_getElem.mp (I.lvl hj h) i k a1 a2 hik
 rw[b1,b2] at h1
 exact h1
theorem Inv.cons (I:Inv sm cnt hist V T fr):∃fs r,V=fs::r:=by
 cases h:V with
 |nil=>have h1:=I.len;rw[h] at h1;have:=I.c34;simp at h1;omega
 |cons fs r=>exact⟨fs,r,rfl⟩
theorem Inv.cand (I:Inv sm cnt hist V T fr) {u:Fin 4} {s:Fin 16} {j:Nat} {f:Fi} (hf:At V j f) {rows:List En} (hr:T.lookup f.num=some rows) {e:En} (he:e∈rows) (hu:e.u=u) (hs:e.s≤s):f∈dA V ⟨u,s,1⟩:=by
 obtain⟨fs0,r,hV⟩:=I.cons
 have h1:=I.fu hf hr e he
 rw[hu] at h1
 unfold dA
 rw[hV]
 obtain⟨fs,hfs,hm⟩:=hf
 cases j with
 |zero=>
  rw[hV] at hfs
  cases hfs
  refine List.mem_append_left _ (List.mem_filter.mpr ⟨List.mem_reverse.mpr hm,?_⟩)
  unfold inr;simp[h1.1,h1.2]
 |succ j=>
  have hfs':=hfs
  rw[hV,List.getElem?_cons_succ] at hfs'
  refine List.mem_append_right _ (List.mem_flatMap.mpr ⟨fs,List.mem_of_getElem? hfs',?_⟩)
  obtain⟨rows',g1,g2,g3,g4⟩:=I.frow ⟨fs,hfs,hm⟩
  rw[hr] at g1;cases g1
  have hrk:rk ⟨u,s,1⟩≤rk f.hi:=by
   have h2:rk e≤rk f.hi:=by
    rcases(ends g3 g4 f.num).2.2 e he with⟨_,h|h⟩
    ·rw[←g2] at h;rw[h];exact Nat.le_refl _
    ·rw[←g2] at h;exact Nat.le_of_lt (qx h)
   have h3:rk ⟨u,s,1⟩≤rk e:=by
    unfold rk
    rw[Fin.le_def] at hs
    rw[Fin.ext_iff] at hu
    have:=e.k.2
    have h1:((1:Fin 2)).val=1:=rfl
    simp only[h1]
    omega
   omega
  rw[oG (I.lvl (by omega) hfs) hm h1.1 hrk]
  exact List.mem_singleton.mpr rfl
theorem Inv.candAt (I:Inv sm cnt hist V T fr) {e:En} {f:Fi} (h:f∈dA V e):∃j,At V j f:=by
 obtain⟨fs0,r,hV⟩:=I.cons
 unfold dA at h
 rw[hV] at h
 rcases List.mem_append.mp h with h|h
 ·exact⟨0,fs0,by rw[hV];rfl,List.mem_reverse.mp (List.mem_filter.mp h).1⟩
 ·obtain⟨fs,h1,h2⟩:=List.mem_flatMap.mp h
  obtain⟨i,hi⟩:=List.getElem?_of_mem h1
  exact⟨i+1,fs,by rw[hV,List.getElem?_cons_succ];exact hi,ic h2⟩
def newer (T:aO) (f g:Fi):Prop:=∀rf rg,T.lookup f.num=some rf→T.lookup g.num=some rg→∀e∈rf,∀e'∈rg,e.u=e'.u→e'.s<e.s
theorem Inv.candP (I:Inv sm cnt hist V T fr) (e:En):(dA V e).Pairwise (newer T):=by
 obtain⟨fs0,r,hV⟩:=I.cons
 have h0:V[0]? =some fs0:=by rw[hV];rfl
 have hr:∀i,r[i]? =V[i+1]? :=fun i=>by rw[hV,List.getElem?_cons_succ]
 unfold dA
 rw[hV]
 show(fs0.reverse.filter (inr e.u)++r.flatMap fun fs=>cZ fs e).Pairwise (newer T)
 rw[List.pairwise_append]
 refine⟨?_,?_,fun f hf g hg=> ?_⟩
 ·have h1:fs0.reverse.Pairwise (fun f g=>bef 0 g f=true):=List.pairwise_reverse.mpr (I.srt 0 fs0 h0)
  refine(h1.filter _).imp_of_mem fun {f g} hf hg hb rf rg h2 h3 x hx y hy hxy=> ?_
  exact I.ord0 g f rg rf ⟨fs0,h0,List.mem_reverse.mp (List.mem_filter.mp hg).1⟩ ⟨fs0,h0,List.mem_reverse.mp (List.mem_filter.mp hf).1⟩ (qZ hb) h3 h2 y hy x hx hxy.symm
 ·rw[List.pairwise_flatMap]
  refine⟨fun fs _=>qn,List.pairwise_iff_getElem.mpr fun i j hi hj hij f hf g hg rf rg h2 h3 x hx y hy hxy=> ?_⟩
  have a1:V[i+1]? =some r[i]:=by rw[←hr];exact List.getElem?_eq_getElem hi
  have a2:V[j+1]? =some r[j]:=by rw[←hr];exact List.getElem?_eq_getElem hj
  exact I.ord (i+1) (j+1) f g rf rg (by omega) ⟨_,a1,ic hf⟩ ⟨_,a2,ic hg⟩ h2 h3 x hx y hy hxy
 ·intro rf rg h2 h3 x hx y hy hxy
  obtain⟨fs,g1,g2⟩:=List.mem_flatMap.mp hg
  obtain⟨j,hj⟩:=List.getElem?_of_mem g1
  rw[hr] at hj
  exact I.ord 0 (j+1) f g rf rg (by omega) ⟨fs0,h0,List.mem_reverse.mp (List.mem_filter.mp hf).1⟩ ⟨_,hj,ic g2⟩ h2 h3 x hx y hy hxy
theorem Inv.tells (I:Inv sm cnt hist V T fr) (u:Fin 4) (s:Fin 16):dk (ey T) u s (fA u (cmT T u s) (dA V ⟨u,s,1⟩)):=by
 have cm:∀{n e},cmT T u s n=some e→∃rows,T.lookup n=some rows∧hdE u s rows=some e:=fun {n e} h=>by
  unfold cmT at h
  rw[Option.bind_eq_some_iff] at h
  exact h
 have hall:∀e'∈ey T,e'.u=u→e'.s≤s→∃e,fA u (cmT T u s) (dA V ⟨u,s,1⟩)=some e∧e'.s≤e.s:=by
  intro e' he' hu hs
  obtain⟨t,ht,hte⟩:=List.mem_flatMap.mp he'
  obtain⟨j,f,hf,hn⟩:=I.tab t ht
  have hl:=a8 I.keyN ht
  rw[←hn] at hl
  have hc:=I.cand hf hl hte hu hs
  obtain⟨e2,q1,q2,q3⟩:=(kE (I.rows t ht).2).2 e' hte hu hs
  have hcm:cmT T u s f.num=some e2:=by unfold cmT;rw[hl];exact q1
  obtain⟨e,r1,r2⟩:=lj (nw:=newer T) (u:=u) (cm:=cmT T u s) (fun f g x y hn hx hy ux uy=>by
   obtain⟨rf,a1,a2⟩:=cm hx
   obtain⟨rg,b1,b2⟩:=cm hy
   exact hn rf rg a1 b1 x ((kE (I.rows _ (az a1)).2).1 x a2).1 y ((kE (I.rows _ (az b1)).2).1 y b2).1 (by rw[ux,uy])) (I.candP ⟨u,s,1⟩) f hc e2 hcm q2
  exact⟨e,r1,Nat.le_trans q3 r2⟩
 cases hg:fA u (cmT T u s) (dA V ⟨u,s,1⟩) with
 |none=>
  intro e he hu hs
  obtain⟨x,h,_⟩:=hall e he hu hs
  rw[hg] at h;cases h
 |some e=>
  obtain⟨f,hf,h1,h2⟩:=jE hg
  obtain⟨rows,a1,a2⟩:=cm h1
  obtain⟨b1,b2⟩:=(kE (I.rows _ (az a1)).2).1 e a2
  refine⟨List.mem_flatMap.mpr ⟨_,az a1,b1⟩,h2,b2 h2,fun e' he' hu hs=> ?_⟩
  obtain⟨x,h,hx⟩:=hall e' he' hu hs
  rw[hg] at h;cases h;exact hx
end
theorem cG {α:Type} [DecidableEq α]:∀{l m:List α},l.Nodup→(∀x∈l,x∈m)→l.length≤m.length
 |[],_,_,_=>Nat.zero_le _
 |x::r,m,hn,h=>by
  have hx:=h x List.mem_cons_self
  have:=cG (l:=r) (m:=m.erase x) (List.nodup_cons.mp hn).2 fun y hy=>by
   have hne:y≠x:=fun e=>(List.nodup_cons.mp hn).1 (e▸hy)
   exact(List.mem_erase_of_ne hne).mpr (h y (List.mem_cons_of_mem _ hy))
  rw[List.length_erase_of_mem hx] at this
  have:=List.length_pos_of_mem hx
  rw[List.length_cons];omega
theorem xo {a:En}:¬ltP a a:=fun h=>by
 unfold ltP at h
 rcases h with h|h
 ·exact absurd h (Fin.lt_irrefl _)
 ·exact absurd h.2 (Fin.lt_irrefl _)
theorem mL {rows:List En} (h:rows.Pairwise ltP):rows.Nodup:=h.imp fun h e=>by rw[e] at h;exact xo h
section
variable {sm cnt:Nat} {hist:List En} {V:List (List Fi)} {T:aO} {fr:Nat}
theorem Inv.entsN (I:Inv sm cnt hist V T fr):(ey T).Nodup:=by
 unfold ey
 rw[List.Nodup,List.pairwise_flatMap]
 refine⟨fun t ht=>mL (I.rows t ht).2,?_⟩
 have h:T.Pairwise (fun a b=>a.1≠b.1):=List.pairwise_map.mp I.keyN
 refine h.imp_of_mem fun {a b} ha hb hab x hx y hy e=> ?_
 subst e
 exact hab (congrArg Prod.fst (I.uniq a ha b hb x hx hy))
theorem Inv.entsL (I:Inv sm cnt hist V T fr):(ey T).length≤6:=by
 have:=cG I.entsN (m:=hist) fun e he=>by
  obtain⟨t,ht,hte⟩:=List.mem_flatMap.mp he
  exact I.ent t ht e hte
 have:=I.hL;omega
theorem ra:∀{T:aO},(∀t∈T,t.2≠[])→T.length≤(ey T).length
 |[],_=>Nat.zero_le _
 |t::r,h=>by
  have:=ra (T:=r) fun x hx=>h x (List.mem_cons_of_mem _ hx)
  have h1:0<t.2.length:=List.length_pos_iff.mpr (h t List.mem_cons_self)
  unfold ey at*
  rw[List.flatMap_cons,List.length_append,List.length_cons];omega
theorem Aw {T:aO} {t:Nat×List En} (h:t∈T):t.2.length≤(ey T).length:=by
 induction T with
 |nil=>simp at h
 |cons x r ih=>
  unfold ey at*
  rw[List.flatMap_cons,List.length_append]
  rcases List.mem_cons.mp h with h|h
  ·rw[h];omega
  ·have:=ih h;omega
theorem Inv.tabL (I:Inv sm cnt hist V T fr):T.length≤6:=Nat.le_trans (ra fun t ht=>(I.rows t ht).1) I.entsL
theorem Inv.rowL (I:Inv sm cnt hist V T fr) {t:Nat×List En} (h:t∈T):t.2.length≤6:=Nat.le_trans (Aw h) I.entsL
theorem Inv.numN (I:Inv sm cnt hist V T fr):(V.flatten.map (·.num)).Nodup:=by
 rw[List.Nodup,List.pairwise_map,List.pairwise_flatten]
 refine⟨fun fs hfs=> ?_,List.pairwise_iff_getElem.mpr fun i j hi hj hij f hf g hg e=> ?_⟩
 ·obtain⟨j,hj⟩:=List.getElem?_of_mem hfs
  refine(I.srt j fs hj).imp_of_mem fun {f g} hf hg hb e=> ?_
  have:=(I.inj j j f g ⟨fs,hj,hf⟩ ⟨fs,hj,hg⟩ e).2
  rw[this,nD] at hb;cases hb
 ·have:=(I.inj i j f g ⟨_,List.getElem?_eq_getElem hi,hf⟩ ⟨_,List.getElem?_eq_getElem hj,hg⟩ e).1
  omega
theorem Inv.filesL (I:Inv sm cnt hist V T fr):V.flatten.length≤6:=by
 have:=cG I.numN (m:=T.map (·.1)) fun n hn=>by
  obtain⟨f,hf,rfl⟩:=List.mem_map.mp hn
  obtain⟨fs,h1,h2⟩:=List.mem_flatten.mp hf
  obtain⟨j,hj⟩:=List.getElem?_of_mem h1
  obtain⟨rows,g1,_⟩:=I.file j f ⟨fs,hj,h2⟩
  exact List.mem_map.mpr ⟨_,az g1,rfl⟩
 rw[List.length_map,List.length_map] at this
 have:=I.tabL;omega
theorem Inv.lvlL (I:Inv sm cnt hist V T fr):∀fs∈V,fs.length≤6:=fun _ h=>Nat.le_trans (oP h) I.filesL
theorem Inv.szL (I:Inv sm cnt hist V T fr) {j:Nat} {f:Fi} (h:At V j f):f.sz≤6∧1≤f.sz:=by
 obtain⟨rows,g1,g2,g3,_⟩:=I.frow h
 rw[g2]
 have:=I.rowL (az g1)
 exact⟨this,List.length_pos_iff.mpr g3⟩
theorem Inv.good (I:Inv sm cnt hist V T fr):td V∧∀fs∈V,fs.length≤100∧szs fs≤1000:=by
 refine⟨⟨by have:=I.filesL;omega,?_,fun j fs hj=>⟨fun f hf=>(I.fends ⟨fs,hj,hf⟩).2,fun h0 i f g hf hg=> ?_,fun h0 i f g hf hg=> ?_⟩⟩,fun fs hfs=> ?_⟩
 ·have:=I.numN
  unfold aL
  rw[List.Nodup,List.pairwise_map] at this⊢
  exact this.imp fun h e=>h (by omega)
 ·subst h0
  obtain⟨a1,b1⟩:=List.getElem?_eq_some_iff.mp hf
  obtain⟨a2,b2⟩:=List.getElem?_eq_some_iff.mp hg
  have:=List.pairwise_iff_getElem.mp (I.srt 0 fs hj) i (i+1) a1 a2 (by omega)
  rw[b1,b2] at this
  exact qZ this
 ·obtain⟨a1,b1⟩:=List.getElem?_eq_some_iff.mp hf
  obtain⟨a2,b2⟩:=List.getElem?_eq_some_iff.mp hg
  have:=List.pairwise_iff_getElem.mp (I.lvl (by omega) hj) i (i+1) a1 a2 (by omega)
  rw[b1,b2] at this
  exact this
 ·have h6:=I.lvlL fs hfs
  obtain⟨j,hj⟩:=List.getElem?_of_mem hfs
  have:=AA (fs:=fs) fun f hf=>by have:=(I.szL ⟨fs,hj,hf⟩).1;omega
  omega
theorem Inv.numF (I:Inv sm cnt hist V T fr) {j:Nat} {f:Fi} (h:At V j f):f.num<fr:=by
 obtain⟨rows,g1,_⟩:=I.file j f h
 exact I.keyF _ (az g1)
end
theorem At.lt {V:List (List Fi)} {j:Nat} {f:Fi} (h:At V j f):j<V.length:=by
 obtain⟨fs,h1,_⟩:=h
 exact(List.getElem?_eq_some_iff.mp h1).1
theorem fE.at {V V':List (List Fi)} {D:List Del} {A:List Add} (F:fE V D A V') (A2:List (Nat×Fi)) (hA:A.map (fun x=>(x.1,x.2.2))=A2) {j:Nat} {f:Fi}:At V' j f↔(At V j f∧(j,f.num)∉D∧(j,f.num)∉A2.map fun x=>(x.1,x.2.num))∨(j<V.length∧(j,f)∈A2):=by
 have hk:ek D A j f=true↔((j,f.num)∉D∧(j,f.num)∉A2.map fun x=>(x.1,x.2.num)):=by
  unfold ek
  rw[←hA,List.map_map,Bool.and_eq_true]
  simp only[Bool.not_eq_true',decide_eq_false_iff_not]
  exact Iff.rfl
 have hm:(∃x∈A,x.1=j∧x.2.2=f)↔(j,f)∈A2:=by
  rw[←hA,List.mem_map]
  constructor
  ·rintro⟨x,h1,rfl,rfl⟩;exact⟨x,h1,rfl⟩
  ·rintro⟨x,h1,h2⟩;cases h2;exact⟨x,h1,rfl,rfl⟩
 constructor
 ·rintro⟨fs',h1,h2⟩
  have hlt:=(List.getElem?_eq_some_iff.mp h1).1
  rw[F.len] at hlt
  have h3:=List.getElem?_eq_getElem hlt
  rcases(F.mem j _ fs' h3 h1 f).mp h2 with h|h
  ·exact .inl ⟨⟨_,h3,h.1⟩,hk.mp h.2⟩
  ·exact .inr ⟨hlt,hm.mp h⟩
 ·intro h
  have hlt:j<V.length:=by
   rcases h with h|h
   ·exact h.1.lt
   ·exact h.1
  have h3:=List.getElem?_eq_getElem hlt
  have h4:=List.getElem?_eq_getElem (show j<V'.length by rw[F.len];exact hlt)
  refine⟨_,h4,(F.mem j _ _ h3 h4 f).mpr ?_⟩
  rcases h with h|h
  ·obtain⟨⟨fs,a1,a2⟩,a3⟩:=h
   rw[h3] at a1;cases a1
   exact .inl ⟨a2,hk.mpr a3⟩
  ·exact .inr (hm.mpr h.2)
theorem jG {n:Nat}:∀{outs:List (List En)} {t:Nat×List En},t∈mkT n outs↔∃k,outs[k]? =some t.2∧t.1=n+k:=by
 intro outs
 induction outs generalizing n with
 |nil=>intro t;simp[mkT]
 |cons o r ih=>
  intro t
  rw[mkT,List.mem_cons,ih]
  constructor
  ·rintro(rfl|⟨k,h1,h2⟩)
   ·exact⟨0,rfl,rfl⟩
   ·exact⟨k+1,by rw[List.getElem?_cons_succ];exact h1,by omega⟩
  ·rintro⟨k,h1,h2⟩
   cases k with
   |zero=>cases h1;exact .inl (Prod.ext h2 rfl)
   |succ k=>rw[List.getElem?_cons_succ] at h1;exact .inr ⟨k,h1,by omega⟩
theorem iP {n:Nat}:∀{outs:List (List En)} {f:Fi},f∈mkF n outs↔∃k o,outs[k]? =some o∧f=fiR (n+k) o:=by
 intro outs
 induction outs generalizing n with
 |nil=>intro t;simp[mkF]
 |cons o r ih=>
  intro f
  rw[mkF,List.mem_cons,ih]
  constructor
  ·rintro(rfl|⟨k,x,h1,h2⟩)
   ·exact⟨0,o,rfl,rfl⟩
   ·exact⟨k+1,x,by rw[List.getElem?_cons_succ];exact h1,by rw[h2,show n+1+k=n+(k+1) by omega]⟩
  ·rintro⟨k,x,h1,h2⟩
   cases k with
   |zero=>cases h1;exact .inl h2
   |succ k=>rw[List.getElem?_cons_succ] at h1;exact .inr ⟨k,x,h1,by rw[h2,show n+1+k=n+(k+1) by omega]⟩
theorem lH {n:Nat}:∀{outs:List (List En)},((mkT n outs).map (·.1)).Nodup:=by
 intro outs
 induction outs generalizing n with
 |nil=>exact .nil
 |cons o r ih=>
  rw[mkT,List.map_cons,List.nodup_cons]
  refine⟨fun h=> ?_,ih⟩
  obtain⟨t,h1,h2⟩:=List.mem_map.mp h
  have:=(cS h1).2.1
  omega
theorem xk {a b:En} (h:leE a b=true) (hs:a.s≠b.s):ltP a b:=by
 rw[kG] at h
 unfold ltP
 rcases h with h|h
 ·exact .inl h
 ·rcases h.2 with q|q
  ·exact .inr ⟨h.1,q⟩
  ·exact absurd q.1 hs
theorem mW {rows:List En} (h:rows.Pairwise (fun a b=>a.s≠b.s)):(aJ rows).Pairwise ltP:=by
 have h2:(aJ rows).Pairwise (fun a b=>a.s≠b.s):=((cf rows).pairwise_iff (fun h e=>h e.symm)).mpr h
 exact(List.Pairwise.and (jv rows) h2).imp fun h=>xk h.1 h.2
structure AddS (hist new:List En) (groups:List (List En)):Prop where
 fl:groups.flatten=new
 ne:∀g∈groups,g≠[]
 hS:(hist++new).Pairwise (fun a b=>a.s<b.s)
 hL:(hist++new).length≤6
theorem iQ {new L:List En} (h:∀a∈L,∀b∈new,a.s<b.s) {u:Fin 4} {s:Fin 16} {o:Option En} (hn:dk (L++new) u s o):(∃e,o=some e∧e∈new∧dk new u s o)∨(dk new u s none∧dk L u s o):=by
 cases o with
 |none=>exact .inr ⟨fun e he=>hn e (List.mem_append_right _ he),fun e he=>hn e (List.mem_append_left _ he)⟩
 |some e=>
  obtain⟨h1,h2,h3,h4⟩:=hn
  rcases List.mem_append.mp h1 with q|q
  ·refine .inr ⟨fun x hx hu hs=> ?_,q,h2,h3,fun x hx=>h4 x (List.mem_append_left _ hx)⟩
   have:=h4 x (List.mem_append_right _ hx) hu hs
   exact absurd (Fin.lt_of_lt_of_le (h e q x hx) this) (Fin.lt_irrefl _)
  ·exact .inl ⟨e,rfl,q,q,h2,h3,fun x hx=>h4 x (List.mem_append_right _ hx)⟩
theorem nU {L M:List En} (h:∀e,e∈L↔e∈M) {u:Fin 4} {s:Fin 16} {o:Option En} (hn:dk L u s o):dk M u s o:=by
 cases o with
 |none=>exact fun e he=>hn e ((h e).mpr he)
 |some e=>exact⟨(h e).mp hn.1,hn.2.1,hn.2.2.1,fun x hx=>hn.2.2.2 x ((h x).mpr hx)⟩
theorem em {L:List En} (hL:∀a∈L,∀b∈L,a.s=b.s→a=b) {u:Fin 4} {s:Fin 16} {o o':Option En} (h:dk L u s o) (h':dk L u s o'):o=o':=by
 cases o with
 |none=>cases o' with
  |none=>rfl
  |some e=>exact absurd h'.2.2.1 (h e h'.1 h'.2.1)
 |some e=>cases o' with
  |none=>exact absurd h.2.2.1 (h' e h.1 h.2.1)
  |some e'=>
   have h1:=h.2.2.2 e' h'.1 h'.2.1 h'.2.2.1
   have h2:=h'.2.2.2 e h.1 h.2.1 h.2.2.1
   rw[hL e h.1 e' h'.1 (Nat.le_antisymm h2 h1 |> Fin.ext)]
theorem lW {L:List En} (h:L.Pairwise (fun a b=>a.s<b.s)):∀a∈L,∀b∈L,a.s=b.s→a=b:=by
 intro a ha b hb e
 obtain⟨i,hi⟩:=List.getElem?_of_mem ha
 obtain⟨j,hj⟩:=List.getElem?_of_mem hb
 obtain⟨a1,b1⟩:=List.getElem?_eq_some_iff.mp hi
 obtain⟨a2,b2⟩:=List.getElem?_eq_some_iff.mp hj
 have hp:=List.pairwise_iff_getElem.mp h
 by_cases c:i<j
 ·have:=hp i j a1 a2 c
  rw[b1,b2,e] at this;exact absurd this (Fin.lt_irrefl _)
 ·by_cases d:j<i
  ·have:=hp j i a2 a1 d
   rw[b1,b2,e] at this;exact absurd this (Fin.lt_irrefl _)
  ·have:i=j:=by omega
   subst this
   rw[←b1,←b2]
theorem qV {sm cnt:Nat} {hist new:List En} {groups:List (List En)} {V V':List (List Fi)} {T:aO} {fr:Nat} {A:List Add} (I:Inv sm cnt hist V T fr) (S:AddS hist new groups) (F:fE V [] A V') (hA:A.map (fun x=>(x.1,x.2.2))=(mkF fr (groups.map aJ)).map fun f=>(0,f)):
 Inv sm cnt (hist++new) V' (T++mkT fr (groups.map aJ)) (fr+groups.length):=by
 have hat:∀{j f},At V' j f↔At V j f∨(j=0∧∃k g,groups[k]? =some g∧f=fiR (fr+k) (aJ g)):=by
  intro j f
  rw[F.at _ hA]
  have hm:(j,f)∈((mkF fr (groups.map aJ)).map fun f=>(0,f))↔(j=0∧∃k g,groups[k]? =some g∧f=fiR (fr+k) (aJ g)):=by
   rw[List.mem_map]
   constructor
   ·rintro⟨f',h1,h2⟩
    cases h2
    obtain⟨k,o,h3,h4⟩:=iP.mp h1
    rw[List.getElem?_map] at h3
    cases hg:groups[k]? with
    |none=>rw[hg] at h3;cases h3
    |some g=>rw[hg] at h3;cases h3;exact⟨rfl,k,g,hg,h4⟩
   ·rintro⟨rfl,k,g,h1,h2⟩
    exact⟨f,iP.mpr ⟨k,aJ g,by rw[List.getElem?_map,h1];rfl,h2⟩,rfl⟩
  rw[hm]
  constructor
  ·rintro(h|h)
   ·exact .inl h.1
   ·exact .inr h.2
  ·rintro(h|h)
   ·refine .inl ⟨h,by simp,fun hc=> ?_⟩
    have hf:=I.numF h
    rw[List.map_map,List.mem_map] at hc
    obtain⟨f',h1,h2⟩:=hc
    obtain⟨k,o,_,h4⟩:=iP.mp h1
    have h5:=congrArg Prod.snd h2
    have h6:f'.num=f.num:=h5
    rw[h4] at h6
    have:fr+k=f.num:=h6
    omega
   ·have:=I.len;have:=I.c34
    exact .inr ⟨by omega,h⟩
 have hT:∀{t},t∈T++mkT fr (groups.map aJ)↔t∈T∨∃k g,groups[k]? =some g∧t=(fr+k,aJ g):=by
  intro t
  rw[List.mem_append,jG]
  constructor
  ·rintro(h|⟨k,h1,h2⟩)
   ·exact .inl h
   ·rw[List.getElem?_map] at h1
    cases hg:groups[k]? with
    |none=>rw[hg] at h1;cases h1
    |some g=>
     rw[hg] at h1
     simp only[Option.map_some,Option.some.injEq] at h1
     exact .inr ⟨k,g,hg,Prod.ext h2 h1.symm⟩
  ·rintro(h|⟨k,g,h1,rfl⟩)
   ·exact .inl h
   ·exact .inr ⟨k,by rw[List.getElem?_map,h1];rfl,rfl⟩
 obtain⟨hS1,hS2,hS3⟩:=List.pairwise_append.mp S.hS
 have hnew:∀{k:Nat} {g:List En} {e:En},groups[k]? =some g→e∈aJ g→e∈g∧e∈new:=fun {k g e} hg he=>by
  have h1:=(cf g).mem_iff.mp he
  refine⟨h1,?_⟩
  rw[←S.fl]
  exact List.mem_flatten.mpr ⟨g,List.mem_of_getElem? hg,h1⟩
 have hfl:=hS2
 rw[←S.fl,List.pairwise_flatten] at hfl
 have hgrp:∀{k k':Nat} {g g':List En} {e e':En},k<k'→groups[k]? =some g→groups[k']? =some g'→e∈g→e'∈g'→e.s<e'.s:=fun {k k' g g' e e'} hk h1 h2 he he'=>by
  obtain⟨a1,b1⟩:=List.getElem?_eq_some_iff.mp h1
  obtain⟨a2,b2⟩:=List.getElem?_eq_some_iff.mp h2
  have:=List.pairwise_iff_getElem.mp hfl.2 k k' a1 a2 hk
  rw[b1,b2] at this
  exact this e he e' he'
 have hgne:∀{k:Nat} {g:List En},groups[k]? =some g→aJ g≠[]∧(aJ g).Pairwise ltP:=fun {k g} h=>by
  have hm:=List.mem_of_getElem? h
  refine⟨fun e=>S.ne g hm ?_,mW ((hfl.1 g hm).imp fun h e=>by rw[e] at h;exact absurd h (Fin.lt_irrefl _))⟩
  have:=(cf g).length_eq
  rw[e] at this
  exact List.length_eq_zero_iff.mp this.symm
 have hkeyN:((T++mkT fr (groups.map aJ)).map (·.1)).Nodup:=by
  rw[List.map_append,List.nodup_append]
  refine⟨I.keyN,lH,fun a ha b hb e=> ?_⟩
  obtain⟨t,h1,h2⟩:=List.mem_map.mp ha
  obtain⟨t',h3,h4⟩:=List.mem_map.mp hb
  have:=I.keyF t h1
  have:=(cS h3).2.1
  omega
 have hlk:∀{n rows},(T++mkT fr (groups.map aJ)).lookup n=some rows→(T.lookup n=some rows∧n<fr)∨∃k g,groups[k]? =some g∧n=fr+k∧rows=aJ g:=fun {n rows} h=>by
  rcases hT.mp (az h) with h|⟨k,g,h1,h2⟩
  ·exact .inl ⟨a8 I.keyN h,I.keyF _ h⟩
  ·cases h2;exact .inr ⟨k,g,h1,rfl,rfl⟩
 have hent:∀{n rows e},T.lookup n=some rows→e∈rows→e∈hist:=fun h he=>I.ent _ (az h) _ he
 refine⟨by rw[F.len,I.len],I.c34,hkeyN,fun t ht=> ?_,fun t ht=> ?_,fun j f hf=> ?_,fun t ht=> ?_,fun i j f g hf hg hfg=> ?_,F.srt,fun j f g hj hf hg=> ?_,fun i j f g rf rg hij hf hg h1 h2 e he e' he' hu=> ?_,fun f g rf rg hf hg hfg h1 h2 e he e' he' hu=> ?_,fun t ht t' ht' e he he'=> ?_,fun t ht e he=> ?_,S.hS,S.hL,fun u s o o' hs hn hn'=> ?_⟩
 ·rcases hT.mp ht with h|⟨k,g,h1,rfl⟩
  ·have:=I.keyF t h;omega
  ·have:=(List.getElem?_eq_some_iff.mp h1).1
   show fr+k<_;omega
 ·rcases hT.mp ht with h|⟨k,g,h1,rfl⟩
  ·obtain⟨j,f,h2,h3⟩:=I.tab t h
   exact⟨j,f,hat.mpr (.inl h2),h3⟩
  ·exact⟨0,_,hat.mpr (.inr ⟨rfl,k,g,h1,rfl⟩),rfl⟩
 ·rcases hat.mp hf with h|⟨rfl,k,g,h1,rfl⟩
  ·obtain⟨rows,h1,h2⟩:=I.file j f h
   exact⟨rows,a8 hkeyN (hT.mpr (.inl (az h1))),h2⟩
  ·exact⟨aJ g,a8 hkeyN (t:=(fr+k,aJ g)) (hT.mpr (.inr ⟨k,g,h1,rfl⟩)),rfl⟩
 ·rcases hT.mp ht with h|⟨k,g,h1,rfl⟩
  ·exact I.rows t h
  ·exact hgne h1
 ·rcases hat.mp hf with h|⟨rfl,k,x,h1,rfl⟩
  ·rcases hat.mp hg with h'|⟨rfl,k',x',h1',rfl⟩
   ·exact I.inj i j f g h h' hfg
   ·have h3:=I.numF h
    have h4:f.num=fr+k':=hfg
    omega
  ·rcases hat.mp hg with h'|⟨rfl,k',x',h1',rfl⟩
   ·have h3:=I.numF h'
    have h4:fr+k=g.num:=hfg
    omega
   ·have h4:fr+k=fr+k':=hfg
    obtain rfl:k=k':=by omega
    rw[h1] at h1';cases h1'
    exact⟨rfl,rfl⟩
 ·rcases hat.mp hf with h|⟨rfl,_⟩
  ·rcases hat.mp hg with h'|⟨rfl,_⟩
   ·exact I.apart j f g hj h h'
   ·omega
  ·omega
 ·have hg':At V j g:=by
   rcases hat.mp hg with h|⟨rfl,_⟩
   ·exact h
   ·omega
  have h2':T.lookup g.num=some rg:=by
   rcases hlk h2 with h|⟨k,x,h3,h4,_⟩
   ·exact h.1
   ·have:=I.numF hg';omega
  rcases hlk h1 with h|⟨k,x,h3,h4,rfl⟩
  ·have hf':At V i f:=by
    rcases hat.mp hf with q|⟨rfl,k,x,h3,rfl⟩
    ·exact q
    ·have:fr+k<fr:=h.2
     omega
   exact I.ord i j f g rf rg hij hf' hg' h.1 h2' e he e' he' hu
  ·exact hS3 e' (hent h2' he') e (hnew h3 he).2
 ·have old:∀{f rf},At V' 0 f→T.lookup f.num=some rf→f.num<fr→At V 0 f:=fun {f rf} hf h hlt=>by
   rcases hat.mp hf with q|⟨_,k,x,h3,rfl⟩
   ·exact q
   ·have:fr+k<fr:=hlt
    omega
  rcases hlk h1 with h|⟨k,x,h3,h4,rfl⟩
  ·rcases hlk h2 with h'|⟨k',x',h3',h4',rfl⟩
   ·exact I.ord0 f g rf rg (old hf h.1 h.2) (old hg h'.1 h'.2) hfg h.1 h'.1 e he e' he' hu
   ·exact hS3 e (hent h.1 he) e' (hnew h3' he').2
  ·rcases hlk h2 with h'|⟨k',x',h3',h4',rfl⟩
   ·omega
   ·exact hgrp (by omega) h3 h3' (hnew h3 he).1 (hnew h3' he').1
 ·rcases hT.mp ht with h|⟨k,g,h1,rfl⟩
  ·rcases hT.mp ht' with h'|⟨k',g',h1',rfl⟩
   ·exact I.uniq t h t' h' e he he'
   ·exact absurd (hS3 e (I.ent t h e he) e (hnew h1' he').2) (Fin.lt_irrefl _)
  ·rcases hT.mp ht' with h'|⟨k',g',h1',rfl⟩
   ·exact absurd (hS3 e (I.ent t' h' e he') e (hnew h1 he).2) (Fin.lt_irrefl _)
   ·by_cases c:k<k'
    ·exact absurd (hgrp c h1 h1' (hnew h1 he).1 (hnew h1' he').1) (Fin.lt_irrefl _)
    ·by_cases d:k'<k
     ·exact absurd (hgrp d h1' h1 (hnew h1' he').1 (hnew h1 he).1) (Fin.lt_irrefl _)
     ·obtain rfl:k=k':=by omega
      rw[h1] at h1';cases h1';rfl
 ·rcases hT.mp ht with h|⟨k,g,h1,rfl⟩
  ·exact List.mem_append_left _ (I.ent t h e he)
  ·exact List.mem_append_right _ (hnew h1 he).2
 ·have hmem:∀e,e∈ey (T++mkT fr (groups.map aJ))↔e∈ey T++new:=by
   intro e
   rw[List.mem_append]
   constructor
   ·intro h
    obtain⟨t,ht,hte⟩:=List.mem_flatMap.mp h
    rcases hT.mp ht with h|⟨k,g,h1,rfl⟩
    ·exact .inl (List.mem_flatMap.mpr ⟨t,h,hte⟩)
    ·exact .inr (hnew h1 hte).2
   ·rintro(h|h)
    ·obtain⟨t,ht,hte⟩:=List.mem_flatMap.mp h
     exact List.mem_flatMap.mpr ⟨t,hT.mpr (.inl ht),hte⟩
    ·rw[←S.fl] at h
     obtain⟨g,hg,he⟩:=List.mem_flatten.mp h
     obtain⟨k,hk⟩:=List.getElem?_of_mem hg
     exact List.mem_flatMap.mpr ⟨_,hT.mpr (.inr ⟨k,g,hk,rfl⟩),(cf g).mem_iff.mpr he⟩
  have hn:=nU hmem hn
  have ha:∀a∈ey T,∀b∈new,a.s<b.s:=fun a ha b hb=>by
   obtain⟨t,ht,hte⟩:=List.mem_flatMap.mp ha
   exact hS3 a (I.ent t ht a hte) b hb
  rcases iQ ha hn with⟨e,rfl,_,h1⟩|⟨h1,h2⟩
  ·rcases iQ hS3 hn' with⟨e',rfl,_,h1'⟩|⟨h1',_⟩
   ·rw[em (lW hS2) h1 h1']
   ·have:=em (lW hS2) h1 h1';cases this
  ·rcases iQ hS3 hn' with⟨e',rfl,_,h1'⟩|⟨_,h2'⟩
   ·have:=em (lW hS2) h1 h1';cases this
   ·exact I.read u s o o' hs h2 h2'
def mh (T:aO) (in0 in1:List Fi) (e:En):Prop:=∃f∈in0++in1,∃r,(f.num,r)∈T∧e∈r
structure Mv (sm:Nat) (V:List (List Fi)) (T:aO) (fr lev:Nat) (in0 in1 N:List Fi) (TN:aO) (V':List (List Fi)) (T':aO) (fr':Nat):Prop where
 i0:∀f∈in0,At V lev f
 i1:∀f∈in1,At V (lev+1) f
 sep0:∀f∈in0,∀g,At V lev g→g∉in0→g.hi.u<f.lo.u∨f.hi.u<g.lo.u
 hull:∃a b,iE in0 a b∧∀g,At V (lev+1) g→(g∈in1↔ov a b g=true)
 len:V'.length=V.length
 at':∀j f,At V' j f↔(At V j f∧¬(j=lev∧f∈in0)∧¬(j=lev+1∧f∈in1))∨(j=lev+1∧f∈N)
 srt:∀(j:Nat) (fs:List Fi),V'[j]? =some fs→fs.Pairwise (fun a b=>bef j a b=true)
 tm:∀t,t∈T'↔(t∈T∧∀f∈in0++in1,f.num≠t.1)∨t∈TN
 kN:(T'.map (·.1)).Nodup
 nf:∀f∈N,∃rows,(f.num,rows)∈TN∧f=fiR f.num rows
 ft:∀t∈TN,∃f∈N,f.num=t.1
 tr:∀t∈TN,t.2≠[]∧t.2.Pairwise ltP∧∀e∈t.2,mh T in0 in1 e
 ts:∀t∈TN,∀t'∈TN,t≠t'→(∀e∈t.2,∀e'∈t'.2,e.u<e'.u)∨(∀e∈t.2,∀e'∈t'.2,e'.u<e.u)
 nk:∀t∈TN,∀t'∈T,(∀f∈in0++in1,f.num≠t'.1)→t.1≠t'.1
 frl:fr≤fr'
 frt:∀t∈TN,t.1<fr'
 drop:∀e,mh T in0 in1 e→(∀t∈TN,e∉t.2)→(∃p,mh T in0 in1 p∧p.u=e.u∧e.s<p.s∧p.s.val≤sm)∨
  (e.k=0∧e.s.val≤sm∧(∀t∈TN,∀e'∈t.2,e'.u=e.u→e.s<e'.s)∧∀(j:Nat) (fs:List Fi),lev+2≤j→V[j]? =some fs→sN e.u fs)
theorem mR (u:Fin 4) (s:Fin 16):∀L:List En,∃o,dk L u s o
 |[]=>⟨none,fun e he=>by simp at he⟩
 |x::r=>by
  obtain⟨o,ho⟩:=mR u s r
  by_cases c:x.u=u∧x.s≤s
  ·cases o with
   |none=>
    refine⟨some x,List.mem_cons_self,c.1,c.2,fun e he hu hs=> ?_⟩
    rcases List.mem_cons.mp he with h|h
    ·rw[h];exact Nat.le_refl _
    ·exact absurd hs (ho e h hu)
   |some y=>
    by_cases d:x.s≤y.s
    ·refine⟨some y,List.mem_cons_of_mem _ ho.1,ho.2.1,ho.2.2.1,fun e he hu hs=> ?_⟩
     rcases List.mem_cons.mp he with h|h
     ·rw[h];exact d
     ·exact ho.2.2.2 e h hu hs
    ·refine⟨some x,List.mem_cons_self,c.1,c.2,fun e he hu hs=> ?_⟩
     rcases List.mem_cons.mp he with h|h
     ·rw[h];exact Nat.le_refl _
     ·have h1:=ho.2.2.2 e h hu hs
      rw[Fin.le_def] at d h1⊢;omega
  ·refine⟨o,?_⟩
   cases o with
   |none=>
    intro e he hu hs
    rcases List.mem_cons.mp he with h|h
    ·rw[h] at hu hs;exact c ⟨hu,hs⟩
    ·exact ho e h hu hs
   |some y=>
    refine⟨List.mem_cons_of_mem _ ho.1,ho.2.1,ho.2.2.1,fun e he hu hs=> ?_⟩
    rcases List.mem_cons.mp he with h|h
    ·rw[h] at hu hs;exact absurd ⟨hu,hs⟩ c
    ·exact ho.2.2.2 e h hu hs
theorem An {sm cnt:Nat} {hist:List En} {V V':List (List Fi)} {T T':aO} {fr fr' lev:Nat} {in0 in1 N:List Fi} {TN:aO} (I:Inv sm cnt hist V T fr) (M:Mv sm V T fr lev in0 in1 N TN V' T' fr'):Inv sm cnt hist V' T' fr':=by
 have hin:∀{e},mh T in0 in1 e→∃h rh,T.lookup h.num=some rh∧e∈rh∧h.lo.u≤e.u∧e.u≤h.hi.u∧((h∈in0∧At V lev h)∨(h∈in1∧At V (lev+1) h)):=fun {e} ⟨f,hf,r,hr,he⟩=>by
  have hl:=a8 I.keyN hr
  rcases List.mem_append.mp hf with h|h
  ·have ha:=M.i0 f h
   have:=I.fu ha hl e he
   exact⟨f,r,hl,he,this.1,this.2,.inl ⟨h,ha⟩⟩
  ·have ha:=M.i1 f h
   have:=I.fu ha hl e he
   exact⟨f,r,hl,he,this.1,this.2,.inr ⟨h,ha⟩⟩
 have hih:∀{e},mh T in0 in1 e→e∈hist:=fun {e} ⟨f,hf,r,hr,he⟩=>I.ent _ hr e he
 have K2:∀{g},At V (lev+1) g→g∉in1→(∀e,mh T in0 in1 e→g.hi.u<e.u)∨(∀e,mh T in0 in1 e→e.u<g.lo.u):=fun {g} hg hn=>by
  obtain⟨a,b,hU,hI⟩:=M.hull
  have hov:¬ov a b g=true:=fun h=>hn ((hI g hg).mpr h)
  have hge:=(I.fends hg).1
  have ho:∀h,h∈in1→¬h.hi.u<a∧¬b<h.lo.u:=fun h hh=>by
   have:=(hI h (M.i1 h hh)).mp hh
   unfold ov at this
   rw[Bool.and_eq_true,Bool.not_eq_true',Bool.not_eq_true',decide_eq_false_iff_not,decide_eq_false_iff_not] at this
   exact this
  have hne:∀h,h∈in1→h≠g:=fun h hh e=>hn (e▸hh)
  unfold ov at hov
  rw[Bool.and_eq_true,Bool.not_eq_true',Bool.not_eq_true',decide_eq_false_iff_not,decide_eq_false_iff_not] at hov
  by_cases c:g.hi.u<a
  ·refine .inl fun e he=> ?_
   obtain⟨h,rh,_,_,h1,h2,⟨h3,h4⟩|⟨h3,h4⟩⟩:=hin he
   ·exact Fin.lt_of_lt_of_le c (Fin.le_trans (hU.2.2 h h3).1 h1)
   ·rcases I.apart (lev+1) h g (by omega) h4 hg (hne h h3) with q|q
    ·exact absurd (Fin.lt_trans (Fin.lt_of_lt_of_le q hge) c) (ho h h3).1
    ·exact Fin.lt_of_lt_of_le q h1
  ·have c2:b<g.lo.u:=Classical.byContradiction fun d=>hov ⟨c,d⟩
   refine .inr fun e he=> ?_
   obtain⟨h,rh,_,_,h1,h2,⟨h3,h4⟩|⟨h3,h4⟩⟩:=hin he
   ·exact Fin.lt_of_le_of_lt (Fin.le_trans h2 (hU.2.2 h h3).2) c2
   ·rcases I.apart (lev+1) h g (by omega) h4 hg (hne h h3) with q|q
    ·exact Fin.lt_of_le_of_lt h2 q
    ·exact absurd (Fin.lt_trans c2 (Fin.lt_of_le_of_lt hge q)) (ho h h3).2
 have rest:∀{j g rg},At V j g→¬(j=lev∧g∈in0)→¬(j=lev+1∧g∈in1)→T.lookup g.num=some rg→∀x∈rg,∀e,mh T in0 in1 e→x.u=e.u→(j<lev+1∧e.s<x.s)∨(lev+1<j∧x.s<e.s):=fun {j g rg} hg h0 h1 hr x hx e he hu=>by
  obtain⟨h,rh,q1,q2,q3,q4,q5⟩:=hin he
  have hgx:=I.fu hg hr x hx
  by_cases c1:j<lev
  ·refine .inl ⟨by omega,?_⟩
   rcases q5 with⟨_,q⟩|⟨_,q⟩
   ·exact I.ord j lev g h rg rh c1 hg q hr q1 x hx e q2 hu
   ·exact I.ord j (lev+1) g h rg rh (by omega) hg q hr q1 x hx e q2 hu
  ·by_cases c2:j=lev
   ·subst c2
    have hn:g∉in0:=fun h=>h0 ⟨rfl,h⟩
    rcases q5 with⟨q5,q⟩|⟨q5,q⟩
    ·rcases M.sep0 h q5 g hg hn with w|w
     ·exact absurd (Fin.lt_of_le_of_lt hgx.2 (Fin.lt_of_lt_of_le w q3)) (by rw[hu];exact Fin.lt_irrefl _)
     ·exact absurd (Fin.lt_of_le_of_lt q4 (Fin.lt_of_lt_of_le w hgx.1)) (by rw[hu];exact Fin.lt_irrefl _)
    ·exact .inl ⟨by omega,I.ord j (j+1) g h rg rh (by omega) hg q hr q1 x hx e q2 hu⟩
   ·by_cases c3:j=lev+1
    ·subst c3
     rcases K2 hg (fun h=>h1 ⟨rfl,h⟩) with w|w
     ·exact absurd (Fin.lt_of_le_of_lt hgx.2 (w e he)) (by rw[hu];exact Fin.lt_irrefl _)
     ·exact absurd (Fin.lt_of_lt_of_le (w e he) hgx.1) (by rw[hu];exact Fin.lt_irrefl _)
    ·refine .inr ⟨by omega,?_⟩
     rcases q5 with⟨_,q⟩|⟨_,q⟩
     ·exact I.ord lev j h g rh rg (by omega) q hg q1 hr e q2 x hx hu.symm
     ·exact I.ord (lev+1) j h g rh rg (by omega) q hg q1 hr e q2 x hx hu.symm
 have hnum:∀{j f},At V j f→¬(j=lev∧f∈in0)→¬(j=lev+1∧f∈in1)→∀f'∈in0++in1,f'.num≠f.num:=fun {j f} hf h0 h1 f' hf' e=>by
  rcases List.mem_append.mp hf' with h|h
  ·obtain⟨rfl,rfl⟩:=I.inj lev j f' f (M.i0 f' h) hf e
   exact h0 ⟨rfl,h⟩
  ·obtain⟨rfl,rfl⟩:=I.inj (lev+1) j f' f (M.i1 f' h) hf e
   exact h1 ⟨rfl,h⟩
 have lkO:∀{j f rows},At V j f→¬(j=lev∧f∈in0)→¬(j=lev+1∧f∈in1)→T'.lookup f.num=some rows→T.lookup f.num=some rows:=fun {j f rows} hf h0 h1 h=>by
  rcases(M.tm _).mp (az h) with q|q
  ·exact a8 I.keyN q.1
  ·obtain⟨r,g1,_⟩:=I.file j f hf
   exact absurd (show f.num=f.num from rfl) (M.nk (f.num,rows) q (f.num,r) (az g1) (hnum hf h0 h1))
 have lkN:∀{f rows},f∈N→T'.lookup f.num=some rows→(f.num,rows)∈TN∧f=fiR f.num rows:=fun {f rows} hf h=>by
  obtain⟨r,g1,g2⟩:=M.nf f hf
  have g3:=a8 M.kN ((M.tm (f.num,r)).mpr (.inr g1))
  rw[h] at g3
  cases g3
  exact⟨g1,g2⟩
 have endN:∀{f rows},(f.num,rows)∈TN→f=fiR f.num rows→f.lo∈rows∧f.hi∈rows:=fun {f rows} h1 h2=>by
  obtain⟨q1,q2,_⟩:=M.tr _ h1
  obtain⟨w1,w2,_⟩:=ends q1 q2 f.num
  rw[←h2] at w1 w2
  exact⟨w1,w2⟩
 refine⟨by rw[M.len,I.len],I.c34,M.kN,fun t ht=> ?_,fun t ht=> ?_,fun j f hf=> ?_,fun t ht=> ?_,fun i j f g hf hg hfg=> ?_,M.srt,fun j f g hj hf hg hfg=> ?_,fun i j f g rf rg hij hf hg h1 h2 e he e' he' hu=> ?_,fun f g rf rg hf hg hfg h1 h2 e he e' he' hu=> ?_,fun t ht t' ht' e he he'=> ?_,fun t ht e he=> ?_,I.hS,I.hL,fun u s o o' hs hn hn'=> ?_⟩
 ·rcases(M.tm t).mp ht with h|h
  ·have:=I.keyF t h.1;have:=M.frl;omega
  ·exact M.frt t h
 ·rcases(M.tm t).mp ht with h|h
  ·obtain⟨j,f,h1,h2⟩:=I.tab t h.1
   refine⟨j,f,(M.at' j f).mpr (.inl ⟨h1,fun q=> ?_,fun q=> ?_⟩),h2⟩
   ·exact h.2 f (List.mem_append_left _ q.2) h2
   ·exact h.2 f (List.mem_append_right _ q.2) h2
  ·obtain⟨f,h1,h2⟩:=M.ft t h
   exact⟨lev+1,f,(M.at' _ f).mpr (.inr ⟨rfl,h1⟩),h2⟩
 ·rcases(M.at' j f).mp hf with⟨h,h0,h1⟩|⟨rfl,h⟩
  ·obtain⟨rows,g1,g2⟩:=I.file j f h
   exact⟨rows,a8 M.kN (t:=(f.num,rows)) ((M.tm _).mpr (.inl ⟨az g1,hnum h h0 h1⟩)),g2⟩
  ·obtain⟨rows,g1,g2⟩:=M.nf f h
   exact⟨rows,a8 M.kN (t:=(f.num,rows)) ((M.tm _).mpr (.inr g1)),g2⟩
 ·rcases(M.tm t).mp ht with h|h
  ·exact I.rows t h.1
  ·have:=M.tr t h;exact⟨this.1,this.2.1⟩
 ·rcases(M.at' i f).mp hf with⟨h,h0,h1⟩|⟨rfl,h⟩
  ·rcases(M.at' j g).mp hg with⟨h',h0',h1'⟩|⟨rfl,h'⟩
   ·exact I.inj i j f g h h' hfg
   ·obtain⟨r,g1,_⟩:=I.file i f h
    obtain⟨r',g2,_⟩:=M.nf g h'
    exact absurd hfg.symm (M.nk _ g2 _ (az g1) (hnum h h0 h1))
  ·rcases(M.at' j g).mp hg with⟨h',h0',h1'⟩|⟨rfl,h'⟩
   ·obtain⟨r,g1,_⟩:=I.file j g h'
    obtain⟨r',g2,_⟩:=M.nf f h
    exact absurd hfg (M.nk _ g2 _ (az g1) (hnum h' h0' h1'))
   ·obtain⟨r,g1,g2⟩:=M.nf f h
    obtain⟨r',g3,g4⟩:=M.nf g h'
    have e1:=a8 M.kN (t:=(f.num,r)) ((M.tm _).mpr (.inr g1))
    have e2:=a8 M.kN (t:=(g.num,r')) ((M.tm _).mpr (.inr g3))
    simp only at e1 e2
    rw[hfg,e2] at e1
    cases e1
    exact⟨rfl,by rw[g2,g4,hfg]⟩
 ·rcases(M.at' j f).mp hf with⟨h,h0,h1⟩|⟨hj1,h⟩
  ·rcases(M.at' j g).mp hg with⟨h',h0',h1'⟩|⟨rfl,h'⟩
   ·exact I.apart j f g hj h h' hfg
   ·obtain⟨r,g1,g2⟩:=M.nf g h'
    obtain⟨w1,w2⟩:=endN g1 g2
    have w:=(M.tr _ g1).2.2
    rcases K2 h (fun q=>h1 ⟨rfl,q⟩) with q|q
    ·exact .inl (q _ (w _ w1))
    ·exact .inr (q _ (w _ w2))
  ·subst hj1
   rcases(M.at' _ g).mp hg with⟨h',h0',h1'⟩|⟨_,h'⟩
   ·obtain⟨r,g1,g2⟩:=M.nf f h
    obtain⟨w1,w2⟩:=endN g1 g2
    have w:=(M.tr _ g1).2.2
    rcases K2 h' (fun q=>h1' ⟨rfl,q⟩) with q|q
    ·exact .inr (q _ (w _ w1))
    ·exact .inl (q _ (w _ w2))
   ·obtain⟨r,g1,g2⟩:=M.nf f h
    obtain⟨r',g3,g4⟩:=M.nf g h'
    obtain⟨w1,w2⟩:=endN g1 g2
    obtain⟨w3,w4⟩:=endN g3 g4
    have hne:(f.num,r)≠(g.num,r'):=fun e=>hfg (by
     have e1:=congrArg Prod.fst e
     have e2:=congrArg Prod.snd e
     simp only at e1 e2
     rw[g2,g4,e1,e2])
    rcases M.ts _ g1 _ g3 hne with q|q
    ·exact .inl (q _ w2 _ w3)
    ·exact .inr (q _ w1 _ w4)
 ·rcases(M.at' i f).mp hf with⟨h,h0,hq⟩|⟨hi,h⟩
  ·have h1':=lkO h h0 hq h1
   rcases(M.at' j g).mp hg with⟨h',h0',hq'⟩|⟨hj,h'⟩
   ·exact I.ord i j f g rf rg hij h h' h1' (lkO h' h0' hq' h2) e he e' he' hu
   ·have:=(M.tr _ (lkN h' h2).1).2.2 e' he'
    rcases rest h h0 hq h1' e he e' this hu with w|w
    ·exact w.2
    ·omega
  ·rcases(M.at' j g).mp hg with⟨h',h0',hq'⟩|⟨hj,h'⟩
   ·have:=(M.tr _ (lkN h h1).1).2.2 e he
    rcases rest h' h0' hq' (lkO h' h0' hq' h2) e' he' e this hu.symm with w|w
    ·omega
    ·exact w.2
   ·omega
 ·rcases(M.at' 0 f).mp hf with⟨h,h0,hq⟩|⟨hi,h⟩
  ·rcases(M.at' 0 g).mp hg with⟨h',h0',hq'⟩|⟨hj,h'⟩
   ·exact I.ord0 f g rf rg h h' hfg (lkO h h0 hq h1) (lkO h' h0' hq' h2) e he e' he' hu
   ·omega
  ·omega
 ·rcases(M.tm t).mp ht with h|h
  ·rcases(M.tm t').mp ht' with h'|h'
   ·exact I.uniq t h.1 t' h'.1 e he he'
   ·obtain⟨f,hf,r,hr,her⟩:=(M.tr t' h').2.2 e he'
    have:=I.uniq t h.1 _ hr e he her
    exact absurd (by rw[this]) (h.2 f hf)
  ·rcases(M.tm t').mp ht' with h'|h'
   ·obtain⟨f,hf,r,hr,her⟩:=(M.tr t h).2.2 e he
    have:=I.uniq t' h'.1 _ hr e he' her
    exact absurd (by rw[this]) (h'.2 f hf)
   ·refine Classical.byContradiction fun hne=> ?_
    rcases M.ts t h t' h' hne with q|q
    ·exact absurd (q e he e he') (Fin.lt_irrefl _)
    ·exact absurd (q e he e he') (Fin.lt_irrefl _)
 ·rcases(M.tm t).mp ht with h|h
  ·exact I.ent t h.1 e he
  ·exact hih ((M.tr t h).2.2 e he)
 ·obtain⟨o2,h2⟩:=mR u s (ey T)
  rw[←I.read u s o2 o' hs h2 hn']
  have hsub:∀e,e∈ey T'→e∈ey T:=fun e he=>by
   obtain⟨t,ht,hte⟩:=List.mem_flatMap.mp he
   rcases(M.tm t).mp ht with h|h
   ·exact List.mem_flatMap.mpr ⟨t,h.1,hte⟩
   ·obtain⟨f,hf,r,hr,her⟩:=(M.tr t h).2.2 e hte
    exact List.mem_flatMap.mpr ⟨_,hr,her⟩
  have hinj:∀a∈ey T,∀b∈ey T,a.s=b.s→a=b:=fun a ha b hb h=>by
   obtain⟨t,ht,hte⟩:=List.mem_flatMap.mp ha
   obtain⟨t',ht',hte'⟩:=List.mem_flatMap.mp hb
   exact lW I.hS a (I.ent t ht a hte) b (I.ent t' ht' b hte') h
  have hinj':∀a∈ey T',∀b∈ey T',a.s=b.s→a=b:=fun a ha b hb=>hinj a (hsub a ha) b (hsub b hb)
  cases o2 with
  |none=>
   have:dk (ey T') u s none:=fun e he=>h2 e (hsub e he)
   rw[em hinj' hn this]
  |some e=>
   by_cases hm:e∈ey T'
   ·have:dk (ey T') u s (some e):=⟨hm,h2.2.1,h2.2.2.1,fun x hx=>h2.2.2.2 x (hsub x hx)⟩
    rw[em hinj' hn this]
   ·obtain⟨t,ht,hte⟩:=List.mem_flatMap.mp h2.1
    have hnk:∃f∈in0++in1,f.num=t.1:=Classical.byContradiction fun hc=>hm (List.mem_flatMap.mpr ⟨t,(M.tm t).mpr (.inl ⟨ht,fun f hf h=>hc ⟨f,hf,h⟩⟩),hte⟩)
    obtain⟨f,hf,hft⟩:=hnk
    have hII:mh T in0 in1 e:=⟨f,hf,t.2,by rw[hft];exact ht,hte⟩
    rcases M.drop e hII (fun t' ht' hc=>hm (List.mem_flatMap.mpr ⟨t',(M.tm t').mpr (.inr ht'),hc⟩)) with⟨p,p1,p2,p3,p4⟩|⟨k1,k2,k3,k4⟩
    ·obtain⟨f',hf',r',hr',hp'⟩:=p1
     have hps:p.s≤s:=by rw[Fin.le_def];omega
     have:=h2.2.2.2 p (List.mem_flatMap.mpr ⟨_,hr',hp'⟩) (by rw[p2];exact h2.2.1) hps
     exact absurd (Fin.lt_of_lt_of_le p3 this) (Fin.lt_irrefl _)
    ·have hv:s7 (some e)=none:=by show(if e.k=1 then some e.s else none)=none;rw[if_neg];rw[k1];decide
     rw[hv]
     cases o with
     |none=>rfl
     |some x=>
      exfalso
      obtain⟨x1,x2,x3,_⟩:=hn
      have hxe:=h2.2.2.2 x (hsub x x1) x2 x3
      have hxu:x.u=e.u:=by rw[x2];exact h2.2.1.symm
      obtain⟨t',ht',hx'⟩:=List.mem_flatMap.mp x1
      rcases(M.tm t').mp ht' with h|h
      ·obtain⟨j,g,hg1,hg2⟩:=I.tab t' h.1
       have hlk:=a8 I.keyN h.1
       rw[←hg2] at hlk
       have n0:¬(j=lev∧g∈in0):=fun q=>h.2 g (List.mem_append_left _ q.2) hg2
       have n1:¬(j=lev+1∧g∈in1):=fun q=>h.2 g (List.mem_append_right _ q.2) hg2
       rcases rest hg1 n0 n1 hlk x hx' e hII hxu with w|w
       ·exact absurd (Fin.lt_of_lt_of_le w.2 hxe) (Fin.lt_irrefl _)
       ·obtain⟨fs,q1,q2⟩:=hg1
        have:=I.fu ⟨fs,q1,q2⟩ hlk x hx'
        rw[hxu] at this
        exact k4 j fs (by omega) q1 g q2 this
      ·exact absurd (Fin.lt_of_lt_of_le (k3 t' h x hx' hxu) hxe) (Fin.lt_irrefl _)
section
variable {sm cnt:Nat} {hist:List En} {V:List (List Fi)} {T:aO} {fr:Nat}
theorem Inv.lvlNum (I:Inv sm cnt hist V T fr) {j:Nat} {fs:List Fi} (h:V[j]? =some fs):fs.Pairwise (fun f g=>f.num≠g.num):=
 (I.srt j fs h).imp_of_mem fun {f g} hf hg hb e=>by
   have:=(I.inj j j f g ⟨fs,h,hf⟩ ⟨fs,h,hg⟩ e).2
   rw[this,nD] at hb;cases hb
structure Ins (V:List (List Fi)) (lev:Nat) (in0 in1:List Fi):Prop where
 i0:∀f∈in0,At V lev f
 i1:∀f∈in1,At V (lev+1) f
 nd:((in0++in1).map (·.num)).Nodup
theorem pB (I:Inv sm cnt hist V T fr) {lev:Nat} {fl fl1 in0 in1:List Fi} (h0:V[lev]? =some fl) (h1:V[lev+1]? =some fl1) (P:qR lev fl fl1 in0 in1):Ins V lev in0 in1:=by
 obtain⟨a1,b1,_,e1⟩:=P.one
 have m0:∀f∈in0,f∈fl:=fun f hf=>by
  rcases P.zero with⟨_,g,hg,e⟩|⟨a,b,e,_⟩
  ·rw[e,List.mem_singleton] at hf;rw[hf];exact hg
  ·rw[e] at hf;exact(List.mem_filter.mp hf).1
 have m1:∀f∈in1,f∈fl1:=fun f hf=>by rw[e1] at hf;exact(List.mem_filter.mp hf).1
 refine⟨fun f hf=>⟨fl,h0,m0 f hf⟩,fun f hf=>⟨fl1,h1,m1 f hf⟩,?_⟩
 rw[List.Nodup,List.pairwise_map,List.pairwise_append]
 refine⟨?_,?_,fun f hf g hg e=> ?_⟩
 ·rcases P.zero with⟨_,g,hg,e⟩|⟨a,b,e,_⟩
  ·rw[e];exact List.pairwise_singleton ..
  ·rw[e];exact(I.lvlNum h0).filter _
 ·rw[e1];exact(I.lvlNum h1).filter _
 ·have:=(I.inj lev (lev+1) f g ⟨fl,h0,m0 f hf⟩ ⟨fl1,h1,m1 g hg⟩ e).1
  omega
theorem Ins.look (I:Inv sm cnt hist V T fr) {lev:Nat} {in0 in1:List Fi} (N:Ins V lev in0 in1):∀f∈in0++in1,∃rows,T.lookup f.num=some rows:=fun f hf=>by
 rcases List.mem_append.mp hf with h|h
 ·obtain⟨r,h1,_⟩:=I.file _ f (N.i0 f h);exact⟨r,h1⟩
 ·obtain⟨r,h1,_⟩:=I.file _ f (N.i1 f h);exact⟨r,h1⟩
theorem gn (hk:(T.map (·.1)).Nodup) {fs:List Fi} {e:En}:e∈aF T fs↔∃f∈fs,∃r,(f.num,r)∈T∧e∈r:=by
 unfold aF
 rw[List.mem_flatMap]
 constructor
 ·rintro⟨f,hf,he⟩
  cases hl:T.lookup f.num with
  |none=>rw[hl] at he;simp at he
  |some r=>rw[hl] at he;exact⟨f,hf,r,az hl,he⟩
 ·rintro⟨f,hf,r,hr,he⟩
  have:=a8 hk hr
  simp only at this
  exact⟨f,hf,by rw[this];exact he⟩
theorem Ins.rowsN (I:Inv sm cnt hist V T fr) {lev:Nat} {in0 in1:List Fi} (N:Ins V lev in0 in1):(aF T (in0++in1)).Nodup:=by
 unfold aF
 rw[List.Nodup,List.pairwise_flatMap]
 refine⟨fun f hf=> ?_,?_⟩
 ·obtain⟨r,h1⟩:=N.look I f hf
  rw[h1]
  exact mL (I.rows _ (az h1)).2
 ·have h:=N.nd
  rw[List.Nodup,List.pairwise_map] at h
  refine h.imp_of_mem fun {f g} hf hg hne x hx y hy e=> ?_
  obtain⟨r,h1⟩:=N.look I f hf
  obtain⟨r',h2⟩:=N.look I g hg
  rw[h1] at hx
  rw[h2] at hy
  subst e
  exact hne (congrArg Prod.fst (I.uniq _ (az h1) _ (az h2) x hx hy))
theorem Ins.rowsL (I:Inv sm cnt hist V T fr) {lev:Nat} {in0 in1:List Fi} (N:Ins V lev in0 in1):(aF T (in0++in1)).length<7:=by
 have:=cG (N.rowsN I) (m:=hist) fun e he=>by
  obtain⟨f,_,r,h1,h2⟩:=(gn I.keyN).mp he
  exact I.ent _ h1 e h2
 have:=I.hL;omega
theorem Ins.rowsP (I:Inv sm cnt hist V T fr) {lev:Nat} {in0 in1:List Fi} (N:Ins V lev in0 in1):(aJ (aF T (in0++in1))).Pairwise ltP:=by
 refine mW ((N.rowsN I).imp_of_mem fun {a b} ha hb hne e=>hne ?_)
 obtain⟨f,_,r,h1,h2⟩:=(gn I.keyN).mp ha
 obtain⟨f',_,r',h1',h2'⟩:=(gn I.keyN).mp hb
 exact lW I.hS a (I.ent _ h1 a h2) b (I.ent _ h1' b h2') e
theorem pe {fs:List Fi} {t:Nat×List En}:t∈bS T fs↔t∈T∧∀f∈fs,f.num≠t.1:=by
 unfold bS
 rw[List.mem_filter]
 simp only[Bool.not_eq_true',decide_eq_false_iff_not,List.mem_map,not_exists,not_and]
theorem wC (I:Inv sm cnt hist V T fr) {lev:Nat} {fl fl1 in0 in1:List Fi} (h0:V[lev]? =some fl) (h1:V[lev+1]? =some fl1) (P:qR lev fl fl1 in0 in1) {D:List Del} {A:List Add} {T':aO} {fr':Nat} {V':List (List Fi)} (C:kg lev sm V T in0 in1 fr D (A.map fun x=>(x.1,x.2.2)) T' fr') (F:fE V D A V'):
 ∃N TN,Mv sm V T fr lev in0 in1 N TN V' T' fr':=by
 have Is:=pB I h0 h1 P
 have hlt:lev+1<V.length:=(List.getElem?_eq_some_iff.mp h1).1
 have sep0:∀f∈in0,∀g,At V lev g→g∉in0→g.hi.u<f.lo.u∨f.hi.u<g.lo.u:=fun f hf g hg hn=>by
  have hne:f≠g:=fun e=>hn (e▸hf)
  by_cases c:lev=0
  ·rcases P.zero with⟨c',_⟩|⟨a,b,e,hc⟩
   ·exact absurd c c'
   ·have h2:=hc c f hf
    obtain⟨fs,q1,q2⟩:=hg
    rw[h0] at q1;cases q1
    have h3:¬ov a b g=true:=fun h=>hn (by rw[e];exact List.mem_filter.mpr ⟨q2,h⟩)
    unfold ov at h3
    rw[Bool.and_eq_true,Bool.not_eq_true',Bool.not_eq_true',decide_eq_false_iff_not,decide_eq_false_iff_not] at h3
    by_cases d:g.hi.u<a
    ·exact .inl (Fin.lt_of_lt_of_le d h2.1)
    ·exact .inr (Fin.lt_of_le_of_lt h2.2 (Classical.byContradiction fun w=>h3 ⟨d,w⟩))
  ·rcases I.apart lev f g (by omega) (Is.i0 f hf) hg hne with q|q
   ·exact .inr q
   ·exact .inl q
 have hull:∃a b,iE in0 a b∧∀g,At V (lev+1) g→(g∈in1↔ov a b g=true):=by
  obtain⟨a,b,hU,e⟩:=P.one
  refine⟨a,b,hU,fun g ⟨fs,q1,q2⟩=> ?_⟩
  rw[h1] at q1;cases q1
  rw[e,List.mem_filter]
  exact⟨fun h=>h.2,fun h=>⟨q2,h⟩⟩
 have hsrt:=F.srt
 rcases C.x with⟨f,rfl,rfl,rfl,hA,rfl,rfl⟩|⟨outs,K,rfl,hA,rfl,rfl⟩
 ·have hf:=Is.i0 f (List.mem_singleton.mpr rfl)
  obtain⟨rows,r1,r2,r3,r4⟩:=I.frow hf
  refine⟨[f],[(f.num,rows)],⟨Is.i0,Is.i1,sep0,hull,F.len,fun j g=> ?_,hsrt,fun t=> ?_,I.keyN,fun g hg=> ?_,fun t ht=> ?_,fun t ht=> ?_,fun t ht t' ht' hne=> ?_,fun t ht t' ht' hn=> ?_,Nat.le_refl _,fun t ht=> ?_,fun e he hn=> ?_⟩⟩
  ·rw[F.at _ hA]
   constructor
   ·rintro(⟨q1,q2,q3⟩|⟨q1,q2⟩)
    ·refine .inl ⟨q1,fun q=>q2 ?_,fun q=>by simp at q⟩
     have:=List.mem_singleton.mp q.2
     rw[q.1,this];exact List.mem_singleton.mpr rfl
    ·have:=List.mem_singleton.mp q2
     cases this
     exact .inr ⟨rfl,List.mem_singleton.mpr rfl⟩
   ·rintro(⟨q1,q2,q3⟩|⟨rfl,q2⟩)
    ·refine .inl ⟨q1,fun q=>q2 ?_,fun q=> ?_⟩
     ·have:=List.mem_singleton.mp q
      have e1:=congrArg Prod.fst this
      have e2:=congrArg Prod.snd this
      simp only at e1 e2
      exact⟨e1,List.mem_singleton.mpr (I.inj j lev g f q1 hf e2).2⟩
     ·have:=List.mem_singleton.mp q
      have e1:=congrArg Prod.fst this
      have e2:=congrArg Prod.snd this
      simp only at e1 e2
      have:=(I.inj j lev g f q1 hf e2).1
      omega
    ·have:=List.mem_singleton.mp q2
     subst this
     exact .inr ⟨hlt,List.mem_singleton.mpr rfl⟩
  ·constructor
   ·intro ht
    by_cases c:f.num=t.1
    ·right
     have:=a8 I.keyN ht
     rw[←c,r1] at this
     cases this
     exact List.mem_singleton.mpr (Prod.ext c.symm rfl)
    ·exact .inl ⟨ht,fun g hg=>by rw[List.append_nil,List.mem_singleton] at hg;rw[hg];exact c⟩
   ·rintro(h|h)
    ·exact h.1
    ·rw[List.mem_singleton.mp h];exact az r1
  ·have:=List.mem_singleton.mp hg
   subst this
   exact⟨rows,List.mem_singleton.mpr rfl,r2⟩
  ·rw[List.mem_singleton.mp ht]
   exact⟨f,List.mem_singleton.mpr rfl,rfl⟩
  ·rw[List.mem_singleton.mp ht]
   exact⟨r3,r4,fun e he=>⟨f,by simp,rows,az r1,he⟩⟩
  ·rw[List.mem_singleton.mp ht,List.mem_singleton.mp ht'] at hne
   exact absurd rfl hne
  ·rw[List.mem_singleton.mp ht]
   exact hn f (by simp)
  ·rw[List.mem_singleton.mp ht]
   exact I.keyF _ (az r1)
  ·obtain⟨g,hg,r,hr,her⟩:=he
   rw[List.append_nil,List.mem_singleton] at hg
   subst hg
   have:=a8 I.keyN hr
   simp only at this
   rw[r1] at this;cases this
   exact absurd her (hn _ (List.mem_singleton.mpr rfl))
 ·generalize hR:aJ (aF T (in0++in1))=R at K
  have hRP:R.Pairwise ltP:=hR▸Is.rowsP I
  have hRm:∀e,e∈R↔mh T in0 in1 e:=fun e=>by rw[←hR,(cf _).mem_iff,gn I.keyN];exact Iff.rfl
  have hsub:(outs.flatten).Sublist R:=by
   have:=K.sub
   rw[List.append_nil,List.take_length] at this;exact this
  have hon:∀{o},o∈outs→∀e∈o,e∈R:=fun {o} ho e he=>hsub.subset (List.mem_flatten.mpr ⟨o,ho,he⟩)
  have hkeyl:∀{t},t∈bS (bS T in0) in1↔t∈T∧∀f∈in0++in1,f.num≠t.1:=fun {t}=>by
   rw[pe,pe]
   constructor
   ·rintro⟨⟨q1,q2⟩,q3⟩
    exact⟨q1,fun f hf=>(List.mem_append.mp hf).elim (q2 f) (q3 f)⟩
   ·rintro⟨q1,q2⟩
    exact⟨⟨q1,fun f hf=>q2 f (List.mem_append_left _ hf)⟩,fun f hf=>q2 f (List.mem_append_right _ hf)⟩
  have hP:∀(i j:Nat) (x y:En),i<j→R[i]? =some x→R[j]? =some y→ltP x y:=fun i j x y hij hx hy=>by
   obtain⟨a1,b1⟩:=List.getElem?_eq_some_iff.mp hx
   obtain⟨a2,b2⟩:=List.getElem?_eq_some_iff.mp hy
   have:=List.pairwise_iff_getElem.mp hRP i j a1 a2 hij
   rw[b1,b2] at this;exact this
  refine⟨mkF fr outs,mkT fr outs,⟨Is.i0,Is.i1,sep0,hull,F.len,fun j g=> ?_,hsrt,fun t=> ?_,?_,fun g hg=> ?_,fun t ht=> ?_,fun t ht=> ?_,fun t ht t' ht' hne=> ?_,fun t ht t' ht' hn=> ?_,Nat.le_add_right _ _,fun t ht=>(cS ht).2.2,fun e he hn=> ?_⟩⟩
  ·rw[F.at _ hA]
   have hmA:(j,g)∈(mkF fr outs).map (fun f=>(lev+1,f))↔j=lev+1∧g∈mkF fr outs:=by
    rw[List.mem_map]
    constructor
    ·rintro⟨f,q1,q2⟩;cases q2;exact⟨rfl,q1⟩
    ·rintro⟨rfl,q⟩;exact⟨g,q,rfl⟩
   have hmD:(j,g.num)∈cV lev in0++cV (lev+1) in1↔(j=lev∧∃f∈in0,f.num=g.num)∨(j=lev+1∧∃f∈in1,f.num=g.num):=by
    unfold cV
    rw[List.mem_append,List.mem_map,List.mem_map]
    constructor
    ·rintro(⟨f,q1,q2⟩|⟨f,q1,q2⟩)
     ·exact .inl ⟨(congrArg Prod.fst q2).symm,f,q1,congrArg Prod.snd q2⟩
     ·exact .inr ⟨(congrArg Prod.fst q2).symm,f,q1,congrArg Prod.snd q2⟩
    ·rintro(⟨rfl,f,q1,q2⟩|⟨rfl,f,q1,q2⟩)
     ·exact .inl ⟨f,q1,by rw[q2]⟩
     ·exact .inr ⟨f,q1,by rw[q2]⟩
   rw[hmA,hmD]
   constructor
   ·rintro(⟨q1,q2,q3⟩|⟨q1,q2⟩)
    ·exact .inl ⟨q1,fun q=>q2 (.inl ⟨q.1,g,q.2,rfl⟩),fun q=>q2 (.inr ⟨q.1,g,q.2,rfl⟩)⟩
    ·exact .inr q2
   ·rintro(⟨q1,q2,q3⟩|q)
    ·refine .inl ⟨q1,fun q=> ?_,fun q=> ?_⟩
     ·rcases q with⟨rfl,f,q4,q5⟩|⟨rfl,f,q4,q5⟩
      ·exact q2 ⟨rfl,(I.inj _ _ f g (Is.i0 f q4) q1 q5).2▸q4⟩
      ·exact q3 ⟨rfl,(I.inj _ _ f g (Is.i1 f q4) q1 q5).2▸q4⟩
     ·rw[List.map_map,List.mem_map] at q
      obtain⟨f',w1,w2⟩:=q
      obtain⟨k,o,_,w3⟩:=iP.mp w1
      have w4:f'.num=g.num:=congrArg Prod.snd w2
      rw[w3] at w4
      have w5:fr+k=g.num:=w4
      have:=I.numF q1
      omega
    ·exact .inr ⟨by rw[q.1];exact hlt,q⟩
  ·rw[List.mem_append,hkeyl]
  ·rw[List.map_append,List.nodup_append]
   refine⟨fY (fY I.keyN),lH,fun a ha b hb e=> ?_⟩
   obtain⟨t,q1,q2⟩:=List.mem_map.mp ha
   obtain⟨t',q3,q4⟩:=List.mem_map.mp hb
   have:=I.keyF t (hkeyl.mp q1).1
   have:=(cS q3).2.1
   omega
  ·obtain⟨k,o,q1,q2⟩:=iP.mp hg
   exact⟨o,jG.mpr ⟨k,q1,by rw[q2];rfl⟩,by rw[q2];rfl⟩
  ·obtain⟨k,q1,q2⟩:=jG.mp ht
   exact⟨fiR (fr+k) t.2,iP.mpr ⟨k,t.2,q1,rfl⟩,q2.symm⟩
  ·have hm:=(cS ht).1
   refine⟨K.ne _ hm,hRP.sublist ((List.sublist_flatten_of_mem hm).trans hsub),fun e he=>(hRm e).mp (hon hm e he)⟩
  ·obtain⟨k,q1,q2⟩:=jG.mp ht
   obtain⟨k',q1',q2'⟩:=jG.mp ht'
   have hb:=(List.pairwise_append.mp K.brk).1
   obtain⟨a1,b1⟩:=List.getElem?_eq_some_iff.mp q1
   obtain⟨a2,b2⟩:=List.getElem?_eq_some_iff.mp q1'
   by_cases c:k<k'
   ·have:=List.pairwise_iff_getElem.mp hb k k' a1 a2 c
    rw[b1,b2] at this
    exact .inl this
   ·by_cases d:k'<k
    ·have:=List.pairwise_iff_getElem.mp hb k' k a2 a1 d
     rw[b1,b2] at this
     exact .inr fun e he e' he'=>this e' he' e he
    ·obtain rfl:k=k':=by omega
     rw[q1] at q1'
     exact absurd (Prod.ext (q2.trans q2'.symm) (Option.some.inj q1')) hne
  ·have:=(cS ht).2.1
   have:=I.keyF t' ht'
   omega
  ·obtain⟨j,hj⟩:=List.getElem?_of_mem ((hRm e).mpr he)
   have hjl:=(List.getElem?_eq_some_iff.mp hj).1
   have hno:e∉outs.flatten:=fun h=>by
    obtain⟨o,q1,q2⟩:=List.mem_flatten.mp h
    obtain⟨k,hk⟩:=List.getElem?_of_mem q1
    exact hn (fr+k,o) (jG.mpr ⟨k,hk,rfl⟩) q2
   rcases K.drop j e hjl hj (by rw[List.append_nil];exact hno) with⟨p,p1,p2,p3,p4⟩|⟨k1,k2,k3⟩
   ·have:=hP (j - 1) j p e (by omega) p2 hj
    unfold ltP at this
    rw[p3] at this
    refine .inl ⟨p,(hRm p).mp (List.mem_of_getElem? p2),p3,?_,p4⟩
    rcases this with h|h
    ·exact absurd h (Fin.lt_irrefl _)
    ·exact h.2
   ·refine .inr ⟨k1,k2,fun t ht e' he' hu=> ?_,k3⟩
    have hm:=(cS ht).1
    obtain⟨j',w1,w2,w3⟩:=K.must e' (by rw[List.append_nil];exact List.mem_flatten.mpr ⟨_,hm,he'⟩)
    by_cases c:j'<j
    ·have:=hP j' j e' e c w2 hj
     unfold ltP at this
     rw[hu] at this
     rcases this with h|h
     ·exact absurd h (Fin.lt_irrefl _)
     ·exact h.2
    ·exfalso
     by_cases d:j'=j
     ·subst d
      rw[hj] at w2;cases w2
      exact hno (List.mem_flatten.mpr ⟨_,hm,he'⟩)
     ·have hjp:j' - 1<R.length:=by omega
      have hp:=List.getElem?_eq_getElem hjp
      generalize R[j' - 1]=p at hp
      refine w3 ⟨p,by omega,hp,?_⟩
      have h2:=hP (j' - 1) j' p e' (by omega) hp w2
      have h2u:=rK h2
      by_cases f:j=j' - 1
      ·rw[←f,hj] at hp;cases hp
       exact⟨hu.symm,k2⟩
      ·have h3:=hP j (j' - 1) e p (by omega) hj hp
       have h3u:=rK h3
       rw[hu] at h2u
       have hpu:p.u=e.u:=Fin.ext (Nat.le_antisymm h2u h3u)
       unfold ltP at h3
       rw[hpu] at h3
       rcases h3 with h|h
       ·exact absurd h (Fin.lt_irrefl _)
       ·have:=h.2
        rw[Fin.lt_def] at this
        exact⟨by rw[hpu,hu],by omega⟩
end
structure zg (cnt:Nat) (D:List Del) (A:List Add):Prop where
 d:∀x∈D,x.1<cnt
 a:∀x∈A,x.1<cnt
 dn:D.Nodup
 an:(A.map fun x=>(x.1,x.2.2.num)).Nodup
 da:∀x∈A,(x.1,x.2.2.num)∉D
 dl:D.length≤30
 al:A.length≤30
theorem qU {A:List Add} {A2:List (Nat×Fi)} (h:A.map (fun x=>(x.1,x.2.2))=A2):A.map (fun x=>(x.1,x.2.2.num))=A2.map fun x=>(x.1,x.2.num):=by
 rw[←h,List.map_map];rfl
theorem uH (n:Nat) (outs:List (List En)):(mkF n outs).map (·.num)=(mkT n outs).map (·.1):=by
 induction outs generalizing n with
 |nil=>rfl
 |cons o r ih=>rw[mkF,mkT,List.map_cons,List.map_cons,ih];rfl
theorem yh {lev n cnt:Nat} {outs:List (List En)} {A:List Add} (hl:lev<cnt) (ho:outs.length≤30) (hA:A.map (fun x=>(x.1,x.2.2))=(mkF n outs).map fun f=>(lev,f)):(∀x∈A,x.1<cnt∧n≤x.2.2.num)∧(A.map fun x=>(x.1,x.2.2.num)).Nodup∧A.length≤30:=by
 refine⟨fun x hx=> ?_,?_,?_⟩
 ·have:(x.1,x.2.2)∈(mkF n outs).map fun f=>(lev,f):=by rw[←hA];exact List.mem_map.mpr ⟨x,hx,rfl⟩
  obtain⟨f,h1,h2⟩:=List.mem_map.mp this
  obtain⟨k,o,_,h3⟩:=iP.mp h1
  have e1:lev=x.1:=congrArg Prod.fst h2
  have e2:f=x.2.2:=congrArg Prod.snd h2
  rw[←e1,←e2,h3]
  exact⟨hl,Nat.le_add_right _ _⟩
 ·rw[qU hA,List.map_map]
  have h1:((mkF n outs).map (·.num)).Nodup:=by rw[uH];exact lH
  rw[List.Nodup,List.pairwise_map] at h1⊢
  exact h1.imp fun h e=>h (congrArg Prod.snd e)
 ·have:=congrArg List.length hA
  rw[List.length_map,List.length_map,jo] at this;omega
section
variable {sm cnt:Nat} {hist:List En} {V:List (List Fi)} {T:aO} {fr:Nat}
theorem sj (I:Inv sm cnt hist V T fr) {lev:Nat} {in0 in1:List Fi} (N:Ins V lev in0 in1) (hlev:lev+1<cnt) {D:List Del} {A:List Add} {T':aO} {fr':Nat} (C:kg lev sm V T in0 in1 fr D (A.map fun x=>(x.1,x.2.2)) T' fr'):zg cnt D A:=by
 rcases C.x with⟨f,rfl,rfl,rfl,hA,_,_⟩|⟨outs,K,rfl,hA,_,_⟩
 ·have hAl:A.length=1:=by have:=congrArg List.length hA;rw[List.length_map] at this;exact this
  have hAm:∀x∈A,x.1=lev+1∧x.2.2=f:=fun x hx=>by
   have:(x.1,x.2.2)∈[(lev+1,f)]:=by rw[←hA];exact List.mem_map.mpr ⟨x,hx,rfl⟩
   have:=List.mem_singleton.mp this
   exact⟨congrArg Prod.fst this,congrArg Prod.snd this⟩
  refine⟨fun x hx=>by rw[List.mem_singleton.mp hx];show lev<cnt;omega,fun x hx=>by rw[(hAm x hx).1];exact hlev,List.pairwise_singleton ..,?_,fun x hx h=> ?_,by simp,by omega⟩
  ·rw[qU hA];exact List.pairwise_singleton ..
  ·have h1:=congrArg Prod.fst (List.mem_singleton.mp h)
   have h2:=(hAm x hx).1
   simp only at h1
   omega
 ·have ho:outs.length≤30:=by
   have h1:=jH K.ne
   have h2:=K.sub.length_le
   rw[List.append_nil,List.take_length,(cf _).length_eq] at h2
   have h3:=N.rowsL I
   omega
  obtain⟨a1,a2,a3⟩:=yh hlev ho hA
  have hn:=N.nd
  rw[List.map_append,List.nodup_append] at hn
  have i0l:∀{fs:List Fi} {j:Nat},(∀f∈fs,At V j f)→(fs.map (·.num)).Nodup→fs.length≤6:=fun {fs j} h1 h2=>by
   have:=cG h2 (m:=T.map (·.1)) fun n hn=>by
    obtain⟨f,hf,rfl⟩:=List.mem_map.mp hn
    obtain⟨rows,g1,_⟩:=I.file j f (h1 f hf)
    exact List.mem_map.mpr ⟨_,az g1,rfl⟩
   rw[List.length_map,List.length_map] at this
   have:=I.tabL;omega
  have l0:=i0l N.i0 hn.1
  have l1:=i0l N.i1 hn.2.1
  have hD:∀x∈cV lev in0++cV (lev+1) in1,x.1<cnt∧x.2<fr:=fun x hx=>by
   unfold cV at hx
   rcases List.mem_append.mp hx with h|h
   ·obtain⟨f,h1,rfl⟩:=List.mem_map.mp h
    exact⟨by show lev<cnt;omega,I.numF (N.i0 f h1)⟩
   ·obtain⟨f,h1,rfl⟩:=List.mem_map.mp h
    exact⟨hlev,I.numF (N.i1 f h1)⟩
  refine⟨fun x hx=>(hD x hx).1,fun x hx=>(a1 x hx).1,?_,a2,fun x hx h=> ?_,?_,a3⟩
  ·rw[List.nodup_append]
   unfold cV
   refine⟨?_,?_,fun x hx y hy e=> ?_⟩
   ·have:=hn.1
    rw[List.Nodup,List.pairwise_map] at this⊢
    exact this.imp fun h e=>h (congrArg Prod.snd e)
   ·have:=hn.2.1
    rw[List.Nodup,List.pairwise_map] at this⊢
    exact this.imp fun h e=>h (congrArg Prod.snd e)
   ·obtain⟨f,_,rfl⟩:=List.mem_map.mp hx
    obtain⟨g,_,rfl⟩:=List.mem_map.mp hy
    have:=congrArg Prod.fst e
    simp only at this
    omega
  ·have h1:=(a1 x hx).2
   have h2:=(hD _ h).2
   simp only at h2
   omega
  ·unfold cV
   rw[List.length_append,List.length_map,List.length_map];omega
theorem Ins.len (I:Inv sm cnt hist V T fr) {lev:Nat} {in0 in1:List Fi} (N:Ins V lev in0 in1):in0.length≤6∧in1.length≤6:=by
 have:=cG N.nd (m:=T.map (·.1)) fun n hn=>by
  obtain⟨f,hf,rfl⟩:=List.mem_map.mp hn
  obtain⟨rows,g1⟩:=N.look I f hf
  exact List.mem_map.mpr ⟨_,az g1,rfl⟩
 rw[List.length_map,List.length_map,List.length_append] at this
 have:=I.tabL
 omega
theorem Inv.nums (I:Inv sm cnt hist V T fr):aW (aL V)=aW (T.map fun t=>(t.1:Int)):=by
 unfold aW
 refine fg kH nS qw ((cy _).trans ?_) (d9 kH nS _)
 have n1:(aL V).Nodup:=I.good.1.nod
 have n2:=f4 I.keyN
 refine(List.perm_ext_iff_of_nodup n1 n2).mpr fun n=> ?_
 unfold aL
 rw[List.mem_map,List.mem_map]
 constructor
 ·rintro⟨f,hf,rfl⟩
  obtain⟨fs,h1,h2⟩:=List.mem_flatten.mp hf
  obtain⟨j,hj⟩:=List.getElem?_of_mem h1
  obtain⟨rows,g1,_⟩:=I.file j f ⟨fs,hj,h2⟩
  exact⟨_,az g1,rfl⟩
 ·rintro⟨t,ht,rfl⟩
  obtain⟨j,f,⟨fs,h1,h2⟩,h3⟩:=I.tab t ht
  exact⟨f,List.mem_flatten.mpr ⟨fs,List.mem_of_getElem? h1,h2⟩,by rw[h3]⟩
end
theorem oN {sm cnt:Nat} {hist:List En} {V V':List (List Fi)} {T:aO} {fr:Nat} (I:Inv sm cnt hist V T fr) (F:fE V [] [] V'):Inv sm cnt hist V' T fr:=by
 have:=qV I (new:=[]) (groups:=[]) ⟨rfl,by simp,by rw[List.append_nil];exact I.hS,by rw[List.append_nil];exact I.hL⟩ F rfl
 simpa[mkT] using this
def yq (V:List (List Fi)) (o:Opt):Bool:=(List.range (o.cnt - 1)).any fun j=>decide (cW o j≤dU V j)
theorem sd {V:List (List Fi)} {o:Opt} {bt bo bl:Nat} (hk:o.Ok) (B:jZ V o (o.cnt - 1) bt bo bl):decide (bo≤bt)=yq V o:=by
 rw[Bool.eq_iff_iff,decide_eq_true_eq]
 unfold yq
 rw[List.any_eq_true]
 constructor
 ·intro h
  refine⟨bl,List.mem_range.mpr B.lt,?_⟩
  rw[decide_eq_true_eq,←B.top,←B.bot];exact h
 ·rintro⟨j,hj,h⟩
  rw[decide_eq_true_eq] at h
  have h1:=B.max j (List.mem_range.mp hj)
  have h2:=nF hk j
  have h3:dU V j*bo≤dU V j*bt:=Nat.le_trans h1 (by rw[Nat.mul_comm];exact Nat.mul_le_mul_right _ h)
  exact Nat.le_of_mul_le_mul_left h3 (by omega)
def gF (L:List En) (u:Fin 4) (s:Fin 16):Option En:=(L.filter fun e=>decide (e.u=u) && decide (e.s≤s)).getLast?
theorem qv {L:List En} {e:En} {u:Fin 4} {s:Fin 16}:gF (L++[e]) u s=if e.u=u∧e.s≤s then some e else gF L u s:=by
 unfold gF
 rw[List.filter_append]
 by_cases c:e.u=u∧e.s≤s
 ·rw[if_pos c,List.filter_cons,if_pos (by simp[c]),List.filter_nil,List.getLast?_append]
  simp
 ·rw[if_neg c,List.filter_cons,if_neg (by simpa using c),List.filter_nil,List.append_nil]
theorem nR {u:Fin 4} {s:Fin 16}:∀{L:List En},L.Pairwise (fun a b=>a.s<b.s)→dk L u s (gF L u s):=by
 intro L hp
 cases h:gF L u s with
 |none=>
  intro e he hu hs
  unfold gF at h
  rw[List.getLast?_eq_none_iff] at h
  have:e∈L.filter fun e=>decide (e.u=u) && decide (e.s≤s):=List.mem_filter.mpr ⟨he,by simp[hu,hs]⟩
  rw[h] at this;simp at this
 |some x=>
  unfold gF at h
  obtain⟨ys,hy⟩:=List.getLast?_eq_some_iff.mp h
  have hm:x∈L.filter fun e=>decide (e.u=u) && decide (e.s≤s):=by rw[hy];simp
  have hm2:=List.mem_filter.mp hm
  rw[Bool.and_eq_true,decide_eq_true_eq,decide_eq_true_eq] at hm2
  refine⟨hm2.1,hm2.2.1,hm2.2.2,fun e he hu hs=> ?_⟩
  have hem:e∈L.filter fun e=>decide (e.u=u) && decide (e.s≤s):=List.mem_filter.mpr ⟨he,by simp[hu,hs]⟩
  have hp2:=hp.filter fun e=>decide (e.u=u) && decide (e.s≤s)
  rw[hy] at hem hp2
  rcases List.mem_append.mp hem with q|q
  ·exact Nat.le_of_lt ((List.pairwise_append.mp hp2).2.2 e q x (List.mem_singleton.mpr rfl))
  ·rw[List.mem_singleton] at q;rw[q];exact Nat.le_refl _
theorem sY {o o':Option En} (h:s7 o=s7 o'):eW o=eW o':=by
 have:∀o,eW o=match s7 o with|some s=>SV.bytes (vb s)|none=>SV.none:=by
  intro o
  cases o with
  |none=>rfl
  |some e=>
   show(if e.k=1 then SV.bytes (vb e.s) else SV.none)=match(if e.k=1 then some e.s else none) with|some s=>SV.bytes (vb s)|none=>SV.none
   by_cases c:e.k=1
   ·rw[if_pos c,if_pos c]
   ·rw[if_neg c,if_neg c]
 rw[this,this,h]
theorem Inv.want {sm cnt:Nat} {hist:List En} {V:List (List Fi)} {T:aO} {fr:Nat} (I:Inv sm cnt hist V T fr) (u:Fin 4) (s:Fin 16) (hs:sm≤s.val):eW (fA u (cmT T u s) (dA V ⟨u,s,1⟩))=eW (gF hist u s):=
 sY (I.read u s _ _ hs (I.tells u s) (nR I.hS))
theorem sG {sm cnt:Nat} (hc:cnt=3∨cnt=4):Inv sm cnt [] (List.replicate cnt []) [] 10:=by
 have hat:∀{j f},¬At (List.replicate cnt []) j f:=fun {j f} ⟨fs,h1,h2⟩=>by
  have:=List.mem_of_getElem? h1
  rw[(List.mem_replicate.mp this).2] at h2
  simp at h2
 refine⟨by simp,hc,.nil,by simp,by simp,fun j f h=>absurd h hat,by simp,fun i j f g h=>absurd h hat,fun j fs h=> ?_,fun j f g _ h=>absurd h hat,fun i j f g rf rg _ h=>absurd h hat,fun f g rf rg h=>absurd h hat,by simp,by simp,.nil,by simp,fun u s o o' _ h h'=> ?_⟩
 ·have:=List.mem_of_getElem? h
  rw[(List.mem_replicate.mp this).2]
  exact .nil
 ·cases o with
  |some e=>have:=h.1;simp[ey] at this
  |none=>cases o' with
   |none=>rfl
   |some e=>have:=h'.1;simp at this
theorem oQ {tg:Tg} {b:fv} {n:Nat} {H:Hp} {vs:List SV} (hH:H[n]? =some (.list vs)) (Inv:Loc→Prop) (good:SV→Prop) (step:∀l v,Inv l→good v→∃l1 l2,tg.put v l=some l1∧b l1 H= .ok (.next,l2) H∧Inv l2):
 ∀(k i:Nat) (l:Loc),Inv l→i+k=vs.length→(∀j v,i≤j→vs[j]? =some v→good v)→∃l',gJ tg b n (k+1) i l H= .ok (.next,l') H∧Inv l'
 |0,i,l,hl,he,_=>by
  refine⟨l,?_,hl⟩
  rw[gJ,hH]
  simp only
  rw[List.getElem?_eq_none (by omega)]
 |k+1,i,l,hl,he,hg=>by
  have hi:=List.getElem?_eq_getElem (show i<vs.length by omega)
  obtain⟨l1,l2,h1,h2,h3⟩:=step l _ hl (hg i _ (Nat.le_refl _) hi)
  obtain⟨l',h4,h5⟩:=oQ hH Inv good step k (i+1) l2 h3 (by omega) (fun j v hj hv=>hg j v (by omega) hv)
  refine⟨l',?_,h5⟩
  rw[gJ,hH]
  simp only
  rw[hi]
  simp only
  rw[h1]
  simp only[h2,R.bind]
  exact h4
theorem lh {tg:Tg} {b:fv} {n:Nat} {H:Hp} {vs:List SV} (hH:H[n]? =some (.list vs)) (Inv:Loc→Prop) (good:SV→Prop) (step:∀l v,Inv l→good v→∃l1 l2,tg.put v l=some l1∧b l1 H= .ok (.next,l2) H∧Inv l2)
 {p:Nat} {w:SV} (hp:vs[p]? =some w) (bad:∀l,Inv l→∃l1,tg.put w l=some l1∧b l1 H= .exc H):
 ∀(k i:Nat) (l:Loc),Inv l→i+k=vs.length→i≤p→(∀j v,i≤j→j<p→vs[j]? =some v→good v)→gJ tg b n (k+1) i l H= .exc H
 |0,i,l,hl,he,hip,_=>by
  have:=(List.getElem?_eq_some_iff.mp hp).1
  omega
 |k+1,i,l,hl,he,hip,hg=>by
  have hi:=List.getElem?_eq_getElem (show i<vs.length by omega)
  rw[gJ,hH]
  simp only
  by_cases c:i=p
  ·subst c
   obtain⟨l1,h1,h2⟩:=bad l hl
   rw[hp]
   simp only
   rw[h1]
   simp only[h2,R.bind]
  ·obtain⟨l1,l2,h1,h2,h3⟩:=step l _ hl (hg i _ (Nat.le_refl _) (by omega) hi)
   rw[hi]
   simp only
   rw[h1]
   simp only[h2,R.bind]
   exact lh hH Inv good step hp bad k (i+1) l2 h3 (by omega) (by omega) (fun j v hj hjp hv=>hg j v (by omega) hjp hv)
def jb (x:Int×Nat):SV:= .tup [.int x.1,.int x.2]
def tw (x:Int×Nat):SV:= .tup [.int x.1,.ref x.2]
def iW (Γ:FT):Prop:=∀(m b md ma c o fl e cp dl ad:Nat) (sc sl:SV) (D A:List (Int×Nat)) (away:Int) (H:Hp),H[m]? =some (er b md ma false)→H[b]? =some (b9 c o fl sc sl)→c≤8→H[e]? =some (aY cp dl ad)→-8≤away→away≤8→(away<0∨(c:Int)≤away)→
 (∀x∈D,0≤x.1∧x.1<c)→(∃k,H[dl]? =some (.list ((D++[(away,k)]).map jb)))∨(H[dl]? =some (.list (D.map jb))∧∃k,H[ad]? =some (.list ([(away,k)].map tw)))→
 aw (Γ 526) [.ref m,.ref e] H= .exc H
theorem tY (n:Nat) (hw:iZ (Gam n)):iW (Gam (n+1)):=by
 intro m b md ma c o fl e cp dl ad sc sl D A away H hm hb hc he ha1 ha2 ha3 hD hx
 show aj TT (Gam n) aD aU [.ref m,.ref e] H=_
 have hm':=hm
 simp only[er] at hm'
 have he':=he
 simp only[aY] at he'
 have good:∀(l:Loc) (v:Int),l 29=some (.ref m)→l 92=some (.int v)→0≤v→v<c→aM TT (Gam n) (.cons (.ex (.meth (.loc 29) 114 (.cons (.loc 92) .nil))) .nil) l H= .ok (.next,l) H:=fun l v l29 l92 h1 h2=>by
  refine cr ?_
  have:=(hw m b md ma c o fl false sc sl v H hm hb hc).1 h1 h2
  wide_line with[l29,l92,hm',this]
  exact⟨trivial,trivial,trivial⟩
 have hk:jn TT (.ref m) 114 H= .ok (.fn 519) H:=by
  refine cr ?_
  wide_line with[hm']
  exact⟨trivial,trivial⟩
 have hX:=(hw m b md ma c o fl false sc sl away H hm hb hc).2 ha1 ha2 ha3
 have bad:∀l:Loc,l 29=some (.ref m)→l 92=some (.int away)→aM TT (Gam n) (.cons (.ex (.meth (.loc 29) 114 (.cons (.loc 92) .nil))) .nil) l H= .exc H:=fun l l29 l92=>by
  have hG:fN (Gam n) (.fn 519) (.ref m) [.int away] H= .exc H:=hX
  simp only[aM,exS,evE,dB,l29,l92,R.bind,hk,hG]
 have attr:∀(l:Loc) (f r:Nat),l 113=some (.ref e)→kZ TT (some (aY cp dl ad)) f=some (.ref r)→evE TT (Gam n) (.attr (.loc 113) f) l H= .ok (.ref r) H:=fun l f r l113 h=>by
  refine cr ?_
  rw[qO,pV,l113,eO,i7,he,h,eO]
  exact⟨rfl,rfl⟩
 have inv:∀(l:Loc),l 29=some (.ref m)∧l 113=some (.ref e)→∀x y v w,x=92→(y=73∨y=99)→(upd (upd l x v) y w) 29=some (.ref m)∧(upd (upd l x v) y w) 113=some (.ref e)∧(upd (upd l x v) y w) 92=some v:=fun l h x y v w hx hy=>by
  subst hx
  refine⟨?_,?_,?_⟩
  ·unfold upd;rw[if_neg (by omega),if_neg (by omega)];exact h.1
  ·unfold upd;rw[if_neg (by omega),if_neg (by omega)];exact h.2
  ·unfold upd;rw[if_neg (by omega),if_pos rfl]
 unfold aj
 rw[if_pos (show aD.length=[SV.ref m,SV.ref e].length from rfl)]
 have start:(aN aD [.ref m,.ref e]) 29=some (.ref m)∧(aN aD [.ref m,.ref e]) 113=some (.ref e):=⟨rfl,rfl⟩
 generalize aN aD [.ref m,.ref e]=l at start
 suffices hs:aM TT (Gam n) aU l H= .exc H by rw[hs];rfl
 have d1:kZ TT (some (aY cp dl ad)) 78=some (.ref dl):=rfl
 have a1:kZ TT (some (aY cp dl ad)) 77=some (.ref ad):=rfl
 rw[aU]
 rcases hx with⟨k,hdl⟩|⟨hdl,k,had⟩
 ·rw[aM]
  have hE:exS TT (Gam n) (.forE (.two 92 73) (.attr (.loc 113) 78) (.cons (.ex (.meth (.loc 29) 114 (.cons (.loc 92) .nil))) .nil)) l H= .exc H:=by
   rw[exS,attr l 78 dl start.2 d1]
   simp only[R.bind,hdl]
   refine lh hdl (fun l=>l 29=some (.ref m)∧l 113=some (.ref e)) (fun v=>∃x:Int×Nat,v=jb x∧0≤x.1∧x.1<c) ?_ (p:=D.length) (w:=jb (away,k)) ?_ ?_ _ 0 l start (by simp) (Nat.zero_le _) ?_
   ·rintro l v hl ⟨x,rfl,h1,h2⟩
    obtain⟨q1,q2,q3⟩:=inv l hl 92 73 (.int x.1) (.int x.2) rfl (.inl rfl)
    exact⟨_,_,rfl,good _ x.1 q1 q3 h1 h2,q1,q2⟩
   ·rw[List.getElem?_map,List.getElem?_append_right (Nat.le_refl _),Nat.sub_self];rfl
   ·intro l hl
    obtain⟨q1,q2,q3⟩:=inv l hl 92 73 (.int away) (.int k) rfl (.inl rfl)
    exact⟨_,rfl,bad _ q1 q3⟩
   ·intro j v _ hj hv
    rw[List.getElem?_map,List.getElem?_append_left hj] at hv
    cases hx:D[j]? with
    |none=>rw[hx] at hv;cases hv
    |some x=>
     rw[hx] at hv;cases hv
     exact⟨x,rfl,hD x (List.mem_of_getElem? hx)⟩
  rw[hE];rfl
 ·rw[aM]
  have hE:∃l',exS TT (Gam n) (.forE (.two 92 73) (.attr (.loc 113) 78) (.cons (.ex (.meth (.loc 29) 114 (.cons (.loc 92) .nil))) .nil)) l H= .ok (.next,l') H∧(l' 29=some (.ref m)∧l' 113=some (.ref e)):=by
   rw[exS,attr l 78 dl start.2 d1]
   simp only[R.bind,hdl]
   refine oQ hdl (fun l=>l 29=some (.ref m)∧l 113=some (.ref e)) (fun v=>∃x:Int×Nat,v=jb x∧0≤x.1∧x.1<c) ?_ _ 0 l start (by simp) ?_
   ·rintro l v hl ⟨x,rfl,h1,h2⟩
    obtain⟨q1,q2,q3⟩:=inv l hl 92 73 (.int x.1) (.int x.2) rfl (.inl rfl)
    exact⟨_,_,rfl,good _ x.1 q1 q3 h1 h2,q1,q2⟩
   ·intro j v _ hv
    rw[List.getElem?_map] at hv
    cases hx:D[j]? with
    |none=>rw[hx] at hv;cases hv
    |some x=>
     rw[hx] at hv;cases hv
     exact⟨x,rfl,hD x (List.mem_of_getElem? hx)⟩
  obtain⟨l',hE1,hl'⟩:=hE
  rw[hE1]
  simp only[R.bind]
  rw[aM]
  have hE2:exS TT (Gam n) (.forE (.two 92 99) (.attr (.loc 113) 77) (.cons (.ex (.meth (.loc 29) 114 (.cons (.loc 92) .nil))) .nil)) l' H= .exc H:=by
   rw[exS,attr l' 77 ad hl'.2 a1]
   simp only[R.bind,had]
   refine lh had (fun l=>l 29=some (.ref m)∧l 113=some (.ref e)) (fun _=>False) (fun _ _ _ h=>h.elim) (p:=0) (w:=tw (away,k)) rfl ?_ _ 0 l' hl' (by simp) (Nat.zero_le _) (fun j v _ hj=>absurd hj (Nat.not_lt_zero _))
   intro l hl
   obtain⟨q1,q2,q3⟩:=inv l hl 92 99 (.int away) (.ref k) rfl (.inr rfl)
   exact⟨_,rfl,bad _ q1 q3⟩
  rw[hE2];rfl
theorem fd (n k:Nat):(n:Int).fdiv (k:Int)=((n / k:Nat):Int):=by rw[Int.fdiv_eq_ediv_of_nonneg _ (by omega)];rfl
theorem fm (n k:Nat):(n:Int).fmod (k:Int)=((n % k:Nat):Int):=by rw[Int.fmod_eq_emod_of_nonneg _ (by omega)];rfl
def uN (n:Nat):Opt:=⟨3+n % 2,1+n / 2 % 2,1+n / 4 % 6,1+n / 24 % 2,1+n / 48 % 3,1+n / 1152 % 9⟩
theorem uO (n:Nat):(uN n).Ok:=by
 refine⟨?_,?_,?_,?_,?_,?_⟩<;>simp only[uN]<;>omega
theorem sO_nl (x nl l0 bb lf mf ef gf:Nat):ia TT (some (aK nl l0 bb lf mf ef gf)) 45 (.int x)=some (aK x l0 bb lf mf ef gf):=nr rfl
theorem sO_l0 (x nl l0 bb lf mf ef gf:Nat):ia TT (some (aK nl l0 bb lf mf ef gf)) 44 (.int x)=some (aK nl x bb lf mf ef gf):=nr rfl
theorem sO_bb (x nl l0 bb lf mf ef gf:Nat):ia TT (some (aK nl l0 bb lf mf ef gf)) 42 (.int x)=some (aK nl l0 x lf mf ef gf):=nr rfl
theorem sO_lf (x nl l0 bb lf mf ef gf:Nat):ia TT (some (aK nl l0 bb lf mf ef gf)) 41 (.int x)=some (aK nl l0 bb x mf ef gf):=nr rfl
theorem sO_mf (x nl l0 bb lf mf ef gf:Nat):ia TT (some (aK nl l0 bb lf mf ef gf)) 46 (.int x)=some (aK nl l0 bb lf x ef gf):=nr rfl
theorem sO_ef (x nl l0 bb lf mf ef gf:Nat):ia TT (some (aK nl l0 bb lf mf ef gf)) 38 (.int x)=some (aK nl l0 bb lf mf x gf):=nr rfl
theorem sO_gf (x nl l0 bb lf mf ef gf:Nat):ia TT (some (aK nl l0 bb lf mf ef gf)) 39 (.int x)=some (aK nl l0 bb lf mf ef x):=nr rfl
def qj:MSs:= .cons (.ite (.boo .And (.cons (.cmp .Eq (.idx (.loc 156) (.con (.int 0))) (.loc 176)) (.cons (.cmp .LtE (.bin .Sub (.con (.int 0)) (.idx (.loc 156) (.con (.int 1)))) (.loc 177)) .nil))) (.cons (.asg 188 (.con .none)) (.cons (.ite (.cmp .Eq (.idx (.loc 156) (.con (.int 2))) (.con (.int 1))) (.cons (.asg 188 (.bui 2 (.cons (.lst (.cons (.bin .Sub (.con (.int 64)) (.idx (.loc 156) (.con (.int 1)))) .nil)) .nil))) .nil) (.nil)) .nil)) (.nil)) .nil
def b_k:MSs:= .cons (.asg 176 (.bin .Mod (.bin .Add (.loc 181) (.loc 186)) (.con (.int 4)))) (.cons (.asg 177 (.bin .Add (.loc 64) (.bin .Mod (.bin .FloorDiv (.loc 181) (.con (.int 4))) (.con (.int 7))))) (.cons (.asg 188 (.con .none)) (.cons (.forE (.one 156) (.loc 189) qj) (.cons (.ite (.cmp .NotEq (.call 187 741 (.cons (.loc 119) (.cons (.loc 165) (.cons (.loc 176) (.cons (.loc 177) .nil))))) (.loc 188)) (.cons (.ret (.con (.bool false))) .nil) (.nil)) .nil))))
def tB:MSs:= .cons (.asg 196 (.bin .Mult (.attr (.loc 70) 42) (.bin .Pow (.attr (.loc 70) 41) (.bin .Sub (.loc 92) (.con (.int 1)))))) (.cons (.ite (.cmp .GtE (.bui 4 (.cons (.compA 99 74 (.idx (.attr (.loc 119) 84) (.loc 92))) .nil)) (.loc 196)) (.cons (.asg 193 (.con (.bool true))) .nil) (.nil)) .nil)
def ql:MSs:= .cons (.asg 193 (.cmp .GtE (.bui 0 (.cons (.idx (.attr (.loc 119) 84) (.con (.int 0))) .nil)) (.attr (.loc 70) 44))) (.cons (.forR 92 (.cons (.con (.int 1)) (.cons (.bin .Sub (.loc 184) (.con (.int 1))) .nil)) tB) (.cons (.asg 36 (.meth (.loc 194) 195 (.cons (.loc 119) (.cons (.loc 143) .nil)))) (.cons (.ite (.cmp .NotEq (.cmp .IsNot (.loc 36) (.con .none)) (.loc 193)) (.cons (.ret (.con (.bool false))) .nil) (.nil)) (.cons (.ite (.cmp .IsNot (.loc 36) (.con .none)) (.cons (.asg 166 (.call 192 736 (.cons (.loc 36) (.cons (.loc 165) (.cons (.loc 166) (.cons (.loc 64) .nil)))))) (.cons (.asg 119 (.call 191 722 (.cons (.loc 119) (.cons (.attr (.loc 36) 113) (.cons (.loc 70) .nil))))) .nil)) (.nil)) .nil))))
def ox:MSs:= .cons (.asg 166 (.call 170 729 (.cons (.con (.int 0)) (.cons (.bui 1 (.cons (.loc 197) .nil)) (.cons (.loc 165) (.cons (.loc 113) (.cons (.loc 166) .nil))))))) .nil
def i8:MSs:= .cons (.asg 200 (.call 190 708 (.cons (.loc 155) (.cons (.bin .Add (.con (.int 1)) (.loc 199)) .nil)))) (.cons (.asg 156 (.tup (.cons (.bin .Mod (.loc 200) (.con (.int 4))) (.cons (.bin .Sub (.bin .Sub (.con (.int 0)) (.loc 199)) (.con (.int 1))) (.cons (.bui 3 (.cons (.con (.int 1)) (.cons (.bin .Mod (.bin .FloorDiv (.loc 200) (.con (.int 4))) (.con (.int 3))) .nil))) .nil))))) (.cons (.ex (.meth (.loc 189) 5 (.cons (.loc 156) .nil))) (.cons (.ite (.boo .Or (.cons (.cmp .Eq (.bin .Mod (.loc 199) (.con (.int 3))) (.con (.int 0))) (.cons (.cmp .Eq (.bin .Mod (.bin .FloorDiv (.loc 200) (.con (.int 12))) (.con (.int 2))) (.con (.int 1))) .nil))) (.cons (.ex (.meth (.loc 198) 5 (.cons (.lst (.nil)) .nil))) .nil) (.nil)) (.cons (.ex (.meth (.idx (.loc 198) (.bin .Sub (.bui 0 (.cons (.loc 198) .nil)) (.con (.int 1)))) 5 (.cons (.loc 156) .nil))) .nil))))
def k7:MSs:= .cons (.asg 198 (.lst (.nil))) (.cons (.forR 199 (.cons (.bin .Mult (.con (.int 3)) (.loc 185)) (.cons (.bin .Add (.bin .Mult (.con (.int 3)) (.loc 185)) (.con (.int 3))) .nil)) i8) (.cons (.asg 113 (.new 125 403 (.nil))) (.cons (.forE (.one 197) (.loc 198) ox) (.cons (.asg 119 (.call 191 722 (.cons (.loc 119) (.cons (.loc 113) (.cons (.loc 70) .nil))))) (.cons (.forR 172 (.cons (.bin .Sub (.con (.int 2)) (.loc 185)) .nil) ql) (.cons (.ite (.cmp .NotEq (.meth (.loc 119) 110 (.nil)) (.bui 1 (.cons (.loc 165) .nil))) (.cons (.ret (.con (.bool false))) .nil) (.nil)) (.cons (.asg 181 (.call 190 708 (.cons (.loc 155) (.cons (.con (.int 7)) .nil)))) (.cons (.forR 186 (.cons (.bin .Add (.con (.int 1)) (.bin .Mult (.con (.int 2)) (.loc 185))) .nil) b_k) .nil))))))))
theorem il {a:Int} (h0:0≤a) (h1:a≤4000000):isI a=true:=by
 unfold isI;simp only[Bool.and_eq_true,decide_eq_true_eq];omega
def Mut (c:Nat) (i:Nat):Prop:=i=6∨i=9+c∨i=10+c
structure nz (c:Nat) (B H:Hp) (v:Nat) (V:List (List Fi)) (sc sl:SV):Prop where
 v:aI B v V sc sl
 P:Pr (fun i=>Mut c i∨B.length≤i) B H
 off:∀x,Mut c x→(∀C f,B[x]?≠some (.inst C f))∧∀ls:List Nat,B[x]?≠some (.list (ls.map SV.ref))
theorem nz.at {c:Nat} {B H:Hp} {v:Nat} {V:List (List Fi)} {sc sl:SV} (s:nz c B H v V sc sl):aI H v V sc sl:=by
 refine s.v.keep s.P (fun i C f hi _=> ?_) (fun i ls hi=> ?_)
 ·rintro(h|h)
  ·exact(s.off i h).1 C f hi
  ·have:=ch hi;omega
 ·rintro(h|h)
  ·exact(s.off i h).2 ls hi
  ·have:=ch hi;omega
theorem nz.step {c:Nat} {B H H':Hp} {v:Nat} {V:List (List Fi)} {sc sl:SV} (s:nz c B H v V sc sl) (P:Pr (fun i=>Mut c i∨B.length≤i) H H'):nz c B H' v V sc sl:=⟨s.v,s.P.trans P,s.off⟩
structure LS (is:List Int) (ot:Opt) (sm:Nat) (hist:List En) (V:List (List Fi)) (T:aO) (fr:Nat) (l:Loc) (H:Hp):Prop where
 l155:l 155=some (.ref 0)
 l184:l 184=some (.int ot.cnt)
 l70:l 70=some (.ref 1)
 l64:l 64=some (.int sm)
 l194:l 194=some (.ref 4)
 l143:l 143=some (.ref 6)
 l165:l 165=some (.ref (9+ot.cnt))
 l189:l 189=some (.ref (10+ot.cnt))
 l166:l 166=some (.int fr)
 nr:H[0]? =some (.list (is.map SV.int))
 op:cY H 1 ot
 o:cU H 2
 p:kO H 4 1 2
 pt:∃Pt:List (Option En),H[6]? =some (.list (Pt.map ptV))∧Pt.length=ot.cnt
 tb:cO H (9+ot.cnt) T
 hs:H[10+ot.cnt]? =some (.list (hist.map enV))
 inv:Inv sm ot.cnt hist V T fr
 big:13<H.length
structure Ver (c:Nat) (V:List (List Fi)) (sc sl:SV) (l:Loc) (H:Hp):Prop where
 x:∃v B,l 119=some (.ref v)∧nz c B H v V sc sl
theorem Ver.at {c:Nat} {V:List (List Fi)} {sc sl:SV} {l:Loc} {H:Hp} (s:Ver c V sc sl l H):∃v,l 119=some (.ref v)∧aI H v V sc sl:=by
 obtain⟨v,B,h1,h2⟩:=s.x
 exact⟨v,h1,h2.at⟩
theorem Ver.mv {c:Nat} {V:List (List Fi)} {sc sl:SV} {l l':Loc} {H H':Hp} (s:Ver c V sc sl l H) (hl:l' 119=l 119) (P:Pr (Mut c) H H'):Ver c V sc sl l' H':=by
 obtain⟨v,B,h1,h2⟩:=s.x
 exact⟨v,B,hl.trans h1,h2.step (P.weak fun _ _ h=> .inl h)⟩
section
variable {is:List Int} {ot:Opt} {sm:Nat} {hist:List En} {V:List (List Fi)} {T:aO} {fr:Nat} {l:Loc} {H:Hp}
def j3 (l l':Loc):Prop:=∀j,j=155∨j=184∨j=70∨j=64∨j=194∨j=143∨j=165∨j=189→l' j=l j
theorem LS.mv (s:LS is ot sm hist V T fr l H) {l':Loc} {H':Hp} (hl:j3 l l') (h166:l' 166=l 166) (P:Pr (fun i=>i=6) H H') (hp:∃Pt:List (Option En),H'[6]? =some (.list (Pt.map ptV))∧Pt.length=ot.cnt):LS is ot sm hist V T fr l' H':=by
 have h1:H[1]? =some (aK ot.cnt ot.l0 ot.bb ot.lf ot.mf ot.ef 1):=s.op
 have h4:H[4]? =some (.inst 690 [(70,.ref 1),(85,.ref 2)]):=s.p
 obtain⟨Pt,p1,p2⟩:=s.pt
 have no:∀{i:Nat} {x:SO},H[i]? =some x→(∀vs,x≠.list vs)→¬i=6:=fun h hx e=>by
  rw[e,p1] at h;cases h;exact hx _ rfl
 refine⟨(hl _ (by decide)).trans s.l155,(hl _ (by decide)).trans s.l184,(hl _ (by decide)).trans s.l70,(hl _ (by decide)).trans s.l64,(hl _ (by decide)).trans s.l194,(hl _ (by decide)).trans s.l143,(hl _ (by decide)).trans s.l165,(hl _ (by decide)).trans s.l189,h166.trans s.l166,P.get s.nr (by decide),P.get h1 (by decide),s.o.keep P (fun i C f h _=>no h fun _ e=>by cases e),P.get h4 (by decide),hp,?_,P.get s.hs (by omega),s.inv,Nat.lt_of_lt_of_le s.big P.1⟩
 obtain⟨es,t1,t2⟩:=s.tb
 refine⟨es,P.get t1 (by omega),t2.imp fun _ _ ⟨q1,w,q2,q3,q4⟩=>⟨q1,w,q2,P.get q3 (by omega),q4⟩⟩
theorem LS.app (s:LS is ot sm hist V T fr l H) {l':Loc} (L:Hp) (hl:j3 l l') (h166:l' 166=l 166):LS is ot sm hist V T fr l' (H++L):=by
 refine s.mv hl h166 (Pr.app _ _ _) ?_
 obtain⟨Pt,p1,p2⟩:=s.pt
 exact⟨Pt,ab p1 L,p2⟩
end
theorem zm (s:Fin 16) (H:Hp) (n:Nat) (h:H[n]? =some (.list [.int (64 - -(s.val:Int))])):sg H[n]? =some (vb s):=by
 rw[h]
 show(match bE [SV.int (64 - -(s.val:Int))] with|some is=>aX is|none=>none)=some (vb s)
 exact oH s
theorem sE (n:Nat) {hist:List En} {l:Loc} {H:Hp} {r:Nat} (u:Fin 4) (s:Fin 16) (hr:H[r]? =some (.list (hist.map enV))) (hl:l 189=some (.ref r)) (hu:l 176=some (.int u.val)) (hs:l 177=some (.int s.val)) (hw:l 188=some .none) (Q:Loc→Hp→Prop) (K:Loc→Prop) (hK:∀l x v,K l→x=156∨x=188→K (upd l x v)) (hk0:K l)
 (hQ:∀l' L,K l'→l' 176=some (.int u.val)→l' 177=some (.int s.val)→l' 188=some (eW (gF hist u s))→Q l' (H++L)):
 W (exS TT (Gam n) (.forE (.one 156) (.loc 189) qj) l H) fun q H'=>∃l',q=(.next,l')∧Q l' H':=by
 refine aE ?_
 wide_line with[hl]
 refine⟨r,_,rfl,hr,?_⟩
 refine cw (fun i l H'=>∃L,H'=H++L∧K l∧l 176=some (.int u.val)∧l 177=some (.int s.val)∧l 188=some (eW (gF (hist.take i) u s))) (fun i l H' h=> ?_) (fun i w l H' h hw=> ?_) (fun l H' h=> ?_) ⟨[],by simp,hk0,hu,hs,hw⟩
 ·obtain⟨L,rfl,_⟩:=h
  exact ab hr L
 ·obtain⟨L,rfl,hk,hu,hs,h188⟩:=h
  rw[List.getElem?_map] at hw
  cases he:hist[i]? with
  |none=>rw[he] at hw;cases hw
  |some e=>
   rw[he] at hw;cases hw
   rw[gm]
   have htk:hist.take (i+1)=hist.take i++[e]:=by rw[List.take_add_one,he];rfl
   have hk':=hK l 156 (enV e) hk (.inl rfl)
   unfold qj
   wide_line with[hu,hs,en_0,en_1]
   have e1:((e.u.val:Int)=u.val)↔e.u=u:=by rw[Fin.ext_iff];omega
   have e2:(0 - -(e.s.val:Int)≤s.val)↔e.s≤s:=by rw[Fin.le_def];omega
   rw[htk,qv]
   have miss:¬(e.u=u∧e.s≤s)→∃L_1,H++L=H++L_1∧K (upd l 156 (enV e))∧True∧True∧l 188=some (eW (if e.u=u∧e.s≤s then some e else gF (hist.take i) u s)):=fun h=>⟨L,rfl,hk',trivial,trivial,by rw[if_neg h];exact h188⟩
   by_cases c1:e.u=u
   ·rw[if_pos (e1.mpr c1)]
    by_cases c2:e.s≤s
    ·rw[if_pos (e2.mpr c2),en_2]
     have hk2:=hK _ 188 .none hk' (.inr rfl)
     rw[if_pos ⟨c1,c2⟩,tT]
     by_cases c3:e.k=1
     ·rw[if_pos (by rw[c3];rfl)]
      refine⟨show 1≤ag by decide,?_⟩
      rw[zm e.s _ _ (aC _ _),eO]
      refine⟨L++[.list [.int (64 - -(e.s.val:Int))]],by rw[List.append_assoc],hK _ 188 _ hk2 (.inr rfl),trivial,trivial,?_⟩
      show _=some (if e.k=1 then SV.bytes (vb e.s) else SV.none)
      rw[if_pos c3]
     ·rw[if_neg (by
       rw[decide_eq_true_eq]
       intro h
       exact c3 (Fin.ext (by show e.k.val=1;omega)))]
      refine⟨L,rfl,hk2,trivial,trivial,?_⟩
      show _=some (if e.k=1 then SV.bytes (vb e.s) else SV.none)
      rw[if_neg c3]
    ·rw[if_neg (fun h=>c2 (e2.mp h))]
     exact miss fun h=>c2 h.2
   ·rw[if_neg (fun h=>c1 (e1.mp h))]
    exact miss fun h=>c1 h.1
 ·obtain⟨L,rfl,hk,hu,hs,h188⟩:=h
  rw[List.length_map,List.take_length] at h188
  exact⟨l,rfl,hQ l L hk hu hs h188⟩
theorem fmL (n:Nat):(n:Int).fmod 4=((n % 4:Nat):Int):=fm n 4
theorem fm7 (n:Nat):(n:Int).fmod 7=((n % 7:Nat):Int):=fm n 7
theorem fd4 (n:Nat):(n:Int).fdiv 4=((n / 4:Nat):Int):=fd n 4
theorem v0 (o:Option En) (H:Hp) (Q):W (dO .NotEq (eW o) (eW o) H) Q=Q false H:=by
 cases o with
 |none=>rfl
 |some e=>
  unfold eW
  by_cases c:e.k=1
  ·simp only[c,if_true];rw[uL];simp
  ·simp only[c,if_false];rfl
theorem Au (n:Nat) (hto:kX (Gam n)) {is:List Int} {ot:Opt} {sm:Nat} {hist:List En} {V:List (List Fi)} {T:aO} {fr q k:Nat} {sc sl:SV} {l:Loc} {H:Hp} (s:LS is ot sm hist V T fr l H) (v:Ver ot.cnt V sc sl l H) (l181:l 181=some (.int q)) (l186:l 186=some (.int k)) (hq:q≤2000000) (hk:k≤8) (hsm:sm≤7):
 W (aM TT (Gam n) b_k l H) fun x H'=>∃l',x=(.next,l')∧LS is ot sm hist V T fr l' H'∧Ver ot.cnt V sc sl l' H'∧l' 181=some (.int q)∧∀j,j≠176→j≠177→j≠188→j≠156→l' j=l j:=by
 obtain⟨w,h119,hV⟩:=v.at
 have hqk:(q:Int)+k=((q+k:Nat):Int):=by omega
 obtain⟨u,hu⟩:∃u:Fin 4,(q+k) % 4=u.val:=⟨⟨(q+k) % 4,Nat.mod_lt _ (by decide)⟩,rfl⟩
 obtain⟨sq,hsq⟩:∃x:Fin 16,sm+q / 4 % 7=x.val:=⟨⟨sm+q / 4 % 7,by have:=Nat.mod_lt (q / 4) (show 0<7 by decide);omega⟩,rfl⟩
 have hsq':(sm:Int)+((q / 4 % 7:Nat):Int)=(sq.val:Int):=by omega
 unfold b_k
 refine ah (fun l' H'=>H=H'∧l' 176=some (.int u.val)∧∀j,j≠176→l' j=l j) ?_ ?_
 ·wide_line with[l181,l186,hqk,fmL,hu]
  exact⟨by decide,_,rfl,trivial,rfl,fun j h=>by unfold upd;rw[if_neg h]⟩
 rintro l1 H' ⟨rfl,h176,hl1⟩
 have a1:=(hl1 181 (by decide)).trans l181
 have a2:=(hl1 64 (by decide)).trans s.l64
 refine ah (fun l' H'=>H=H'∧l' 176=some (.int u.val)∧l' 177=some (.int sq.val)∧∀j,j≠176→j≠177→l' j=l j) ?_ ?_
 ·wide_line with[a1,a2,fd4,fm7,hsq']
  exact⟨⟨il (by omega) (by omega),by decide,by decide⟩,by decide,_,rfl,trivial,h176,rfl,fun j h1 h2=>by unfold upd;rw[if_neg h2];exact hl1 j h1⟩
 rintro l2 H' ⟨rfl,h176,h177,hl2⟩
 refine ah (fun l' H'=>H=H'∧l' 176=some (.int u.val)∧l' 177=some (.int sq.val)∧l' 188=some .none∧∀j,j≠176→j≠177→j≠188→l' j=l j) ?_ ?_
 ·wide_line with[]
  exact⟨_,rfl,trivial,h176,h177,rfl,fun j h1 h2 h3=>by unfold upd;rw[if_neg h3];exact hl2 j h1 h2⟩
 rintro l3 H' ⟨rfl,h176,h177,h188,hl3⟩
 refine ah (fun l' H'=>(∃L,H'=H++L)∧l' 176=some (.int u.val)∧l' 177=some (.int sq.val)∧l' 188=some (eW (gF hist u sq))∧∀j,j≠176→j≠177→j≠188→j≠156→l' j=l j) ?_ ?_
 ·exact sE n u sq s.hs ((hl3 189 (by decide) (by decide) (by decide)).trans s.l189) h176 h177 h188 _ (fun l'=>∀j,j≠176→j≠177→j≠188→j≠156→l' j=l j) (fun l' x w hl hx j h1 h2 h3 h4=>by unfold upd;rw[if_neg (by rcases hx with rfl|rfl;exact h4;exact h3)];exact hl j h1 h2 h3 h4) (fun j h1 h2 h3 _=>hl3 j h1 h2 h3) (fun l' L hk g1 g2 g3=>⟨⟨L,rfl⟩,g1,g2,g3,hk⟩)
 rintro l4 H' ⟨⟨L,rfl⟩,h176,h177,h188,hl4⟩
 have kp:j3 l l4:=fun j hj=>hl4 j (by omega) (by omega) (by omega) (by omega)
 have s4:=s.app L kp (hl4 166 (by decide) (by decide) (by decide) (by decide))
 have v4:=v.mv (l':=l4) (hl4 119 (by decide) (by decide) (by decide) (by decide)) (Pr.app (Mut ot.cnt) H L)
 obtain⟨w,h119,hV⟩:=v4.at
 have I:=s.inv
 have hcnt:=I.c34
 have hVl:=I.len
 obtain⟨L2,e1⟩:=hto w (9+ot.cnt) V sc sl T u sq (H++L) hV (by omega) (fun e=>by rw[e] at hVl;simp at hVl;omega) (fun fs h=>by have:=I.lvlL fs h;omega) (I.mono _) s4.tb I.keyN (by have:=I.tabL;omega) (fun t ht=>by have:=I.rowL ht;omega) (fun f hf=>by
  obtain⟨j,hj⟩:=I.candAt hf
  obtain⟨rows,g1,_⟩:=I.file j f hj
  exact List.mem_map.mpr ⟨_,az g1,rfl⟩)
 rw[I.want u sq (by omega)] at e1
 wide_line with[h119,s4.l165,h176,h177,h188,e1,v0]
 exact⟨l4,rfl,s4.app L2 (fun _ _=>rfl) rfl,v4.mv rfl (Pr.app _ _ _),(hl4 181 (by decide) (by decide) (by decide) (by decide)).trans l181,hl4⟩
theorem pL {H:Hp}:∀{as:List Nat} {fs:List Fi},A2 (IsF H) as fs→fW TT 74 H (as.map SV.ref)=some (fs.map fun f=> .int f.sz)
 |[],[],_=>rfl
 |a::as,f::fs,⟨h1,h2⟩=>by
  have h1':H[a]? =some (aT f):=h1
  have ha:gC TT (.ref a) 74 H= .ok (.int f.sz) H:=by
   refine cr ?_
   rw[i7,h1']
   exact⟨rfl,rfl⟩
  rw[List.map_cons,fW,pL h2,ha]
  rfl
theorem W_sum {H:Hp} {r:Nat} {is:List Int} (h:H[r]? =some (.list (is.map SV.int))) (hl:is.length≤ag) (Q):W (gI TT 4 [.ref r] H) Q=Q (.int is.sum) H:=by
 have:gI TT 4 [.ref r] H= .ok (.int is.sum) H:=by
  show(match H[r]? with
   |some (.list its)=>(match bE its with
    |some is=>if is.length≤ag then R.ok (SV.int is.sum) H else R.fail
    |none=>R.fail)
   |_=>R.fail)=_
  rw[h]
  simp only[eP]
  rw[if_pos hl]
 rw[this,gV]
theorem W_pow {x y:Int} (h1:1≤x) (h2:x≤8) (h3:0≤y) (h4:y≤8) (H:Hp) (Q):W (gH .Pow (.int x) (.int y) H) Q=Q (.int (x ^ y.toNat)) H:=by
 have:gH .Pow (.int x) (.int y) H= .ok (.int (x ^ y.toNat)) H:=by
  show(match uR x y with|some z=>R.ok (SV.int z) H|none=>R.fail)=_
  unfold uR
  rw[if_pos ⟨h1,h2,h3,h4⟩]
 rw[this,gV]
theorem wn {Γ:FT} {l:Loc} {H:Hp} {src:ME} {r:Nat} {fs:List Fi} (hs:evE TT Γ src l H= .ok (.ref r) H) (hf:be H r fs) (hl:fs.length≤100) (Q):W (evE TT Γ (.compA 99 74 src) l H) Q=Q (.ref H.length) (H++[.list ((fs.map fun f=>(f.sz:Int)).map SV.int)]):=by
 obtain⟨as,h1,h2⟩:=hf
 have hal:as.length≤ag:=by rw[h2.len];unfold ag;omega
 rw[evE,hs]
 simp only[R.bind,h1,List.length_map,hal,if_true,pL h2]
 rw[dL,List.map_map]
 exact propext ⟨fun h=>h.2,fun h=>⟨by rw[List.length_map];unfold ag;omega,h⟩⟩
def je (V:List (List Fi)) (o:Opt) (k:Nat):Bool:=(List.range k).any fun j=>decide (cW o j≤dU V j)
theorem qr (V:List (List Fi)) (o:Opt) (k:Nat):je V o (k+1)=(je V o k || decide (cW o k≤dU V k)):=by
 unfold je
 rw[List.range_succ,List.any_append]
 simp
theorem sB (n:Nat) {is:List Int} {ot:Opt} {sm:Nat} {hist:List En} {V:List (List Fi)} {T:aO} {fr:Nat} {sc sl:SV} {l:Loc} {H:Hp} (s:LS is ot sm hist V T fr l H) (v:Ver ot.cnt V sc sl l H) (hk:ot.Ok) (h193:l 193=some (.bool (je V ot 1))):
 W (exS TT (Gam n) (.forR 92 (.cons (.con (.int 1)) (.cons (.bin .Sub (.loc 184) (.con (.int 1))) .nil)) tB) l H) fun q H'=>∃l',q=(.next,l')∧LS is ot sm hist V T fr l' H'∧Ver ot.cnt V sc sl l' H'∧l' 193=some (.bool (je V ot (ot.cnt - 1)))∧(∀j,j≠92→j≠193→j≠196→l' j=l j):=by
 have hcnt:=hk.cnt
 have hc1:(ot.cnt:Int) - 1=((ot.cnt - 1:Nat):Int):=by omega
 wide_line with[s.l184,hc1,nZ (show ot.cnt - 1≤1000 by omega)]
 refine c8 1 (ot.cnt - 1) (fun k l' H'=>LS is ot sm hist V T fr l' H'∧Ver ot.cnt V sc sl l' H'∧l' 193=some (.bool (je V ot k))∧∀j,j≠92→j≠193→j≠196→l' j=l j) ?_ ?_ (by omega) ⟨s,v,h193,fun _ _ _ _=>rfl⟩
 ·rintro k l1 H1 hk1 hk2 ⟨s1,v1,h193,hl1⟩
  obtain⟨w,h119,hV⟩:=v1.at
  have hVl:=s.inv.len
  have hVk:=List.getElem?_eq_getElem (show k<V.length by omega)
  have hm:=s.inv.lvlL _ (List.getElem_mem (show k<V.length by omega))
  generalize hfs:V[k]=fs at hVk hm
  obtain⟨ord,fl,ls,r,g1,_,g3,g4,g5,g6⟩:=hV.level hVk
  have lls:ls.length≤ag:=by rw[g4.len];unfold ag;omega
  have ho:H1[1]? =some (aK ot.cnt ot.l0 ot.bb ot.lf ot.mf ot.ef 1):=s1.op
  simp only[aK] at ho
  simp only[b9] at g1
  have hlf:=hk.lf
  have hbb:=hk.bb
  have hkk:(k:Int) - 1=((k - 1:Nat):Int):=by omega
  unfold tB
  refine ah (fun l' H'=>H1=H'∧l' 92=some (.int k)∧l' 196=some (.int (cW ot k:Nat))∧∀j,j≠92→j≠196→l' j=l1 j) ?_ ?_
  ·have h70:(upd l1 92 (.int k)) 70=some (.ref 1):=s1.l70
   wide_line with[s1.l70,ho,hkk,W_pow (show(1:Int)≤ot.lf by omega) (show(ot.lf:Int)≤8 by omega) (show(0:Int)≤((k - 1:Nat):Int) by omega) (show((k - 1:Nat):Int)≤8 by omega)]
   refine⟨il (by omega) (by omega),_,rfl,trivial,rfl,?_,fun j h1 h2=>by unfold upd;rw[if_neg h2,if_neg h1]⟩
   unfold upd
   rw[if_pos rfl]
   unfold cW
   rw[if_neg (by omega),Int.toNat_natCast,Int.natCast_mul,Int.natCast_pow]
  rintro l2 H' ⟨rfl,h92,h196,hl2⟩
  have h2119:=(hl2 119 (by decide) (by decide)).trans h119
  have hsrc:evE TT (Gam n) (.idx (.attr (.loc 119) 84) (.loc 92)) l2 H1= .ok (.ref r) H1:=by
   refine cr ?_
   wide_line with[h2119,h92,g1,g3,aH g5 lls]
   exact⟨trivial,trivial⟩
  have hsum:((fs.map fun f=>(f.sz:Int))).sum=((szs fs:Nat):Int):=by
   unfold szs
   clear hfs hm hVk g6
   induction fs with
   |nil=>rfl
   |cons f r ih=>rw[List.map_cons,List.sum_cons,ih,List.map_cons,List.sum_cons,Int.natCast_add]
  have htop:dU V k=szs fs:=by
   unfold dU
   rw[if_neg (by omega),List.getD_eq_getElem?_getD,hVk];rfl
  have s2:=s1.app (l':=l2) [.list ((fs.map fun f=>(f.sz:Int)).map SV.int)] (fun j hj=>hl2 j (by omega) (by omega)) (hl2 166 (by decide) (by decide))
  have v2:=v1.mv (l':=l2) (hl2 119 (by decide) (by decide)) (Pr.app (Mut ot.cnt) H1 [.list ((fs.map fun f=>(f.sz:Int)).map SV.int)])
  rw[eT,dG]
  refine W.mono (Q:=fun b H'=>H'=H1++[.list ((fs.map fun f=>(f.sz:Int)).map SV.int)]∧b=decide (cW ot k≤dU V k)) ?_ ?_
  ·wide_line with[wn hsrc g6 (by omega),h196,W_sum (aC _ _) (show(fs.map fun f=>(f.sz:Int)).length≤ag by rw[List.length_map];unfold ag;omega),hsum]
   refine⟨trivial,?_⟩
   rw[htop]
   simp[Int.ofNat_le]
  rintro b H' ⟨rfl,rfl⟩
  have h193':=(hl2 193 (by decide) (by decide)).trans h193
  rw[qr]
  by_cases c:cW ot k≤dU V k
  ·rw[if_pos (by simp[c])]
   wide_line with[]
   refine⟨s2.mv (fun j hj=>by unfold upd;rw[if_neg (by omega)]) rfl (Pr.refl _ _) s2.pt,v2.mv rfl (Pr.refl _ _),by simp[c],fun j h1 h2 h3=>by rw[if_neg h2];exact(hl2 j h1 h3).trans (hl1 j h1 h2 h3)⟩
  ·rw[if_neg (by simp[c])]
   wide_line with[]
   refine⟨s2,v2,by rw[h193'];simp[c],fun j h1 h2 h3=>(hl2 j h1 h3).trans (hl1 j h1 h2 h3)⟩
 ·rintro l' H' ⟨h1,h2,h3,h4⟩
  exact⟨l',rfl,h1,h2,h3,h4⟩
theorem LS.nw {is:List Int} {ot:Opt} {sm:Nat} {hist:List En} {V V':List (List Fi)} {T T':aO} {fr fr':Nat} {l l':Loc} {H H':Hp} (s:LS is ot sm hist V T fr l H) (hl:j3 l l') (h166:l' 166=some (.int fr')) (P:Pr (fun i=>i=6∨i=9+ot.cnt) H H') (hp:∃Pt:List (Option En),H'[6]? =some (.list (Pt.map ptV))∧Pt.length=ot.cnt) (hT:cO H' (9+ot.cnt) T') (hI:Inv sm ot.cnt hist V' T' fr'):LS is ot sm hist V' T' fr' l' H':=by
 have h1:H[1]? =some (aK ot.cnt ot.l0 ot.bb ot.lf ot.mf ot.ef 1):=s.op
 have h4:H[4]? =some (.inst 690 [(70,.ref 1),(85,.ref 2)]):=s.p
 obtain⟨Pt,p1,p2⟩:=s.pt
 obtain⟨es,t1,t2⟩:=s.tb
 have no:∀{i:Nat} {C:Addr} {f:List (Nat×SV)},H[i]? =some (.inst C f)→¬(i=6∨i=9+ot.cnt):=fun h e=>by
  rcases e with e|e
  ·rw[e,p1] at h;cases h
  ·rw[e,t1] at h;cases h
 exact⟨(hl _ (by decide)).trans s.l155,(hl _ (by decide)).trans s.l184,(hl _ (by decide)).trans s.l70,(hl _ (by decide)).trans s.l64,(hl _ (by decide)).trans s.l194,(hl _ (by decide)).trans s.l143,(hl _ (by decide)).trans s.l165,(hl _ (by decide)).trans s.l189,h166,P.get s.nr (by omega),P.get h1 (by omega),s.o.keep P (fun i C f h _=>no h),P.get h4 (by omega),hp,hT,P.get s.hs (by omega),hI,Nat.lt_of_lt_of_le s.big P.1⟩
theorem pO {is:List Int} {ot:Opt} {sm:Nat} {hist:List En} {V:List (List Fi)} {T:aO} {fr:Nat} {l:Loc} {H:Hp} (s:LS is ot sm hist V T fr l H) (hc:ot.cnt≠0) (hh:hist≠[]) {v:Nat} {W:List (List Fi)} {sc sl:SV} (hv:aI H v W sc sl):nz ot.cnt H H v W sc sl:=by
 refine⟨hv,Pr.refl _ _,fun x hx=> ?_⟩
 obtain⟨Pt,p1,p2⟩:=s.pt
 obtain⟨es,t1,t2⟩:=s.tb
 rcases hx with rfl|rfl|rfl
 ·refine⟨fun C f h=>(by rw[p1] at h;cases h),fun ls h=> ?_⟩
  rw[p1] at h
  cases Pt with
  |nil=>simp at p2;omega
  |cons x r=>cases ls with
   |nil=>cases h
   |cons y s=>cases x<;>simp[ptV] at h
 ·exact⟨fun C f h=>(by rw[t1] at h;cases h),fun ls h=>(by rw[t1] at h;cases h)⟩
 ·refine⟨fun C f h=>(by rw[s.hs] at h;cases h),fun ls h=> ?_⟩
  rw[s.hs] at h
  cases hist with
  |nil=>exact hh rfl
  |cons x r=>cases ls with
   |nil=>cases h
   |cons y s=>simp[enV] at h
theorem yK (a b:Bool) (H:Hp) (Q):W (dO .NotEq (.bool a) (.bool b) H) Q=Q (a != b) H:=nr rfl
structure dm (V:List (List Fi)) (ot:Opt) (l:Loc) (H:Hp):Prop where
 x:∃bt bo bl:Nat,jZ V ot (ot.cnt - 1) bt bo bl∧Ver ot.cnt V (.tup [.int bt,.int bo]) (.int bl) l H
theorem s0 (n:Nat) (hpi:kT (Gam n)) (hco:kP (Gam n)) (hma:jy (Gam n)) {is:List Int} {ot:Opt} {sm:Nat} {hist:List En} {V:List (List Fi)} {T:aO} {fr:Nat} {l:Loc} {H:Hp} (s:LS is ot sm hist V T fr l H) (v:dm V ot l H) (hk:ot.Ok) (hsm:sm≤7) (hh:hist≠[]):
 W (aM TT (Gam n) ql l H) fun q H'=>∃l',q=(.next,l')∧(∃V' T' fr',LS is ot sm hist V' T' fr' l' H'∧dm V' ot l' H')∧l' 185=l 185:=by
 obtain⟨bt,bo,bl,B,v⟩:=v.x
 have hcnt:=hk.cnt
 have hVl:=s.inv.len
 unfold ql
 refine ah (fun l' H'=>H=H'∧l' 193=some (.bool (je V ot 1))∧∀j,j≠193→l' j=l j) ?_ ?_
 ·obtain⟨w,h119,hV⟩:=v.at
  have hV0:=List.getElem?_eq_getElem (show 0<V.length by omega)
  have hm:=s.inv.lvlL _ (List.getElem_mem (show 0<V.length by omega))
  generalize hfs:V[0]=fs at hV0 hm
  obtain⟨ord,fl,ls,r,g1,_,g3,g4,g5,g6⟩:=hV.level hV0
  have lls:ls.length≤ag:=by rw[g4.len];unfold ag;omega
  have ho:H[1]? =some (aK ot.cnt ot.l0 ot.bb ot.lf ot.mf ot.ef 1):=s.op
  simp only[aK] at ho
  simp only[b9] at g1
  have hix:ck (some (.list (ls.map SV.ref))) 0=some (.ref r):=aH (j:=0) g5 lls
  wide_line with[h119,s.l70,g1,g3,hix,g6.lenO (by omega),ho]
  refine⟨_,rfl,trivial,?_,fun j h=>by unfold upd;rw[if_neg h]⟩
  unfold upd
  rw[if_pos rfl]
  have:je V ot 1=decide (ot.l0≤fs.length):=by
   unfold je cW dU
   simp[List.range_succ,List.getD_eq_getElem?_getD,hV0]
  rw[this]
  simp[Int.ofNat_le]
 rintro l1 H' ⟨rfl,h193,hl1⟩
 have s1:=s.mv (l':=l1) (fun j hj=>hl1 j (by omega)) (hl1 166 (by decide)) (Pr.refl _ _) s.pt
 have v1:=v.mv (l':=l1) (hl1 119 (by decide)) (Pr.refl (Mut ot.cnt) H)
 refine ah (fun l' H'=>LS is ot sm hist V T fr l' H'∧Ver ot.cnt V (.tup [.int bt,.int bo]) (.int bl) l' H'∧l' 193=some (.bool (decide (bo≤bt)))∧l' 185=l 185) ?_ ?_
 ·refine(sB n s1 v1 hk h193).mono ?_
  rintro q H' ⟨l',rfl,q1,q2,q3,q4⟩
  refine⟨l',rfl,q1,q2,?_,(q4 185 (by decide) (by decide) (by decide)).trans (hl1 185 (by decide))⟩
  rw[q3,sd hk B];rfl
 clear s v s1 v1 h193
 rintro l2 H2 ⟨s,v,h193,h185⟩
 obtain⟨w,Bs,h119,sn⟩:=v.x
 have hV:=sn.at
 obtain⟨Pt,p1,p2⟩:=s.pt
 have hbl:=B.lt
 have hfl:=List.getElem?_eq_getElem (show bl<V.length by omega)
 have hfl1:=List.getElem?_eq_getElem (show bl+1<V.length by omega)
 generalize V[bl]=fl at hfl
 generalize V[bl+1]=fl1 at hfl1
 have hne:bo≤bt→fl≠[]:=fun h e=>by
  have h1:=nF hk bl
  have h2:=B.top
  have h3:=B.bot
  have h4:dU V bl=0:=by
   unfold dU
   split
   ·rename_i c;subst c;rw[List.getD_eq_getElem?_getD,hfl,e];rfl
   ·rw[List.getD_eq_getElem?_getD,hfl,e];rfl
  omega
 obtain⟨pN,pS⟩:=hpi 4 6 w 1 2 Pt V bt bo bl fl fl1 ot H2 s.p s.o s.op hk hVl hV p1 (by omega) (fun fs h=>by have:=s.inv.lvlL fs h;omega) hfl hfl1 hne (fun f hf=>(s.inv.fends ⟨fl,hfl,hf⟩).1) (fun f hf=>by have:=(s.inv.szL ⟨fl,hfl,hf⟩).1;omega) (fun f hf=>by have:=(s.inv.szL ⟨fl1,hfl1,hf⟩).1;omega)
 have hp1:H2[4]? =some _:=s.p
 by_cases c:bo≤bt
 ·obtain⟨cc,ed,cp,dl,ad,a,in0,in1,G,Pt',H3,e1,P3,C3,g1,g2,g3,g4,g5,⟨b1,b2,b3,b4,b5⟩,n1,n2,PS,hG⟩:=pS c
  clear pN pS
  have hBs:=sn.P.1
  have hbl2:bl+2≤ot.cnt:=by omega
  have hbl1:bl+1<ot.cnt:=by omega
  have hsm1:sm≤100:=by omega
  refine ah (fun l' H'=>H3=H'∧l' 36=some (.ref cc)∧∀j,j≠36→l' j=l2 j) ?_ ?_
  ·wide_line with[s.l194,s.l143,h119,hp1,e1]
   exact⟨_,rfl,trivial,rfl,fun j h=>by unfold upd;rw[if_neg h]⟩
  rintro l3 H' ⟨rfl,h36,hl3⟩
  have s3:=s.mv (l':=l3) (H':=H3) (fun j hj=>hl3 j (by omega)) (hl3 166 (by decide)) P3 ⟨Pt',g4,g5.trans p2⟩
  have sn3:nz ot.cnt Bs H3 w V (.tup [.int bt,.int bo]) (.int bl):=sn.step (P3.weak fun i _ h=> .inl (.inl h))
  have h119':=(hl3 119 (by decide)).trans h119
  have h185':=(hl3 185 (by decide)).trans h185
  have h193':=(hl3 193 (by decide)).trans h193
  rw[decide_eq_true c] at h193'
  have Is:=pB s.inv hfl hfl1 PS
  have hH23:=P3.1
  have tbl:9+ot.cnt<H2.length:=by
   obtain⟨es,t1,_⟩:=s.tb
   exact ch t1
  have Y:tc H3 cc a dl ad (9+ot.cnt):=by
   have m:=fun x h=>n2 x h
   exact⟨n1,m a.inp (by simp),m a.i0 (by simp),m a.i1 (by simp),m a.gr (by simp),m a.pl (by simp),ch C3.c,ch C3.p,ch g2,ch g3,Nat.lt_of_lt_of_le tbl hH23⟩
  have PM:∀{i},Mz cc a dl ad (9+ot.cnt) i→i=9+ot.cnt∨H2.length≤i:=fun h=>by
   rcases h with h|h|h|h|h
   ·exact .inr (h▸b1)
   ·exact .inr (h▸b2)
   ·exact .inr (h▸b3)
   ·exact .inr (h▸b4)
   ·exact .inl h
  have hVa:∀H',Pr (Mz cc a dl ad (9+ot.cnt)) H3 H'→aI H' w V (.tup [.int bt,.int bo]) (.int bl):=fun H' P=>(sn3.step (P.weak fun i _ h=>by
   rcases PM h with h|h
   ·exact .inl (.inr (.inl h))
   ·exact .inr (Nat.le_trans hBs h))).at
  have len:=Is.len s.inv
  obtain⟨D,A,T',fr',H4,e2,P4,T4,E4,R4,ga,go,sk,hc4⟩:=hco cc (9+ot.cnt) bl w 1 ed cp dl ad fr sm a in0 in1 G V _ _ ot T H3 C3 g1 g2 g3 Y s3.tb s.inv.keyN (fun t ht=>⟨(s.inv.rows t ht).1,s.inv.keyF t ht⟩) (by have:=s.inv.tabL;omega) s3.op hk hVl hVa (by omega) (by omega) Is.nd (Is.look s.inv) (Is.rowsL s.inv) (Is.rowsN s.inv) hG (fun fs h=>by have:=s.inv.lvlL fs h;omega) (fun j fs hj h=>s.inv.apartL j fs hj h) hbl2 hsm1 (by have q1:=ch C3.c;have q2:=s.big;omega)
  have EO:=sj s.inv Is hbl1 R4
  have h1:H2[1]? =some (aK ot.cnt ot.l0 ot.bb ot.lf ot.mf ot.ef 1):=s.op
  have h13:H3[1]? =some (aK ot.cnt ot.l0 ot.bb ot.lf ot.mf ot.ef 1):=s3.op
  have h14:H4[1]? =some (aK ot.cnt ot.l0 ot.bb ot.lf ot.mf ot.ef 1):=by
   refine P4.get h13 fun h=> ?_
   have:=ch h1
   rcases PM h with h|h<;>omega
  have hfin:∀V',fE V D A V'→Inv sm ot.cnt hist V' T' fr':=fun V' F=>by
   obtain⟨N,TN,M⟩:=wC s.inv hfl hfl1 PS R4 F
   exact An s.inv M
  obtain⟨L,v',V',bt',bo',bl',e3,v3,F3,B3,k3⟩:=hma w ed 1 _ _ V D A ot H4 (hVa H4 P4) hVl hk h14 E4 EO.d EO.a EO.dn EO.an EO.da EO.dl EO.al (fun fs h=>by have:=s.inv.lvlL fs h;omega) s.inv.srt (fun V' F=>(hfin V' F).good)
  have I':=hfin V' F3
  have s5:∀l',(∀j,j≠36→j≠119→j≠166→l' j=l2 j)→l' 166=some (.int fr')→LS is ot sm hist V' T' fr' l' (H4++L):=fun l' hl h=>by
   have P34:Pr (fun i=>i=6∨i=9+ot.cnt) H2 (H4++L):=by
    have q1:=(P3.weak (S':=fun i=>i=6∨i=9+ot.cnt∨H2.length≤i) fun i _ h=> .inl h).trans (P4.weak (S':=fun i=>i=6∨i=9+ot.cnt∨H2.length≤i) fun i _ h=> .inr (PM h))
    exact(q1.weak (S':=fun i=>i=6∨i=9+ot.cnt) fun i hi h=>by rcases h with h|h|h;exact .inl h;exact .inr h;omega).trans (Pr.app _ _ _)
   refine s.nw (fun j hj=>hl j (by omega) (by omega) (by omega)) h P34 ⟨Pt',?_,g5.trans p2⟩ ?_ I'
   ·refine ab (P4.get g4 fun h=> ?_) L
    have:=ch p1
    rcases PM h with h|h<;>omega
   ·obtain⟨es,t1,t2⟩:=T4
    exact⟨es,ab t1 L,t2.imp fun _ _ ⟨q1,w,q2,q3,q4⟩=>⟨q1,w,q2,ab q3 L,q4⟩⟩
  simp only[aA] at hc4
  refine ah (fun l' H'=>H3=H'∧l3=l') ?_ ?_
  ·wide_line with[h36,h193',yK]
   split
   ·rename_i h;exact absurd h (by decide)
   exact⟨l3,rfl,trivial,rfl⟩
  rintro l4 H' ⟨rfl,rfl⟩
  rw[eT,dG]
  refine W.mono (Q:=fun b H1=>H3=H1∧b=true) ?_ ?_
  ·wide_line with[h36]
   exact⟨trivial,trivial⟩
  rintro b H1 ⟨rfl,rfl⟩
  rw[if_pos rfl]
  wide_line with[h36,s3.l165,s3.l166,s3.l64,e2,h119',hc4,s3.l70,e3]
  have s6:=s5 (upd (upd l3 166 (.int fr')) 119 (.ref v')) (fun j h1 h2 h3=>by unfold upd;rw[if_neg h2,if_neg h3];exact hl3 j h1) rfl
  exact⟨_,rfl,⟨V',T',fr',s6,⟨bt',bo',bl',B3,⟨v',_,rfl,pO s6 (by omega) hh v3⟩⟩⟩,h185'⟩
 ·have e1:=pN (by omega)
  refine ah (fun l' H'=>H2=H'∧l' 36=some .none∧∀j,j≠36→l' j=l2 j) ?_ ?_
  ·wide_line with[s.l194,s.l143,h119,hp1,e1]
   exact⟨_,rfl,trivial,rfl,fun j h=>by unfold upd;rw[if_neg h]⟩
  rintro l3 H' ⟨rfl,h36,hl3⟩
  have h193':=(hl3 193 (by decide)).trans h193
  rw[decide_eq_false c] at h193'
  wide_line with[h36,h193',yK]
  simp only[show((!true) != false)=false from rfl,Bool.false_eq_true,if_false]
  have h119':=(hl3 119 (by decide)).trans h119
  refine⟨l3,rfl,⟨V,T,fr,s.mv (fun j hj=>hl3 j (by omega)) (hl3 166 (by decide)) (Pr.refl _ _) s.pt,⟨bt,bo,bl,B,v.mv (hl3 119 (by decide)) (Pr.refl (Mut ot.cnt) H2)⟩⟩,(hl3 185 (by decide)).trans h185⟩
def Seq (L:List En):Prop:=∀(i:Nat) (e:En),L[i]? =some e→e.s.val=i+1
theorem Seq.pw {L:List En} (h:Seq L):L.Pairwise (fun a b=>a.s<b.s):=by
 rw[List.pairwise_iff_getElem]
 intro i j hi hj hij
 have h1:=h i _ (List.getElem?_eq_getElem hi)
 have h2:=h j _ (List.getElem?_eq_getElem hj)
 rw[Fin.lt_def];omega
theorem Seq.snoc {L:List En} (h:Seq L) {e:En} (he:e.s.val=L.length+1):Seq (L++[e]):=by
 intro i x hx
 rw[List.getElem?_append] at hx
 split at hx
 ·exact h i x hx
 ·rename_i c
  cases hd:i - L.length with
  |zero=>rw[hd] at hx;cases hx;omega
  |succ k=>rw[hd] at hx;cases hx
structure mY (is:List Int):Prop where
 ne:is≠[]
 len:is.length≤8
 all:∀i∈is,0≤i∧i<999983
theorem jB {is:List Int} (h:mY is) {i:Nat} (hi:i≤8):∃y:Nat,tM is i=(y:Int)∧y≤1500000:=by
 have hl:0<is.length:=List.length_pos_iff.mpr h.ne
 have hlt:=Nat.mod_lt i hl
 have hm:=h.all _ (List.getElem_mem hlt)
 have hd:i / is.length≤8:=Nat.le_trans (Nat.div_le_self _ _) hi
 unfold tM
 rw[List.getD_eq_getElem?_getD,List.getElem?_eq_getElem hlt,Option.getD_some]
 generalize i / is.length=w at hd
 generalize is[i % is.length]=d at hm
 refine⟨(d+31*((w:Nat):Int)).toNat,?_,?_⟩
 ·omega
 ·omega
theorem A2.last {α β:Type} {p:α→β→Prop}:∀{l:List α} {r:List β},A2 p l r→r≠[]→∃l' a r' b,l=l'++[a]∧r=r'++[b]∧A2 p l' r'∧p a b
 |[],[],_,h=>absurd rfl h
 |[x],[y],h,_=>⟨[],x,[],y,rfl,rfl,trivial,h.1⟩
 |x::x'::l,y::y'::r,h,_=>by
  obtain⟨l',a,r',b,e1,e2,h1,h2⟩:=A2.last (l:=x'::l) (r:=y'::r) h.2 (by simp)
  exact⟨x::l',a,y::r',b,by rw[e1];rfl,by rw[e2];rfl,⟨h.1,h1⟩,h2⟩
 |[x],y::y'::r,h,_=>h.2.elim
 |x::x'::l,[y],h,_=>h.2.elim
theorem Pr.setN {S:Nat→Prop} {H0 H:Hp} (p:Pr S H0 H) {n:Nat} (h:H0.length≤n) (o:SO):Pr S H0 (H.set n o):=by
 refine((p.weak (S':=fun i=>S i∨H0.length≤i) fun i _ h=> .inl h).trans (Pr.set H o (.inr h))).weak fun i hi h=> ?_
 rcases h with h|h
 ·exact h
 ·omega
structure GS (c:Nat) (hist new:List En) (groups:List (List En)) (l0:Loc) (H0:Hp) (l:Loc) (H:Hp):Prop where
 kl:∀j,j≠200→j≠156→j≠199→l j=l0 j
 P:Pr (fun i=>i=10+c) H0 H
 hs:H[10+c]? =some (.list ((hist++new).map enV))
 gr:∃gs:List Nat,H[H0.length]? =some (.list (gs.map SV.ref))∧A2 (fun(a:Nat) (rows:List En)=>H[a]? =some (.list (rows.map enV))) gs groups∧gs.Nodup∧∀a∈gs,H0.length<a
 fl:groups.flatten=new
 ne:∀g∈groups,g≠[]
 sq:Seq (hist++new)
theorem fdK {z:Int} (k:Nat) (n:Nat) (h:((k:Nat):Int)=z):(n:Int).fdiv z=((n / k:Nat):Int):=by rw[←h,fd]
theorem fmK {z:Int} (k:Nat) (n:Nat) (h:((k:Nat):Int)=z):(n:Int).fmod z=((n % k:Nat):Int):=by rw[←h,fm]
theorem qs (n:Nat) (hdr:gS (Gam n)) {is:List Int} {c j:Nat} {hist new:List En} {groups:List (List En)} {l0 l:Loc} {H0 H:Hp} (t:GS c hist new groups l0 H0 l H) (h0:H0[0]? =some (.list (is.map SV.int))) (l155:l0 155=some (.ref 0)) (l189:l0 189=some (.ref (10+c))) (l198:l0 198=some (.ref H0.length)) (hc:10+c<H0.length) (his:mY is) (hL:(hist++new).length=j) (hj:j≤5) (hg:j % 3≠0→groups≠[]):
 W (aM TT (Gam n) i8 (upd l 199 (.int j)) H) fun q H'=>∃l' e groups',q=(.next,l')∧GS c hist (new++[e]) groups' l0 H0 l' H'∧groups'≠[]:=by
 obtain⟨y,hy,hyl⟩:=jB his (show 1+j≤8 by omega)
 have e1:=hdr 0 (1+j) is H (t.P.get h0 (by omega)) his.ne his.len (by omega)
 rw[hy] at e1
 have hj1:(1:Int)+(j:Int)=((1+j:Nat):Int):=by omega
 unfold i8
 refine ah (fun l' H'=>H=H'∧l' 200=some (.int y)∧l' 199=some (.int j)∧∀j,j≠200→j≠156→j≠199→l' j=l0 j) ?_ ?_
 ·have h155:l 155=some (.ref 0):=(t.kl 155 (by decide) (by decide) (by decide)).trans l155
  wide_line with[h155,hj1,e1]
  refine⟨_,rfl,trivial,rfl,rfl,fun i h1 h2 h3=> ?_⟩
  unfold upd;rw[if_neg h1,if_neg h3];exact t.kl i h1 h2 h3
 rintro l1 H' ⟨rfl,h200,h199,hl1⟩
 obtain⟨e,hu,hs,hk⟩:∃e:En,e.u.val=y % 4∧e.s.val=j+1∧(e.k.val:Int)=if((y / 4 % 3:Nat):Int)<1 then((y / 4 % 3:Nat):Int) else 1:=by
  refine⟨⟨⟨y % 4,Nat.mod_lt _ (by decide)⟩,⟨j+1,by omega⟩,⟨min 1 (y / 4 % 3),by omega⟩⟩,rfl,rfl,?_⟩
  show((min 1 (y / 4 % 3):Nat):Int)=_
  split<;>omega
 refine ah (fun l' H'=>H=H'∧l' 200=some (.int y)∧l' 199=some (.int j)∧l' 156=some (enV e)∧∀j,j≠200→j≠156→j≠199→l' j=l0 j) ?_ ?_
 ·wide_line with[h200,h199,fmK (z:=4) 4 y rfl,fdK (z:=4) 4 y rfl,fmK (z:=3) 3 (y / 4) rfl]
  have he:SV.tup [.int ((y % 4:Nat):Int),.int (0 - (j:Int) - 1),.int (if((y / 4 % 3:Nat):Int)<1 then((y / 4 % 3:Nat):Int) else 1)]=enV e:=by
   unfold enV
   rw[hk,hu,hs,show(0:Int) - (j:Int) - 1= -((j+1:Nat):Int) by omega]
  rw[he]
  refine⟨by decide,⟨il (by omega) (by omega),by decide,by decide⟩,by decide,⟨rfl,show 3≤ag by decide⟩,_,rfl,trivial,h200,h199,rfl,fun i h1 h2 h3=> ?_⟩
  unfold upd;rw[if_neg h2];exact hl1 i h1 h2 h3
 rintro l2 H' ⟨rfl,h200,h199,h156,hl2⟩
 obtain⟨gs,g1,g2,g3,g4⟩:=t.gr
 have hap:iK (some (.list ((hist++new).map enV))) (enV e)=some (.list ((hist++(new++[e])).map enV)):=by
  rw[cJ (by rw[List.length_map];unfold ag;omega),←List.append_assoc,List.map_append (l₁:=hist++new)]
  rfl
 refine ah (fun l' H'=>l2=l'∧H.set (10+c) (.list ((hist++(new++[e])).map enV))=H') ?_ ?_
 ·have h189:=(hl2 189 (by decide) (by decide) (by decide)).trans l189
  wide_line with[h189,h156,t.hs,hap]
  exact⟨trivial,_,rfl,rfl,trivial⟩
 rintro l3 H' ⟨rfl,rfl⟩
 have h198:=(hl2 198 (by decide) (by decide) (by decide)).trans l198
 have k1:(H.set (10+c) (.list ((hist++(new++[e])).map enV)))[10+c]? =some (.list ((hist++(new++[e])).map enV)):=a5 _ t.hs
 have k2:Pr (fun i=>i=10+c) H0 (H.set (10+c) (.list ((hist++(new++[e])).map enV))):=t.P.trans (Pr.set _ _ rfl)
 have k3:(H.set (10+c) (.list ((hist++(new++[e])).map enV)))[H0.length]? =some (.list (gs.map SV.ref)):=ai g1 (by omega) _
 have k4:A2 (fun(a:Nat) (rows:List En)=>(H.set (10+c) (.list ((hist++(new++[e])).map enV)))[a]? =some (.list (rows.map enV))) gs groups:=g2.impM fun a ha rows _ h=>ai h (by have:=g4 a ha;omega) _
 generalize H.set (10+c) (.list ((hist++(new++[e])).map enV))=H3 at k1 k2 k3 k4
 have hgl:=jH t.ne
 have hfl:groups.flatten.length≤5:=by
  rw[t.fl];rw[List.length_append] at hL;omega
 have hgs:gs.length=groups.length:=g2.len
 have hm:ag=4000:=rfl
 refine ah (fun l' H'=>l2=l'∧Pr (fun i=>i=10+c) H0 H'∧H'[10+c]? =some (.list ((hist++(new++[e])).map enV))∧∃gs a groups' last,H'[H0.length]? =some (.list ((gs++[a]).map SV.ref))∧A2 (fun(a:Nat) (rows:List En)=>H'[a]? =some (.list (rows.map enV))) gs groups'∧
  H'[a]? =some (.list (last.map enV))∧(gs++[a]).Nodup∧(∀x∈gs++[a],H0.length<x)∧groups'.flatten++last=new∧(∀g∈groups',g≠[])∧gs.length≤5) ?_ ?_
 ·rw[dG]
  refine W.mono (Q:=fun b H1=>H3=H1∧(b=false→j % 3≠0)) ?_ ?_
  ·wide_line with[h199,h200,fmK (z:=3) 3 j rfl,fdK (z:=12) 12 y rfl,fmK (z:=2) 2 (y / 12) rfl]
   refine⟨by decide,?_⟩
   by_cases c0:j % 3=0
   ·rw[if_pos (by omega)];exact⟨trivial,fun h=>h.elim⟩
   rw[if_neg (by omega)]
   refine⟨⟨il (by omega) (by omega),by decide,by decide⟩,by decide,?_⟩
   split
   ·exact⟨trivial,fun h=>h.elim⟩
   ·exact⟨trivial,fun _=>c0⟩
  rintro b H1 ⟨rfl,hb⟩
  cases b
  ·rw[if_neg (by decide),fR]
   have hne:=hg (hb rfl)
   obtain⟨gs',a,gr',last,rfl,rfl,q1,q2⟩:=A2.last k4 hne
   refine⟨_,rfl,rfl,k2,k1,gs',a,gr',last,k3,q1,q2,g3,g4,?_,fun g hg=>t.ne g (List.mem_append_left _ hg),?_⟩
   ·rw[←t.fl,List.flatten_append];simp
   ·rw[List.length_append,List.length_append] at hgs;rw[List.length_append] at hgl;simp only[List.length_cons,List.length_nil] at hgs hgl;omega
  ·rw[if_pos rfl]
   have hap2:iK (some (.list (gs.map SV.ref))) (.ref H3.length)=some (.list ((gs++[H3.length]).map SV.ref)):=by
    rw[cJ (by rw[List.length_map];omega),List.map_append];rfl
   have k3':(H3++[.list []])[H0.length]? =some (.list (gs.map SV.ref)):=ab k3 _
   have hlt:=ch k3
   have hH3:=k2.1
   wide_line with[h198,k3,k3',hap2,List.length_nil]
   have hin:∀x∈gs,x<H3.length:=fun x hx=>by
    obtain⟨rows,_,h⟩:=k4.mem hx
    exact ch h
   refine⟨Nat.zero_le _,trivial,l2,rfl,rfl,(k2.trans (Pr.app _ _ _)).setN (Nat.le_refl _) _,ai (ab k1 _) (by omega) _,gs,H3.length,groups,[],a5 _ k3',?_,?_,?_,fun x hx=> ?_,by rw[List.append_nil];exact t.fl,t.ne,by omega⟩
   ·exact k4.impM fun a ha rows _ h=>ai (ab h _) (by have:=g4 a ha;omega) _
   ·exact ai (aC _ _) (by omega) _
   ·rw[List.nodup_append]
    exact⟨g3,by simp,fun x hx y hy e=>by rw[List.mem_singleton] at hy;have:=hin x hx;omega⟩
   ·rcases List.mem_append.mp hx with h|h
    ·exact g4 x h
    ·rw[List.mem_singleton] at h;omega
 rintro l4 H4 ⟨rfl,m1,m2,gs',a,groups',last,m3,m4,m5,m6,m7,m8,m9,m10⟩
 have hix:ck (some (.list ((gs'++[a]).map SV.ref))) ((gs'.length:Nat):Int)=some (.ref a):=aH (by rw[List.getElem?_append_right (Nat.le_refl _),Nat.sub_self];rfl) (by rw[List.length_append];simp only[List.length_cons,List.length_nil];omega)
 have hln:Mine.lenO (some (.list ((gs'++[a]).map SV.ref)))=some (((gs'++[a]).length:Nat):Int):=bh (by rw[List.length_append];simp only[List.length_cons,List.length_nil];omega)
 have hl1:(((gs'++[a]).length:Nat):Int) - 1=((gs'.length:Nat):Int):=by rw[List.length_append];simp only[List.length_cons,List.length_nil];omega
 have hlast:last.length≤5:=by
  have h1:=congrArg List.length m8
  rw[List.length_append] at h1 hL;omega
 have hap3:iK (some (.list (last.map enV))) (enV e)=some (.list ((last++[e]).map enV)):=by
  rw[cJ (by rw[List.length_map];omega),List.map_append];rfl
 have h198:=(hl2 198 (by decide) (by decide) (by decide)).trans l198
 wide_line with[h198,m3,hln,hl1,hix,m5,h156,hap3]
 have ha:=m7 a (by simp)
 have hnd:=(List.nodup_append.mp m6).2.2
 have hse:e.s.val=(hist++new).length+1:=by omega
 refine⟨trivial,l2,e,groups'++[last++[e]],rfl,⟨hl2,m1.setN (by omega) _,ai m2 (by omega) _,⟨gs'++[a],ai m3 (by omega) _,A2.snoc (m4.impM fun x hx rows _ h=>ai h (hnd x hx a (by simp)).symm _) (a5 _ m5),m6,m7⟩,?_,?_,?_⟩,by simp⟩
 ·rw[List.flatten_append,←m8];simp
 ·intro g hg
  rcases List.mem_append.mp hg with h|h
  ·exact m9 g h
  ·rw[List.mem_singleton] at h;rw[h];simp
 ·rw[←List.append_assoc];exact t.sq.snoc hse
theorem qF {half:Nat} (h:half≤1):bH [.int ((3:Int)*(half:Int)),.int ((3:Int)*(half:Int)+3)]=some (dy ((3*half:Nat):Int) 1 (3*half+3 - 3*half)):=by
 have:half=0∨half=1:=by omega
 rcases this with rfl|rfl<;>rfl
theorem oW (n:Nat) (hdr:gS (Gam n)) {is:List Int} {c half:Nat} {hist:List En} {l0 l:Loc} {H0 H:Hp} (t:GS c hist [] [] l0 H0 l H) (h0:H0[0]? =some (.list (is.map SV.int))) (l155:l0 155=some (.ref 0)) (l189:l0 189=some (.ref (10+c))) (l198:l0 198=some (.ref H0.length)) (l185:l0 185=some (.int half)) (hc:10+c<H0.length) (his:mY is) (hh:half≤1) (hL:hist.length=3*half):
 W (exS TT (Gam n) (.forR 199 (.cons (.bin .Mult (.con (.int 3)) (.loc 185)) (.cons (.bin .Add (.bin .Mult (.con (.int 3)) (.loc 185)) (.con (.int 3))) .nil)) i8) l H) fun q H'=>∃l' new groups,q=(.next,l')∧GS c hist new groups l0 H0 l' H'∧new.length=3:=by
 have h185:=(t.kl 185 (by decide) (by decide) (by decide)).trans l185
 wide_line with[h185,qF hh]
 refine⟨by decide,by decide,?_⟩
 refine c8 (3*half) (3*half+3) (fun k l' H'=>∃new groups,GS c hist new groups l0 H0 l' H'∧(hist++new).length=k∧(k % 3≠0→groups≠[])) ?_ ?_ (by omega) ⟨[],[],t,by simp[hL],by omega⟩
 ·rintro k l1 H1 hk1 hk2 ⟨new,groups,t,hl,hg⟩
  refine(qs n hdr t h0 l155 l189 l198 hc his hl (by omega) hg).mono ?_
  rintro q H' ⟨l',e,groups',rfl,t',hne⟩
  exact⟨new++[e],groups',t',by rw[←hl,←List.append_assoc,List.length_append (as:=hist++new)];rfl,fun _=>hne⟩
 ·rintro l' H' ⟨new,groups,t,hl,_⟩
  exact⟨l',new,groups,rfl,t,by rw[List.length_append] at hl;omega⟩
structure PG (c e cp dl ad fr:Nat) (T:aO) (hist:List En) (groups:List (List En)) (gs:List Nat) (l0:Loc) (H0:Hp) (i:Nat) (l:Loc) (H:Hp):Prop where
 kl:∀j,j≠200→j≠156→j≠199→j≠113→j≠197→j≠166→l j=l0 j
 l113:l 113=some (.ref e)
 l166:l 166=some (.int ((fr+i:Nat):Int))
 P:Pr (fun i=>i=10+c∨i=9+c) H0 H
 hs:H[10+c]? =some (.list (hist.map enV))
 gl:H[H0.length]? =some (.list (gs.map SV.ref))
 gr:A2 (fun(a:Nat) (rows:List En)=>H[a]? =some (.list (rows.map enV))) gs groups
 ed:H[e]? =some (aY cp dl ad)
 dl:H[dl]? =some (.list [])
 tab:cO H (9+c) (T++mkT fr ((groups.take i).map aJ))
 add:∃A:List Add,H[ad]? =some (.list (A.map fG))∧(∀x∈A,IsF H x.2.1 x.2.2)∧A.map (fun x=>(x.1,x.2.2))=(mkF fr ((groups.take i).map aJ)).map fun f=>(0,f)
theorem uU (n:Nat) (hpu:iV (Gam n)) {c e cp dl ad fr i:Nat} {T:aO} {hist:List En} {groups:List (List En)} {gs:List Nat} {l0 l:Loc} {H0 H:Hp} {rows:List En} {a:Nat} (t:PG c e cp dl ad fr T hist groups gs l0 H0 i l H) (l165:l0 165=some (.ref (9+c)))
 (hg:groups[i]? =some rows) (ha:gs[i]? =some a) (hrn:rows≠[]) (hrl:rows.length<7) (hnd:rows.Nodup) (hgl:groups.length≤6) (hTl:T.length≤6) (hT:∀t∈T,t.1<fr∧t.2≠[]) (hall:∀g∈groups,g≠[]) (hord:13<H0.length∧c≤4∧(∀a∈gs,H0.length<a∧a<e)∧H0.length<dl∧H0.length<ad∧e<ad∧H0.length<e∧dl≠ad):
 W (aM TT (Gam n) ox (upd l 197 (.ref a)) H) fun q H'=>∃l',q=(.next,l')∧PG c e cp dl ad fr T hist groups gs l0 H0 (i+1) l' H':=by
 obtain⟨o1,o2,o3,o4,o5,o6,o8,o7⟩:=hord
 obtain⟨a',ha',hr⟩:=t.gr.get' hg
 have:a'=a:=by rw[ha] at ha';cases ha';rfl
 subst this
 have hil:i<groups.length:=(List.getElem?_eq_some_iff.mp hg).1
 have htk:(groups.take (i+1)).map aJ=(groups.take i).map aJ++[aJ rows]:=by rw[List.take_add_one,hg,Option.toList_some,List.map_append];rfl
 have htl:((groups.take i).map aJ).length=i:=by rw[List.length_map,List.length_take];omega
 have hsn:aJ rows≠[]:=fun q=>by have:=(cf rows).length_eq;rw[q] at this;exact hrn (List.length_eq_zero_iff.mp this.symm)
 obtain⟨lo,hi,hlo,hhi⟩:=ij hsn
 obtain⟨A,a1,a2,a3⟩:=t.add
 have hAl:A.length=i:=by
  have:=congrArg List.length a3
  rw[List.length_map,List.length_map,jo,htl] at this;exact this
 have t1:(H++[SO.list ((aJ rows).map enV)])[H.length]? =_:=aC _ _
 have hlt:=t.P.1
 have hmem:∀t∈T++mkT fr ((groups.take i).map aJ),t.1≠fr+i∧t.2≠[]:=fun t ht=>by
  rcases List.mem_append.mp ht with h|h
  ·have:=hT t h;exact⟨by omega,this.2⟩
  ·have:=cS h
   obtain⟨g,hg,hge⟩:=List.mem_map.mp this.1
   refine⟨by omega,fun q=> ?_⟩
   rw[q] at hge
   have h2:=(cf g).length_eq
   rw[hge] at h2
   exact hall g (List.mem_of_mem_take hg) (List.length_eq_zero_iff.mp h2.symm)
 have tabA:cO (H++[SO.list ((aJ rows).map enV)]) (9+c) (T++mkT fr ((groups.take i).map aJ)):=by
  obtain⟨es,e1,e2⟩:=t.tab
  exact⟨es,ab e1 _,e2.imp fun _ _ ⟨q1,w,q2,q3,q4⟩=>⟨q1,w,q2,ab q3 _,q4⟩⟩
 obtain⟨x,H2,e1,P2,T2,A2',F2,k2⟩:=hpu 0 H.length (9+c) e cp dl ad (fr+i) (aJ rows) lo hi (T++mkT fr ((groups.take i).map aJ)) A _ t1 hlo hhi (by rw[(cf rows).length_eq];omega) (by have:=ch t.gl;omega) tabA hmem (by rw[List.length_append,kJ,htl];omega) (ab t.ed _) (ab a1 _) (by omega)
 have hfi:(⟨fr+i,(aJ rows).length,lo,hi⟩:Fi)=fiR (fr+i) (aJ rows):=by
  unfold fiR;rw[jh hlo,e7 hhi]
 rw[hfi] at A2' F2
 rw[show((0:Nat):Int)=0 from rfl] at e1
 have h165:=(t.kl 165 (by decide) (by decide) (by decide) (by decide) (by decide) (by decide)).trans l165
 have P3:Pr (fun i=>i=9+c∨i=ad) H H2:=(Pr.app _ H [SO.list ((aJ rows).map enV)]).trans P2
 unfold ox
 wide_line with[l9 hr hrl hnd,h165,t.l113,t.l166,e1]
 have tb0:9+c<H.length:=by obtain⟨es,e1,_⟩:=t.tab;exact ch e1
 have off:∀{i:Nat},i≠9+c→i≠ad→¬(i=9+c∨i=ad):=fun h1 h2 h=>h.elim h1 h2
 have hga:∀x∈gs,¬(x=9+c∨x=ad):=fun x hx h=>by have:=o3 x hx;omega
 refine⟨_,rfl,fun j h1 h2 h3 h4 h5 h6=> ?_,?_,?_,?_,P3.get t.hs (off (by omega) (by omega)),P3.get t.gl (off (by omega) (by omega)),t.gr.impM fun x hx rows _ h=>P3.get h (hga x hx),P3.get t.ed (off ?_ ?_),P3.get t.dl (off (by omega) o7),?_,A++[(0,x,fiR (fr+i) (aJ rows))],A2',fun y hy=> ?_,?_⟩
 ·unfold upd;rw[if_neg h6,if_neg h5];exact t.kl j h1 h2 h3 h4 h5 h6
 ·exact t.l113
 ·rfl
 ·refine((t.P.weak (S':=fun i=>i=10+c∨i=9+c∨H0.length≤i) fun i _ h=>by omega).trans (P3.weak fun i _ h=>by omega)).weak fun i hi h=>by omega
 ·have:=o3;omega
 ·omega
 ·rw[htk,lI,htl,←List.append_assoc];exact T2
 ·rcases List.mem_append.mp hy with hy|hy
  ·have hm:H[y.2.1]? =some (aT y.2.2):=a2 y hy
   refine P3.get hm fun h=> ?_
   obtain⟨es,e1,_⟩:=t.tab
   rcases h with h|h
   ·rw[h,e1] at hm;cases hm
   ·rw[h,a1] at hm;cases hm
  ·rw[List.mem_singleton] at hy;subst hy;exact F2
 ·rw[List.map_append,a3,htk,lG,htl,List.map_append];rfl
theorem uT (n:Nat) (hpu:iV (Gam n)) {c e cp dl ad fr:Nat} {T:aO} {hist:List En} {groups:List (List En)} {gs:List Nat} {l0 l:Loc} {H0 H:Hp} (t:PG c e cp dl ad fr T hist groups gs l0 H0 0 l H) (l165:l0 165=some (.ref (9+c))) (l198:l0 198=some (.ref H0.length))
 (hgr:∀rows∈groups,rows≠[]∧rows.length<7∧rows.Nodup) (hgl:groups.length≤6) (hTl:T.length≤6) (hT:∀t∈T,t.1<fr∧t.2≠[]) (hord:13<H0.length∧c≤4∧(∀a∈gs,H0.length<a∧a<e)∧H0.length<dl∧H0.length<ad∧e<ad∧H0.length<e∧dl≠ad):
 W (exS TT (Gam n) (.forE (.one 197) (.loc 198) ox) l H) fun q H'=>∃l',q=(.next,l')∧PG c e cp dl ad fr T hist groups gs l0 H0 groups.length l' H':=by
 have h198:=(t.kl 198 (by decide) (by decide) (by decide) (by decide) (by decide) (by decide)).trans l198
 obtain⟨o1,o2,o3,o4,o5,o6,o7,o8⟩:=hord
 refine aE ?_
 wide_line with[h198]
 refine⟨H0.length,_,rfl,t.gl,?_⟩
 refine cw (fun i l H'=>PG c e cp dl ad fr T hist groups gs l0 H0 i l H') (fun i l H' I=>I.gl) (fun i w l H' I hw=> ?_) (fun l H' I=> ?_) t
 ·rw[List.getElem?_map] at hw
  cases he:gs[i]? with
  |none=>rw[he] at hw;cases hw
  |some a=>
   rw[he] at hw;cases hw
   rw[gm]
   have hil:i<groups.length:=by rw[←I.gr.len];exact(List.getElem?_eq_some_iff.mp he).1
   have hg:=List.getElem?_eq_getElem hil
   have hm:=hgr _ (List.getElem_mem hil)
   refine(uU n hpu I l165 hg he hm.1 hm.2.1 hm.2.2 hgl hTl hT (fun g hg=>(hgr g hg).1) ⟨o1,o2,o3,o4,o5,o6,o7,o8⟩).mono ?_
   rintro q H' ⟨l',rfl,t'⟩
   exact t'
 ·rw[List.length_map,t.gr.len] at I
  exact⟨l,rfl,I⟩
theorem xt {H:Hp} {x y:Nat} {a b:List Int} (hx:H[x]? =some (.list (a.map SV.int))) (hy:H[y]? =some (.list (b.map SV.int))) (Q):W (dO .NotEq (.ref x) (.ref y) H) Q=Q (!decide (a=b)) H:=by
 show W (match H[x]?,H[y]? with
  |some (.list u),some (.list v)=>(match bE u,bE v with|some a,some b=> .ok (!decide (a=b)) H|_,_=> .fail)
  |_,_=> .fail) Q=_
 rw[hx,hy]
 simp only[eP]
 rfl
theorem wH {H:Hp} {x y:Nat} {a b:List Int} (hx:H[x]? =some (.list (a.map SV.int))) (hy:H[y]? =some (.list (b.map SV.int))) (Q):W (dO .Eq (.ref x) (.ref y) H) Q=Q (decide (a=b)) H:=by
 show W (match H[x]?,H[y]? with
  |some (.list u),some (.list v)=>(match bE u,bE v with|some a,some b=> .ok (decide (a=b)) H|_,_=> .fail)
  |_,_=> .fail) Q=_
 rw[hx,hy]
 simp only[eP]
 rfl
theorem LS.nh {is:List Int} {ot:Opt} {sm:Nat} {hist hist':List En} {V V':List (List Fi)} {T T':aO} {fr fr':Nat} {l l':Loc} {H H':Hp} (s:LS is ot sm hist V T fr l H) (hl:j3 l l') (h166:l' 166=some (.int fr')) (P:Pr (fun i=>i=10+ot.cnt∨i=9+ot.cnt) H H') (hh:H'[10+ot.cnt]? =some (.list (hist'.map enV))) (hT:cO H' (9+ot.cnt) T') (hI:Inv sm ot.cnt hist' V' T' fr'):LS is ot sm hist' V' T' fr' l' H':=by
 have h1:H[1]? =some (aK ot.cnt ot.l0 ot.bb ot.lf ot.mf ot.ef 1):=s.op
 have h4:H[4]? =some (.inst 690 [(70,.ref 1),(85,.ref 2)]):=s.p
 obtain⟨Pt,p1,p2⟩:=s.pt
 obtain⟨es,t1,t2⟩:=s.tb
 have no:∀{i:Nat} {C:Addr} {f:List (Nat×SV)},H[i]? =some (.inst C f)→¬(i=10+ot.cnt∨i=9+ot.cnt):=fun h e=>by
  rcases e with e|e
  ·rw[e,s.hs] at h;cases h
  ·rw[e,t1] at h;cases h
 exact⟨(hl _ (by decide)).trans s.l155,(hl _ (by decide)).trans s.l184,(hl _ (by decide)).trans s.l70,(hl _ (by decide)).trans s.l64,(hl _ (by decide)).trans s.l194,(hl _ (by decide)).trans s.l143,(hl _ (by decide)).trans s.l165,(hl _ (by decide)).trans s.l189,h166,P.get s.nr (by omega),P.get h1 (by omega),s.o.keep P (fun i C f h _=>no h),P.get h4 (by omega),⟨Pt,P.get p1 (by omega),p2⟩,hT,hh,hI,Nat.lt_of_lt_of_le s.big P.1⟩
theorem LS.lo {is:List Int} {ot:Opt} {sm:Nat} {hist:List En} {V:List (List Fi)} {T:aO} {fr:Nat} {l l':Loc} {H:Hp} (s:LS is ot sm hist V T fr l H) (hl:j3 l l') (h166:l' 166=l 166):LS is ot sm hist V T fr l' H:=s.mv hl h166 (Pr.refl _ _) s.pt
theorem Ad (n:Nat) (hdr:gS (Gam n)) (hne:fV (Gam n)) (hpu:iV (Gam n)) (hma:jy (Gam n)) {is:List Int} {ot:Opt} {sm half:Nat} {hist:List En} {V:List (List Fi)} {T:aO} {fr:Nat} {sc sl:SV} {l:Loc} {H:Hp} (s:LS is ot sm hist V T fr l H) (v:Ver ot.cnt V sc sl l H) (hk:ot.Ok) (his:mY is) (l185:l 185=some (.int half)) (hh:half≤1) (hL:hist.length=3*half) (hsq:Seq hist) {r:MSs} {Q:Fl×Loc→Hp→Prop}
 (k:∀l' H' hist' V' T' fr',LS is ot sm hist' V' T' fr' l' H'→dm V' ot l' H'→hist'.length=3*half+3→Seq hist'→l' 185=some (.int half)→W (aM TT (Gam n) r l' H') Q):
 W (aM TT (Gam n) (.cons (.asg 198 (.lst (.nil))) (.cons (.forR 199 (.cons (.bin .Mult (.con (.int 3)) (.loc 185)) (.cons (.bin .Add (.bin .Mult (.con (.int 3)) (.loc 185)) (.con (.int 3))) .nil)) i8) (.cons (.asg 113 (.new 125 403 (.nil))) (.cons (.forE (.one 197) (.loc 198) ox) (.cons (.asg 119 (.call 191 722 (.cons (.loc 119) (.cons (.loc 113) (.cons (.loc 70) .nil))))) r))))) l H) Q:=by
 have hcnt:=hk.cnt
 have hVl:=s.inv.len
 refine ah (fun l' H'=>GS ot.cnt hist [] [] (upd l 198 (.ref H.length)) H l' H'∧l'=upd l 198 (.ref H.length)) ?_ ?_
 ·wide_line with[List.length_nil]
  refine⟨by decide,_,rfl,⟨fun _ _ _ _=>rfl,Pr.app _ _ _,?_,⟨[],aC _ _,trivial,.nil,by simp⟩,rfl,by simp,?_⟩,rfl⟩
  ·rw[List.append_nil];exact ab s.hs _
  ·rw[List.append_nil];exact hsq
 rintro l1 H1 ⟨t1,rfl⟩
 obtain⟨l0,hl0⟩:∃l0,upd l 198 (.ref H.length)=l0:=⟨_,rfl⟩
 rw[hl0] at t1⊢
 have u:∀j,j≠198→l0 j=l j:=fun j hj=>by rw[←hl0];unfold upd;rw[if_neg hj]
 have l198:l0 198=some (.ref H.length):=by rw[←hl0];unfold upd;rw[if_pos rfl]
 clear hl0
 have hs0:=ch s.hs
 refine ah (fun l' H'=>∃new groups,GS ot.cnt hist new groups l0 H l' H'∧new.length=3) ?_ ?_
 ·refine(oW n hdr t1 s.nr ((u 155 (by decide)).trans s.l155) ((u 189 (by decide)).trans s.l189) l198 ((u 185 (by decide)).trans l185) hs0 his hh hL).mono ?_
  rintro q H' ⟨l',new,groups,rfl,h1,h2⟩
  exact⟨l',rfl,new,groups,h1,h2⟩
 clear t1 H1
 rintro l1 H1 ⟨new,groups,t,hn3⟩
 obtain⟨gs,g1,g2,g3,g4⟩:=t.gr
 have hlt:=t.P.1
 have g5:∀a∈gs,H.length<a∧a<H1.length:=fun a ha=>by
  obtain⟨rows,_,h⟩:=g2.mem ha
  exact⟨g4 a ha,ch h⟩
 have hb:=s.big
 have hl1:=ch g1
 refine ah (fun l' H'=>PG ot.cnt H1.length (H1.length+1) (H1.length+2) (H1.length+3) fr T (hist++new) groups gs l0 H 0 l' H') ?_ ?_
 ·wide_line with[hne H1]
  refine⟨_,rfl,fun j h1 h2 h3 h4 h5 h6=> ?_,rfl,?_,(t.P.trans (Pr.app _ _ _)).weak fun i _ h=> .inl h,ab t.hs _,ab g1 _,g2.impM fun _ _ _ _ h=>ab h _,by rw[gt0];rfl,by rw[gtk];rfl,?_,[],by rw[gtk];rfl,by simp,by simp[mkF]⟩
  ·unfold upd;rw[if_neg h4];exact t.kl j h1 h2 h3
  ·show l1 166=_
   rw[t.kl 166 (by decide) (by decide) (by decide),u 166 (by decide),s.l166];rfl
  ·obtain⟨es,e1,e2⟩:=s.tb
   rw[List.take_zero,List.map_nil,show mkT fr []=[] from rfl,List.append_nil]
   exact⟨es,ab (t.P.get e1 (by omega)) _,e2.imp fun _ _ ⟨q1,w,q2,q3,q4⟩=>⟨q1,w,q2,ab (t.P.get q3 (by omega)) _,q4⟩⟩
 rintro l2 H2 t2
 have hall:=t.sq.pw
 have hgr:∀rows∈groups,rows≠[]∧rows.length<7∧rows.Nodup:=fun rows hr=>by
  have hsub:rows.Sublist new:=t.fl▸List.sublist_flatten_of_mem hr
  have h1:=hsub.length_le
  have h2:rows.Pairwise (fun a b=>a.s<b.s):=((List.pairwise_append.mp hall).2.1).sublist hsub
  exact⟨t.ne rows hr,by omega,h2.imp fun h e=>by rw[e] at h;exact absurd h (Fin.lt_irrefl _)⟩
 have hgl:groups.length≤6:=by
  have h1:=jH t.ne
  rw[t.fl] at h1;omega
 refine ah (fun l' H'=>PG ot.cnt H1.length (H1.length+1) (H1.length+2) (H1.length+3) fr T (hist++new) groups gs l0 H groups.length l' H') ?_ ?_
 ·refine(uT n hpu t2 ((u 165 (by decide)).trans s.l165) l198 hgr hgl s.inv.tabL (fun t ht=>⟨s.inv.keyF t ht,(s.inv.rows t ht).1⟩) ⟨hb,by omega,g5,by omega,by omega,by omega,by omega,by omega⟩).mono ?_
  rintro q H' ⟨l',rfl,h⟩
  exact⟨l',rfl,h⟩
 clear t2 l2 H2
 rintro l2 H2 t2
 obtain⟨A,a1,a2,a3⟩:=t2.add
 rw[List.take_length] at a3
 have tab:=t2.tab
 rw[List.take_length] at tab
 have hlen:(hist++new).length=3*half+3:=by rw[List.length_append];omega
 have AS:AddS hist new groups:=⟨t.fl,t.ne,hall,by omega⟩
 have EO:=yh (lev:=0) (cnt:=ot.cnt) (by omega) (by rw[List.length_map];omega) a3
 have hfin:∀V',fE V [] A V'→Inv sm ot.cnt (hist++new) V' (T++mkT fr (groups.map aJ)) (fr+groups.length):=fun V' F=>qV s.inv AS F a3
 obtain⟨w,Bs,h119,sn⟩:=v.x
 have sn2:nz ot.cnt Bs H2 w V sc sl:=sn.step (t2.P.weak fun i _ h=>by
  rcases h with h|h
  ·exact .inl (.inr (.inr h))
  ·exact .inl (.inr (.inl h)))
 have h1:H[1]? =some (aK ot.cnt ot.l0 ot.bb ot.lf ot.mf ot.ef 1):=s.op
 have h12:H2[1]? =some (aK ot.cnt ot.l0 ot.bb ot.lf ot.mf ot.ef 1):=t2.P.get h1 (by omega)
 obtain⟨L,v',V',bt',bo',bl',e3,v3,F3,B3,k3⟩:=hma w H1.length 1 _ _ V [] A ot H2 sn2.at hVl hk h12 ⟨_,_,_,t2.ed,t2.dl,a1,a2⟩ (by simp) (fun x hx=>(EO.1 x hx).1) .nil EO.2.1 (by simp) (by simp) EO.2.2 (fun fs h=>by have:=s.inv.lvlL fs h;omega) s.inv.srt (fun V' F=>(hfin V' F).good)
 have I':=hfin V' F3
 have h119':l2 119=some (.ref w):=(t2.kl 119 (by decide) (by decide) (by decide) (by decide) (by decide) (by decide)).trans ((u 119 (by decide)).trans h119)
 have h70':l2 70=some (.ref 1):=(t2.kl 70 (by decide) (by decide) (by decide) (by decide) (by decide) (by decide)).trans ((u 70 (by decide)).trans s.l70)
 have s5:LS is ot sm (hist++new) V' (T++mkT fr (groups.map aJ)) (fr+groups.length) (upd l2 119 (.ref v')) (H2++L):=by
  refine s.nh (fun j hj=> ?_) ?_ (t2.P.trans (Pr.app _ _ _)) (ab t2.hs L) ?_ I'
  ·unfold upd;rw[if_neg (by omega)]
   exact(t2.kl j (by omega) (by omega) (by omega) (by omega) (by omega) (by omega)).trans (u j (by omega))
  ·exact t2.l166
  ·obtain⟨es,e1,e2⟩:=tab
   exact⟨es,ab e1 L,e2.imp fun _ _ ⟨q1,w,q2,q3,q4⟩=>⟨q1,w,q2,ab q3 L,q4⟩⟩
 refine ah (fun l' H'=>l'=upd l2 119 (.ref v')∧H'=H2++L) ?_ ?_
 ·wide_line with[h119',t2.l113,h70',e3]
  exact⟨_,rfl,rfl,trivial⟩
 rintro l' H' ⟨rfl,rfl⟩
 have hne0:hist++new≠[]:=fun e=>by rw[e] at hlen;simp at hlen
 refine k _ _ _ _ _ _ s5 ⟨bt',bo',bl',B3,⟨v',_,rfl,pO s5 (by omega) hne0 v3⟩⟩ hlen t.sq ?_
 exact(t2.kl 185 (by decide) (by decide) (by decide) (by decide) (by decide) (by decide)).trans ((u 185 (by decide)).trans l185)
theorem dm.lo {V:List (List Fi)} {ot:Opt} {l l':Loc} {H:Hp} (v:dm V ot l H) (hl:l' 119=l 119):dm V ot l' H:=by
 obtain⟨bt,bo,bl,B,h⟩:=v.x
 exact⟨bt,bo,bl,B,h.mv hl (Pr.refl _ _)⟩
theorem dm.app {V:List (List Fi)} {ot:Opt} {l l':Loc} {H:Hp} (v:dm V ot l H) (L:Hp) (hl:l' 119=l 119):dm V ot l' (H++L):=by
 obtain⟨bt,bo,bl,B,h⟩:=v.x
 exact⟨bt,bo,bl,B,h.mv hl (Pr.app _ _ _)⟩
theorem j3.upd {l:Loc} (x:Nat) (w:SV) (h:¬(x=155∨x=184∨x=70∨x=64∨x=194∨x=143∨x=165∨x=189)):j3 l (upd l x w):=fun j hj=>by
 unfold Mine.upd;rw[if_neg (by rintro rfl;exact h hj)]
theorem pE {half:Nat} (h:half≤1):bH [.int ((2:Int) - (half:Int))]=some (dy ((0:Nat):Int) 1 (2 - half - 0)):=by
 have:half=0∨half=1:=by omega
 rcases this with rfl|rfl<;>rfl
theorem pD {half:Nat} (h:half≤1):bH [.int ((1:Int)+(2:Int)*(half:Int))]=some (dy ((0:Nat):Int) 1 (1+2*half - 0)):=by
 have:half=0∨half=1:=by omega
 rcases this with rfl|rfl<;>rfl
theorem sD (n:Nat) (hdr:gS (Gam n)) (hne:fV (Gam n)) (hpu:iV (Gam n)) (hma:jy (Gam n)) (hpi:kT (Gam n)) (hco:kP (Gam n)) (hnu:eN (Gam n)) (hto:kX (Gam n)) {is:List Int} {ot:Opt} {sm half:Nat} {hist:List En} {V:List (List Fi)} {T:aO} {fr:Nat} {sc sl:SV} {l:Loc} {H:Hp} (s:LS is ot sm hist V T fr l H) (v:Ver ot.cnt V sc sl l H) (hk:ot.Ok) (his:mY is) (l185:l 185=some (.int half)) (hh:half≤1) (hL:hist.length=3*half) (hsq:Seq hist) (hsm:sm≤7):
 W (aM TT (Gam n) k7 l H) fun q H'=>∃l',q=(.next,l')∧∃hist' V' T' fr' y,LS is ot sm hist' V' T' fr' l' H'∧dm V' ot l' H'∧hist'.length=3*half+3∧Seq hist'∧l' 181=some (.int (y:Nat))∧y≤2000000:=by
 unfold k7
 refine Ad n hdr hne hpu hma s v hk his l185 hh hL hsq ?_
 clear s v l185 hL hsq hist V T fr l H
 intro l H hist V T fr s v hL hsq l185
 have hhn:hist≠[]:=fun e=>by rw[e] at hL;simp at hL
 refine ah (fun l' H'=>∃V' T' fr',LS is ot sm hist V' T' fr' l' H'∧dm V' ot l' H'∧l' 185=some (.int half)) ?_ ?_
 ·wide_line with[l185,pE hh]
  refine c8 0 (2 - half) (fun k l' H'=>∃V' T' fr',LS is ot sm hist V' T' fr' l' H'∧dm V' ot l' H'∧l' 185=some (.int half)) ?_ ?_ (by omega) ⟨V,T,fr,s,v,l185⟩
  ·rintro k l1 H1 _ _ ⟨V',T',fr',s,v,h⟩
   refine(s0 n hpi hco hma (s.lo (j3.upd 172 (.int k) (by decide)) (by unfold upd;rw[if_neg (by decide)])) (v.lo (l':=upd l1 172 (.int k)) (by unfold upd;rw[if_neg (by decide)])) hk hsm hhn).mono ?_
   rintro q H' ⟨l',rfl,⟨V'',T'',fr'',s',v'⟩,h'⟩
   exact⟨V'',T'',fr'',s',v',h'.trans h⟩
  ·rintro l' H' ⟨V',T',fr',s,v,h⟩
   exact⟨l',rfl,V',T',fr',s,v,h⟩
 clear s v l185 V T fr l H
 rintro l H ⟨V,T,fr,s,v,l185⟩
 refine ah (fun l' H'=>l=l'∧∃L,H'=H++L) ?_ ?_
 ·obtain⟨bt,bo,bl,B,v⟩:=v.x
  obtain⟨w,h119,hV⟩:=v.at
  obtain⟨es,t1,t2⟩:=s.tb
  have e1:=hnu w V _ _ H hV (by have:=s.inv.filesL;omega)
  have hel:es.length<64:=by rw[t2.len];have:=s.inv.tabL;omega
  have hsd:=jY (ab t1 [.list ((aL V).map SV.int),.list ((aW (aL V)).map SV.int)]) hel
  rw[ol t2,←s.inv.nums] at hsd
  have hlm:((aW (aL V)).map SV.int).length≤ag:=by
   rw[List.length_map]
   unfold aW
   rw[(cy _).length_eq]
   unfold aL
   rw[List.length_map]
   have:=s.inv.filesL
   unfold ag;omega
  have g1:(H++[SO.list ((aL V).map SV.int),SO.list ((aW (aL V)).map SV.int)]++[SO.list ((aW (aL V)).map SV.int)])[H.length+1]? =some (.list ((aW (aL V)).map SV.int)):=by
   rw[List.append_assoc,gtk];rfl
  have g2:(H++[SO.list ((aL V).map SV.int),SO.list ((aW (aL V)).map SV.int)]++[SO.list ((aW (aL V)).map SV.int)])[(H++[SO.list ((aL V).map SV.int),SO.list ((aW (aL V)).map SV.int)]).length]? =some (.list ((aW (aL V)).map SV.int)):=aC _ _
  have hv:=hV
  obtain⟨ord,fl,ls,q1,q2,q3,q4⟩:=hv
  simp only[b9] at q1
  wide_line with[h119,q1,e1,s.l165,hsd,xt g1 g2]
  refine⟨hlm,?_⟩
  rw[if_neg (fun h=>h trivial)]
  exact⟨l,rfl,rfl,_,List.append_assoc _ _ _⟩
 rintro l' H' ⟨rfl,L,rfl⟩
 replace s:=s.app L (l':=l) (fun _ _=>rfl) rfl
 replace v:=v.app L (l':=l) rfl
 generalize H++L=H at s v
 obtain⟨y,hy,hyl⟩:=jB his (show 7≤8 by omega)
 refine ah (fun l' H'=>LS is ot sm hist V T fr l' H'∧dm V ot l' H'∧l' 185=some (.int half)∧l' 181=some (.int y)) ?_ ?_
 ·have e1:=hdr 0 7 is H s.nr his.ne his.len (by omega)
  rw[hy,show((7:Nat):Int)=7 from rfl] at e1
  wide_line with[s.l155,e1]
  exact⟨_,rfl,s.lo (j3.upd 181 (.int y) (by decide)) rfl,v.lo rfl,l185,rfl⟩
 clear s v l185 l H
 rintro l H ⟨s,v,l185,l181⟩
 refine ah (fun l' H'=>LS is ot sm hist V T fr l' H'∧dm V ot l' H'∧l' 181=some (.int y)) ?_ ?_
 ·wide_line with[l185,pD hh]
  refine⟨by decide,?_⟩
  refine c8 0 (1+2*half) (fun k l' H'=>LS is ot sm hist V T fr l' H'∧dm V ot l' H'∧l' 181=some (.int y)) ?_ ?_ (by omega) ⟨s,v,l181⟩
  ·rintro k l1 H1 _ hk2 ⟨s,v,h⟩
   obtain⟨bt,bo,bl,B,v⟩:=v.x
   refine(Au n hto (s.lo (j3.upd 186 (.int k) (by decide)) (by unfold upd;rw[if_neg (by decide)])) (v.mv (l':=upd l1 186 (.int k)) (by unfold upd;rw[if_neg (by decide)]) (Pr.refl _ _)) (by unfold upd;rw[if_neg (by decide)];exact h) (by unfold upd;rw[if_pos rfl]) (by omega) (by omega) hsm).mono ?_
   rintro q H' ⟨l',rfl,s',v',h',_⟩
   exact⟨s',⟨bt,bo,bl,B,v'⟩,h'⟩
  ·rintro l' H' ⟨s,v,h⟩
   exact⟨l',rfl,s,v,h⟩
 rintro l H ⟨s,v,l181⟩
 rw[fR]
 exact⟨l,rfl,hist,V,T,fr,y,s,v,hL,hsq,l181,by omega⟩
def bJ (a:SO) (o:Opt):Hp:=[a,aK o.cnt o.l0 o.bb o.lf o.mf o.ef 1,.inst 272 [(33,.ref 3)],.inst 218 [],.inst 690 [(70,.ref 1),(85,.ref 2)],.list [.bytes []],.list (List.replicate o.cnt (.bytes []))]
theorem vW {is:List Int} {ot:Opt} {sm:Nat} (hk:ot.Ok) {l:Loc} (l155:l 155=some (.ref 0)) (l184:l 184=some (.int ot.cnt)) (l70:l 70=some (.ref 1)) (l64:l 64=some (.int sm)) (l194:l 194=some (.ref 4)) (l143:l 143=some (.ref 6)) (l119:l 119=some (.ref 7)) (l165:l 165=some (.ref (9+ot.cnt))) (l189:l 189=some (.ref (10+ot.cnt))) (l166:l 166=some (.int 10)):
 LS is ot sm [] (List.replicate ot.cnt []) [] 10 l (bJ (.list (is.map SV.int)) ot++bF 7 ot.cnt 2++[.dict []]++[.list []])∧Ver ot.cnt (List.replicate ot.cnt []) (.tup [.int 0,.int 1]) (.int (-1)) l (bJ (.list (is.map SV.int)) ot++bF 7 ot.cnt 2++[.dict []]++[.list []]):=by
 have hcnt:=hk.cnt
 have hl:(bJ (.list (is.map SV.int)) ot++bF 7 ot.cnt 2).length=9+ot.cnt:=by
  rw[List.length_append]
  simp only[bJ,bF,List.length_cons,List.length_nil,List.length_replicate]
  omega
 have g:∀i x,(bJ (.list (is.map SV.int)) ot)[i]? =some x→(bJ (.list (is.map SV.int)) ot++bF 7 ot.cnt 2)[i]? =some x:=fun i x h=>ab h _
 have gv:∀i,(bJ (.list (is.map SV.int)) ot++bF 7 ot.cnt 2)[7+i]? =(bF 7 ot.cnt 2)[i]? :=fun i=>gtk (bJ (.list (is.map SV.int)) ot) _ i
 have hv:aI (bJ (.list (is.map SV.int)) ot++bF 7 ot.cnt 2) 7 (List.replicate ot.cnt []) (.tup [.int 0,.int 1]) (.int (-1)):=by
  refine⟨2,8,(List.range ot.cnt).map fun i=>9+i,?_,⟨3,g 2 _ rfl,g 3 _ rfl⟩,?_,?_⟩
  ·rw[List.length_replicate];exact gv 0
  ·rw[List.map_map];exact gv 1
  ·have hz:∀i,i<ot.cnt→(bJ (.list (is.map SV.int)) ot++bF 7 ot.cnt 2)[9+i]? =some (.list []):=fun i hi=>by
    have:=gv (2+i)
    rw[show 9+i=7+(2+i) by omega,this,show 2+i=i+1+1 by omega]
    unfold bF
    rw[List.getElem?_cons_succ,List.getElem?_cons_succ,List.getElem?_replicate,if_pos hi]
   generalize (bJ (.list (is.map SV.int)) ot++bF 7 ot.cnt 2)=B at hz
   have go:∀k,k≤ot.cnt→A2 (be B) ((List.range k).map fun i=>9+i) (List.replicate k []):=fun k=>by
    induction k with
    |zero=>exact fun _=>trivial
    |succ k ih=>
     intro hk
     rw[List.range_succ,List.map_append,List.replicate_succ']
     exact A2.snoc (ih (by omega)) ⟨[],hz k (by omega),trivial⟩
   exact go ot.cnt (Nat.le_refl _)
 generalize hB:bJ (.list (is.map SV.int)) ot++bF 7 ot.cnt 2=B at hl g hv
 have gg:∀i x,(bJ (.list (is.map SV.int)) ot)[i]? =some x→(B++[SO.dict []]++[SO.list []])[i]? =some x:=fun i x h=>ab (ab (g i x h) _) _
 have hd:(B++[SO.dict []]++[SO.list []])[9+ot.cnt]? =some (.dict []):=ab (by rw[←hl];exact aC _ _) _
 have hls:(B++[SO.dict []]++[SO.list []])[10+ot.cnt]? =some (.list []):=by
  have:10+ot.cnt=(B++[SO.dict []]).length:=by rw[List.length_append,hl];simp only[List.length_cons,List.length_nil];omega
  rw[this];exact aC _ _
 refine⟨⟨l155,l184,l70,l64,l194,l143,l165,l189,l166,gg 0 _ rfl,gg 1 _ rfl,⟨3,gg 2 _ rfl,gg 3 _ rfl⟩,gg 4 _ rfl,⟨List.replicate ot.cnt none,?_,List.length_replicate⟩,⟨[],hd,trivial⟩,hls,sG hcnt,?_⟩,⟨7,B,l119,hv,(Pr.app _ _ _).trans (Pr.app _ _ _),fun x hx=> ?_⟩⟩
 ·rw[List.map_replicate];exact gg 6 _ rfl
 ·rw[List.length_append,List.length_append,hl];simp only[List.length_cons,List.length_nil];omega
 ·rcases hx with rfl|rfl|rfl
  ·have h6:B[6]? =some (.list (List.replicate ot.cnt (.bytes []))):=g 6 _ rfl
   refine⟨fun C f h=>(by rw[h6] at h;cases h),fun ls h=> ?_⟩
   rw[h6] at h
   injection h with h
   injection h with h
   have:SV.bytes []∈ls.map SV.ref:=by rw[←h];exact List.mem_replicate.mpr ⟨by omega,rfl⟩
   obtain⟨x,_,hx⟩:=List.mem_map.mp this
   cases hx
  ·have h9:B[9+ot.cnt]? =none:=List.getElem?_eq_none (by omega)
   exact⟨fun C f h=>(by rw[h9] at h;cases h),fun ls h=>(by rw[h9] at h;cases h)⟩
  ·have h9:B[10+ot.cnt]? =none:=List.getElem?_eq_none (by omega)
   exact⟨fun C f h=>(by rw[h9] at h;cases h),fun ls h=>(by rw[h9] at h;cases h)⟩
theorem xx (n:Nat) (hdr:gS (Gam n)) (hno:ng (Gam n)) (hnr:kQ (Gam n)) (hnp:kh (Gam n)) (hnv:kR (Gam n)) {is:List Int} (his:mY is) {l:Loc} (l155:l 155=some (.ref 0)) {r:MSs} {Q:Fl×Loc→Hp→Prop}
 (k:∀l' H' ot sm,LS is ot sm [] (List.replicate ot.cnt []) [] 10 l' H'→Ver ot.cnt (List.replicate ot.cnt []) (.tup [.int 0,.int 1]) (.int (-1)) l' H'→ot.Ok→sm≤7→W (aM TT (Gam n) r l' H') Q):
 W (aM TT (Gam n) (.cons (.asg 30 (.call 190 708 (.cons (.loc 155) (.cons (.con (.int 0)) .nil)))) (.cons (.asg 184 (.bin .Add (.con (.int 3)) (.bin .Mod (.loc 30) (.con (.int 2))))) (.cons (.asg 70 (.new 202 305 (.nil))) (.cons (.asgA (.loc 70) 45 (.loc 184)) (.cons (.asgA (.loc 70) 44 (.bin .Add (.con (.int 1)) (.bin .Mod (.bin .FloorDiv (.loc 30) (.con (.int 2))) (.con (.int 2))))) (.cons (.asgA (.loc 70) 42 (.bin .Add (.con (.int 1)) (.bin .Mod (.bin .FloorDiv (.loc 30) (.con (.int 4))) (.con (.int 6))))) (.cons (.asgA (.loc 70) 41 (.bin .Add (.con (.int 1)) (.bin .Mod (.bin .FloorDiv (.loc 30) (.con (.int 24))) (.con (.int 2))))) (.cons (.asgA (.loc 70) 46 (.bin .Add (.con (.int 1)) (.bin .Mod (.bin .FloorDiv (.loc 30) (.con (.int 48))) (.con (.int 3))))) (.cons (.asgA (.loc 70) 38 (.bin .Add (.con (.int 1)) (.bin .Mod (.bin .FloorDiv (.loc 30) (.con (.int 1152))) (.con (.int 9))))) (.cons (.asgA (.loc 70) 39 (.con (.int 1))) (.cons (.asg 64 (.bin .Mod (.bin .FloorDiv (.loc 30) (.con (.int 144))) (.con (.int 8)))) (.cons (.asg 85 (.new 129 272 (.nil))) (.cons (.asg 194 (.new 201 690 (.cons (.loc 70) (.cons (.loc 85) .nil)))) (.cons (.asg 143 (.bin .Mult (.lst (.cons (.con (.bytes [])) .nil)) (.loc 184))) (.cons (.asg 119 (.new 117 494 (.cons (.loc 184) (.cons (.loc 85) .nil)))) (.cons (.asg 165 (.dic)) (.cons (.asg 189 (.lst (.nil))) (.cons (.asg 166 (.con (.int 10))) r)))))))))))))))))) l [.list (is.map SV.int)]) Q:=by
 obtain⟨y,hy,hyl⟩:=jB his (show 0≤8 by omega)
 have e1:=hdr 0 0 is [.list (is.map SV.int)] rfl his.ne his.len (by omega)
 rw[hy,show((0:Nat):Int)=0 from rfl] at e1
 have hk:=uO y
 have hsm:y / 144 % 8≤7:=by omega
 generalize hot:uN y=ot at hk
 have c1:ot.cnt=3+y % 2:=by rw[←hot];rfl
 have c2:ot.l0=1+y / 2 % 2:=by rw[←hot];rfl
 have c3:ot.bb=1+y / 4 % 6:=by rw[←hot];rfl
 have c4:ot.lf=1+y / 24 % 2:=by rw[←hot];rfl
 have c5:ot.mf=1+y / 48 % 3:=by rw[←hot];rfl
 have c6:ot.ef=1+y / 1152 % 9:=by rw[←hot];rfl
 have hcnt:=hk.cnt
 have i1:(3:Int)+((y % 2:Nat):Int)=(ot.cnt:Int):=by omega
 have i2:(1:Int)+((y / 2 % 2:Nat):Int)=(ot.l0:Int):=by omega
 have i3:(1:Int)+((y / 4 % 6:Nat):Int)=(ot.bb:Int):=by omega
 have i4:(1:Int)+((y / 24 % 2:Nat):Int)=(ot.lf:Int):=by omega
 have i5:(1:Int)+((y / 48 % 3:Nat):Int)=(ot.mf:Int):=by omega
 have i6:(1:Int)+((y / 1152 % 9:Nat):Int)=(ot.ef:Int):=by omega
 have hiy:isI (y:Int)=true:=il (by omega) (by omega)
 refine ah (fun l' H'=>l'=upd l 30 (.int y)∧H'=[.list (is.map SV.int)]) ?_ ?_
 ·wide_line with[l155,e1]
  exact⟨_,rfl,rfl,trivial⟩
 rintro l1 H1 ⟨rfl,rfl⟩
 refine ah (fun l' H'=>l'=upd (upd l 30 (.int y)) 184 (.int ot.cnt)∧H'=[.list (is.map SV.int)]) ?_ ?_
 ·wide_line with[fmK (z:=2) 2 y rfl,i1]
  exact⟨by decide,_,rfl,rfl,trivial⟩
 rintro l1 H1 ⟨rfl,rfl⟩
 have e2:=hno [.list (is.map SV.int)]
 generalize 10485760=bb0 at e2
 generalize 2097152=mf0 at e2
 refine ah (fun l' H'=>l'=upd (upd (upd l 30 (.int y)) 184 (.int ot.cnt)) 70 (.ref 1)∧H'=[.list (is.map SV.int),aK 7 4 bb0 10 mf0 25 10]) ?_ ?_
 ·wide_line with[e2]
  exact⟨_,rfl,rfl,rfl⟩
 rintro l1 H1 ⟨rfl,rfl⟩
 have h155:(upd (upd (upd l 30 (.int y)) 184 (.int ot.cnt)) 70 (.ref 1)) 155=some (.ref 0):=l155
 have h30:(upd (upd (upd l 30 (.int y)) 184 (.int ot.cnt)) 70 (.ref 1)) 30=some (.int y):=rfl
 have h184:(upd (upd (upd l 30 (.int y)) 184 (.int ot.cnt)) 70 (.ref 1)) 184=some (.int ot.cnt):=rfl
 have h70:(upd (upd (upd l 30 (.int y)) 184 (.int ot.cnt)) 70 (.ref 1)) 70=some (.ref 1):=rfl
 generalize upd (upd (upd l 30 (.int y)) 184 (.int ot.cnt)) 70 (.ref 1)=l3 at h155 h30 h184 h70
 clear l155 e1 e2 l
 have hl:∀(a b:SO),([a,b]:Hp)[1]? =some b:=fun _ _=>rfl
 have hs:∀(a b c:SO),([a,b]:Hp).set 1 c=[a,c]:=fun _ _ _=>rfl
 have q:ia TT (some (aK 7 4 bb0 10 mf0 25 10)) 45 (.int ot.cnt)=some (aK ot.cnt 4 bb0 10 mf0 25 10):=sO_nl ot.cnt 7 4 bb0 10 mf0 25 10
 refine ah (fun l' H'=>l3=l'∧H'=[.list (is.map SV.int),aK ot.cnt 4 bb0 10 mf0 25 10]) ?_ ?_
 ·wide_line with[h70,h30,h184,hiy,hl,hs,q]
  exact⟨_,rfl,rfl,trivial⟩
 rintro l1 H1 ⟨rfl,rfl⟩
 clear q
 have q:ia TT (some (aK ot.cnt 4 bb0 10 mf0 25 10)) 44 (.int ot.l0)=some (aK ot.cnt ot.l0 bb0 10 mf0 25 10):=sO_l0 ot.l0 ot.cnt 4 bb0 10 mf0 25 10
 refine ah (fun l' H'=>l3=l'∧H'=[.list (is.map SV.int),aK ot.cnt ot.l0 bb0 10 mf0 25 10]) ?_ ?_
 ·wide_line with[fdK (z:=2) 2 y rfl,fmK (z:=2) 2 (y / 2) rfl,i2,h70,h30,h184,hiy,hl,hs,q]
  exact⟨⟨trivial,by decide,by decide⟩,by decide,_,rfl,rfl,trivial⟩
 rintro l1 H1 ⟨rfl,rfl⟩
 clear q
 have q:ia TT (some (aK ot.cnt ot.l0 bb0 10 mf0 25 10)) 42 (.int ot.bb)=some (aK ot.cnt ot.l0 ot.bb 10 mf0 25 10):=sO_bb ot.bb ot.cnt ot.l0 bb0 10 mf0 25 10
 refine ah (fun l' H'=>l3=l'∧H'=[.list (is.map SV.int),aK ot.cnt ot.l0 ot.bb 10 mf0 25 10]) ?_ ?_
 ·wide_line with[fdK (z:=4) 4 y rfl,fmK (z:=6) 6 (y / 4) rfl,i3,h70,h30,h184,hiy,hl,hs,q]
  exact⟨⟨trivial,by decide,by decide⟩,by decide,_,rfl,rfl,trivial⟩
 rintro l1 H1 ⟨rfl,rfl⟩
 clear q
 have q:ia TT (some (aK ot.cnt ot.l0 ot.bb 10 mf0 25 10)) 41 (.int ot.lf)=some (aK ot.cnt ot.l0 ot.bb ot.lf mf0 25 10):=sO_lf ot.lf ot.cnt ot.l0 ot.bb 10 mf0 25 10
 refine ah (fun l' H'=>l3=l'∧H'=[.list (is.map SV.int),aK ot.cnt ot.l0 ot.bb ot.lf mf0 25 10]) ?_ ?_
 ·wide_line with[fdK (z:=24) 24 y rfl,fmK (z:=2) 2 (y / 24) rfl,i4,h70,h30,h184,hiy,hl,hs,q]
  exact⟨⟨trivial,by decide,by decide⟩,by decide,_,rfl,rfl,trivial⟩
 rintro l1 H1 ⟨rfl,rfl⟩
 clear q
 have q:ia TT (some (aK ot.cnt ot.l0 ot.bb ot.lf mf0 25 10)) 46 (.int ot.mf)=some (aK ot.cnt ot.l0 ot.bb ot.lf ot.mf 25 10):=sO_mf ot.mf ot.cnt ot.l0 ot.bb ot.lf mf0 25 10
 refine ah (fun l' H'=>l3=l'∧H'=[.list (is.map SV.int),aK ot.cnt ot.l0 ot.bb ot.lf ot.mf 25 10]) ?_ ?_
 ·wide_line with[fdK (z:=48) 48 y rfl,fmK (z:=3) 3 (y / 48) rfl,i5,h70,h30,h184,hiy,hl,hs,q]
  exact⟨⟨trivial,by decide,by decide⟩,by decide,_,rfl,rfl,trivial⟩
 rintro l1 H1 ⟨rfl,rfl⟩
 clear q
 have q:ia TT (some (aK ot.cnt ot.l0 ot.bb ot.lf ot.mf 25 10)) 38 (.int ot.ef)=some (aK ot.cnt ot.l0 ot.bb ot.lf ot.mf ot.ef 10):=sO_ef ot.ef ot.cnt ot.l0 ot.bb ot.lf ot.mf 25 10
 refine ah (fun l' H'=>l3=l'∧H'=[.list (is.map SV.int),aK ot.cnt ot.l0 ot.bb ot.lf ot.mf ot.ef 10]) ?_ ?_
 ·wide_line with[fdK (z:=1152) 1152 y rfl,fmK (z:=9) 9 (y / 1152) rfl,i6,h70,h30,h184,hiy,hl,hs,q]
  exact⟨⟨trivial,by decide,by decide⟩,by decide,_,rfl,rfl,trivial⟩
 rintro l1 H1 ⟨rfl,rfl⟩
 clear q
 have q:ia TT (some (aK ot.cnt ot.l0 ot.bb ot.lf ot.mf ot.ef 10)) 39 (.int 1)=some (aK ot.cnt ot.l0 ot.bb ot.lf ot.mf ot.ef 1):=sO_gf 1 ot.cnt ot.l0 ot.bb ot.lf ot.mf ot.ef 10
 refine ah (fun l' H'=>l3=l'∧H'=[.list (is.map SV.int),aK ot.cnt ot.l0 ot.bb ot.lf ot.mf ot.ef 1]) ?_ ?_
 ·wide_line with[h70,h30,h184,hiy,hl,hs,q]
  exact⟨_,rfl,rfl,trivial⟩
 rintro l1 H1 ⟨rfl,rfl⟩
 clear q
 refine ah (fun l' H'=>H'=[.list (is.map SV.int),aK ot.cnt ot.l0 ot.bb ot.lf ot.mf ot.ef 1]∧l' 155=some (.ref 0)∧l' 184=some (.int ot.cnt)∧l' 70=some (.ref 1)∧l' 64=some (.int (y / 144 % 8:Nat))) ?_ ?_
 ·wide_line with[h30,hiy,fdK (z:=144) 144 y rfl,fmK (z:=8) 8 (y / 144) rfl]
  exact⟨⟨trivial,by decide,by decide⟩,by decide,_,rfl,trivial,h155,h184,h70,rfl⟩
 rintro l64 H1 ⟨rfl,h155,h184,h70,h64⟩
 refine ah (fun l' H'=>H'=[.list (is.map SV.int),aK ot.cnt ot.l0 ot.bb ot.lf ot.mf ot.ef 1,.inst 272 [(33,.ref 3)],.inst 218 []]∧l' 155=some (.ref 0)∧l' 184=some (.int ot.cnt)∧l' 70=some (.ref 1)∧l' 64=some (.int (y / 144 % 8:Nat))∧l' 85=some (.ref 2)) ?_ ?_
 ·wide_line with[hnr ([.list (is.map SV.int),aK ot.cnt ot.l0 ot.bb ot.lf ot.mf ot.ef 1])]
  exact⟨_,rfl,rfl,h155,h184,h70,h64,rfl⟩
 rintro l85 H1 ⟨rfl,h155,h184,h70,h64,h85⟩
 refine ah (fun l' H'=>H'=[.list (is.map SV.int),aK ot.cnt ot.l0 ot.bb ot.lf ot.mf ot.ef 1,.inst 272 [(33,.ref 3)],.inst 218 [],.inst 690 [(70,.ref 1),(85,.ref 2)]]∧l' 155=some (.ref 0)∧l' 184=some (.int ot.cnt)∧l' 70=some (.ref 1)∧l' 64=some (.int (y / 144 % 8:Nat))∧l' 85=some (.ref 2)∧l' 194=some (.ref 4)) ?_ ?_
 ·wide_line with[h70,h85,hnp 1 2 ([.list (is.map SV.int),aK ot.cnt ot.l0 ot.bb ot.lf ot.mf ot.ef 1,.inst 272 [(33,.ref 3)],.inst 218 []])]
  exact⟨_,rfl,rfl,h155,h184,h70,h64,h85,rfl⟩
 rintro l194 H1 ⟨rfl,h155,h184,h70,h64,h85,h194⟩
 refine ah (fun l' H'=>H'=bJ (.list (is.map SV.int)) ot∧l' 155=some (.ref 0)∧l' 184=some (.int ot.cnt)∧l' 70=some (.ref 1)∧l' 64=some (.int (y / 144 % 8:Nat))∧l' 85=some (.ref 2)∧l' 194=some (.ref 4)∧l' 143=some (.ref 6)) ?_ ?_
 ·have hm:uJ (([.list (is.map SV.int),aK ot.cnt ot.l0 ot.bb ot.lf ot.mf ot.ef 1,.inst 272 [(33,.ref 3)],.inst 218 [],.inst 690 [(70,.ref 1),(85,.ref 2)]]:Hp)++[SO.list [.bytes []]])[0+1+1+1+1+1]? (ot.cnt:Int)=some (List.replicate ot.cnt (.bytes [])):=lJ (by omega)
  wide_line with[h184,rM,lJ (show ot.cnt≤100 by omega),List.length_cons,List.length_nil]
  refine⟨by decide,?_⟩
  rw[hm,eO]
  refine⟨by rw[List.length_replicate];unfold ag;omega,_,rfl,rfl,h155,h184,h70,h64,h85,h194,rfl⟩
 rintro l143 H1 ⟨rfl,h155,h184,h70,h64,h85,h194,h143⟩
 refine ah (fun l' H'=>H'=bJ (.list (is.map SV.int)) ot++bF 7 ot.cnt 2∧l' 155=some (.ref 0)∧l' 184=some (.int ot.cnt)∧l' 70=some (.ref 1)∧l' 64=some (.int (y / 144 % 8:Nat))∧l' 85=some (.ref 2)∧l' 194=some (.ref 4)∧l' 143=some (.ref 6)∧l' 119=some (.ref 7)) ?_ ?_
 ·wide_line with[h184,h85,hnv ot.cnt 2 (bJ (.list (is.map SV.int)) ot) hcnt]
  exact⟨_,rfl,rfl,h155,h184,h70,h64,h85,h194,h143,rfl⟩
 rintro l119 H1 ⟨rfl,h155,h184,h70,h64,h85,h194,h143,h119⟩
 refine ah (fun l' H'=>H'=bJ (.list (is.map SV.int)) ot++bF 7 ot.cnt 2++[.dict []]∧l' 155=some (.ref 0)∧l' 184=some (.int ot.cnt)∧l' 70=some (.ref 1)∧l' 64=some (.int (y / 144 % 8:Nat))∧l' 85=some (.ref 2)∧l' 194=some (.ref 4)∧l' 143=some (.ref 6)∧l' 119=some (.ref 7)∧l' 165=some (.ref (9+ot.cnt))) ?_ ?_
 ·have hB:(bJ (.list (is.map SV.int)) ot++bF 7 ot.cnt 2).length=9+ot.cnt:=by
   rw[List.length_append]
   simp only[bJ,bF,List.length_cons,List.length_nil,List.length_replicate]
   omega
  wide_line with[List.length_nil]
  exact⟨_,rfl,trivial,h155,h184,h70,h64,h85,h194,h143,h119,by show some (SV.ref _)=_;rw[hB]⟩
 rintro l165 H1 ⟨rfl,h155,h184,h70,h64,h85,h194,h143,h119,h165⟩
 refine ah (fun l' H'=>H'=bJ (.list (is.map SV.int)) ot++bF 7 ot.cnt 2++[.dict []]++[.list []]∧l' 155=some (.ref 0)∧l' 184=some (.int ot.cnt)∧l' 70=some (.ref 1)∧l' 64=some (.int (y / 144 % 8:Nat))∧l' 85=some (.ref 2)∧l' 194=some (.ref 4)∧l' 143=some (.ref 6)∧l' 119=some (.ref 7)∧l' 165=some (.ref (9+ot.cnt))∧l' 189=some (.ref (10+ot.cnt))) ?_ ?_
 ·have hB:(bJ (.list (is.map SV.int)) ot++bF 7 ot.cnt 2++[SO.dict []]).length=10+ot.cnt:=by
   rw[List.length_append,List.length_append]
   simp only[bJ,bF,List.length_cons,List.length_nil,List.length_replicate]
   omega
  wide_line with[List.length_nil]
  exact⟨Nat.zero_le _,_,rfl,trivial,h155,h184,h70,h64,h85,h194,h143,h119,h165,by show some (SV.ref _)=_;rw[hB]⟩
 rintro l189 H1 ⟨rfl,h155,h184,h70,h64,h85,h194,h143,h119,h165,h189⟩
 refine ah (fun l' H'=>H'=bJ (.list (is.map SV.int)) ot++bF 7 ot.cnt 2++[.dict []]++[.list []]∧l' 155=some (.ref 0)∧l' 184=some (.int ot.cnt)∧l' 70=some (.ref 1)∧l' 64=some (.int (y / 144 % 8:Nat))∧l' 85=some (.ref 2)∧l' 194=some (.ref 4)∧l' 143=some (.ref 6)∧l' 119=some (.ref 7)∧l' 165=some (.ref (9+ot.cnt))∧l' 189=some (.ref (10+ot.cnt))∧l' 166=some (.int 10)) ?_ ?_
 ·wide_line with[List.length_nil]
  exact⟨_,rfl,trivial,h155,h184,h70,h64,h85,h194,h143,h119,h165,h189,rfl⟩
 rintro l166 H1 ⟨rfl,h155,h184,h70,h64,h85,h194,h143,h119,h165,h189,h166⟩
 have z:=vW (is:=is) hk h155 h184 h70 h64 h194 h143 h119 h165 h189 h166
 exact k _ _ ot _ z.1 z.2 hk hsm
structure Dps (Γ:FT):Prop where
 draw:gS Γ
 nEdit:fV Γ
 put:iV Γ
 made:jy Γ
 pick:kT Γ
 comp:kP Γ
 nums:eN Γ
 told:kX Γ
theorem sP:bH [.int 2]=some (dy ((0:Nat):Int) 1 (2 - 0)):=rfl
structure HV (is:List Int) (ot:Opt) (sm k:Nat) (l:Loc) (H:Hp):Prop where
 x:∃hist V T fr sc sl,LS is ot sm hist V T fr l H∧Ver ot.cnt V sc sl l H∧hist.length=3*k∧Seq hist
 y:k=0∨∃y:Nat,l 181=some (.int (y:Nat))∧y≤2000000
theorem oX (n:Nat) (d:Dps (Gam n)) {is:List Int} {ot:Opt} {sm k:Nat} {l l2:Loc} {H:Hp} (hx:HV is ot sm k l H) (hk1:k≤1) (hk:ot.Ok) (his:mY is) (hsm:sm≤7) (hl2:upd l 185 (.int k)=l2):
 W (aM TT (Gam n) k7 l2 H) fun q H'=>∃l',q=(.next,l')∧HV is ot sm (k+1) l' H':=by
 obtain⟨hist,V,T,fr,sc,sl,s,v,hL,hsq⟩:=hx.x
 have s':=s.lo (l':=l2) (hl2▸j3.upd 185 (.int k) (by decide)) (by rw[←hl2];unfold upd;rw[if_neg (by decide)])
 have v':=v.mv (l':=l2) (H':=H) (by rw[←hl2];unfold upd;rw[if_neg (by decide)]) (Pr.refl _ _)
 have h185:l2 185=some (.int k):=by rw[←hl2];unfold upd;rw[if_pos rfl]
 refine(sD n d.draw d.nEdit d.put d.made d.pick d.comp d.nums d.told s' v' hk his h185 hk1 hL hsq hsm).mono ?_
 rintro q H' ⟨l',rfl,hist',V',T',fr',y,s',v',h1,h2,h3,h4⟩
 obtain⟨bt,bo,bl,B,v'⟩:=v'.x
 exact⟨l',rfl,⟨hist',V',T',fr',_,_,s',v',by omega,h2⟩,.inr ⟨y,h3,h4⟩⟩
theorem Ae (n:Nat) (d:Dps (Gam n)) {is:List Int} {ot:Opt} {sm:Nat} {V:List (List Fi)} {T:aO} {fr:Nat} {sc sl:SV} {l:Loc} {H:Hp} (s:LS is ot sm [] V T fr l H) (v:Ver ot.cnt V sc sl l H) (hk:ot.Ok) (his:mY is) (hsm:sm≤7):
 W (exS TT (Gam n) (.forR 185 (.cons (.con (.int 2)) .nil) k7) l H) fun q H'=>∃l',q=(.next,l')∧∃hist V T fr sc sl y,LS is ot sm hist V T fr l' H'∧Ver ot.cnt V sc sl l' H'∧l' 181=some (.int (y:Nat))∧y≤2000000:=by
 have h0:HV is ot sm 0 l H:=⟨⟨[],V,T,fr,sc,sl,s,v,rfl,fun i e h=>by simp at h⟩,.inl rfl⟩
 clear s v
 wide_line with[sP]
 refine c8 0 2 (fun k l' H'=>HV is ot sm k l' H') ?_ ?_ (by omega) h0
 ·intro k l1 H1 _ hk2 hx
  have hk1:k≤1:=Nat.le_of_lt_succ hk2
  generalize hl2:upd l1 185 (.int k)=l2
  have z:=oX n d hx hk1 hk his hsm hl2
  refine z.mono fun q H' h=> ?_
  obtain⟨l',rfl,h⟩:=h
  exact h
 ·intro l' H' hx
  obtain⟨hist,V,T,fr,sc,sl,s,v,_,_⟩:=hx.x
  obtain⟨y,h1,h2⟩:∃y:Nat,l' 181=some (.int (y:Nat))∧y≤2000000:=by
   rcases hx.y with h|h
   ·omega
   ·exact h
  exact⟨l',rfl,hist,V,T,fr,sc,sl,y,s,v,h1,h2⟩
theorem vo {H:Hp} {r:Nat} {vs:List SV} (h:H[r]? =some (.list vs)) (hl:vs.length≤ag) (Q):W (oh (.ref r) .none (.int 1) H) Q=((vs.take 1).length≤ag∧Q (.ref H.length) (H++[.list (vs.take 1)])):=by
 have:oh (.ref r) .none (.int 1) H=bp (vs.take 1) H:=by
  show(match H[r]? with|some (.list vs)=>_|_=>_)=_
  rw[h]
  simp only[hl,if_true]
  rfl
 rw[this,dL]
structure FS (E:Nat) (l0:Loc) (B:Hp) (D:List (Int×Nat)) (l:Loc) (H:Hp):Prop where
 kl:∀j,j≠92→j≠99→l j=l0 j
 P:Pr (fun i=>i=E+2) B H
 dl:H[E+2]? =some (.list (D.map jb))
theorem FS.lo {E:Nat} {l0:Loc} {B:Hp} {D:List (Int×Nat)} {l:Loc} {H:Hp} (t:FS E l0 B D l H) {x:Nat} {v:SV} (h:x=92∨x=99):FS E l0 B D (upd l x v) H:=⟨fun j h1 h2=>by unfold upd;rw[if_neg (by omega)];exact t.kl j h1 h2,t.P,t.dl⟩
theorem FS.app {E:Nat} {l0:Loc} {B:Hp} {D:List (Int×Nat)} {l:Loc} {H:Hp} (t:FS E l0 B D l H) (L:Hp):FS E l0 B D l (H++L):=⟨t.kl,t.P.trans (Pr.app _ _ _),ab t.dl L⟩
def qX:MSs:= .cons (.forE (.one 99) (.slc (.idx (.attr (.loc 119) 84) (.loc 92)) .nul (.con (.int 1))) (.cons (.ex (.meth (.attr (.loc 183) 78) 5 (.cons (.tup (.cons (.loc 92) (.cons (.attr (.loc 99) 73) .nil))) .nil))) .nil)) .nil
theorem ub (n:Nat) {E w j:Nat} {l0 l:Loc} {B H:Hp} {D:List (Int×Nat)} {V:List (List Fi)} {sc sl:SV} {fs:List Fi} (t:FS E l0 B D l H) (l119:l0 119=some (.ref w)) (l183:l0 183=some (.ref E)) (hE:B[E]? =some (aY (E+1) (E+2) (E+3))) (hV:∀H',Pr (fun i=>i=E+2) B H'→aI H' w V sc sl) (hj:V[j]? =some fs) (hVl:V.length≤30) (hfl:fs.length≤30) (hD:D.length≤30):
 W (aM TT (Gam n) qX (upd l 92 (.int j)) H) fun q H'=>∃l',q=(.next,l')∧∃D',FS E l0 B D' l' H'∧D'.length≤D.length+1∧∀x∈D',x∈D∨x.1=(j:Int):=by
 have h119:l 119=some (.ref w):=(t.kl 119 (by decide) (by decide)).trans l119
 have h183:l 183=some (.ref E):=(t.kl 183 (by decide) (by decide)).trans l183
 have t1:=t.lo (x:=92) (v:= .int j) (.inl rfl)
 have h92:upd l 92 (.int j) 92=some (.int j):=by unfold upd;rw[if_pos rfl]
 have k119:upd l 92 (.int j) 119=some (.ref w):=h119
 generalize upd l 92 (.int j)=l1 at t1 h92 k119
 obtain⟨ord,fl,ls,r,g1,_,g3,g4,g5,as,g6,g7⟩:=(hV _ t1.P).level hj
 have lls:ls.length≤ag:=by rw[g4.len];unfold ag;omega
 have las:as.length≤ag:=by rw[g7.len];unfold ag;omega
 simp only[b9] at g1
 unfold qX
 refine ah (fun l' H'=>∃D',FS E l0 B D' l' H'∧D'.length≤D.length+1∧∀x∈D',x∈D∨x.1=(j:Int)) ?_ (fun l' H' h=>by rw[fR];exact⟨l',rfl,h⟩)
 refine aE ?_
 wide_line with[k119,h92,g1,g3,aH g5 lls,vo g6 (by rw[List.length_map];exact las)]
 refine⟨?_,?_⟩
 ·rw[List.length_take,List.length_map];unfold ag at*;omega
 refine⟨H.length,_,rfl,aC _ _,?_⟩
 have t2:=t1.app [.list ((as.map SV.ref).take 1)]
 cases as with
 |nil=>
  refine cw (fun i l H'=>FS E l0 B D l H'∧H'[H.length]? =some (.list [])) (fun i l H' h=>h.2) (fun i v l H' _ hv=>by simp at hv) (fun l H' h=> ?_) ⟨t2,aC _ _⟩
  exact⟨l,rfl,D,h.1,by omega,fun x hx=> .inl hx⟩
 |cons x as=>
  cases fs with
  |nil=>exact g7.elim
  |cons f fs=>
   have hx:H[x]? =some (aT f):=g7.1
   rw[show((x::as).map SV.ref).take 1=[SV.ref x] from rfl] at t2⊢
   have hx2:(H++[SO.list [.ref x]])[x]? =some (aT f):=ab hx _
   have hE2:=t2.P.get hE (by omega)
   simp only[aY] at hE2
   have hd2:=t2.dl
   have hap:iK (some (.list (D.map jb))) (.tup [.int (j:Int),.int (f.num:Int)])=some (.list ((D++[((j:Int),f.num)]).map jb)):=by
    rw[cJ (by rw[List.length_map];unfold ag;omega),List.map_append];rfl
   have hne:E+2≠H.length:=by have:=ch t.dl;omega
   refine cw (fun i l H'=>H'[H.length]? =some (.list [.ref x])∧((i=0∧l=l1∧H'=H++[.list [.ref x]])∨(i≠0∧FS E l0 B (D++[((j:Int),f.num)]) l H'))) (fun i l H' h=>h.1) (fun i v l H' h hv=> ?_) (fun l H' h=> ?_) ⟨aC _ _,.inl ⟨rfl,rfl,rfl⟩⟩
   ·rcases h.2 with⟨rfl,el,eH⟩|⟨h0,_⟩
    ·cases hv
     rw[gm,el,eH]
     have k183:l1 183=some (.ref E):=(t1.kl 183 (by decide) (by decide)).trans l183
     wide_line with[k183,h92,hE2,hx2,hd2,hap]
     have t3:=t2.lo (x:=99) (v:= .ref x) (.inr rfl)
     exact⟨⟨rfl,show 2≤ag by decide⟩,trivial,ai (aC _ _) hne _,.inr ⟨by omega,t3.kl,t3.P.trans (Pr.set _ _ rfl),a5 _ hd2⟩⟩
    ·have:=(List.getElem?_eq_some_iff.mp hv).1
     simp at this;omega
   ·rcases h.2 with⟨h0,_⟩|⟨_,h2⟩
    ·simp at h0
    ·exact⟨l,rfl,_,h2,by simp,fun x hx=>by
      rcases List.mem_append.mp hx with h|h
      ·exact .inl h
      ·rw[List.mem_singleton] at h;rw[h];exact .inr rfl⟩
theorem ua (n:Nat) {E w:Nat} {l0 l:Loc} {B H:Hp} {V:List (List Fi)} {sc sl:SV} (t:FS E l0 B [] l H) (l119:l0 119=some (.ref w)) (l183:l0 183=some (.ref E)) (l184:l0 184=some (.int (V.length:Nat))) (hE:B[E]? =some (aY (E+1) (E+2) (E+3))) (hV:∀H',Pr (fun i=>i=E+2) B H'→aI H' w V sc sl) (hVl:V.length≤10) (hfl:∀fs∈V,fs.length≤30):
 W (exS TT (Gam n) (.forR 92 (.cons (.loc 184) .nil) qX) l H) fun q H'=>∃l',q=(.next,l')∧∃D,FS E l0 B D l' H'∧D.length≤10∧∀x∈D,0≤x.1∧x.1<(V.length:Int):=by
 have h184:l 184=some (.int (V.length:Nat)):=(t.kl 184 (by decide) (by decide)).trans l184
 have hcv:bH [.int (V.length:Int)]=some (dy ((0:Nat):Int) 1 (V.length - 0)):=ir (by omega)
 wide_line with[h184,hcv]
 refine c8 0 V.length (fun k l' H'=>∃D,FS E l0 B D l' H'∧D.length≤k∧∀x∈D,0≤x.1∧x.1<(V.length:Int)) ?_ ?_ (by omega) ⟨[],t,by simp,by simp⟩
 ·intro k l1 H1 _ hk2 h
  obtain⟨D,t,h1,h2⟩:=h
  have hj:=List.getElem?_eq_getElem hk2
  refine(ub n t l119 l183 hE hV hj (by omega) (hfl _ (List.getElem_mem hk2)) (by omega)).mono ?_
  rintro q H' ⟨l',rfl,D',t',h3,h4⟩
  refine⟨D',t',by omega,fun x hx=> ?_⟩
  rcases h4 x hx with h|h
  ·exact h2 x h
  ·omega
 ·rintro l' H' ⟨D,t,h1,h2⟩
  exact⟨l',rfl,D,t,by omega,h2⟩
def qk:MSs:= .cons (.asg 183 (.new 125 403 (.nil))) (.cons (.forR 92 (.cons (.loc 184) .nil) qX) (.cons (.asg 182 (.neg (.con (.int 1)))) (.cons (.ite (.cmp .Eq (.bin .Mod (.loc 181) (.con (.int 2))) (.con (.int 0))) (.cons (.asg 182 (.loc 184)) .nil) (.nil)) (.cons (.ite (.cmp .Eq (.bin .Mod (.bin .FloorDiv (.loc 181) (.con (.int 2))) (.con (.int 2))) (.con (.int 0))) (.cons (.ex (.meth (.attr (.loc 183) 78) 5 (.cons (.tup (.cons (.loc 182) (.cons (.con (.int 10)) .nil))) .nil))) .nil) (.cons (.ex (.meth (.attr (.loc 183) 77) 5 (.cons (.tup (.cons (.loc 182) (.cons (.new 168 368 (.cons (.con (.int 99)) (.cons (.con (.int 1)) (.cons (.call 167 715 (.cons (.tup (.cons (.con (.int 0)) (.cons (.neg (.con (.int 1))) (.cons (.con (.int 1)) .nil)))) .nil)) (.cons (.call 167 715 (.cons (.tup (.cons (.con (.int 0)) (.cons (.neg (.con (.int 1))) (.cons (.con (.int 1)) .nil)))) .nil)) .nil))))) .nil))) .nil))) .nil)) (.cons (.asg 160 (.new 163 550 (.cons (.loc 119) .nil))) (.cons (.asg 180 (.con (.bool false))) .nil))))))
structure wk (ot:Opt) (V:List (List Fi)) (l:Loc) (H:Hp):Prop where
 x:∃w m E da aa sc sl,l 119=some (.ref w)∧l 160=some (.ref m)∧l 183=some (.ref E)∧aI H w V sc sl∧gG H m w ot.cnt da aa (fun _=>[]) (fun _=>[])∧H[E]? =some (aY (E+1) (E+2) (E+3))∧
  ∃(D:List (Int×Nat)) (away:Int),-8≤away∧away≤8∧(away<0∨(ot.cnt:Int)≤away)∧(∀x∈D,0≤x.1∧x.1<(ot.cnt:Int))∧((∃k,H[E+2]? =some (.list ((D++[(away,k)]).map jb)))∨(H[E+2]? =some (.list (D.map jb))∧∃k,H[E+3]? =some (.list ([(away,k)].map tw))))
theorem xp {n:Nat} (hmk:jz (Gam n)) {c b o fl:Nat} {sc sl:SV} {H:Hp} (hc:c=3∨c=4) (hb:H[b]? =some (b9 c o fl sc sl)):∃m da aa L,fC TT (Gam n) 550 [.ref b] H= .ok (.ref m) (H++L)∧gG (H++L) m b c da aa (fun _=>[]) (fun _=>[]):=by
 obtain⟨da,aa,L0,e0,hL0,hL0d,hda,haa,hnd,hrg⟩:=hmk c b o fl sc sl H hc hb
 refine⟨H.length,da,aa,_,e0,⟨_,_,(gt0 _ _).trans rfl,(gtk _ _ 1).trans rfl,(gtk _ _ 2).trans rfl⟩,hda,haa,hnd,?_,?_⟩
 all_goals
  have gd:∀x∈da++aa,(H++er b (H.length+1) (H.length+2) false:: .list (da.map SV.ref):: .list (aa.map SV.ref)::L0)[x]? =some (.dict []):=fun x hx=>by
   obtain⟨r1,r2⟩:=hrg x hx
   obtain⟨k,rfl⟩:∃k,x=H.length+(3+k):=⟨x - H.length - 3,by omega⟩
   have hkl:k<L0.length:=by omega
   have he:=List.getElem?_eq_getElem hkl
   have hd:=hL0d _ (List.getElem_mem hkl)
   rw[gtk]
   have:3+k=k+1+1+1:=by omega
   rw[this,List.getElem?_cons_succ,List.getElem?_cons_succ,List.getElem?_cons_succ,he,hd]
 ·exact fun j x hx=>gd x (List.mem_append_left _ (List.mem_of_getElem? hx))
 ·exact fun j x hx=>gd x (List.mem_append_right _ (List.mem_of_getElem? hx))
theorem sR (n:Nat) (hne:fV (Gam n)) (hik:gU (Gam n)) (hnm:iU (Gam n)) (hmk:jz (Gam n)) {is:List Int} {ot:Opt} {sm y:Nat} {hist:List En} {V:List (List Fi)} {T:aO} {fr:Nat} {sc sl:SV} {l:Loc} {H:Hp} (s:LS is ot sm hist V T fr l H) (v:Ver ot.cnt V sc sl l H) (hk:ot.Ok) (h181:l 181=some (.int y)) (hy:y≤2000000):
 W (aM TT (Gam n) qk l H) fun q H'=>∃l',q=(.next,l')∧wk ot V l' H':=by
 obtain⟨w,Bs,h119,sn⟩:=v.x
 have hcnt:=hk.cnt
 have hVl:=s.inv.len
 have hBs:=sn.P.1
 have g0:∀i,(H++[aY (H.length+1) (H.length+2) (H.length+3),.list [],.list [],.list []])[H.length+i]? =([aY (H.length+1) (H.length+2) (H.length+3),.list [],.list [],.list []]:Hp)[i]? :=fun i=>gtk _ _ i
 have hP0:Pr (fun i=>False) H (H++[aY (H.length+1) (H.length+2) (H.length+3),.list [],.list [],.list []]):=Pr.app _ _ _
 have e1:=hne H
 unfold qk
 refine ah (fun l' H'=>upd l 183 (.ref H.length)=l'∧H++[aY (H.length+1) (H.length+2) (H.length+3),.list [],.list [],.list []]=H') ?_ ?_
 ·wide_line with[e1]
  exact⟨_,rfl,rfl,trivial⟩
 rintro l1 B ⟨hl1,hB⟩
 rw[hB] at g0 hP0
 clear hB e1
 have hE:B[H.length]? =some (aY (H.length+1) (H.length+2) (H.length+3)):=g0 0
 have hdl:B[H.length+2]? =some (.list []):=g0 2
 have had:B[H.length+3]? =some (.list []):=g0 3
 have hVa:∀H',Pr (fun i=>i=H.length+2∨i=H.length+3) B H'→aI H' w V sc sl:=fun H' P=>(sn.step ((hP0.weak (S':=fun i=>Mut ot.cnt i∨Bs.length≤i) fun i _ h=>h.elim).trans (P.weak fun i _ h=> .inr (by omega)))).at
 generalize H.length=E at hl1 g0 hE hdl had hVa
 clear g0 hP0
 have l119:l1 119=some (.ref w):=by rw[←hl1];exact h119
 have l183:l1 183=some (.ref E):=by rw[←hl1];rfl
 have l184:l1 184=some (.int (ot.cnt:Nat)):=by rw[←hl1];exact s.l184
 have l181:l1 181=some (.int y):=by rw[←hl1];exact h181
 clear hl1 h181 h119
 refine ah (fun l' H'=>∃D,FS E l1 B D l' H'∧D.length≤10∧∀x∈D,0≤x.1∧x.1<(ot.cnt:Int)) ?_ ?_
 ·refine(ua n (V:=V) (sc:=sc) (sl:=sl) ⟨fun _ _ _=>rfl,Pr.refl _ _,hdl⟩ l119 l183 (by rw[hVl];exact l184) hE (fun H' P=>hVa H' (P.weak fun i _ h=> .inl h)) (by omega) (fun fs h=>by have:=s.inv.lvlL fs h;omega)).mono ?_
  rintro q H' ⟨l',rfl,D,t,h1,h2⟩
  rw[hVl] at h2
  exact⟨l',rfl,D,t,h1,h2⟩
 rintro l2 H2 ⟨D,t,hDl,hD⟩
 refine ah (fun l' H'=>H2=H'∧l' 182=some (.int (-1))∧∀j,j≠92→j≠99→j≠182→l' j=l1 j) ?_ ?_
 ·wide_line with[]
  exact⟨_,rfl,trivial,rfl,fun j h1 h2 h3=>by unfold upd;rw[if_neg h3];exact t.kl j h1 h2⟩
 rintro l3 H' ⟨rfl,h182,hl3⟩
 have k181:=(hl3 181 (by decide) (by decide) (by decide)).trans l181
 have k184:=(hl3 184 (by decide) (by decide) (by decide)).trans l184
 refine ah (fun l' H'=>H2=H'∧(∃away:Int,l' 182=some (.int away)∧-8≤away∧away≤8∧(away<0∨(ot.cnt:Int)≤away))∧∀j,j≠92→j≠99→j≠182→l' j=l1 j) ?_ ?_
 ·rw[dG]
  refine W.mono (Q:=fun b H1=>H2=H1) ?_ ?_
  ·wide_line with[k181,fmK (z:=2) 2 y rfl]
   exact⟨by decide,trivial⟩
  rintro b H1 rfl
  cases b
  ·rw[if_neg (by decide),fR]
   exact⟨l3,rfl,rfl,⟨-1,h182,by omega,by omega,.inl (by omega)⟩,hl3⟩
  ·rw[if_pos rfl]
   wide_line with[k184]
   exact⟨_,rfl,trivial,⟨(ot.cnt:Int),rfl,by omega,by omega,.inr (by omega)⟩,fun j h1 h2 h3=>by unfold upd;rw[if_neg h3];exact hl3 j h1 h2 h3⟩
 clear h182 hl3 k181 k184 l3
 rintro l3 H' ⟨rfl,⟨away,h182,ha1,ha2,ha3⟩,hl3⟩
 have k181:=(hl3 181 (by decide) (by decide) (by decide)).trans l181
 have k183:=(hl3 183 (by decide) (by decide) (by decide)).trans l183
 have k119:=(hl3 119 (by decide) (by decide) (by decide)).trans l119
 have hE2:=t.P.get hE (by omega)
 have had2:=t.P.get had (by omega)
 have hdl2:=t.dl
 refine ah (fun l' H'=>l3=l'∧Pr (fun i=>i=E+2∨i=E+3) B H'∧H'[E]? =some (aY (E+1) (E+2) (E+3))∧((∃k,H'[E+2]? =some (.list ((D++[(away,k)]).map jb)))∨(H'[E+2]? =some (.list (D.map jb))∧∃k,H'[E+3]? =some (.list ([(away,k)].map tw))))) ?_ ?_
 ·rw[dG]
  refine W.mono (Q:=fun b H1=>H2=H1) ?_ ?_
  ·wide_line with[k181,fdK (z:=2) 2 y rfl,fmK (z:=2) 2 (y / 2) rfl]
   exact⟨⟨il (by omega) (by omega),by decide,by decide⟩,by decide,trivial⟩
  rintro b H1 rfl
  have PB:=t.P.weak (S':=fun i=>i=E+2∨i=E+3) fun i _ h=> .inl h
  have hE3:=hE2
  simp only[aY] at hE3
  cases b
  ·rw[if_neg (by decide)]
   obtain⟨e0,he0⟩:∃e:En,SV.tup [.int 0,.int (-1),.int 1]=enV e:=⟨⟨0,1,1⟩,rfl⟩
   obtain⟨L1,q1⟩:=hik e0 H2
   obtain⟨L2,q2⟩:=hik e0 (H2++L1)
   have q3:fC TT (Gam n) 368 [.int 99,.int 1,.bytes (ik e0),.bytes (ik e0)] (H2++L1++L2)= .ok (.ref (H2++L1++L2).length) (H2++L1++L2++[aT ⟨99,1,e0,e0⟩]):=hnm ⟨99,1,e0,e0⟩ (H2++L1++L2)
   rw[←he0] at q1 q2
   have had3:(H2++L1++L2++[aT ⟨99,1,e0,e0⟩])[E+3]? =some (.list []):=ab (ab (ab had2 _) _) _
   have hap:∀x:Nat,iK (some (.list [])) (.tup [.int away,.ref x])=some (.list ([(away,x)].map tw)):=fun x=>cJ (vs:=[]) (by decide)
   simp only[aT] at had3
   wide_line with[k183,h182,hE3,q1,q2,q3,had2,had3,hap]
   refine⟨⟨rfl,by decide⟩,⟨rfl,by decide⟩,⟨rfl,show 2≤ag by decide⟩,?_⟩
   refine⟨trivial,l3,rfl,rfl,(((PB.trans (Pr.app _ _ _)).trans (Pr.app _ _ _)).trans (Pr.app _ _ _)).trans (Pr.set _ _ (.inr rfl)),ai (ab (ab (ab hE2 _) _) _) (by omega) _,.inr ⟨ai (ab (ab (ab hdl2 _) _) _) (by omega) _,_,a5 _ had3⟩⟩
  ·rw[if_pos rfl]
   have hap:iK (some (.list (D.map jb))) (.tup [.int away,.int 10])=some (.list ((D++[(away,10)]).map jb)):=by
    rw[cJ (by rw[List.length_map];unfold ag;omega),List.map_append];rfl
   wide_line with[k183,h182,hE3,hdl2,hap]
   exact⟨⟨rfl,show 2≤ag by decide⟩,trivial,l3,rfl,rfl,PB.trans (Pr.set _ _ (.inl rfl)),ai hE2 (by omega) _,.inl ⟨10,a5 _ hdl2⟩⟩
 rintro l4 H4 ⟨rfl,P4,E4,hx⟩
 have hV4:=hVa H4 P4
 obtain⟨ord,fl,ls,q1,q2,q3,q4⟩:=id hV4
 rw[hVl] at q1
 obtain⟨m,da,aa,L,e1,I⟩:=xp hmk hcnt q1
 refine ah (fun l' H'=>upd l3 160 (.ref m)=l'∧H4++L=H') ?_ ?_
 ·wide_line with[k119,e1]
  exact⟨_,rfl,rfl,trivial⟩
 rintro l4 H' ⟨hl4,rfl⟩
 have m119:l4 119=some (.ref w):=by rw[←hl4];exact k119
 have m183:l4 183=some (.ref E):=by rw[←hl4];exact k183
 have m160:l4 160=some (.ref m):=by rw[←hl4];rfl
 clear hl4
 wide_line with[]
 refine⟨_,rfl,w,m,E,da,aa,sc,sl,m119,m160,m183,hV4.app L,I,ab E4 L,D,away,ha1,ha2,ha3,hD,?_⟩
 rcases hx with⟨k,h⟩|⟨h,k,h'⟩
 ·exact .inl ⟨k,ab h L⟩
 ·exact .inr ⟨ab h L,k,ab h' L⟩
structure Dqs (Γ:FT):Prop extends Dps Γ where
 nOpt:ng Γ
 nOrd:kQ Γ
 nPick:kh Γ
 nVer:kR Γ
 ikey:gU Γ
 nMeta:iU Γ
 nMak:jz Γ
 refuse:iW Γ
 finish:gT Γ
theorem pf:cD= .cons (.asg 30 (.call 190 708 (.cons (.loc 155) (.cons (.con (.int 0)) .nil)))) (.cons (.asg 184 (.bin .Add (.con (.int 3)) (.bin .Mod (.loc 30) (.con (.int 2))))) (.cons (.asg 70 (.new 202 305 (.nil))) (.cons (.asgA (.loc 70) 45 (.loc 184)) (.cons (.asgA (.loc 70) 44 (.bin .Add (.con (.int 1)) (.bin .Mod (.bin .FloorDiv (.loc 30) (.con (.int 2))) (.con (.int 2))))) (.cons (.asgA (.loc 70) 42 (.bin .Add (.con (.int 1)) (.bin .Mod (.bin .FloorDiv (.loc 30) (.con (.int 4))) (.con (.int 6))))) (.cons (.asgA (.loc 70) 41 (.bin .Add (.con (.int 1)) (.bin .Mod (.bin .FloorDiv (.loc 30) (.con (.int 24))) (.con (.int 2))))) (.cons (.asgA (.loc 70) 46 (.bin .Add (.con (.int 1)) (.bin .Mod (.bin .FloorDiv (.loc 30) (.con (.int 48))) (.con (.int 3))))) (.cons (.asgA (.loc 70) 38 (.bin .Add (.con (.int 1)) (.bin .Mod (.bin .FloorDiv (.loc 30) (.con (.int 1152))) (.con (.int 9))))) (.cons (.asgA (.loc 70) 39 (.con (.int 1))) (.cons (.asg 64 (.bin .Mod (.bin .FloorDiv (.loc 30) (.con (.int 144))) (.con (.int 8)))) (.cons (.asg 85 (.new 129 272 (.nil))) (.cons (.asg 194 (.new 201 690 (.cons (.loc 70) (.cons (.loc 85) .nil)))) (.cons (.asg 143 (.bin .Mult (.lst (.cons (.con (.bytes [])) .nil)) (.loc 184))) (.cons (.asg 119 (.new 117 494 (.cons (.loc 184) (.cons (.loc 85) .nil)))) (.cons (.asg 165 (.dic)) (.cons (.asg 189 (.lst (.nil))) (.cons (.asg 166 (.con (.int 10))) (.cons (.forR 185 (.cons (.con (.int 2)) .nil) k7) qk)))))))))))))))))):=rfl
theorem sI (n:Nat) (d:Dqs (Gam n)) {is:List Int} (his:mY is) {l:Loc} (l155:l 155=some (.ref 0)):
 W (aM TT (Gam n) cD l [.list (is.map SV.int)]) fun q H'=>∃l',q=(.next,l')∧∃ot sm hist V T fr,wk ot V l' H'∧Inv sm ot.cnt hist V T fr∧ot.Ok:=by
 rw[pf]
 refine xx n d.draw d.nOpt d.nOrd d.nPick d.nVer his l155 ?_
 intro l1 H1 ot sm s v hk hsm
 refine ah (fun l' H'=>∃hist V T fr sc sl y,LS is ot sm hist V T fr l' H'∧Ver ot.cnt V sc sl l' H'∧l' 181=some (.int (y:Nat))∧y≤2000000) ?_ ?_
 ·exact Ae n d.toDps s v hk his hsm
 rintro l2 H2 ⟨hist,V,T,fr,sc,sl,y,s,v,h181,hy⟩
 refine(sR n d.nEdit d.ikey d.nMeta d.nMak s v hk h181 hy).mono ?_
 rintro q H' ⟨l',rfl,h⟩
 exact⟨l',rfl,ot,sm,hist,V,T,fr,h,s.inv,hk⟩
theorem yf (n:Nat) (hr:iW (Gam n)) {ot:Opt} {V:List (List Fi)} {l:Loc} {H:Hp} (h:wk ot V l H) (hk:ot.Ok) (hVl:V.length=ot.cnt):evE TT (Gam n) bB l H= .exc H:=by
 obtain⟨w,m,E,da,aa,sc,sl,h119,h160,h183,hV,I,hE,D,away,ha1,ha2,ha3,hD,hx⟩:=h.x
 obtain⟨md,ma,g1,_⟩:=I.mkr
 obtain⟨ord,fl,ls,q1,_⟩:=hV
 rw[hVl] at q1
 have hcnt:=hk.cnt
 have e1:aw (Gam n 526) [.ref m,.ref E] H= .exc H:=hr m w md ma ot.cnt ord fl E (E+1) (E+2) (E+3) sc sl D [] away H g1 q1 (by omega) hE ha1 ha2 ha3 hD hx
 have a1:evE TT (Gam n) (.loc 160) l H= .ok (.ref m) H:=cr (by rw[pV,h160];exact⟨rfl,rfl⟩)
 have a2:dB TT (Gam n) (.cons (.loc 183) .nil) l H= .ok [.ref E] H:=cr (by rw[qP,pV,h183];exact⟨rfl,rfl⟩)
 have a3:jn TT (.ref m) 162 H= .ok (.fn 526) H:=by
  show(match H[m]? with|some (.inst C fs)=>_|some (.list _)=>_|some (.dict _)=>_|_=>_)=_
  rw[g1];rfl
 unfold bB
 rw[evE,a1]
 simp only[R.bind]
 rw[a3]
 simp only
 rw[a2]
 exact e1
theorem uY (n:Nat) (hf:gT (Gam n)) (hnu:eN (Gam n)) {ot:Opt} {V:List (List Fi)} {sm:Nat} {hist:List En} {T:aO} {fr:Nat} {l:Loc} {H:Hp} (h:wk ot V l H) (hk:ot.Ok) (I0:Inv sm ot.cnt hist V T fr):∃H',evE TT (Gam n) a6 (upd l a7 (.bool true)) H= .ok (.bool true) H':=by
 obtain⟨w,m,E,da,aa,sc,sl,h119,h160,h183,hV,I,_⟩:=h.x
 have hVl:=I0.len
 have hcnt:=hk.cnt
 obtain⟨L,v',V',e1,v1,F,_⟩:=hf m w ot.cnt sc sl da aa V [] [] H I hV hVl hcnt (by simp) .nil (by simp) (fun fs h=>by have:=I0.lvlL fs h;omega) I0.srt (fun V' F=>(oN I0 F).good.1)
 have I1:=oN I0 F
 have e2:=hnu v' V' _ _ (H++L) v1 (by have:=I1.filesL;omega)
 have vw:aI (H++L++[.list ((aL V').map SV.int),.list ((aW (aL V')).map SV.int)]) w V sc sl:=(hV.app L).app _
 have e3:=hnu w V _ _ _ vw (by have:=I0.filesL;omega)
 obtain⟨md,ma,g1,_⟩:=I.mkr
 obtain⟨ord1,fl1,ls1,q1,_⟩:=id v1
 obtain⟨ord2,fl2,ls2,q2,_⟩:=id vw
 simp only[er] at g1
 simp only[b9] at q1 q2
 generalize hJ:H++L++[SO.list ((aL V').map SV.int),SO.list ((aW (aL V')).map SV.int)]=J at e2 e3 q2
 have g3:(J++[SO.list ((aL V).map SV.int),SO.list ((aW (aL V)).map SV.int)])[(H++L).length+1]? =some (.list ((aW (aL V')).map SV.int)):=ab (by rw[←hJ,gtk];rfl) _
 have g4:(J++[SO.list ((aL V).map SV.int),SO.list ((aW (aL V)).map SV.int)])[J.length+1]? =some (.list ((aW (aL V)).map SV.int)):=by rw[gtk];rfl
 suffices h:W (evE TT (Gam n) a6 (upd l a7 (.bool true)) H) fun x _=>x= .bool true by
  revert h
  cases evE TT (Gam n) a6 (upd l a7 (.bool true)) H with
  |ok x H'=>rintro rfl;exact⟨H',rfl⟩
  |exc H=>exact fun h=>h.elim
  |fail=>exact fun h=>h.elim
 unfold a6 a7
 wide_line with[h160,h119,g1,e1,q1,e2,q2,e3,wH g3 g4]
 have:aW (aL V')=aW (aL V):=by rw[I1.nums,I0.nums]
 exact⟨fun h=>h.elim,fun _=>by rw[decide_eq_true this]⟩
theorem law_n (n:Nat) (d:Dqs (Gam n)):∀is:List Int,is≠[]→is.length≤8→(∀i∈is,0≤i∧i<999983)→∃H',pG TT (Gam n) cQ cD bB a7 a6 [.ref 0] [.list (is.map SV.int)]= .ok (.bool true) H':=by
 intro is h1 h2 h3
 have hl:aN cQ [SV.ref 0] 155=some (.ref 0):=rfl
 unfold pG
 rw[if_pos (show cQ.length=[SV.ref 0].length from rfl)]
 generalize aN cQ [SV.ref 0]=l at hl⊢
 have z:=sI n d ⟨h1,h2,h3⟩ hl
 revert z
 generalize aM TT (Gam n) cD l [.list (is.map SV.int)]=r
 intro z
 cases r with
 |ok q H1=>
  obtain⟨l',rfl,ot,sm,hist,V,T,fr,hf,I,hk⟩:=z
  obtain⟨H',e⟩:=uY n d.finish d.nums hf hk I
  refine⟨H',?_⟩
  simp only[R.bind]
  rw[yf n d.refuse hf hk I.len]
  exact e
 |exc H=>exact z.elim
 |fail=>exact z.elim
theorem zV (n:Nat):gS (Gam (n+1)):=zx (n+0)
theorem rb (n:Nat):fV (Gam (n+1)):=wL (n+0)
theorem rm (n:Nat):kz (Gam (n+1)):=wZ (n+0)
theorem nH (n:Nat):gU (Gam (n+2)):=zA (n+1) (rm (n+0))
theorem rc (n:Nat):iU (Gam (n+1)):=wM (n+0)
theorem yr (n:Nat):iV (Gam (n+3)):=f_put (n+2) (nH (n+0)) (rc (n+1))
theorem ug (n:Nat):jz (Gam (n+1)):=zE (n+0)
theorem oV (n:Nat):iZ (Gam (n+1)):=t9 (n+0)
theorem w0 (n:Nat):mZ (Gam (n+2)):=wI (n+1) (oV (n+0))
theorem uj (n:Nat):kR (Gam (n+1)):=zH (n+0)
theorem dQ (n:Nat):cR (Gam (n+1)):=sA (n+0)
theorem um (n:Nat):kU (Gam (n+1)):=tW (n+0)
theorem uo (n:Nat):kW (Gam (n+2)):=tX (n+1) (um (n+0))
theorem oT (n:Nat):iX (Gam (n+3)):=tZ (n+2) (uo (n+0))
theorem uk (n:Nat):np (Gam (n+1)):=zI (n+0)
theorem mx (n:Nat):jS (Gam (n+4)):=f_cmp (n+3) (dQ (n+2)) (oT (n+0)) (uk (n+2))
theorem g_bef (n:Nat):tf (Gam (n+5)):=f_bef (n+4) (mx (n+0))
theorem xb (n:Nat):nq (Gam (n+6)):=wR (n+5) (g_bef (n+0))
theorem my (n:Nat):eN (Gam (n+1)):=sy (n+0)
theorem w6 (n:Nat):na (Gam (n+5)):=wJ (n+4) (dQ (n+3)) (mx (n+0)) (my (n+3))
theorem oS (n:Nat):gT (Gam (n+7)):=tU (n+6) (uj (n+5)) (xb (n+0)) (w6 (n+1))
theorem ul (n:Nat):kS (Gam (n+1)):=tV (n+0)
theorem zZ (n:Nat):qd (Gam (n+1)):=zD (n+0)
theorem xf (n:Nat):nv (Gam (n+2)):=wV (n+1) (ul (n+0)) (zZ (n+0))
theorem zX (n:Nat):jy (Gam (n+8)):=zB (n+7) (ug (n+6)) (w0 (n+5)) (oS (n+0)) (xf (n+5))
theorem xa (n:Nat):nj (Gam (n+1)):=wP (n+0)
theorem uh (n:Nat):kQ (Gam (n+1)):=zG (n+0)
theorem w7 (n:Nat):nc (Gam (n+2)):=wK (n+1) (uh (n+0)) (rb (n+0))
theorem re (n:Nat):kn (Gam (n+5)):=wU (n+4) (mx (n+0))
theorem oU (n:Nat):iY (Gam (n+6)):=t8 (n+5) (dQ (n+4)) (re (n+0))
theorem rd (n:Nat):kj (Gam (n+2)):=wQ (n+1) (dQ (n+0))
theorem rl (n:Nat):ky (Gam (n+1)):=wY (n+0)
theorem xg (n:Nat):nx (Gam (n+7)):=wW (n+6) (oU (n+0)) (rd (n+4)) (rl (n+5)) (re (n+1))
theorem z5 (n:Nat):kT (Gam (n+8)):=zK (n+7) (xa (n+6)) (w7 (n+5)) (mx (n+3)) (oU (n+1)) (rd (n+5)) (xg (n+0))
theorem uf (n:Nat):nb (Gam (n+1)):=zz (n+0)
theorem z8 (n:Nat):qg (Gam (n+2)):=zN (n+1) (rl (n+0)) (uf (n+0))
theorem zR (n:Nat):pY (Gam (n+1)):=zt (n+0)
theorem w9 (n:Nat):ni (Gam (n+1)):=wO (n+0)
theorem ri (n:Nat):kw (Gam (n+4)):=wX (n+3) (dQ (n+2)) (oT (n+0))
theorem z6 (n:Nat):qf (Gam (n+5)):=zL (n+4) (mx (n+0)) (uf (n+3))
theorem zS (n:Nat):pZ (Gam (n+2)):=zu (n+1) (dQ (n+0)) (uk (n+0))
theorem z9 (n:Nat):ny (Gam (n+6)):=zO (n+5) (ri (n+1)) (z6 (n+0)) (zS (n+3))
theorem zU (n:Nat):kP (Gam (n+7)):=zw (n+6) (z8 (n+4)) (zR (n+5)) (w9 (n+5)) (nH (n+4)) (z9 (n+0)) (yr (n+3))
theorem z4 (n:Nat):qe (Gam (n+1)):=zJ (n+0)
theorem xd (n:Nat):nt (Gam (n+1)):=wS (n+0)
theorem xe (n:Nat):nu (Gam (n+2)):=wT (n+1) (xd (n+0))
theorem zY (n:Nat):qc (Gam (n+3)):=zC (n+2) (z4 (n+1)) (xe (n+0))
theorem zW (n:Nat):qb (Gam (n+5)):=zy (n+4) (mx (n+0))
theorem zT (n:Nat):qa (Gam (n+6)):=zv (n+5) (dQ (n+4)) (zW (n+0))
theorem g_get (n:Nat):th (Gam (n+7)):=f_get (n+6) (zY (n+3)) (zT (n+0)) (ri (n+2))
theorem z7 (n:Nat):kX (Gam (n+8)):=zM (n+7) (rm (n+6)) (nH (n+5)) (g_get (n+0))
theorem z0 (n:Nat):ng (Gam (n+1)):=zF (n+0)
theorem w8 (n:Nat):kh (Gam (n+1)):=wN (n+0)
theorem uq (n:Nat):iW (Gam (n+2)):=tY (n+1) (oV (n+0))
theorem dqs40:Dqs (Gam 40):=⟨⟨zV 39,rb 39,yr 37,zX 32,z5 32,zU 33,my 39,z7 32⟩,z0 39,uh 39,w8 39,uj 39,nH 38,rc 39,ug 39,uq 38,oS 33⟩
theorem pc:∀is:List Int,is≠[]→is.length≤8→(∀i∈is,0≤i∧i<999983)→∃H',pG TT (Gam 40) cQ cD bB a7 a6 [.ref 0] [.list (is.map SV.int)]= .ok (.bool true) H':=law_n 40 dqs40
def zi (P:Prop):Prop:=P
theorem hold {P:Prop} (h:zi P):P:=h
end
end Mine
open PySem PySem.W PyProof.Rows
local macro_rules | `(tactic| walk_at "call ref") => `(tactic| (k_here; (with_reducible show wpAny _ _ (call (Value.ref 746) [Value.ref _]) _ _ _); apply Mine.hold))
set_option maxRecDepth 100000 in
set_option maxHeartbeats 8000000 in
theorem PySem.Challenge.cw_no0433_01_holds : PySem.Challenge.rw_no0433_01.Holds := by
  refine Mine.hd (by
    w_strict (k_go0; (all_goals try k_fold); k_steps)
    · unfold Mine.zi
      refine' Mine.mG Mine.pc (is := [5]) ?B ?F ?X ?T ?N (List.Mem.head _) ⟨0, rfl⟩ (.cons 5 _ .nil) (by simp) (by simp) (by simp) rfl ?_
      case B => assumption
      case F => assumption
      case X => assumption
      case T => assumption
      case N => assumption
      intro h' tk n' F' N'
      k_steps
    · unfold Mine.zi
      refine' Mine.mG Mine.pc ?B ?F ?X ?T ?N (List.Mem.head _) ⟨_, rfl⟩ (by assumption) ?ne ?le Mine.ud rfl ?_
      case B => assumption
      case F => assumption
      case X => assumption
      case T => assumption
      case N => assumption
      case ne => (intro e; simp_all)
      case le => (simp; omega)
      intro h' tk n' F' N'
      k_steps)
